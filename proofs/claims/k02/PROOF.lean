import PyProof.Rows.All
import Wide.All
import OpenK.AllK
import Wide.FinOn
import HandS.ForMost
import HandS.Exc
import HandS.TryOnly
import HandS.WordsExc
import HandS.TupAny
import HandS.IsInst
import HandS.Property
import HandS.Wide
import HandS.Style
import HandS.Text
import HandS.Deep
import HandS.Gcd
import HandS.Iter
import HandS.Zip
import KE.GoesNew
import KE.GoesEnum
import KE.KLam
import HandS.Lambda
import HandS.Nested
import HandS.MakeKwOnly
import PyProof.StrOps2
import KE.KMathGC
import HandS.TupMul
import HandS.Star
import HandS.SortInts
import HandS.Flow
import HandS.Strs
import HandS.Dict
import HandS.Small
import HandS.Conv
import HandS.More
import HandS.Head0
import HandS.Head1
import HandS.Head2
import HandS.Head3
import HandS.HeadEnd
import HandS.HeadHook1
import HandS.HeadHook2
import HandS.HeadHook3
import HandS.HeadHook4
import HandS.HeadWalk
import HandS.EndTab
import KE.KSuper
import KE.KExcSuper
import HandS.ExcInit
import KE.KExcIs
import HandS.ExcField
import HandS.ExcIs
import HandS.ExcOwn
import HandS.RepeatKit
import HandS.OwnEq
import HandS.SetFor
import PySem.Challenge.RW_claimpurse_k02_purses_refused
set_option Elab.async false
set_option linter.all false
set_option maxRecDepth 100000
set_option maxHeartbeats 4000000
/-! DBase: values as data (D), how they lie in the abstract heap (Rep), wishes (M), the judgements over data. -/
namespace DL
open PySem PySem.Spec PyProof.Rows L2

/-- a value as data -/
inductive D where
  | non | bl (b : Bool) | int (i : Int) | str (x : Str) | ty (n : String) | obj (a : Addr)
  | tup (xs : List D) | lst (xs : List D) | ins (C : Addr) (ks : List Str) (ds : List D)
  | dK (ks : List Key) (ds : List D) | dT (ks : List (List Key)) (ds : List D)
  /-- a tuple whose object is known to be bare -/
  | ptup (xs : List D)
  /-- a caught error: its object, its dict, its class, its attributes -/
  | err (a dd C : Addr) (ks : List Str) (ds : List D)
  /-- a list whose object is known -/
  | lsta (a : Addr) (xs : List D)

/-- a tuple that is read: tracked and not in U, or of the written part -/
def TupAt (K : PySem.W.Frag) (U : Addr → Prop) (H : Hp) (a : Addr) (xs : List V) : Prop :=
  (Rd H a (.tup xs) ∧ ¬ U a) ∨
    ∃ (o : Obj) (its : Array Value) (n : Nat), K.lookup a = some o ∧ o.cls = .type "tuple" ∧ o.data = .seq its n ∧ its.size ≤ sizeLine ∧ Vals xs its.toList
theorem TupAt.sq {K : PySem.W.Frag} {U : Addr → Prop} {H : Hp} {a : Addr} {xs : List V} (h : TupAt K U H a xs) : SqT K H a xs := by
  rcases h with ⟨h, _⟩ | h
  · exact .inl h
  · exact .inr h

mutual
/-- v bears the data d (U: the addresses of what may change) -/
def Rep (K : PySem.W.Frag) (U : Addr → Prop) (H : Hp) : D → V → Prop
  | .non, v => v = .non
  | .bl b, v => v = .bl b
  | .int i, v => v = .int i
  | .str x, v => v = .str x
  | .ty n, v => v = .ty n
  | .obj a, v => v = .ref a
  | .tup ds, v => ∃ a xs, v = .ref a ∧ TupAt K U H a xs ∧ Reps K U H ds xs
  | .lst ds, v => ∃ a xs, v = .ref a ∧ (H a = some (.lst xs) ∧ ¬ U a) ∧ Reps K U H ds xs
  | .ins C ks ds, v => ∃ a dx fs, v = .ref a ∧ (H a = some (.ins C dx fs) ∧ ¬ U a ∧ fs.map (·.1) = ks) ∧ Reps K U H ds (fs.map (·.2))
  | .dK ks ds, v => ∃ a kvs, v = .ref a ∧ (H a = some (.dK kvs) ∧ ¬ U a ∧ kvs.map (·.1) = ks) ∧ Reps K U H ds (kvs.map (·.2))
  | .dT ks ds, v => ∃ a kvs, v = .ref a ∧ (H a = some (.dT kvs) ∧ ¬ U a ∧ kvs.map (·.1) = ks) ∧ Reps K U H ds (kvs.map (·.2))
  | .ptup ds, v => ∃ (a : Addr) (o : Obj) (xs : List V), v = .ref a ∧ (H a = some (.frz o (.tup xs)) ∧ o.dict = none ∧ ¬ U a) ∧ Reps K U H ds xs
  | .err a dd _ ks ds, v => v = .ref a ∧ ∃ fs, (H dd = some (.xd fs) ∧ ¬ U dd ∧ fs.map (·.1) = ks) ∧ Reps K U H ds (fs.map (·.2))
  | .lsta a ds, v => v = .ref a ∧ ∃ xs, (H a = some (.lst xs) ∧ ¬ U a) ∧ Reps K U H ds xs
def Reps (K : PySem.W.Frag) (U : Addr → Prop) (H : Hp) : List D → List V → Prop
  | [], xs => xs = []
  | d :: ds, xs => ∃ x r, xs = x :: r ∧ Rep K U H d x ∧ Reps K U H ds r
end

/-- all but what stands at G is as it was -/
def Ext (G : Addr → Prop) (H H' : Hp) : Prop := ∀ a o, H a = some o → ¬ G a → H' a = some o
theorem Ext.refl {G : Addr → Prop} (H : Hp) : Ext G H H := fun _ _ h _ => h
theorem Ext.trans {G : Addr → Prop} {H H1 H2 : Hp} (a : Ext G H H1) (b : Ext G H1 H2) : Ext G H H2 := fun x o h n => b x o (a x o h n) n
theorem Ext.new {G : Addr → Prop} {H : Hp} {p : Addr} {o : HO} (h : H p = none) : Ext G H (upd H p o) := fun a u e _ => by
  rw [upd_ne (ne_of_none e h)]
  exact e
theorem TupAt.mono {K : PySem.W.Frag} {U U' : Addr → Prop} {H H' : Hp} {a : Addr} {xs : List V} (e : ∀ a o, H a = some o → ¬ U a → H' a = some o ∧ ¬ U' a) (h : TupAt K U H a xs) : TupAt K U' H' a xs := by
  rcases h with ⟨h | ⟨o, h⟩, n⟩ | h
  · exact .inl ⟨.inl (e _ _ h n).1, (e _ _ h n).2⟩
  · exact .inl ⟨.inr ⟨o, (e _ _ h n).1⟩, (e _ _ h n).2⟩
  · exact .inr h
mutual
theorem Rep.mono' {K : PySem.W.Frag} {U U' : Addr → Prop} {H H' : Hp} (e : ∀ a o, H a = some o → ¬ U a → H' a = some o ∧ ¬ U' a) : ∀ (d : D) (v : V), Rep K U H d v → Rep K U' H' d v
  | .non, v, h => by simpa only [Rep] using h
  | .bl b, v, h => by simpa only [Rep] using h
  | .int i, v, h => by simpa only [Rep] using h
  | .str x, v, h => by simpa only [Rep] using h
  | .ty n, v, h => by simpa only [Rep] using h
  | .obj a, v, h => by simpa only [Rep] using h
  | .tup ds, v, h => by
    simp only [Rep] at h ⊢
    obtain ⟨a, xs, h1, h2, h3⟩ := h
    exact ⟨a, xs, h1, h2.mono e, Reps.mono' e ds xs h3⟩
  | .lst ds, v, h => by
    simp only [Rep] at h ⊢
    obtain ⟨a, xs, h1, ⟨h2, n⟩, h3⟩ := h
    exact ⟨a, xs, h1, e _ _ h2 n, Reps.mono' e ds xs h3⟩
  | .ins C ks ds, v, h => by
    simp only [Rep] at h ⊢
    obtain ⟨a, dx, fs, h1, ⟨h2, n, hk⟩, h3⟩ := h
    exact ⟨a, dx, fs, h1, ⟨(e _ _ h2 n).1, (e _ _ h2 n).2, hk⟩, Reps.mono' e ds _ h3⟩
  | .dK ks ds, v, h => by
    simp only [Rep] at h ⊢
    obtain ⟨a, fs, h1, ⟨h2, n, hk⟩, h3⟩ := h
    exact ⟨a, fs, h1, ⟨(e _ _ h2 n).1, (e _ _ h2 n).2, hk⟩, Reps.mono' e ds _ h3⟩
  | .dT ks ds, v, h => by
    simp only [Rep] at h ⊢
    obtain ⟨a, fs, h1, ⟨h2, n, hk⟩, h3⟩ := h
    exact ⟨a, fs, h1, ⟨(e _ _ h2 n).1, (e _ _ h2 n).2, hk⟩, Reps.mono' e ds _ h3⟩
  | .ptup ds, v, h => by
    simp only [Rep] at h ⊢
    obtain ⟨a, o, xs, h1, ⟨h2, hd, n⟩, h3⟩ := h
    exact ⟨a, o, xs, h1, ⟨(e _ _ h2 n).1, hd, (e _ _ h2 n).2⟩, Reps.mono' e ds xs h3⟩
  | .err a dd C ks ds, v, h => by
    simp only [Rep] at h ⊢
    obtain ⟨h1, fs, ⟨h2, n, hk⟩, h3⟩ := h
    exact ⟨h1, fs, ⟨(e _ _ h2 n).1, (e _ _ h2 n).2, hk⟩, Reps.mono' e ds _ h3⟩
  | .lsta a ds, v, h => by
    simp only [Rep] at h ⊢
    obtain ⟨h1, xs, ⟨h2, n⟩, h3⟩ := h
    exact ⟨h1, xs, ⟨(e _ _ h2 n).1, (e _ _ h2 n).2⟩, Reps.mono' e ds _ h3⟩
theorem Reps.mono' {K : PySem.W.Frag} {U U' : Addr → Prop} {H H' : Hp} (e : ∀ a o, H a = some o → ¬ U a → H' a = some o ∧ ¬ U' a) : ∀ (ds : List D) (xs : List V), Reps K U H ds xs → Reps K U' H' ds xs
  | [], xs, h => by simpa only [Reps] using h
  | d :: ds, xs, h => by
    simp only [Reps] at h ⊢
    obtain ⟨x, r, h1, h2, h3⟩ := h
    exact ⟨x, r, h1, Rep.mono' e d x h2, Reps.mono' e ds r h3⟩
end
section
variable {K : PySem.W.Frag} {G U U' : Addr → Prop} {H H' : Hp} {d : D} {v : V} {ds : List D} {xs : List V}
theorem Rep.ext (e : Ext G H H') (g : ∀ a, G a → U a) (h : Rep K U H d v) : Rep K U H' d v :=
  Rep.mono' (fun a o h n => ⟨e a o h fun z => n (g a z), n⟩) d v h
theorem Reps.ext (e : Ext G H H') (g : ∀ a, G a → U a) (h : Reps K U H ds xs) : Reps K U H' ds xs :=
  Reps.mono' (fun a o h n => ⟨e a o h fun z => n (g a z), n⟩) ds xs h
/-- fewer things that may change -/
theorem Rep.less (u : ∀ a, U' a → U a) (h : Rep K U H d v) : Rep K U' H d v := Rep.mono' (fun _ _ h n => ⟨h, fun z => n (u _ z)⟩) d v h
theorem Reps.less (u : ∀ a, U' a → U a) (h : Reps K U H ds xs) : Reps K U' H ds xs := Reps.mono' (fun _ _ h n => ⟨h, fun z => n (u _ z)⟩) ds xs h
theorem Reps.length : ∀ {ds : List D} {xs : List V}, Reps K U H ds xs → xs.length = ds.length
  | [], xs, h => by
    simp only [Reps] at h
    rw [h]
    rfl
  | d :: ds, xs, h => by
    simp only [Reps] at h
    obtain ⟨x, r, rfl, _, h3⟩ := h
    simp [Reps.length h3]
theorem Reps.nil : Reps K U H [] [] := by simp only [Reps]
theorem Reps.cons {x : V} (h1 : Rep K U H d x) (h2 : Reps K U H ds xs) : Reps K U H (d :: ds) (x :: xs) := by
  simp only [Reps]
  exact ⟨x, xs, rfl, h1, h2⟩
theorem Reps.get : ∀ {ds : List D} {xs : List V} {i : Nat} {x : V}, Reps K U H ds xs → xs[i]? = some x → ∃ d, ds[i]? = some d ∧ Rep K U H d x
  | [], xs, i, x, h, e => by
    simp only [Reps] at h
    subst h
    simp at e
  | d :: ds, xs, i, x, h, e => by
    simp only [Reps] at h
    obtain ⟨y, r, rfl, h2, h3⟩ := h
    cases i with
    | zero =>
      simp at e
      subst e
      exact ⟨d, rfl, h2⟩
    | succ i => exact Reps.get (i := i) h3 (by simpa using e)
theorem Reps.getD : ∀ {ds : List D} {xs : List V} {i : Nat} {d : D}, Reps K U H ds xs → ds[i]? = some d → ∃ x, xs[i]? = some x ∧ Rep K U H d x
  | [], xs, i, d, h, e => by simp at e
  | d :: ds, xs, i, d', h, e => by
    simp only [Reps] at h
    obtain ⟨y, r, rfl, h2, h3⟩ := h
    cases i with
    | zero =>
      simp at e
      subst e
      exact ⟨y, rfl, h2⟩
    | succ i =>
      obtain ⟨x, e1, e2⟩ := Reps.getD (i := i) h3 (by simpa using e)
      exact ⟨x, by simpa using e1, e2⟩
theorem Reps.append : ∀ {ds es : List D} {xs ys : List V}, Reps K U H ds xs → Reps K U H es ys → Reps K U H (ds ++ es) (xs ++ ys)
  | [], es, xs, ys, h, h2 => by
    simp only [Reps] at h
    subst h
    exact h2
  | d :: ds, es, xs, ys, h, h2 => by
    simp only [Reps] at h
    obtain ⟨y, r, rfl, h3, h4⟩ := h
    exact Reps.cons h3 (Reps.append h4 h2)
theorem Reps.take : ∀ {ds : List D} {xs : List V} (n : Nat), Reps K U H ds xs → Reps K U H (ds.take n) (xs.take n)
  | _, _, 0, _ => by simpa using Reps.nil
  | [], xs, n + 1, h => by
    simp only [Reps] at h
    subst h
    exact Reps.nil
  | d :: ds, xs, n + 1, h => by
    simp only [Reps] at h
    obtain ⟨y, r, rfl, h3, h4⟩ := h
    exact Reps.cons h3 (Reps.take n h4)
theorem Reps.drop : ∀ {ds : List D} {xs : List V} (n : Nat), Reps K U H ds xs → Reps K U H (ds.drop n) (xs.drop n)
  | _, _, 0, h => h
  | [], xs, n + 1, h => by
    simp only [Reps] at h
    subst h
    exact Reps.nil
  | d :: ds, xs, n + 1, h => by
    simp only [Reps] at h
    obtain ⟨y, r, rfl, h3, h4⟩ := h
    exact Reps.drop n h4
theorem Reps.reverse : ∀ {ds : List D} {xs : List V}, Reps K U H ds xs → Reps K U H ds.reverse xs.reverse
  | [], xs, h => by
    simp only [Reps] at h
    subst h
    exact Reps.nil
  | d :: ds, xs, h => by
    simp only [Reps] at h
    obtain ⟨y, r, rfl, h3, h4⟩ := h
    rw [List.reverse_cons, List.reverse_cons]
    exact (Reps.reverse h4).append (Reps.cons h3 Reps.nil)
theorem Reps.set {x : V} {d' : D} (r : Rep K U H d' x) : ∀ {ds : List D} {xs : List V} (i : Nat), Reps K U H ds xs → Reps K U H (ds.set i d') (xs.set i x)
  | [], xs, i, h => by
    simp only [Reps] at h
    subst h
    exact Reps.nil
  | d :: ds, xs, i, h => by
    simp only [Reps] at h
    obtain ⟨y, t, rfl, h3, h4⟩ := h
    cases i with
    | zero => exact Reps.cons r h4
    | succ i => exact Reps.cons h3 (Reps.set r i h4)
theorem Reps.nil_iff (h : Reps K U H ds xs) : xs = [] ↔ ds = [] := by
  rw [← List.length_eq_zero_iff, ← List.length_eq_zero_iff, h.length]
end

/-! ### wishes -/
/-- an error of an own class with its attributes -/
structure DX where
  C : Addr
  ks : List Str
  ds : List D
/-- what gives an α, or an error -/
abbrev M (α : Type) := (α → Prop) → (DX → Prop) → Prop
abbrev ret {α : Type} (a : α) : M α := fun Q _ => Q a
abbrev bnd {α β : Type} (m : M α) (f : α → M β) : M β := fun Q E => m (fun a => f a Q E) E
abbrev stuck {α : Type} : M α := fun _ _ => False
def RepX (K : PySem.W.Frag) (U : Addr → Prop) (H : Hp) (cls : Value) (dp : Option Addr) (x : DX) : Prop :=
  cls = .ref x.C ∧ ∃ d fs, dp = some d ∧ H d = some (.xd fs) ∧ ¬ U d ∧ fs.map (·.1) = x.ks ∧ Reps K U H x.ds (fs.map (·.2))
theorem RepX.ext {K : PySem.W.Frag} {G U : Addr → Prop} {H H' : Hp} {cls : Value} {dp : Option Addr} {x : DX} (e : Ext G H H') (g : ∀ a, G a → U a) (h : RepX K U H cls dp x) : RepX K U H' cls dp x := by
  obtain ⟨h1, d, fs, h2, h3, h4, h5, h6⟩ := h
  exact ⟨h1, d, fs, h2, e _ _ h3 fun z => h4 (g _ z), h4, h5, h6.ext e g⟩

/-- what the law as a whole may change, and what holds of it -/
structure GG where
  G : Addr → Prop
  J : Hp → Prop
  dom : ∀ H a, J H → G a → H a ≠ none
  st : ∀ H H', J H → (∀ a, G a → H' a = H a) → (∀ a φ, H a = some (.ext φ) → H' a = some (.ext φ)) → J H'
theorem GG.new (g : GG) {H : Hp} {p : Addr} {o : HO} (j : g.J H) (h : H p = none) : g.J (upd H p o) := g.st H _ j (fun a ha => upd_ne fun z => g.dom H a j ha (by rw [z]; exact h)) fun a φ e => by rw [upd_ne (ne_of_none e h)]; exact e

theorem RepX.less {K : PySem.W.Frag} {U U' : Addr → Prop} {H : Hp} {cls : Value} {dp : Option Addr} {x : DX} (u : ∀ a, U' a → U a) (h : RepX K U H cls dp x) : RepX K U' H cls dp x := by
  obtain ⟨h1, d, fs, h2, h3, h4, h5, h6⟩ := h
  exact ⟨h1, d, fs, h2, h3, fun q => h4 (u _ q), h5, h6.less u⟩
/-- a def's promise over data -/
abbrev FS := List D → M D
def spOf (K : PySem.W.Frag) (g : GG) (n : Nat) (f : FS) : Sp := fun vs H Q E => vs.length = n ∧ ∃ (U : Addr → Prop) (ds : List D) (Qd : D → Prop) (Ed : DX → Prop), (∀ a, g.G a → U a) ∧ (∀ a, U a → H a ≠ none) ∧ g.J H ∧ Reps K U H ds vs ∧
  f ds Qd Ed ∧ (∀ d v H', Qd d → Ext g.G H H' → g.J H' → Rep K U H' d v → Q v H') ∧ ∀ x cls dp H', Ed x → Ext g.G H H' → g.J H' → RepX K U H' cls dp x → E cls dp H'

abbrev DEnv := List (Option D)
def EnvRep (K : PySem.W.Frag) (U : Addr → Prop) (H : Hp) (σ : L2.St) (ρ : DEnv) : Prop := ρ.length = σ.length ∧ ∀ (i : Nat) (d : D), ρ[i]? = some (some d) → ∃ v, σ[i]? = some (some v) ∧ Rep K U H d v
/-- the place in a body: K, the law's things, what the caller may change, the heap at the entry, the wishes of errors -/
structure Zc where
  K : PySem.W.Frag
  g : GG
  U0 : Addr → Prop
  H0 : Hp
  Ed : DX → Prop
  EK : XK
  /-- things that a loop walks: they stay as they are -/
  kept : List (D × V) := []
structure Zc.Ok (z : Zc) : Prop where
  gu : ∀ a, z.g.G a → z.U0 a
  ek : ∀ x cls dp H, z.Ed x → Ext z.g.G z.H0 H → z.g.J H → RepX z.K z.U0 H cls dp x → z.EK cls dp H
/-- no error -/
def Zc.nox (z : Zc) : Zc := { z with Ed := fun _ => False, EK := E0 }
theorem Zc.Ok.nox {z : Zc} (o : z.Ok) : z.nox.Ok := ⟨o.gu, fun _ _ _ _ h => h.elim⟩
structure WR (z : Zc) (U : Addr → Prop) (σ : L2.St) (H : Hp) (ρ : DEnv) : Prop where
  ok : z.Ok
  u : ∀ a, z.U0 a → U a
  dom : ∀ a, U a → H a ≠ none
  ext : Ext z.g.G z.H0 H
  j : z.g.J H
  env : EnvRep z.K U H σ ρ
theorem WR.gu {z : Zc} {U : Addr → Prop} {σ : L2.St} {H : Hp} {ρ : DEnv} (w : WR z U σ H ρ) : ∀ a, z.g.G a → U a := fun a h => w.u a (w.ok.gu a h)
theorem WR.step {z : Zc} {U : Addr → Prop} {σ : L2.St} {H H' : Hp} {ρ : DEnv} (w : WR z U σ H ρ) (e : Ext z.g.G H H') (j : z.g.J H') : WR z U σ H' ρ :=
  ⟨w.ok, w.u, fun a h => by
    by_cases hg : z.g.G a
    · exact z.g.dom H' a j hg
    · cases q : H a with
      | none => exact absurd q (w.dom a h)
      | some o => rw [e a o q hg]; simp, w.ext.trans e, j, w.env.1, fun (i : Nat) (d : D) h => let ⟨v, h1, h2⟩ := w.env.2 i d h; ⟨v, h1, h2.ext e w.gu⟩⟩
theorem WR.fresh {z : Zc} {U : Addr → Prop} {σ : L2.St} {H : Hp} {ρ : DEnv} (w : WR z U σ H ρ) {p : Addr} (h : H p = none) : ¬ U p := fun q => w.dom p q h
theorem WR.new {z : Zc} {U : Addr → Prop} {σ : L2.St} {H : Hp} {ρ : DEnv} (w : WR z U σ H ρ) {p : Addr} {o : HO} (h : H p = none) : WR z U σ (upd H p o) ρ := w.step (Ext.new h) (z.g.new w.j h)
theorem WR.nox {z : Zc} {U : Addr → Prop} {σ : L2.St} {H : Hp} {ρ : DEnv} (w : WR z U σ H ρ) : WR z.nox U σ H ρ := ⟨w.ok.nox, w.u, w.dom, w.ext, w.j, w.env⟩

/-- the reading te of an expression asks no more than m -/
def TMe (z : Zc) (te : TE) (m : DEnv → M D) : Prop := ∀ (U : Addr → Prop) (σ : L2.St) (H : Hp) (ρ : DEnv) (Q : VK) (Qd : D → Prop) (E : DX → Prop), WR z U σ H ρ → (∀ x, E x → z.Ed x) → m ρ Qd E →
  (∀ d v H', Qd d → Ext z.g.G H H' → z.g.J H' → Rep z.K U H' d v → Q v H') → te σ H Q
def TMt (z : Zc) (tt : TT) (m : DEnv → M Bool) : Prop := ∀ (U : Addr → Prop) (σ : L2.St) (H : Hp) (ρ : DEnv) (Q : Bool → Hp → Prop) (Qd : Bool → Prop) (E : DX → Prop), WR z U σ H ρ → (∀ x, E x → z.Ed x) → m ρ Qd E →
  (∀ b H', Qd b → Ext z.g.G H H' → z.g.J H' → Q b H') → tt σ H Q
def TMa (z : Zc) (ta : TA) (m : DEnv → M (List D)) : Prop := ∀ (U : Addr → Prop) (σ : L2.St) (H : Hp) (ρ : DEnv) (Q : List V → Hp → Prop) (Qd : List D → Prop) (E : DX → Prop), WR z U σ H ρ → (∀ x, E x → z.Ed x) → m ρ Qd E →
  (∀ ds vs H', Qd ds → Ext z.g.G H H' → z.g.J H' → Reps z.K U H' ds vs → Q vs H') → ta σ H Q
/-- an operation by values: r asks no more than m -/
def RM2 (z : Zc) (r : R2) (m : D → D → M D) : Prop := ∀ (U : Addr → Prop) (H : Hp) (a b : D) (x y : V) (Q : VK) (Qd : D → Prop) (E : DX → Prop), (∀ a, z.g.G a → U a) → (∀ a, U a → H a ≠ none) → z.g.J H → Rep z.K U H a x → Rep z.K U H b y → (∀ x, E x → z.Ed x) → m a b Qd E →
  (∀ d v H', Qd d → Ext z.g.G H H' → z.g.J H' → Rep z.K U H' d v → Q v H') → r x y H Q
def RM1 (z : Zc) (r : V → Hp → VK → Prop) (m : D → M D) : Prop := ∀ (U : Addr → Prop) (H : Hp) (a : D) (x : V) (Q : VK) (Qd : D → Prop) (E : DX → Prop), (∀ a, z.g.G a → U a) → (∀ a, U a → H a ≠ none) → z.g.J H → Rep z.K U H a x → (∀ x, E x → z.Ed x) → m a Qd E →
  (∀ d v H', Qd d → Ext z.g.G H H' → z.g.J H' → Rep z.K U H' d v → Q v H') → r x H Q
def RMn (z : Zc) (r : List V → Hp → VK → Prop) (m : List D → M D) : Prop := ∀ (U : Addr → Prop) (H : Hp) (ds : List D) (xs : List V) (Q : VK) (Qd : D → Prop) (E : DX → Prop), (∀ a, z.g.G a → U a) → (∀ a, U a → H a ≠ none) → z.g.J H → Reps z.K U H ds xs → (∀ x, E x → z.Ed x) → m ds Qd E →
  (∀ d v H', Qd d → Ext z.g.G H H' → z.g.J H' → Rep z.K U H' d v → Q v H') → r xs H Q

/-! ### expressions -/
/-- the expression e means m, whose reading is te -/
structure DE (X : Cx) (z : Zc) (e : Expr) (te : TE) (m : DEnv → M D) : Prop where
  pe : PE X e te
  tm : TMe z te m
structure DT (X : Cx) (z : Zc) (e : Expr) (te : TT) (m : DEnv → M Bool) : Prop where
  pe : PT X e te
  tm : TMt z te m
structure DW (X : Cx) (z : Zc) (e : Expr) (te : TT) (m : DEnv → M Bool) : Prop where
  pe : PW X e te
  tm : TMt z te m
structure DA (X : Cx) (z : Zc) (es : List Expr) (te : TA) (m : DEnv → M (List D)) : Prop where
  pe : PA X es te
  tm : TMa z te m

/-- a slot's value -/
abbrev gv (ρ : DEnv) (i : Nat) : M D := fun Q _ => match ρ.getD i none with | some d => Q d | none => False
theorem tm_var {z : Zc} {i : Nat} : TMe z (tVar i) (fun ρ => gv ρ i) := fun U σ H ρ Q Qd E w he h k => by
  simp only [gv] at h
  cases q : ρ.getD i none with
  | none => rw [q] at h; exact h.elim
  | some d =>
    rw [q] at h
    have q' : ρ[i]? = some (some d) := by
      rw [List.getD_eq_getElem?_getD] at q
      cases e : ρ[i]? with
      | none => rw [e] at q; simp at q
      | some o => rw [e] at q; simp at q; rw [q]
    obtain ⟨v, h1, h2⟩ := w.env.2 i d q'
    exact ⟨v, h1, k d v H h (Ext.refl H) w.j h2⟩
theorem tm_c {z : Zc} {v : V} {d : D} (r : ∀ K U H, Rep K U H d v) : TMe z (tC v) (fun _ => ret d) := fun U σ H ρ Q Qd E w he h k =>
  k d v H h (Ext.refl H) w.j (r _ _ _)
section
variable {X : Cx} {z : Zc}
theorem dv (i : Nat) {x : Str} {pos : Pos} (hN : X.N[i]? = some x := by rfl) (hv : Vis X.env.scope x := by first | exact Or.inl rfl | exact Or.inr (Or.inl rfl) | exact Or.inr (Or.inr rfl)) (hd : (x == ("__debug__" : Str)) = false := by decide)
    (hcd : (x == ("__classdict__" : Str)) = false := by decide) : DE X z (.Name x pos) (tVar i) (fun ρ => gv ρ i) := ⟨pe_var hN hv hd hcd, tm_var⟩
theorem de_int {i j pos} : DE X z (.Constant (.int i) j pos) (tC (.int i)) (fun _ => ret (.int i)) := ⟨pe_int, tm_c fun _ _ _ => by simp only [Rep]⟩
theorem de_bl {b j pos} : DE X z (.Constant (.bool b) j pos) (tC (.bl b)) (fun _ => ret (.bl b)) := ⟨pe_bl, tm_c fun _ _ _ => by simp only [Rep]⟩
theorem de_non {j pos} : DE X z (.Constant .none j pos) (tC .non) (fun _ => ret .non) := ⟨pe_non, tm_c fun _ _ _ => by simp only [Rep]⟩
theorem de_str {x j pos} : DE X z (.Constant (.str x) j pos) (tC (.str x)) (fun _ => ret (.str x)) := ⟨pe_str, tm_c fun _ _ _ => by simp only [Rep]⟩
/-- a module's name: an int, a text; a class, a function -/
theorem de_glob {x : Str} {v : V} {u : Value} {d : D} {pos : Pos} (hm : X.mg x = some u) (r : RelV v u) (rd : ∀ K U H, Rep K U H d v) (hg : Gl X x := by rfl) (hd : (x == ("__debug__" : Str)) = false := by decide) : DE X z (.Name x pos) (tC v) (fun _ => ret d) := ⟨pe_glob hg hm r hd, tm_c rd⟩
theorem de_bltn {x : Str} {n : String} {pos : Pos} (hm : X.mg x = none) (hv : bootBuiltins x = some (.type n)) (hg : Gl X x := by rfl) (hn : x ≠ "__name__" := by decide) (hd : (x == ("__debug__" : Str)) = false := by decide) : DE X z (.Name x pos) (tC (.ty n)) (fun _ => ret (.ty n)) :=
  ⟨pe_bltn hg hm hv rfl hn hd, tm_c fun _ _ _ => by simp only [Rep]⟩
variable {a b c : Expr} {ta tb tc : TE} {ma mb mc : DEnv → M D} {pos : Pos}
theorem tm_op {r : R2} {m : D → D → M D} (hr : RM2 z r m) (ha : TMe z ta ma) (hb : TMe z tb mb) : TMe z (tOp r ta tb) (fun ρ => bnd (ma ρ) fun x => bnd (mb ρ) fun y => m x y) := fun U σ H ρ Q Qd E w he h k =>
  ha U σ H ρ _ _ E w he h fun d1 v1 H1 h1 e1 j1 r1 => hb U σ H1 ρ _ _ E (w.step e1 j1) he h1 fun d2 v2 H2 h2 e2 j2 r2 =>
    hr U H2 d1 d2 v1 v2 Q Qd E w.gu ((w.step e1 j1).step e2 j2).dom j2 (r1.ext e2 w.gu) r2 he h2 fun d v H' q e3 j3 r3 => k d v H' q ((e1.trans e2).trans e3) j3 r3
theorem tm_un {r : V → Hp → VK → Prop} {m : D → M D} (hr : RM1 z r m) (ha : TMe z ta ma) : TMe z (tUn r ta) (fun ρ => bnd (ma ρ) fun x => m x) := fun U σ H ρ Q Qd E w he h k =>
  ha U σ H ρ _ _ E w he h fun d1 v1 H1 h1 e1 j1 r1 => hr U H1 d1 v1 Q Qd E w.gu (w.step e1 j1).dom j1 r1 he h1 fun d v H' q e3 j3 r3 => k d v H' q (e1.trans e3) j3 r3
theorem de_op {op : Operator} {r : R2} {m : D → D → M D} (ho : OpR X (binaryOp op) r) (hr : RM2 z r m) (ha : DE X z a ta ma) (hb : DE X z b tb mb) : DE X z (.BinOp a op b pos) (tOp r ta tb) (fun ρ => bnd (ma ρ) fun x => bnd (mb ρ) fun y => m x y) :=
  ⟨pe_op ho ha.pe hb.pe, tm_op hr ha.tm hb.tm⟩
theorem de_un {op : UnaryOp} {r : V → Hp → VK → Prop} {m : D → M D} (ho : UnR X (unaryOp op) r) (hr : RM1 z r m) (ha : DE X z a ta ma) : DE X z (.UnaryOp op a pos) (tUn r ta) (fun ρ => bnd (ma ρ) fun x => m x) := ⟨pe_un ho ha.pe, tm_un hr ha.tm⟩
theorem de_cmp {op : CmpOp} {r : R2} {m : D → D → M D} (ho : OpR X (compareOp op) r) (hr : RM2 z r m) (ha : DE X z a ta ma) (hb : DE X z b tb mb) (hm : behindInMarks op b = false := by first | exact nomark _ | rfl) : DE X z (.Compare a [op] [b] pos) (tOp r ta tb) (fun ρ => bnd (ma ρ) fun x => bnd (mb ρ) fun y => m x y) :=
  ⟨pe_cmpR ho ha.pe hb.pe hm, tm_op hr ha.tm hb.tm⟩
/-- a truth value -/
abbrev asB (d : D) : M Bool := fun Q _ => match d with | .bl b => Q b | _ => False
theorem tm_test (ha : TMe z ta ma) : TMt z (tTest ta) (fun ρ => bnd (ma ρ) asB) := fun U σ H ρ Q Qd E w he h k =>
  ha U σ H ρ _ _ E w he h fun d1 v1 H1 h1 e1 j1 r1 => by
    cases d1 with
    | bl b => simp only [Rep] at r1; exact ⟨b, r1, k b H1 h1 e1 j1⟩
    | _ => exact h1.elim
theorem tm_testB (ha : TMe z ta ma) : TMt z (tB ta) (fun ρ => bnd (ma ρ) asB) := tm_test ha
theorem dt_cmp {op : CmpOp} {r : R2} {m : D → D → M D} (ho : OpR X (compareOp op) r) (hr : RM2 z r m) (ha : DE X z a ta ma) (hb : DE X z b tb mb) (hm : behindInMarks op b = false := by first | exact nomark _ | rfl) : DT X z (.Compare a [op] [b] pos) (tTest (tOp r ta tb)) (fun ρ => bnd (bnd (ma ρ) fun x => bnd (mb ρ) fun y => m x y) asB) :=
  ⟨pt_cmpR ho ha.pe hb.pe hm, tm_test (tm_op hr ha.tm hb.tm)⟩
theorem dt_val (ha : DE X z a ta ma) (he : ∀ whole, isTrue a X.env whole = (do let v ← whole; standAt a.pos; holding [v] (truthy v)) := by intro _; rfl) : DT X z a (tB ta) (fun ρ => bnd (ma ρ) asB) := ⟨pt_val ha.pe he, tm_testB ha.tm⟩
variable {tA tB' : TT} {mA mB : DEnv → M Bool} {rest : List Expr}
theorem tm_and (hA : TMt z tA mA) (hB : TMt z tB' mB) : TMt z (tAnd tA tB') (fun ρ => bnd (mA ρ) fun b => if b = true then mB ρ else ret false) := fun U σ H ρ Q Qd E w he h k =>
  hA U σ H ρ _ _ E w he h fun b H1 h1 e1 j1 => by
    cases b with
    | true => exact hB U σ H1 ρ Q Qd E (w.step e1 j1) he h1 fun b H2 h2 e2 j2 => k b H2 h2 (e1.trans e2) j2
    | false => exact k false H1 h1 e1 j1
theorem tm_or (hA : TMt z tA mA) (hB : TMt z tB' mB) : TMt z (tOr tA tB') (fun ρ => bnd (mA ρ) fun b => if b = true then ret true else mB ρ) := fun U σ H ρ Q Qd E w he h k =>
  hA U σ H ρ _ _ E w he h fun b H1 h1 e1 j1 => by
    cases b with
    | false => exact hB U σ H1 ρ Q Qd E (w.step e1 j1) he h1 fun b H2 h2 e2 j2 => k b H2 h2 (e1.trans e2) j2
    | true => exact k true H1 h1 e1 j1
theorem dw_and1 (ha : DT X z a tA mA) : DW X z (.BoolOp .And [a] pos) tA mA := ⟨pw_and1 ha.pe, ha.tm⟩
theorem dw_or1 (ha : DT X z a tA mA) : DW X z (.BoolOp .Or [a] pos) tA mA := ⟨pw_or1 ha.pe, ha.tm⟩
theorem dw_and (ha : DT X z a tA mA) (hb : DW X z (.BoolOp .And (b :: rest) pos) tB' mB) : DW X z (.BoolOp .And (a :: b :: rest) pos) (tAnd tA tB') (fun ρ => bnd (mA ρ) fun b => if b = true then mB ρ else ret false) := ⟨pw_and ha.pe hb.pe, tm_and ha.tm hb.tm⟩
theorem dw_or (ha : DT X z a tA mA) (hb : DW X z (.BoolOp .Or (b :: rest) pos) tB' mB) : DW X z (.BoolOp .Or (a :: b :: rest) pos) (tOr tA tB') (fun ρ => bnd (mA ρ) fun b => if b = true then ret true else mB ρ) := ⟨pw_or ha.pe hb.pe, tm_or ha.tm hb.tm⟩
theorem dt_w (h : DW X z a tA mA) : DT X z a tA mA := ⟨h.pe.pt, h.tm⟩
theorem dt_not (ha : DT X z a tA mA) : DT X z (.UnaryOp .Not a pos) (tNot tA) (fun ρ => bnd (mA ρ) fun b => ret (!b)) := ⟨pt_not ha.pe, fun U σ H ρ Q Qd E w he h k => ha.tm U σ H ρ _ _ E w he h fun b H1 h1 e1 j1 => k _ H1 h1 e1 j1⟩
/-- as values -/
theorem de_if (hc : DT X z c tA mA) (ha : DE X z a ta ma) (hb : DE X z b tb mb) : DE X z (.IfExp c a b pos) (tIf tA ta tb) (fun ρ => bnd (mA ρ) fun q => if q = true then ma ρ else mb ρ) := ⟨pe_ifExp hc.pe ha.pe hb.pe, fun U σ H ρ Q Qd E w he h k =>
  hc.tm U σ H ρ _ _ E w he h fun q H1 h1 e1 j1 => by
    cases q with
    | true => exact ha.tm U σ H1 ρ Q Qd E (w.step e1 j1) he h1 fun d v H2 h2 e2 j2 r2 => k d v H2 h2 (e1.trans e2) j2 r2
    | false => exact hb.tm U σ H1 ρ Q Qd E (w.step e1 j1) he h1 fun d v H2 h2 e2 j2 r2 => k d v H2 h2 (e1.trans e2) j2 r2⟩
end
end DL

/-! DOps: operators, comparisons, items, slices, built-in calls over data. -/
namespace DL
open PySem PySem.Spec PyProof.Rows L2

section
variable {K : PySem.W.Frag} {U : Addr → Prop} {H : Hp} {ds : List D} {xs : List V} {p : Addr}
theorem rep_tup_new (hU : ∀ a, U a → H a ≠ none) (h : H p = none) (r : Reps K U H ds xs) : Rep K U (upd H p (.tup xs)) (.tup ds) (.ref p) := by
  simp only [Rep]
  exact ⟨p, xs, rfl, .inl ⟨.inl upd_same, fun q => hU p q h⟩, Reps.mono' (fun a o e n => ⟨by rw [upd_ne (ne_of_none e h)]; exact e, n⟩) ds xs r⟩
theorem rep_lst_new (hU : ∀ a, U a → H a ≠ none) (h : H p = none) (r : Reps K U H ds xs) : Rep K U (upd H p (.lst xs)) (.lst ds) (.ref p) := by
  simp only [Rep]
  exact ⟨p, xs, rfl, ⟨upd_same, fun q => hU p q h⟩, Reps.mono' (fun a o e n => ⟨by rw [upd_ne (ne_of_none e h)]; exact e, n⟩) ds xs r⟩
theorem rep_tup_inv {d : List D} {v : V} (h : Rep K U H (.tup d) v) : ∃ a xs, v = .ref a ∧ TupAt K U H a xs ∧ Reps K U H d xs := by simpa only [Rep] using h
theorem rep_lst_inv {d : List D} {v : V} (h : Rep K U H (.lst d) v) : ∃ a xs, v = .ref a ∧ (H a = some (.lst xs) ∧ ¬ U a) ∧ Reps K U H d xs := by simpa only [Rep] using h
theorem rep_int {i : Int} : Rep K U H (.int i) (.int i) := by simp only [Rep]
theorem rep_bl {i : Bool} : Rep K U H (.bl i) (.bl i) := by simp only [Rep]
theorem rep_str {i : Str} : Rep K U H (.str i) (.str i) := by simp only [Rep]
theorem rep_non : Rep K U H .non .non := by simp only [Rep]
theorem rep_ty {n : String} : Rep K U H (.ty n) (.ty n) := by simp only [Rep]
theorem inv_int {i : Int} {v : V} (h : Rep K U H (.int i) v) : v = .int i := by simpa only [Rep] using h
theorem inv_bl {i : Bool} {v : V} (h : Rep K U H (.bl i) v) : v = .bl i := by simpa only [Rep] using h
theorem inv_str {i : Str} {v : V} (h : Rep K U H (.str i) v) : v = .str i := by simpa only [Rep] using h
theorem inv_non {v : V} (h : Rep K U H .non v) : v = .non := by simpa only [Rep] using h
theorem inv_ty {n : String} {v : V} (h : Rep K U H (.ty n) v) : v = .ty n := by simpa only [Rep] using h
theorem reps_ints : ∀ {ns : List Int} {xs : List V}, Reps K U H (ns.map D.int) xs → xs = ns.map V.int
  | [], xs, h => by simpa only [List.map, Reps] using h
  | n :: ns, xs, h => by
    simp only [List.map, Reps] at h
    obtain ⟨x, r, rfl, h1, h2⟩ := h
    rw [inv_int h1, reps_ints h2]
    rfl
theorem reps_bls : ∀ {ns : List Bool} {xs : List V}, Reps K U H (ns.map D.bl) xs → xs = ns.map V.bl
  | [], xs, h => by simpa only [List.map, Reps] using h
  | n :: ns, xs, h => by
    simp only [List.map, Reps] at h
    obtain ⟨x, r, rfl, h1, h2⟩ := h
    rw [inv_bl h1, reps_bls h2]
    rfl
theorem reps_strs : ∀ {ns : List Str} {xs : List V}, Reps K U H (ns.map D.str) xs → xs = ns.map V.str
  | [], xs, h => by simpa only [List.map, Reps] using h
  | n :: ns, xs, h => by
    simp only [List.map, Reps] at h
    obtain ⟨x, r, rfl, h1, h2⟩ := h
    rw [inv_str h1, reps_strs h2]
    rfl
theorem reps_of_ints : ∀ {ns : List Int}, Reps K U H (ns.map D.int) (ns.map V.int)
  | [] => Reps.nil
  | n :: ns => Reps.cons rep_int reps_of_ints
theorem reps_of_strs : ∀ {ns : List Str}, Reps K U H (ns.map D.str) (ns.map V.str)
  | [] => Reps.nil
  | n :: ns => Reps.cons rep_str reps_of_strs
theorem reps_of_bls : ∀ {ns : List Bool}, Reps K U H (ns.map D.bl) (ns.map V.bl)
  | [] => Reps.nil
  | n :: ns => Reps.cons rep_bl reps_of_bls
end

/-! ### arithmetic -/
abbrev mAdd (a b : D) : M D := fun Q _ => match a, b with
  | .int i, .int j => Q (.int (i + j))
  | .str x, .str y => x.length + y.length ≤ sizeLine ∧ Q (.str (x ++ y))
  | .tup x, .tup y => x.length + y.length ≤ sizeLine ∧ Q (.tup (x ++ y))
  | .lst x, .lst y => x.length + y.length ≤ sizeLine ∧ Q (.lst (x ++ y))
  | _, _ => False
abbrev rAddD (K : PySem.W.Frag) : R2 := fun x y H Q => rI0 (fun i j => .int (i + j)) x y H Q ∨ (∃ i j, x = .str i ∧ y = .str j ∧ i.length + j.length ≤ sizeLine ∧ Q (.str (i ++ j)) H) ∨ rCatA K x y H Q ∨ rCat x y H Q
theorem opAdd {X : Cx} : OpR X (binaryOp .Add) (rAddD X.K) := op_add.or (op_add_str.or (op_catA.or op_cat))
theorem rmAdd {z : Zc} : RM2 z (rAddD z.K) mAdd := fun U H a b x y Q Qd E gu hU j ra rb he h k => by
  match a, b, h with
  | .int i, .int l, h => exact .inl ⟨i, l, inv_int ra, inv_int rb, k _ _ H h (Ext.refl H) j rep_int⟩
  | .str i, .str l, h => exact .inr (.inl ⟨i, l, inv_str ra, inv_str rb, h.1, k _ _ H h.2 (Ext.refl H) j rep_str⟩)
  | .tup d, .tup e, h =>
    obtain ⟨p, xs, rfl, hp, r1⟩ := rep_tup_inv ra
    obtain ⟨q, ys, rfl, hq, r2⟩ := rep_tup_inv rb
    refine .inr (.inr (.inl ⟨p, q, xs, ys, rfl, rfl, hp.sq, hq.sq, by rw [r1.length, r2.length]; exact h.1, fun e => ?_, fun _ e => ?_, fun _ _ l hl => ?_⟩))
    · have e0 := r1.nil_iff.mp e
      subst e0
      exact k _ _ H h.2 (Ext.refl H) j rb
    · have e0 := r2.nil_iff.mp e
      subst e0
      have h2 : Qd (.tup (d ++ [])) := h.2
      rw [List.append_nil] at h2
      exact k _ _ H h2 (Ext.refl H) j ra
    · exact k _ _ _ h.2 (Ext.new hl) (z.g.new j hl) (rep_tup_new hU hl (r1.append r2))
  | .lst d, .lst e, h =>
    obtain ⟨p, xs, rfl, hp, r1⟩ := rep_lst_inv ra
    obtain ⟨q, ys, rfl, hq, r2⟩ := rep_lst_inv rb
    exact .inr (.inr (.inr ⟨p, q, xs, ys, rfl, rfl, hp.1, hq.1, by rw [r1.length, r2.length]; exact h.1, fun l hl => k _ _ _ h.2 (Ext.new hl) (z.g.new j hl) (rep_lst_new hU hl (r1.append r2))⟩))
abbrev mI2 (C : Int → Int → Prop) (f : Int → Int → D) (a b : D) : M D := fun Q _ => match a, b with
  | .int i, .int j => C i j ∧ Q (f i j)
  | _, _ => False
theorem rmI {z : Zc} {C : Int → Int → Prop} {g : Int → Int → V} {f : Int → Int → D} (r : ∀ K U H i j, Rep K U H (f i j) (g i j)) : RM2 z (rI C g) (mI2 C f) := fun U H a b x y Q Qd E gu hU j ra rb he h k => by
  match a, b, h with
  | .int i, .int l, h => exact ⟨i, l, inv_int ra, inv_int rb, h.1, k _ _ H h.2 (Ext.refl H) j (r _ _ _ _ _)⟩
abbrev mJ2 (f : Int → Int → D) (a b : D) : M D := fun Q _ => match a, b with
  | .int i, .int j => Q (f i j)
  | _, _ => False
theorem rmJ {z : Zc} {g : Int → Int → V} {f : Int → Int → D} (r : ∀ K U H i j, Rep K U H (f i j) (g i j)) : RM2 z (rI0 g) (mJ2 f) := fun U H a b x y Q Qd E gu hU j ra rb he h k => by
  match a, b, h with
  | .int i, .int l, h => exact ⟨i, l, inv_int ra, inv_int rb, k _ _ H h (Ext.refl H) j (r _ _ _ _ _)⟩
abbrev mSub : D → D → M D := mJ2 fun i j => .int (i - j)
theorem rmSub {z : Zc} : RM2 z (rI0 fun i j => .int (i - j)) mSub := rmJ fun _ _ _ _ _ => rep_int
/-- a product: one factor below 2^64, or both together below a million bits -/
def MulOk (i j : Int) : Prop := CMul i j ∨ CMulW i j
theorem opMul {X : Cx} : OpR X (binaryOp .Mult) (rI MulOk fun i j => .int (i * j)) := opI fun _ _ _ _ _ _ _ hc q => mul_int q (hc.elim (fun h => h.ok) fun h => h.ok)
abbrev mMul : D → D → M D := mI2 MulOk fun i j => .int (i * j)
theorem rmMul {z : Zc} : RM2 z (rI MulOk fun i j => .int (i * j)) mMul := rmI fun _ _ _ _ _ => rep_int
def DivOk (_ j : Int) : Prop := j ≠ 0 ∧ j.natAbs.log2 < 9000
theorem opDiv {X : Cx} : OpR X (binaryOp .FloorDiv) (rI DivOk fun i j => .int (i.fdiv j)) := opI fun _ _ _ _ _ _ _ hc q => floordiv_int hc.1 q (.inl (PyProof.noPylong_of_log2 hc.2))
abbrev mDiv : D → D → M D := mI2 DivOk fun i j => .int (i.fdiv j)
theorem rmDiv {z : Zc} : RM2 z (rI DivOk fun i j => .int (i.fdiv j)) mDiv := rmI fun _ _ _ _ _ => rep_int
abbrev mMod : D → D → M D := mI2 (fun _ j => j ≠ 0) fun i j => .int (i.fmod j)
theorem rmMod {z : Zc} : RM2 z (rI (fun _ j => j ≠ 0) fun i j => .int (i.fmod j)) mMod := rmI fun _ _ _ _ _ => rep_int
abbrev mPow : D → D → M D := mI2 CPow fun i j => .int (i ^ j.toNat)
theorem rmPow {z : Zc} : RM2 z (rI CPow fun i j => .int (i ^ j.toNat)) mPow := rmI fun _ _ _ _ _ => rep_int
abbrev mNeg (a : D) : M D := fun Q _ => match a with | .int i => Q (.int (-i)) | _ => False
theorem rmNeg {z : Zc} : RM1 z (rU fun i => .int (-i)) mNeg := fun U H a x Q Qd E gu hU j ra he h k => by
  match a, h with
  | .int i, h => exact ⟨i, inv_int ra, k _ _ H h (Ext.refl H) j rep_int⟩

/-! ### order -/
abbrev strLt (x y : Str) : Bool := decide (x.cps.toList < y.cps.toList)
abbrev mOrd (p : Int → Int → Bool) (q : Str → Str → Bool) (a b : D) : M D := fun Q _ => match a, b with
  | .int i, .int j => Q (.bl (p i j))
  | .str x, .str y => Q (.bl (q x y))
  | _, _ => False
abbrev rOrd (p : Int → Int → Bool) (q : Str → Str → Bool) : R2 := fun x y H Q => rI0 (fun i j => .bl (p i j)) x y H Q ∨ ∃ i j, x = .str i ∧ y = .str j ∧ Q (.bl (q i j)) H
theorem rmOrd {z : Zc} {p : Int → Int → Bool} {q : Str → Str → Bool} : RM2 z (rOrd p q) (mOrd p q) := fun U H a b x y Q Qd E gu hU j ra rb he h k => by
  match a, b, h with
  | .int i, .int l, h => exact .inl ⟨i, l, inv_int ra, inv_int rb, k _ _ H h (Ext.refl H) j rep_bl⟩
  | .str i, .str l, h => exact .inr ⟨i, l, inv_str ra, inv_str rb, k _ _ H h (Ext.refl H) j rep_bl⟩
theorem opLt {X : Cx} : OpR X (compareOp .Lt) (rOrd (fun i j => decide (i < j)) (fun x y => strLt x y)) := op_lt.or op_lt_str
theorem opLe {X : Cx} : OpR X (compareOp .LtE) (rOrd (fun i j => decide (i ≤ j)) (fun x y => !strLt y x)) := op_le.or op_le_str
theorem opGt {X : Cx} : OpR X (compareOp .Gt) (rOrd (fun i j => decide (j < i)) (fun x y => strLt y x)) := op_gt.or op_gt_str
theorem opGe {X : Cx} : OpR X (compareOp .GtE) (rOrd (fun i j => decide (j ≤ i)) (fun x y => !strLt x y)) := op_ge.or op_ge_str
abbrev mLt : D → D → M D := mOrd (fun i j => decide (i < j)) (fun x y => strLt x y)
abbrev mLe : D → D → M D := mOrd (fun i j => decide (i ≤ j)) (fun x y => !strLt y x)
abbrev mGt : D → D → M D := mOrd (fun i j => decide (j < i)) (fun x y => strLt y x)
abbrev mGe : D → D → M D := mOrd (fun i j => decide (j ≤ i)) (fun x y => !strLt x y)

/-! ### equality -/
mutual
/-- == of data -/
def eqD : D → D → Bool
  | .non, .non => true
  | .bl a, .bl b => a == b
  | .bl a, .int j => (if a then 1 else 0) == j
  | .int i, .bl b => i == (if b then 1 else 0)
  | .int i, .int j => i == j
  | .str x, .str y => x == y
  | .lst xs, .lst ys => eqDs xs ys
  | .tup xs, .tup ys => eqDs xs ys
  | _, _ => false
def eqDs : List D → List D → Bool
  | [], [] => true
  | x :: xs, y :: ys => eqD x y && eqDs xs ys
  | _, _ => false
end
mutual
/-- plain data -/
def plain : D → Bool
  | .non => true
  | .bl _ => true
  | .int _ => true
  | .str x => PyData.strOk x
  | .lst xs => plains xs
  | .tup xs => plains xs
  | _ => false
def plains : List D → Bool
  | [] => true
  | x :: xs => plain x && plains xs
end
mutual
def dep : D → Nat
  | .lst xs => deps xs + 1
  | .tup xs => deps xs + 1
  | _ => 0
def deps : List D → Nat
  | [] => 0
  | x :: xs => max (dep x) (deps xs)
end
mutual
def toPd : D → PyData
  | .non => .none
  | .bl b => .bool b
  | .int i => .int i
  | .str x => .str x
  | .lst xs => .list (toPds xs)
  | .tup xs => .tuple (toPds xs)
  | _ => .none
def toPds : List D → List PyData
  | [] => []
  | x :: xs => toPd x :: toPds xs
end
mutual
theorem dp_of {K : PySem.W.Frag} {U : Addr → Prop} {H : Hp} : ∀ (d : D) (v : V), plain d = true → Rep K U H d v → Dp K H v (toPd d)
  | .non, v, _, h => by rw [inv_non h]; exact .non
  | .bl b, v, _, h => by rw [inv_bl h]; exact .bl b
  | .int i, v, _, h => by rw [inv_int h]; exact .int i
  | .str x, v, _, h => by rw [inv_str h]; exact .str x
  | .lst ds, v, p, h => by
    obtain ⟨a, xs, rfl, ⟨h1, _⟩, r⟩ := rep_lst_inv h
    exact .lst (SqL.of h1) (dpAll_of ds xs (by simpa only [plain] using p) r)
  | .tup ds, v, p, h => by
    obtain ⟨a, xs, rfl, h1, r⟩ := rep_tup_inv h
    exact .tup h1.sq (dpAll_of ds xs (by simpa only [plain] using p) r)
  | .ty _, v, p, h => by simp [plain] at p
  | .obj _, v, p, h => by simp [plain] at p
  | .ins _ _ _, v, p, h => by simp [plain] at p
  | .dK _ _, v, p, h => by simp [plain] at p
  | .dT _ _, v, p, h => by simp [plain] at p
  | .ptup _, v, p, h => by simp [plain] at p
  | .err _ _ _ _ _, v, p, h => by simp [plain] at p
  | .lsta _ _, v, p, h => by simp [plain] at p
theorem dpAll_of {K : PySem.W.Frag} {U : Addr → Prop} {H : Hp} : ∀ (ds : List D) (vs : List V), plains ds = true → Reps K U H ds vs → DpAll K H vs (toPds ds)
  | [], vs, _, h => by
    simp only [Reps] at h
    rw [h]
    exact .nil
  | d :: ds, vs, p, h => by
    simp only [Reps] at h
    simp only [plains, Bool.and_eq_true] at p
    obtain ⟨x, r, rfl, h1, h2⟩ := h
    exact .cons (dp_of d x p.1 h1) (dpAll_of ds r p.2 h2)
end
mutual
theorem lay_of : ∀ d : D, plain d = true → (toPd d).canLay0 = true
  | .non, _ => by simp [toPd, PyData.canLay0]
  | .bl b, _ => by simp [toPd, PyData.canLay0]
  | .int i, _ => by simp [toPd, PyData.canLay0]
  | .str x, p => by simpa [toPd, PyData.canLay0, plain] using p
  | .lst ds, p => by
    simp only [plain] at p
    simp only [toPd, PyData.canLay0]
    exact lays_of ds p
  | .tup ds, p => by
    simp only [plain] at p
    simp only [toPd, PyData.canLay0]
    exact lays_of ds p
  | .ty _, p => by simp [plain] at p
  | .obj _, p => by simp [plain] at p
  | .ins _ _ _, p => by simp [plain] at p
  | .dK _ _, p => by simp [plain] at p
  | .dT _ _, p => by simp [plain] at p
  | .ptup _, p => by simp [plain] at p
  | .err _ _ _ _ _, p => by simp [plain] at p
  | .lsta _ _, p => by simp [plain] at p
theorem lays_of : ∀ ds : List D, plains ds = true → PyData.canLayAll0 (toPds ds) = true
  | [], _ => by simp [toPds, PyData.canLayAll0]
  | d :: ds, p => by
    simp only [plains, Bool.and_eq_true] at p
    simp only [toPds, PyData.canLayAll0, Bool.and_eq_true]
    exact ⟨lay_of d p.1, lays_of ds p.2⟩
end
mutual
theorem dep_of : ∀ d : D, (toPd d).depth = dep d
  | .non => by simp [toPd, dep, PyData.depth]
  | .bl b => by simp [toPd, dep, PyData.depth]
  | .int i => by simp [toPd, dep, PyData.depth]
  | .str x => by simp [toPd, dep, PyData.depth]
  | .lst ds => by simp only [toPd, dep, PyData.depth, deps_of ds]
  | .tup ds => by simp only [toPd, dep, PyData.depth, deps_of ds]
  | .ty _ => by simp [toPd, dep, PyData.depth]
  | .obj _ => by simp [toPd, dep, PyData.depth]
  | .ins _ _ _ => by simp [toPd, dep, PyData.depth]
  | .dK _ _ => by simp [toPd, dep, PyData.depth]
  | .dT _ _ => by simp [toPd, dep, PyData.depth]
  | .ptup _ => by simp [toPd, dep, PyData.depth]
  | .err _ _ _ _ _ => by simp [toPd, dep, PyData.depth]
  | .lsta _ _ => by simp [toPd, dep, PyData.depth]
theorem deps_of : ∀ ds : List D, PyData.depthAll (toPds ds) = deps ds
  | [] => by simp [toPds, deps, PyData.depthAll]
  | d :: ds => by simp only [toPds, deps, PyData.depthAll, dep_of d, deps_of ds]
end
mutual
theorem eqv_of : ∀ a b : D, plain a = true → plain b = true → PyData.eqv (toPd a) (toPd b) = eqD a b
  | a, b, pa, pb => by
    match a, b, pa, pb with
    | .lst xs, .lst ys, pa, pb =>
      simp only [plain] at pa pb
      simp only [toPd, PyData.eqv, eqD]
      exact eqvs_of xs ys pa pb
    | .tup xs, .tup ys, pa, pb =>
      simp only [plain] at pa pb
      simp only [toPd, PyData.eqv, eqD]
      exact eqvs_of xs ys pa pb
    | .ty _, _, pa, _ => simp [plain] at pa
    | .obj _, _, pa, _ => simp [plain] at pa
    | .ins _ _ _, _, pa, _ => simp [plain] at pa
    | .dK _ _, _, pa, _ => simp [plain] at pa
    | .dT _ _, _, pa, _ => simp [plain] at pa
    | .ptup _, _, pa, _ => simp [plain] at pa
    | .err _ _ _ _ _, _, pa, _ => simp [plain] at pa
    | .lsta _ _, _, pa, _ => simp [plain] at pa
    | .non, b, _, pb => cases b <;> first | (simp [plain] at pb; done) | simp [toPd, PyData.eqv, eqD]
    | .bl _, b, _, pb => cases b <;> first | (simp [plain] at pb; done) | simp [toPd, PyData.eqv, eqD]
    | .int _, b, _, pb => cases b <;> first | (simp [plain] at pb; done) | simp [toPd, PyData.eqv, eqD]
    | .str _, b, _, pb => cases b <;> first | (simp [plain] at pb; done) | simp [toPd, PyData.eqv, eqD]
    | .lst _, .non, _, _ => simp [toPd, PyData.eqv, eqD]
    | .lst _, .bl _, _, _ => simp [toPd, PyData.eqv, eqD]
    | .lst _, .int _, _, _ => simp [toPd, PyData.eqv, eqD]
    | .lst _, .str _, _, _ => simp [toPd, PyData.eqv, eqD]
    | .lst _, .tup _, _, _ => simp [toPd, PyData.eqv, eqD]
    | .lst _, .ty _, _, pb => simp [plain] at pb
    | .lst _, .obj _, _, pb => simp [plain] at pb
    | .lst _, .ins _ _ _, _, pb => simp [plain] at pb
    | .lst _, .dK _ _, _, pb => simp [plain] at pb
    | .lst _, .dT _ _, _, pb => simp [plain] at pb
    | .lst _, .ptup _, _, pb => simp [plain] at pb
    | .lst _, .err _ _ _ _ _, _, pb => simp [plain] at pb
    | .lst _, .lsta _ _, _, pb => simp [plain] at pb
    | .tup _, .non, _, _ => simp [toPd, PyData.eqv, eqD]
    | .tup _, .bl _, _, _ => simp [toPd, PyData.eqv, eqD]
    | .tup _, .int _, _, _ => simp [toPd, PyData.eqv, eqD]
    | .tup _, .str _, _, _ => simp [toPd, PyData.eqv, eqD]
    | .tup _, .lst _, _, _ => simp [toPd, PyData.eqv, eqD]
    | .tup _, .ty _, _, pb => simp [plain] at pb
    | .tup _, .obj _, _, pb => simp [plain] at pb
    | .tup _, .ins _ _ _, _, pb => simp [plain] at pb
    | .tup _, .dK _ _, _, pb => simp [plain] at pb
    | .tup _, .dT _ _, _, pb => simp [plain] at pb
    | .tup _, .ptup _, _, pb => simp [plain] at pb
    | .tup _, .err _ _ _ _ _, _, pb => simp [plain] at pb
    | .tup _, .lsta _ _, _, pb => simp [plain] at pb
theorem eqvs_of : ∀ a b : List D, plains a = true → plains b = true → PyData.eqvAll (toPds a) (toPds b) = eqDs a b
  | [], [], _, _ => by simp [toPds, PyData.eqvAll, eqDs]
  | [], y :: ys, _, _ => by simp [toPds, PyData.eqvAll, eqDs]
  | x :: xs, [], _, _ => by simp [toPds, PyData.eqvAll, eqDs]
  | x :: xs, y :: ys, pa, pb => by
    simp only [plains, Bool.and_eq_true] at pa pb
    simp only [toPds, PyData.eqvAll, eqDs, eqv_of x y pa.1 pb.1, eqvs_of xs ys pa.2 pb.2]
end
theorem shaped_of {d : D} (p : plain d = true) (h : dep d ≤ 64) : SeqAt.shaped (toPd d) = true := by
  unfold SeqAt.shaped
  rw [lay_of d p, dep_of d, decide_eq_true h]
  rfl
/-- single things -/
def isScal : D → Bool
  | .non => true
  | .bl _ => true
  | .int _ => true
  | .str _ => true
  | _ => false
theorem scal_of {K : PySem.W.Frag} {U : Addr → Prop} {H : Hp} {a b : D} {x y : V} (ha : isScal a = true) (hb : isScal b = true) (hab : ∀ (i : Bool) (j : Int), ¬ (a = .bl i ∧ b = .int j) ∧ ¬ (a = .int j ∧ b = .bl i)) (r : Rep K U H a x) (q : Rep K U H b y) : decide (x = y) = eqD a b := by
  match a, b, ha, hb with
  | .non, .non, _, _ => rw [inv_non r, inv_non q]; simp [eqD]
  | .non, .bl _, _, _ => rw [inv_non r, inv_bl q]; simp [eqD]
  | .non, .int _, _, _ => rw [inv_non r, inv_int q]; simp [eqD]
  | .non, .str _, _, _ => rw [inv_non r, inv_str q]; simp [eqD]
  | .bl _, .non, _, _ => rw [inv_bl r, inv_non q]; simp [eqD]
  | .bl i, .bl j, _, _ => rw [inv_bl r, inv_bl q]; cases i <;> cases j <;> simp [eqD]
  | .bl i, .int j, _, _ => exact absurd ⟨rfl, rfl⟩ (hab i j).1
  | .bl _, .str _, _, _ => rw [inv_bl r, inv_str q]; simp [eqD]
  | .int _, .non, _, _ => rw [inv_int r, inv_non q]; simp [eqD]
  | .int i, .bl j, _, _ => exact absurd ⟨rfl, rfl⟩ (hab j i).2
  | .int i, .int j, _, _ => rw [inv_int r, inv_int q]; simp only [eqD]; rw [dec_int]
  | .int _, .str _, _, _ => rw [inv_int r, inv_str q]; simp [eqD]
  | .str _, .non, _, _ => rw [inv_str r, inv_non q]; simp [eqD]
  | .str _, .bl _, _, _ => rw [inv_str r, inv_bl q]; simp [eqD]
  | .str _, .int _, _, _ => rw [inv_str r, inv_int q]; simp [eqD]
  | .str i, .str j, _, _ => rw [inv_str r, inv_str q]; simp only [eqD]; rw [dec_str]
/-- what == asks: texts beside texts any; else plain data -/
def EqOk (a b : D) : Prop := match a, b with
  | .int _, .int _ => True
  | .str _, .str _ => True
  | .bl _, .bl _ => True
  | _, _ => plain a = true ∧ plain b = true ∧ dep a ≤ 64 ∧ dep b ≤ 64
abbrev mEq (a b : D) : M D := fun Q _ => EqOk a b ∧ Q (.bl (eqD a b))
abbrev mNe (a b : D) : M D := fun Q _ => EqOk a b ∧ Q (.bl (!eqD a b))
theorem eqOk_cases {a b : D} (h : EqOk a b) : (∃ i j, a = .int i ∧ b = .int j) ∨ (∃ i j, a = .str i ∧ b = .str j) ∨ (∃ i j, a = .bl i ∧ b = .bl j) ∨ (plain a = true ∧ plain b = true ∧ dep a ≤ 64 ∧ dep b ≤ 64) := by
  unfold EqOk at h
  split at h
  · exact .inl ⟨_, _, rfl, rfl⟩
  · exact .inr (.inl ⟨_, _, rfl, rfl⟩)
  · exact .inr (.inr (.inl ⟨_, _, rfl, rfl⟩))
  · exact .inr (.inr (.inr h))
abbrev rEqDD (K : PySem.W.Frag) : R2 := fun x y H Q => rEq x y H Q ∨ rEqD K x y H Q
abbrev rNeDD (K : PySem.W.Frag) : R2 := fun x y H Q => rNe x y H Q ∨ rNeD K x y H Q
theorem opEq {X : Cx} {k : Nat} (hr : Room k X.A) : OpR X (compareOp .Eq) (rEqDD X.K) := op_eq.or (op_eqD hr.units)
theorem opNe {X : Cx} {k : Nat} (hr : Room k X.A) : OpR X (compareOp .NotEq) (rNeDD X.K) := op_ne.or (op_neD hr.units)
theorem rmEq {z : Zc} : RM2 z (rEqDD z.K) mEq := fun U H a b x y Q Qd E gu hU j ra rb he h k => by
  rcases eqOk_cases h.1 with ⟨i, l, rfl, rfl⟩ | ⟨i, l, rfl, rfl⟩ | ⟨i, l, rfl, rfl⟩ | ⟨p, q, d, e⟩
  · have e1 := inv_int ra; have e2 := inv_int rb
    subst e1; subst e2
    exact .inl ⟨rfl, by rw [dec_int]; exact k _ _ H (by simpa only [eqD] using h.2) (Ext.refl H) j rep_bl⟩
  · have e1 := inv_str ra; have e2 := inv_str rb
    subst e1; subst e2
    exact .inl ⟨rfl, by rw [dec_str]; exact k _ _ H (by simpa only [eqD] using h.2) (Ext.refl H) j rep_bl⟩
  · have e1 := inv_bl ra; have e2 := inv_bl rb
    subst e1; subst e2
    exact .inl ⟨rfl, by rw [dec_bl]; exact k _ _ H (by simpa only [eqD] using h.2) (Ext.refl H) j rep_bl⟩
  · exact .inr ⟨_, _, dp_of a x p ra, dp_of b y q rb, shaped_of p d, shaped_of q e, by rw [eqv_of a b p q]; exact k _ _ H h.2 (Ext.refl H) j rep_bl⟩
theorem rmNe {z : Zc} : RM2 z (rNeDD z.K) mNe := fun U H a b x y Q Qd E gu hU j ra rb he h k => by
  rcases eqOk_cases h.1 with ⟨i, l, rfl, rfl⟩ | ⟨i, l, rfl, rfl⟩ | ⟨i, l, rfl, rfl⟩ | ⟨p, q, d, e⟩
  · have e1 := inv_int ra; have e2 := inv_int rb
    subst e1; subst e2
    exact .inl ⟨rfl, by rw [dec_int]; exact k _ _ H (by simpa only [eqD] using h.2) (Ext.refl H) j rep_bl⟩
  · have e1 := inv_str ra; have e2 := inv_str rb
    subst e1; subst e2
    exact .inl ⟨rfl, by rw [dec_str]; exact k _ _ H (by simpa only [eqD] using h.2) (Ext.refl H) j rep_bl⟩
  · have e1 := inv_bl ra; have e2 := inv_bl rb
    subst e1; subst e2
    exact .inl ⟨rfl, by rw [dec_bl]; exact k _ _ H (by simpa only [eqD] using h.2) (Ext.refl H) j rep_bl⟩
  · exact .inr ⟨_, _, dp_of a x p ra, dp_of b y q rb, shaped_of p d, shaped_of q e, by rw [eqv_of a b p q]; exact k _ _ H h.2 (Ext.refl H) j rep_bl⟩

/-! ### is -/
def isNon : D → Bool
  | .non => true
  | _ => false
abbrev mIs (a b : D) : M D := fun Q _ => match b with
  | .non => Q (.bl (isNon a))
  | .bl c => match a with | .bl d => Q (.bl (decide (d = c))) | _ => False
  | _ => False
abbrev mIsNot (a b : D) : M D := fun Q _ => match b with
  | .non => Q (.bl (!isNon a))
  | .bl c => match a with | .bl d => Q (.bl (!decide (d = c))) | _ => False
  | _ => False
theorem non_iff {K : PySem.W.Frag} {U : Addr → Prop} {H : Hp} {a : D} {x : V} (r : Rep K U H a x) : decide (x = .non) = isNon a := by
  cases a with
  | non => rw [inv_non r]; rfl
  | bl b => rw [inv_bl r]; rfl
  | int b => rw [inv_int r]; rfl
  | str b => rw [inv_str r]; rfl
  | ty b => rw [inv_ty r]; rfl
  | obj b => simp only [Rep] at r; rw [r]; rfl
  | tup b => obtain ⟨a, xs, rfl, _⟩ := rep_tup_inv r; rfl
  | lst b => obtain ⟨a, xs, rfl, _⟩ := rep_lst_inv r; rfl
  | ins _ _ _ => simp only [Rep] at r; obtain ⟨_, _, _, rfl, _⟩ := r; rfl
  | dK _ _ => simp only [Rep] at r; obtain ⟨_, _, rfl, _⟩ := r; rfl
  | dT _ _ => simp only [Rep] at r; obtain ⟨_, _, rfl, _⟩ := r; rfl
  | ptup _ => simp only [Rep] at r; obtain ⟨_, _, _, rfl, _⟩ := r; rfl
  | err _ _ _ _ _ => simp only [Rep] at r; obtain ⟨rfl, _⟩ := r; rfl
  | lsta _ _ => simp only [Rep] at r; obtain ⟨rfl, _⟩ := r; rfl
abbrev rIsD : R2 := fun x y H Q => (y = .non ∧ Q (.bl (decide (x = .non))) H) ∨ rIsB x y H Q
abbrev rIsNotD : R2 := fun x y H Q => (y = .non ∧ Q (.bl (!decide (x = .non))) H) ∨ rNotB x y H Q
theorem opIs {X : Cx} : OpR X (compareOp .Is) rIsD := op_isN.or op_isBl
theorem opIsNot {X : Cx} : OpR X (compareOp .IsNot) rIsNotD := op_notN.or op_notBl
theorem rmIs {z : Zc} : RM2 z rIsD mIs := fun U H a b x y Q Qd E gu hU j ra rb he h k => by
  match b, h with
  | .non, h => exact .inl ⟨inv_non rb, by rw [non_iff ra]; exact k _ _ H h (Ext.refl H) j rep_bl⟩
  | .bl c, h =>
    match a, h with
    | .bl d, h => exact .inr ⟨d, c, inv_bl ra, inv_bl rb, k _ _ H h (Ext.refl H) j rep_bl⟩
theorem rmIsNot {z : Zc} : RM2 z rIsNotD mIsNot := fun U H a b x y Q Qd E gu hU j ra rb he h k => by
  match b, h with
  | .non, h => exact .inl ⟨inv_non rb, by
      rw [non_iff ra]
      exact k _ _ H h (Ext.refl H) j rep_bl⟩
  | .bl c, h =>
    match a, h with
    | .bl d, h => exact .inr ⟨d, c, inv_bl ra, inv_bl rb, k _ _ H h (Ext.refl H) j rep_bl⟩

/-! ### in -/
def isFlat : D → Bool
  | .non => true
  | .bl _ => true
  | .int _ => true
  | .str _ => true
  | _ => false
theorem flatV_of {K : PySem.W.Frag} {U : Addr → Prop} {H : Hp} {a : D} {x : V} (f : isFlat a = true) (r : Rep K U H a x) : flatV x = true := by
  cases a with
  | non => rw [inv_non r]; rfl
  | bl b => rw [inv_bl r]; rfl
  | int b => rw [inv_int r]; rfl
  | str b => rw [inv_str r]; rfl
  | _ => simp [isFlat] at f
theorem eqV_of {K : PySem.W.Frag} {U : Addr → Prop} {H : Hp} {a b : D} {x y : V} (f : isFlat a = true) (g : isFlat b = true) (r : Rep K U H a x) (q : Rep K U H b y) : eqV x y = eqD a b := by
  match a, b, f, g with
  | .non, .non, _, _ => rw [inv_non r, inv_non q]; simp [eqD, eqV]
  | .non, .bl _, _, _ => rw [inv_non r, inv_bl q]; simp [eqD, eqV]
  | .non, .int _, _, _ => rw [inv_non r, inv_int q]; simp [eqD, eqV]
  | .non, .str _, _, _ => rw [inv_non r, inv_str q]; simp [eqD, eqV]
  | .bl _, .non, _, _ => rw [inv_bl r, inv_non q]; simp [eqD, eqV]
  | .bl i, .bl j, _, _ => rw [inv_bl r, inv_bl q]; simp [eqD, eqV]
  | .bl i, .int j, _, _ => rw [inv_bl r, inv_int q]; simp [eqD, eqV]
  | .bl _, .str _, _, _ => rw [inv_bl r, inv_str q]; simp [eqD, eqV]
  | .int _, .non, _, _ => rw [inv_int r, inv_non q]; simp [eqD, eqV]
  | .int i, .bl j, _, _ => rw [inv_int r, inv_bl q]; simp [eqD, eqV]
  | .int i, .int j, _, _ => rw [inv_int r, inv_int q]; simp [eqD, eqV]
  | .int _, .str _, _, _ => rw [inv_int r, inv_str q]; simp [eqD, eqV]
  | .str _, .non, _, _ => rw [inv_str r, inv_non q]; simp [eqD, eqV]
  | .str _, .bl _, _, _ => rw [inv_str r, inv_bl q]; simp [eqD, eqV]
  | .str _, .int _, _, _ => rw [inv_str r, inv_int q]; simp [eqD, eqV]
  | .str i, .str j, _, _ => rw [inv_str r, inv_str q]; simp [eqD, eqV]
/-- x in some things -/
def inD (x : D) (ds : List D) : Bool := ds.any fun d => eqD d x
theorem all_flatV {K : PySem.W.Frag} {U : Addr → Prop} {H : Hp} : ∀ {ds : List D} {xs : List V}, ds.all isFlat = true → Reps K U H ds xs → xs.all flatV = true
  | [], xs, _, h => by simp only [Reps] at h; rw [h]; rfl
  | d :: ds, xs, f, h => by
    simp only [Reps] at h
    obtain ⟨x, r, rfl, h1, h2⟩ := h
    simp only [List.all_cons, Bool.and_eq_true] at f ⊢
    exact ⟨flatV_of f.1 h1, all_flatV f.2 h2⟩
theorem inV_of {K : PySem.W.Frag} {U : Addr → Prop} {H : Hp} {a : D} {x : V} (f : isFlat a = true) (r : Rep K U H a x) : ∀ {ds : List D} {xs : List V}, ds.all isFlat = true → Reps K U H ds xs → inV x xs = inD a ds
  | [], xs, _, h => by simp only [Reps] at h; rw [h]; rfl
  | d :: ds, xs, g, h => by
    simp only [Reps] at h
    obtain ⟨y, t, rfl, h1, h2⟩ := h
    simp only [List.all_cons, Bool.and_eq_true] at g
    have ih := inV_of f r g.2 h2
    unfold inV inD at *
    rw [List.any_cons, List.any_cons, eqV_of g.1 f h1 r, ih]
/-- one text in another one -/
def inS (x y : Str) : Bool := !(Builtin.Str.occurrences y x 0 y.length 1).isEmpty
abbrev mInB (neg : Bool) (a b : D) : M D := fun Q _ => match b with
  | .str y => match a with | .str x => Q (.bl (if neg then !inS x y else inS x y)) | _ => False
  | .tup ds => isFlat a = true ∧ ds.all isFlat = true ∧ Q (.bl (if neg then !inD a ds else inD a ds))
  | .lst ds => (isFlat a = true ∧ ds.all isFlat = true ∧ Q (.bl (if neg then !inD a ds else inD a ds)))
  | _ => False
abbrev mIn : D → D → M D := mInB false
abbrev mNotIn : D → D → M D := mInB true
abbrev rInDD (K : PySem.W.Frag) (neg : Bool) : R2 := fun x y H Q => rIn K neg x y H Q ∨ ∃ i j, x = .str i ∧ y = .str j ∧ Q (.bl (if neg then !inS i j else inS i j)) H
theorem opIn {X : Cx} : OpR X (compareOp .In) (rInDD X.K false) := op_in_seq.or op_in_str
theorem opNotIn {X : Cx} : OpR X (compareOp .NotIn) (rInDD X.K true) := op_notIn_seq.or op_notIn_str
theorem rmIn {z : Zc} {neg : Bool} : RM2 z (rInDD z.K neg) (mInB neg) := fun U H a b x y Q Qd E gu hU j ra rb he h k => by
  match b, h with
  | .str i, h =>
    match a, h with
    | .str l, h => exact .inr ⟨l, i, inv_str ra, inv_str rb, k _ _ H h (Ext.refl H) j rep_bl⟩
  | .tup ds, h =>
    obtain ⟨p, xs, rfl, hp, r⟩ := rep_tup_inv rb
    exact .inl ⟨p, xs, rfl, .inr hp.sq, flatV_of h.1 ra, all_flatV h.2.1 r, by rw [inV_of h.1 ra h.2.1 r]; exact k _ _ H h.2.2 (Ext.refl H) j rep_bl⟩
  | .lst ds, h =>
    obtain ⟨p, xs, rfl, hp, r⟩ := rep_lst_inv rb
    exact .inl ⟨p, xs, rfl, .inl (SqL.of hp.1), flatV_of h.1 ra, all_flatV h.2.1 r, by rw [inV_of h.1 ra h.2.1 r]; exact k _ _ H h.2.2 (Ext.refl H) j rep_bl⟩

/-! ### items -/
abbrev mIx (a b : D) : M D := fun Q _ => match a, b with
  | .tup ds, .int i => match atI ds i with | some d => Q d | none => False
  | .lst ds, .int i => match atI ds i with | some d => Q d | none => False
  | .str x, .int i => x.length ≤ sizeLine ∧ match atI x.cps.toList i with | some c => Q (.str ⟨#[c]⟩) | none => False
  | _, _ => False
theorem atI_rep {K : PySem.W.Frag} {U : Addr → Prop} {H : Hp} {ds : List D} {xs : List V} {i : Int} {d : D} (r : Reps K U H ds xs) (h : atI ds i = some d) : ∃ v, atI xs i = some v ∧ Rep K U H d v := by
  unfold atI at *
  rw [r.length]
  cases q : ixN ds.length i with
  | none => rw [q] at h; cases h
  | some j =>
    rw [q] at h
    exact r.getD h
theorem rmIx {z : Zc} : RM2 z (rIx z.K) mIx := fun U H a b x y Q Qd E gu hU j ra rb he h k => by
  match a, b, h with
  | .tup ds, .int i, h =>
    obtain ⟨p, xs, rfl, hp, r⟩ := rep_tup_inv ra
    have h : (match atI ds i with | some d => Qd d | none => False) := h
    cases q : atI ds i with
    | none => rw [q] at h; exact h.elim
    | some d =>
      rw [q] at h
      obtain ⟨v, e, rv⟩ := atI_rep r q
      exact .inr (.inl ⟨p, xs, i, v, rfl, inv_int rb, hp.sq, e, k _ _ H h (Ext.refl H) j rv⟩)
  | .lst ds, .int i, h =>
    obtain ⟨p, xs, rfl, hp, r⟩ := rep_lst_inv ra
    have h : (match atI ds i with | some d => Qd d | none => False) := h
    cases q : atI ds i with
    | none => rw [q] at h; exact h.elim
    | some d =>
      rw [q] at h
      obtain ⟨v, e, rv⟩ := atI_rep r q
      exact .inl ⟨p, xs, i, v, rfl, inv_int rb, SqL.of hp.1, e, k _ _ H h (Ext.refl H) j rv⟩
  | .str s, .int i, h =>
    have h : s.length ≤ sizeLine ∧ (match atI s.cps.toList i with | some c => Qd (.str ⟨#[c]⟩) | none => False) := h
    cases q : atI s.cps.toList i with
    | none => rw [q] at h; exact h.2.elim
    | some d =>
      rw [q] at h
      exact .inr (.inr ⟨s, i, d, inv_str ra, inv_int rb, h.1, q, k _ _ H h.2 (Ext.refl H) j rep_str⟩)
section
variable {X : Cx} {z : Zc} {a b : Expr} {ta tb : TE} {ma mb : DEnv → M D} {pos p2 : Pos}
theorem de_ix (hK : X.K = z.K) (ha : DE X z a ta ma) (hb : DE X z b tb mb) (hs : PlainIx b := by exact fun _ _ => rfl) : DE X z (.Subscript a b pos) (tOp (rIx z.K) ta tb) (fun ρ => bnd (ma ρ) fun x => bnd (mb ρ) fun y => mIx x y) :=
  ⟨by rw [← hK]; exact pe_ix ix_seq ha.pe hb.pe hs, tm_op rmIx ha.tm hb.tm⟩

/-! ### slices -/
def TMo (z : Zc) (to : TO) (m : DEnv → M (Option Int)) : Prop := ∀ (U : Addr → Prop) (σ : L2.St) (H : Hp) (ρ : DEnv) (Q : Option Int → Hp → Prop) (Qd : Option Int → Prop) (E : DX → Prop), WR z U σ H ρ → (∀ x, E x → z.Ed x) → m ρ Qd E →
  (∀ b H', Qd b → Ext z.g.G H H' → z.g.J H' → Q b H') → to σ H Q
structure DO (X : Cx) (z : Zc) (e : Option Expr) (te : TO) (m : DEnv → M (Option Int)) : Prop where
  pe : PO X e te
  tm : TMo z te m
theorem do_none : DO X z none tNoPart (fun _ => ret none) := ⟨po_none, fun U σ H ρ Q Qd E w he h k => k none H h (Ext.refl H) w.j⟩
abbrev asI (d : D) : M (Option Int) := fun Q _ => match d with | .int i => Q (some i) | _ => False
theorem do_some (ha : DE X z a ta ma) : DO X z (some a) (tPart ta) (fun ρ => bnd (ma ρ) asI) := ⟨po_some ha.pe, fun U σ H ρ Q Qd E w he h k => ha.tm U σ H ρ _ _ E w he h fun d v H1 h1 e1 j1 r1 => by
  match d, h1 with
  | .int i, h1 => exact ⟨i, inv_int r1, k (some i) H1 h1 e1 j1⟩⟩
def cutD {α : Type} (xs : List α) (lo hi : Option Int) : List α := (xs.drop (HT.sIx xs.length 0 lo)).take (HT.sIx xs.length xs.length hi - HT.sIx xs.length 0 lo)
abbrev mSl (a : D) (lo hi : Option Int) : M D := fun Q _ => match a with
  | .tup ds => Q (.tup (cutD ds lo hi))
  | .lst ds => Q (.lst (cutD ds lo hi))
  | .str x => x.length ≤ sizeLine ∧ Q (.str (cutS x lo hi))
  | _ => False
abbrev rSlD (K : PySem.W.Frag) : V → Option Int → Option Int → Hp → VK → Prop := fun x lo hi H Q => rSlA K x lo hi H Q ∨ rSlL K x lo hi H Q ∨ rSlS x lo hi H Q
theorem slD : SlR X (rSlD X.K) := sl_tupA.or (sl_list.or sl_str)
theorem cut_reps {K : PySem.W.Frag} {U : Addr → Prop} {H : Hp} {ds : List D} {xs : List V} (r : Reps K U H ds xs) (lo hi : Option Int) : Reps K U H (cutD ds lo hi) (cutV xs lo hi) := by
  unfold cutD cutV
  rw [r.length]
  exact (r.drop _).take _
theorem cut_whole {α : Type} {xs : List α} {lo hi : Option Int} (h : HT.sIx xs.length 0 lo = 0 ∧ HT.sIx xs.length xs.length hi = xs.length) : cutD xs lo hi = xs := by
  unfold cutD
  rw [h.1, h.2]
  simp
variable {el eu : Option Expr} {tl th : TO} {ml mu : DEnv → M (Option Int)}
theorem tm_slice (ha : TMe z ta ma) (hl : TMo z tl ml) (hu : TMo z th mu) : TMe z (tSl (rSlD z.K) ta tl th) (fun ρ => bnd (ma ρ) fun x => bnd (ml ρ) fun l => bnd (mu ρ) fun u => mSl x l u) := fun U σ H ρ Q Qd E w he h k =>
  ha U σ H ρ _ _ E w he h fun d v H1 h1 e1 j1 r1 => hl U σ H1 ρ _ _ E (w.step e1 j1) he h1 fun l H2 h2 e2 j2 => hu U σ H2 ρ _ _ E ((w.step e1 j1).step e2 j2) he h2 fun u H3 h3 e3 j3 => by
    have w3 := ((w.step e1 j1).step e2 j2).step e3 j3
    have r3 := (r1.ext e2 w.gu).ext e3 w.gu
    have e13 := (e1.trans e2).trans e3
    match d, h3 with
    | .tup ds, h3 =>
      obtain ⟨p, xs, rfl, hp, r⟩ := rep_tup_inv r3
      refine .inl ⟨p, xs, rfl, hp.sq, fun q => ?_, fun _ l hl => ?_⟩
      · rw [r.length] at q
        have h4 : Qd (.tup (cutD ds l u)) := h3
        rw [cut_whole q] at h4
        exact k _ _ H3 h4 e13 j3 r3
      · exact k _ _ _ h3 (e13.trans (Ext.new hl)) (z.g.new j3 hl) (rep_tup_new w3.dom hl (cut_reps r _ _))
    | .lst ds, h3 =>
      obtain ⟨p, xs, rfl, hp, r⟩ := rep_lst_inv r3
      exact .inr (.inl ⟨p, xs, rfl, SqL.of hp.1, fun l hl => k _ _ _ h3 (e13.trans (Ext.new hl)) (z.g.new j3 hl) (rep_lst_new w3.dom hl (cut_reps r _ _))⟩)
    | .str x, h3 => exact .inr (.inr ⟨x, inv_str r3, h3.1, k _ _ H3 h3.2 e13 j3 rep_str⟩)
theorem de_slice (hK : X.K = z.K) (ha : DE X z a ta ma) (hl : DO X z el tl ml) (hu : DO X z eu th mu) : DE X z (.Subscript a (.Slice el eu none p2) pos) (tSl (rSlD z.K) ta tl th) (fun ρ => bnd (ma ρ) fun x => bnd (ml ρ) fun l => bnd (mu ρ) fun u => mSl x l u) :=
  ⟨by rw [← hK]; exact pe_slice slD ha.pe hl.pe hu.pe, tm_slice ha.tm hl.tm hu.tm⟩

/-! ### arguments, displays -/
variable {es : List Expr} {tr : TA} {mr : DEnv → M (List D)}
theorem da_nil : DA X z [] tNil (fun _ => ret []) := ⟨pa_nil, fun U σ H ρ Q Qd E w he h k => k [] [] H h (Ext.refl H) w.j Reps.nil⟩
theorem da_cons (ha : DE X z a ta ma) (hr : DA X z es tr mr) (hs : starEach (a :: es) X.env = (false, eval a X.env) :: starEach es X.env := by rfl) : DA X z (a :: es) (tCons ta tr) (fun ρ => bnd (ma ρ) fun x => bnd (mr ρ) fun xs => ret (x :: xs)) :=
  ⟨pa_cons ha.pe hr.pe hs, fun U σ H ρ Q Qd E w he h k => ha.tm U σ H ρ _ _ E w he h fun d v H1 h1 e1 j1 r1 => hr.tm U σ H1 ρ _ _ E (w.step e1 j1) he h1 fun ds vs H2 h2 e2 j2 r2 => k _ _ H2 h2 (e1.trans e2) j2 (Reps.cons (r1.ext e2 w.gu) r2)⟩
abbrev mTup (ds : List D) : M D := fun Q _ => ds.length ≤ sizeLine ∧ Q (.tup ds)
abbrev mLst (ds : List D) : M D := fun Q _ => ds.length ≤ sizeLine ∧ Q (.lst ds)
theorem de_tup {k : Nat} (h : DA X z es tr mr) : DE X z (.Tuple es k pos) (tTup tr) (fun ρ => bnd (mr ρ) mTup) := ⟨pe_tup h.pe, fun U σ H ρ Q Qd E w he hm k => h.tm U σ H ρ _ _ E w he hm fun ds vs H1 h1 e1 j1 r1 =>
  ⟨by rw [r1.length]; exact h1.1, fun p hp => k _ _ _ h1.2 (e1.trans (Ext.new hp)) (z.g.new j1 hp) (rep_tup_new (w.step e1 j1).dom hp r1)⟩⟩
theorem de_lst (h : DA X z es tr mr) : DE X z (.List es pos) (tLst tr) (fun ρ => bnd (mr ρ) mLst) := ⟨pe_lst h.pe, fun U σ H ρ Q Qd E w he hm k => h.tm U σ H ρ _ _ E w he hm fun ds vs H1 h1 e1 j1 r1 =>
  ⟨by rw [r1.length]; exact h1.1, fun p hp => k _ _ _ h1.2 (e1.trans (Ext.new hp)) (z.g.new j1 hp) (rep_lst_new (w.step e1 j1).dom hp r1)⟩⟩

/-! ### built-in calls -/
variable {r : List V → Hp → VK → Prop} {m : List D → M D} {x : Str} {id T : String} {pp : Pos}
theorem tm_cb (hr : RMn z r m) (h : TMa z tr mr) : TMe z (tCB r tr) (fun ρ => bnd (mr ρ) m) := fun U σ H ρ Q Qd E w he hm k =>
  h U σ H ρ _ _ E w he hm fun ds vs H1 h1 e1 j1 r1 => hr U H1 ds vs Q Qd E w.gu (w.step e1 j1).dom j1 r1 he h1 fun d v H' q e2 j2 r2 => k d v H' q (e1.trans e2) j2 r2
theorem de_cb (hc : CallR X (.builtin id) r) (hr : RMn z r m) (hm : X.mg x = none) (hv : bootBuiltins x = some (.builtin id)) (ha : DA X z (a :: es) tr mr) (hg : Gl X x := by rfl) (hn : x ≠ "__name__" := by decide) (hdb : (x == ("__debug__" : Str)) = false := by decide)
    (he : starEach (a :: es) X.env = (false, eval a X.env) :: starEach es X.env := by rfl) (hpl : (backTo pos (starEach es X.env)).any (·.1) = false := by rfl) : DE X z (.Call (.Name x pp) (a :: es) [] pos) (tCB r tr) (fun ρ => bnd (mr ρ) m) :=
  ⟨pe_callB hc hg hm hv ha.pe hn hdb he hpl, tm_cb hr ha.tm⟩
theorem de_ct (hc : CallR X (.type T) r) (hr : RMn z r m) (hm : X.mg x = none) (hv : bootBuiltins x = some (.type T)) (ha : DA X z (a :: es) tr mr) (hg : Gl X x := by rfl) (hn : x ≠ "__name__" := by decide) (hdb : (x == ("__debug__" : Str)) = false := by decide)
    (he : starEach (a :: es) X.env = (false, eval a X.env) :: starEach es X.env := by rfl) (hpl : (backTo pos (starEach es X.env)).any (·.1) = false := by rfl) : DE X z (.Call (.Name x pp) (a :: es) [] pos) (tCB r tr) (fun ρ => bnd (mr ρ) m) :=
  ⟨pe_callTy hc hg hm hv ha.pe hn hdb he hpl, tm_cb hr ha.tm⟩
/-- a module's own name for a built-in function -/
theorem de_cbf (hc : CallR X (.builtin id) r) (hr : RMn z r m) (hm : X.mg x = some (.builtin id)) (ha : DA X z (a :: es) tr mr) (hg : Gl X x := by rfl) (hdb : (x == ("__debug__" : Str)) = false := by decide)
    (he : starEach (a :: es) X.env = (false, eval a X.env) :: starEach es X.env := by rfl) (hpl : (backTo pos (starEach es X.env)).any (·.1) = false := by rfl) : DE X z (.Call (.Name x pp) (a :: es) [] pos) (tCB r tr) (fun ρ => bnd (mr ρ) m) :=
  ⟨pe_callBfun hc hg hm ha.pe hdb he hpl, tm_cb hr ha.tm⟩
abbrev m1 (f : D → M D) (ds : List D) : M D := fun Q E => match ds with | [d] => f d Q E | _ => False
abbrev m2 (f : D → D → M D) (ds : List D) : M D := fun Q E => match ds with | [d, e] => f d e Q E | _ => False
theorem rmn1 {r : List V → Hp → VK → Prop} {f : D → M D} (h : RM1 z (fun x => r [x]) f) : RMn z r (m1 f) := fun U H ds xs Q Qd E gu hU j rs he hm k => by
  match ds, hm with
  | [d], hm =>
    simp only [Reps] at rs
    obtain ⟨x, t, rfl, r1, rfl⟩ := rs
    exact h U H d x Q Qd E gu hU j r1 he hm k
theorem rmn2 {r : List V → Hp → VK → Prop} {f : D → D → M D} (h : RM2 z (fun x y => r [x, y]) f) : RMn z r (m2 f) := fun U H ds xs Q Qd E gu hU j rs he hm k => by
  match ds, hm with
  | [d, e], hm =>
    simp only [Reps] at rs
    obtain ⟨x, t, rfl, r1, y, u, rfl, r2, rfl⟩ := rs
    exact h U H d e x y Q Qd E gu hU j r1 r2 he hm k
abbrev mLen (d : D) : M D := fun Q _ => match d with
  | .tup ds => Q (.int ds.length)
  | .lst ds => Q (.int ds.length)
  | .str x => x.length ≤ sizeLine ∧ Q (.int x.length)
  | _ => False
abbrev rLenD (K : PySem.W.Frag) : List V → Hp → VK → Prop := fun xs H Q => (∃ p ys, xs = [.ref p] ∧ (SqL K H p ys ∨ SqT K H p ys) ∧ Q (.int ys.length) H) ∨ ∃ z, xs = [.str z] ∧ z.length ≤ sizeLine ∧ Q (.int z.length) H
theorem crLen : CallR X (.builtin "len") (rLenD X.K) := call_len_seq.or call_len_str
theorem rmLen : RMn z (rLenD z.K) (m1 mLen) := rmn1 fun U H a x Q Qd E gu hU j ra he h k => by
  match a, h with
  | .tup ds, h =>
    obtain ⟨p, xs, rfl, hp, r⟩ := rep_tup_inv ra
    exact .inl ⟨p, xs, rfl, .inr hp.sq, by rw [r.length]; exact k _ _ H h (Ext.refl H) j rep_int⟩
  | .lst ds, h =>
    obtain ⟨p, xs, rfl, hp, r⟩ := rep_lst_inv ra
    exact .inl ⟨p, xs, rfl, .inl (SqL.of hp.1), by rw [r.length]; exact k _ _ H h (Ext.refl H) j rep_int⟩
  | .str s, h => exact .inr ⟨s, by rw [inv_str ra], h.1, k _ _ H h.2 (Ext.refl H) j rep_int⟩
abbrev mTupOf (d : D) : M D := fun Q _ => match d with
  | .tup ds => Q (.tup ds)
  | .lst ds => Q (.tup ds)
  | _ => False
abbrev mLstOf (d : D) : M D := fun Q _ => match d with
  | .tup ds => Q (.lst ds)
  | .lst ds => Q (.lst ds)
  | _ => False
abbrev rTupOf (K : PySem.W.Frag) : List V → Hp → VK → Prop := fun xs H Q => ∃ p ys, xs = [.ref p] ∧ ((SqL K H p ys ∧ ∀ l, H l = none → Q (.ref l) (upd H l (.tup ys))) ∨ (SqT K H p ys ∧ Q (.ref p) H))
abbrev rLstOf (K : PySem.W.Frag) : List V → Hp → VK → Prop := fun xs H Q => ∃ p ys, xs = [.ref p] ∧ (SqL K H p ys ∨ SqT K H p ys) ∧ ∀ l, H l = none → Q (.ref l) (upd H l (.lst ys))
theorem crTup : CallR X (.type "tuple") (rTupOf X.K) := call_tuple_of
theorem crLst : CallR X (.type "list") (rLstOf X.K) := call_list_of
theorem rmTup : RMn z (rTupOf z.K) (m1 mTupOf) := rmn1 fun U H a x Q Qd E gu hU j ra he h k => by
  match a, h with
  | .tup ds, h =>
    obtain ⟨p, xs, rfl, hp, r⟩ := rep_tup_inv ra
    exact ⟨p, xs, rfl, .inr ⟨hp.sq, k _ _ H h (Ext.refl H) j ra⟩⟩
  | .lst ds, h =>
    obtain ⟨p, xs, rfl, hp, r⟩ := rep_lst_inv ra
    exact ⟨p, xs, rfl, .inl ⟨SqL.of hp.1, fun l hl => k _ _ _ h (Ext.new hl) (z.g.new j hl) (rep_tup_new hU hl r)⟩⟩
theorem rmLst : RMn z (rLstOf z.K) (m1 mLstOf) := rmn1 fun U H a x Q Qd E gu hU j ra he h k => by
  match a, h with
  | .tup ds, h =>
    obtain ⟨p, xs, rfl, hp, r⟩ := rep_tup_inv ra
    exact ⟨p, xs, rfl, .inr hp.sq, fun l hl => k _ _ _ h (Ext.new hl) (z.g.new j hl) (rep_lst_new hU hl r)⟩
  | .lst ds, h =>
    obtain ⟨p, xs, rfl, hp, r⟩ := rep_lst_inv ra
    exact ⟨p, xs, rfl, .inl (SqL.of hp.1), fun l hl => k _ _ _ h (Ext.new hl) (z.g.new j hl) (rep_lst_new hU hl r)⟩
/-- the ints of a list, if they are such -/
def intsOf : List D → Option (List Int)
  | [] => some []
  | .int i :: r => (intsOf r).map (i :: ·)
  | _ :: _ => none
theorem intsOf_eq : ∀ {ds : List D} {ns : List Int}, intsOf ds = some ns → ds = ns.map D.int
  | [], ns, h => by simp [intsOf] at h; subst h; rfl
  | .int i :: r, ns, h => by
    simp only [intsOf, Option.map_eq_some_iff] at h
    obtain ⟨m, h1, rfl⟩ := h
    rw [intsOf_eq h1]
    rfl
  | .non :: _, _, h => by simp [intsOf] at h
  | .bl _ :: _, _, h => by simp [intsOf] at h
  | .str _ :: _, _, h => by simp [intsOf] at h
  | .ty _ :: _, _, h => by simp [intsOf] at h
  | .obj _ :: _, _, h => by simp [intsOf] at h
  | .tup _ :: _, _, h => by simp [intsOf] at h
  | .lst _ :: _, _, h => by simp [intsOf] at h
  | .ins _ _ _ :: _, _, h => by simp [intsOf] at h
  | .dK _ _ :: _, _, h => by simp [intsOf] at h
  | .dT _ _ :: _, _, h => by simp [intsOf] at h
  | .ptup _ :: _, _, h => by simp [intsOf] at h
  | .err _ _ _ _ _ :: _, _, h => by simp [intsOf] at h
  | .lsta _ _ :: _, _, h => by simp [intsOf] at h
theorem intsOf_map : ∀ ns : List Int, intsOf (ns.map D.int) = some ns
  | [] => rfl
  | n :: ns => by simp [intsOf, intsOf_map ns]
def blsOf : List D → Option (List Bool)
  | [] => some []
  | .bl i :: r => (blsOf r).map (i :: ·)
  | _ :: _ => none
theorem blsOf_eq : ∀ {ds : List D} {ns : List Bool}, blsOf ds = some ns → ds = ns.map D.bl
  | [], ns, h => by simp [blsOf] at h; subst h; rfl
  | .bl i :: r, ns, h => by
    simp only [blsOf, Option.map_eq_some_iff] at h
    obtain ⟨m, h1, rfl⟩ := h
    rw [blsOf_eq h1]
    rfl
  | .non :: _, _, h => by simp [blsOf] at h
  | .int _ :: _, _, h => by simp [blsOf] at h
  | .str _ :: _, _, h => by simp [blsOf] at h
  | .ty _ :: _, _, h => by simp [blsOf] at h
  | .obj _ :: _, _, h => by simp [blsOf] at h
  | .tup _ :: _, _, h => by simp [blsOf] at h
  | .lst _ :: _, _, h => by simp [blsOf] at h
  | .ins _ _ _ :: _, _, h => by simp [blsOf] at h
  | .dK _ _ :: _, _, h => by simp [blsOf] at h
  | .dT _ _ :: _, _, h => by simp [blsOf] at h
  | .ptup _ :: _, _, h => by simp [blsOf] at h
  | .err _ _ _ _ _ :: _, _, h => by simp [blsOf] at h
  | .lsta _ _ :: _, _, h => by simp [blsOf] at h
theorem blsOf_map : ∀ ns : List Bool, blsOf (ns.map D.bl) = some ns
  | [] => rfl
  | n :: ns => by simp [blsOf, blsOf_map ns]
def strsOf : List D → Option (List Str)
  | [] => some []
  | .str i :: r => (strsOf r).map (i :: ·)
  | _ :: _ => none
theorem strsOf_eq : ∀ {ds : List D} {ns : List Str}, strsOf ds = some ns → ds = ns.map D.str
  | [], ns, h => by simp [strsOf] at h; subst h; rfl
  | .str i :: r, ns, h => by
    simp only [strsOf, Option.map_eq_some_iff] at h
    obtain ⟨m, h1, rfl⟩ := h
    rw [strsOf_eq h1]
    rfl
  | .non :: _, _, h => by simp [strsOf] at h
  | .int _ :: _, _, h => by simp [strsOf] at h
  | .bl _ :: _, _, h => by simp [strsOf] at h
  | .ty _ :: _, _, h => by simp [strsOf] at h
  | .obj _ :: _, _, h => by simp [strsOf] at h
  | .tup _ :: _, _, h => by simp [strsOf] at h
  | .lst _ :: _, _, h => by simp [strsOf] at h
  | .ins _ _ _ :: _, _, h => by simp [strsOf] at h
  | .dK _ _ :: _, _, h => by simp [strsOf] at h
  | .dT _ _ :: _, _, h => by simp [strsOf] at h
  | .ptup _ :: _, _, h => by simp [strsOf] at h
  | .err _ _ _ _ _ :: _, _, h => by simp [strsOf] at h
  | .lsta _ _ :: _, _, h => by simp [strsOf] at h
theorem strsOf_map : ∀ ns : List Str, strsOf (ns.map D.str) = some ns
  | [] => rfl
  | n :: ns => by simp [strsOf, strsOf_map ns]
/-- all, any of a list of truth values -/
abbrev mAllL (f : List Bool → Bool) (d : D) : M D := fun Q _ => match d with
  | .lst ds => match blsOf ds with | some bs => Q (.bl (f bs)) | none => False
  | _ => False
abbrev mAll : D → M D := mAllL fun bs => bs.all _root_.id
abbrev mAny : D → M D := mAllL fun bs => bs.any _root_.id
theorem rmBls {K : PySem.W.Frag} {f : List Bool → Bool} (e : K = z.K) : RMn z (fun vs H Q => ∃ (a : Addr) (bs : List Bool), vs = [V.ref a] ∧ SqL K H a (bs.map V.bl) ∧ Q (.bl (f bs)) H) (m1 (mAllL f)) := rmn1 fun U H a x Q Qd E gu hU j ra he h k => by
  match a, h with
  | .lst ds, h =>
    have h : (match blsOf ds with | some bs => Qd (.bl (f bs)) | none => False) := h
    cases q : blsOf ds with
    | none => rw [q] at h; exact h.elim
    | some bs =>
      rw [q] at h
      obtain ⟨p, xs, rfl, hp, r⟩ := rep_lst_inv ra
      rw [blsOf_eq q] at r
      exact ⟨p, bs, rfl, by rw [← reps_bls r]; exact SqL.of hp.1, k _ _ H h (Ext.refl H) j rep_bl⟩
theorem rmAll : RMn z (rAll z.K) (m1 mAll) := rmBls rfl
theorem rmAny : RMn z (rAny z.K) (m1 mAny) := rmBls rfl
/-- int(..), abs(..) of an int -/
abbrev mInt (d : D) : M D := fun Q _ => match d with | .int i => Q (.int i) | .bl b => Q (.int (if b then 1 else 0)) | _ => False
abbrev rIntD : List V → Hp → VK → Prop := fun xs H Q => (∃ i, xs = [.int i] ∧ Q (.int i) H) ∨ ∃ k, xs = [.bl k] ∧ Q (.int (if k then 1 else 0)) H
theorem crInt : CallR X (.type "int") rIntD := call_int1
theorem rmInt : RMn z rIntD (m1 mInt) := rmn1 fun U H a x Q Qd E gu hU j ra he h k => by
  match a, h with
  | .int i, h => exact .inl ⟨i, by rw [inv_int ra], k _ _ H h (Ext.refl H) j rep_int⟩
  | .bl i, h => exact .inr ⟨i, by rw [inv_bl ra], k _ _ H h (Ext.refl H) j rep_int⟩
abbrev mAbs (d : D) : M D := fun Q _ => match d with | .int i => Q (.int (if i < 0 then -i else i)) | _ => False
abbrev rAbs : List V → Hp → VK → Prop := fun xs H Q => ∃ i, xs = [.int i] ∧ Q (.int (if i < 0 then -i else i)) H
theorem crAbs : CallR X (.builtin "abs") rAbs := call_abs
theorem rmAbs : RMn z rAbs (m1 mAbs) := rmn1 fun U H a x Q Qd E gu hU j ra he h k => by
  match a, h with
  | .int i, h => exact ⟨i, by rw [inv_int ra], k _ _ H h (Ext.refl H) j rep_int⟩
abbrev mGcd (a b : D) : M D := fun Q _ => match a, b with | .int i, .int j => Q (.int ((Nat.gcd i.natAbs j.natAbs : Nat) : Int)) | _, _ => False
theorem rmGcd : RMn z rGcd (m2 mGcd) := rmn2 fun U H a b x y Q Qd E gu hU j ra rb he h k => by
  match a, b, h with
  | .int i, .int l, h => exact ⟨i, l, by rw [inv_int ra, inv_int rb], k _ _ H h (Ext.refl H) j rep_int⟩
end
end DL

/-! DStmt: statements over data; the lists that a def owns. -/
namespace DL
open PySem PySem.Spec PyProof.Rows L2

/-- what may change: the caller's, and the def's own lists (the slots O, at oa) -/
def Uo (z : Zc) (O : List Nat) (oa : Nat → Addr) (ρ : DEnv) : Addr → Prop := fun a => z.U0 a ∨ ∃ i : Nat, i ∈ O ∧ (∃ d, ρ[i]? = some (some d)) ∧ oa i = a
def Zc.keep (z : Zc) (kp : List (D × V)) : Zc := { z with kept := kp ++ z.kept }
/-- an own object: a list, a dict -/
def OwnO (K : PySem.W.Frag) (U : Addr → Prop) (H : Hp) (d : D) (u : HO) : Prop :=
  (∃ ds xs, d = .lst ds ∧ u = .lst xs ∧ Reps K U H ds xs) ∨ ∃ ks ds kvs, d = .dK ks ds ∧ u = .dK kvs ∧ kvs.map (·.1) = ks ∧ Reps K U H ds (kvs.map (·.2))
theorem OwnO.mono' {K : PySem.W.Frag} {U U' : Addr → Prop} {H H' : Hp} {d : D} {u : HO} (e : ∀ a o, H a = some o → ¬ U a → H' a = some o ∧ ¬ U' a) (h : OwnO K U H d u) : OwnO K U' H' d u := by
  rcases h with ⟨ds, xs, e0, e1, r⟩ | ⟨ks, ds, kvs, e0, e1, e2, r⟩
  · exact .inl ⟨ds, xs, e0, e1, Reps.mono' e ds xs r⟩
  · exact .inr ⟨ks, ds, kvs, e0, e1, e2, Reps.mono' e ds _ r⟩
theorem OwnO.less {K : PySem.W.Frag} {U U' : Addr → Prop} {H : Hp} {d : D} {u : HO} (h : OwnO K U H d u) (g : ∀ a, U' a → U a) : OwnO K U' H d u := h.mono' fun _ _ e n => ⟨e, fun z => n (g _ z)⟩
theorem OwnO.ext {K : PySem.W.Frag} {G U : Addr → Prop} {H H' : Hp} {d : D} {u : HO} (h : OwnO K U H d u) (e : Ext G H H') (g : ∀ a, G a → U a) : OwnO K U H' d u := h.mono' fun a o h n => ⟨e a o h fun z => n (g a z), n⟩
theorem OwnO.rep {K : PySem.W.Frag} {U U' : Addr → Prop} {H : Hp} {d : D} {u : HO} {a : Addr} (h : OwnO K U H d u) (ha : H a = some u) (na : ¬ U' a) (g : ∀ a, U' a → U a) : Rep K U' H d (.ref a) := by
  rcases h.less g with ⟨ds, xs, rfl, rfl, r⟩ | ⟨ks, ds, kvs, rfl, rfl, e2, r⟩
  · simp only [Rep]; exact ⟨a, xs, rfl, ⟨ha, na⟩, r⟩
  · simp only [Rep]; exact ⟨a, kvs, rfl, ⟨ha, na, e2⟩, r⟩
theorem OwnO.nx {K : PySem.W.Frag} {U : Addr → Prop} {H : Hp} {d : D} {u : HO} (h : OwnO K U H d u) : (∀ φ, u ≠ .ext φ) ∧ (∀ xs, u ≠ .tup xs) ∧ ∀ o xs, u ≠ .frz o (.tup xs) := by
  rcases h with ⟨ds, xs, rfl, rfl, r⟩ | ⟨ks, ds, kvs, rfl, rfl, e2, r⟩ <;> refine ⟨fun _ q => ?_, fun _ q => ?_, fun _ _ q => ?_⟩ <;> cases q
structure SO (z : Zc) (O : List Nat) (oa : Nat → Addr) (σ : L2.St) (H : Hp) (ρ : DEnv) : Prop where
  ok : z.Ok
  ext : Ext z.g.G z.H0 H
  j : z.g.J H
  d0 : ∀ a, z.U0 a → H a ≠ none
  len : ρ.length = σ.length
  env : ∀ (i : Nat) (d : D), i ∉ O → ρ[i]? = some (some d) → ∃ v, σ[i]? = some (some v) ∧ Rep z.K (Uo z O oa ρ) H d v
  own : ∀ (i : Nat) (d : D), i ∈ O → ρ[i]? = some (some d) → z.H0 (oa i) = none ∧ ¬ z.U0 (oa i) ∧ ∃ u, OwnO z.K (Uo z O oa ρ) H d u ∧ σ[i]? = some (some (.ref (oa i))) ∧ H (oa i) = some u
  inj : ∀ (i k : Nat), i ∈ O → k ∈ O → (∃ d, ρ[i]? = some (some d)) → (∃ d, ρ[k]? = some (some d)) → oa i = oa k → i = k
  kp : ∀ p, p ∈ z.kept → Rep z.K (Uo z O oa ρ) H p.1 p.2
/-- the environment without the own lists -/
def hide (O : List Nat) (ρ : DEnv) : DEnv := O.foldr (fun i r => r.set i none) ρ
theorem hide_length : ∀ (O : List Nat) (ρ : DEnv), (hide O ρ).length = ρ.length
  | [], ρ => rfl
  | o :: O, ρ => by
    show ((hide O ρ).set o none).length = _
    rw [List.length_set, hide_length O ρ]
theorem hide_some : ∀ {O : List Nat} {ρ : DEnv} {i : Nat} {d : D}, (hide O ρ)[i]? = some (some d) → i ∉ O ∧ ρ[i]? = some (some d)
  | [], ρ, i, d, h => ⟨by simp, h⟩
  | o :: O, ρ, i, d, h => by
    have h : ((hide O ρ).set o none)[i]? = some (some d) := h
    by_cases e : o = i
    · subst e
      by_cases hl : o < (hide O ρ).length
      · rw [List.getElem?_set_self hl] at h
        cases h
      · rw [List.getElem?_eq_none (by simpa using hl)] at h
        cases h
    · rw [List.getElem?_set_ne e] at h
      obtain ⟨h1, h2⟩ := hide_some h
      exact ⟨by simp only [List.mem_cons, not_or]; exact ⟨fun q => e q.symm, h1⟩, h2⟩
section
variable {z : Zc} {O : List Nat} {oa : Nat → Addr} {σ : L2.St} {H H' : Hp} {ρ : DEnv}
theorem SO.gu (s : SO z O oa σ H ρ) : ∀ a, z.g.G a → Uo z O oa ρ a := fun a h => .inl (s.ok.gu a h)
theorem SO.dom (s : SO z O oa σ H ρ) : ∀ a, Uo z O oa ρ a → H a ≠ none := fun a h => by
  rcases h with h | ⟨i, hi, ⟨d, hd⟩, rfl⟩
  · exact s.d0 a h
  · obtain ⟨_, _, u, _, _, e⟩ := s.own i d hi hd
    rw [e]
    simp
/-- all own lists read as lists -/
theorem SO.full (s : SO z O oa σ H ρ) : WR z z.U0 σ H ρ := ⟨s.ok, fun _ h => h, s.d0, s.ext, s.j, s.len, fun (i : Nat) (d : D) h => by
  by_cases hi : i ∈ O
  · obtain ⟨_, nu, u, r, e1, e2⟩ := s.own i d hi h
    exact ⟨_, e1, r.rep e2 nu fun a h => .inl h⟩
  · obtain ⟨v, e1, r⟩ := s.env i d hi h
    exact ⟨v, e1, r.less fun a h => .inl h⟩⟩
/-- the own lists not looked at -/
theorem SO.vis (s : SO z O oa σ H ρ) : WR z (Uo z O oa ρ) σ H (hide O ρ) := ⟨s.ok, fun _ h => .inl h, s.dom, s.ext, s.j, by rw [hide_length]; exact s.len, fun (i : Nat) (d : D) h => by
  obtain ⟨hi, h⟩ := hide_some h
  exact s.env i d hi h⟩
theorem SO.step (s : SO z O oa σ H ρ) (e : Ext z.g.G H H') (j : z.g.J H') : SO z O oa σ H' ρ := by
  have gu := s.gu
  refine ⟨s.ok, s.ext.trans e, j, fun a h => ?_, s.len, fun i d hi h => ?_, fun i d hi h => ?_, s.inj, fun p hp => (s.kp p hp).ext e gu⟩
  · by_cases hg : z.g.G a
    · exact z.g.dom H' a j hg
    · cases q : H a with
      | none => exact absurd q (s.d0 a h)
      | some o => rw [e a o q hg]; simp
  · obtain ⟨v, h1, h2⟩ := s.env i d hi h
    exact ⟨v, h1, h2.ext e gu⟩
  · obtain ⟨h0, nu, u, r, e1, e2⟩ := s.own i d hi h
    exact ⟨h0, nu, u, r.ext e gu, e1, e _ _ e2 fun q => nu (s.ok.gu _ q)⟩
theorem Uo_set {i : Nat} {d : D} (hi : i ∉ O) : Uo z O oa (ρ.set i (some d)) = Uo z O oa ρ := by
  funext a
  apply propext
  unfold Uo
  constructor
  · rintro (h | ⟨k, hk, ⟨d', h⟩, e⟩)
    · exact .inl h
    · have hne : i ≠ k := fun q => hi (q ▸ hk)
      rw [List.getElem?_set_ne hne] at h
      exact .inr ⟨k, hk, ⟨d', h⟩, e⟩
  · rintro (h | ⟨k, hk, ⟨d', h⟩, e⟩)
    · exact .inl h
    · have hne : i ≠ k := fun q => hi (q ▸ hk)
      exact .inr ⟨k, hk, ⟨d', by rw [List.getElem?_set_ne hne]; exact h⟩, e⟩
theorem set_some {α : Type} {l : List (Option α)} {i k : Nat} {d d' : α} (h : (l.set i (some d))[k]? = some (some d')) : (k = i ∧ i < l.length ∧ d = d') ∨ (k ≠ i ∧ l[k]? = some (some d')) := by
  by_cases e : i = k
  · subst e
    by_cases hl : i < l.length
    · rw [List.getElem?_set_self hl] at h
      exact .inl ⟨rfl, hl, by simpa using h⟩
    · rw [List.getElem?_eq_none (by simpa using hl)] at h
      cases h
  · rw [List.getElem?_set_ne e] at h
    exact .inr ⟨fun q => e q.symm, h⟩
theorem SO.set (s : SO z O oa σ H ρ) {i : Nat} {d : D} {v : V} (hi : i ∉ O) (r : Rep z.K (Uo z O oa ρ) H d v) : SO z O oa (σ.set i (some v)) H (ρ.set i (some d)) := by
  refine ⟨s.ok, s.ext, s.j, s.d0, by simpa using s.len, fun k d' hk h => ?_, fun k d' hk h => ?_, fun k l hk hl ⟨d1, h1⟩ ⟨d2, h2⟩ e => ?_, fun p hp => by rw [Uo_set hi]; exact s.kp p hp⟩
  · rw [Uo_set hi]
    rcases set_some h with ⟨e, hl, e2⟩ | ⟨ne, h⟩
    · subst e; subst e2
      exact ⟨v, by rw [List.getElem?_set_self (by rw [← s.len]; exact hl)], r⟩
    · obtain ⟨v', e1, r'⟩ := s.env k d' hk h
      exact ⟨v', by rw [List.getElem?_set_ne (Ne.symm ne)]; exact e1, r'⟩
  · rw [Uo_set hi]
    rcases set_some h with ⟨e, _, _⟩ | ⟨ne, h⟩
    · exact absurd (e ▸ hk) hi
    · obtain ⟨h0, nu, u, r', e1, e2⟩ := s.own k d' hk h
      exact ⟨h0, nu, u, r', by rw [List.getElem?_set_ne (Ne.symm ne)]; exact e1, e2⟩
  · refine s.inj k l hk hl ?_ ?_ e
    · rcases set_some h1 with ⟨e, _, _⟩ | ⟨_, h⟩
      · exact absurd (e ▸ hk) hi
      · exact ⟨_, h⟩
    · rcases set_some h2 with ⟨e, _, _⟩ | ⟨_, h⟩
      · exact absurd (e ▸ hl) hi
      · exact ⟨_, h⟩
/-- a new list becomes the def's own -/
theorem SO.setOwn (s : SO z O oa σ H ρ) {i : Nat} {a : Addr} {dd : D} {uu : HO} (hi : i ∈ O) (e : Ext z.g.G H H') (j : z.g.J H') (ha : H a = none) (ha' : H' a = some uu) (r : OwnO z.K (fun b => Uo z O oa ρ b ∨ b = a) H' dd uu) :
    SO z O (fun k => if k = i then a else oa k) (σ.set i (some (.ref a))) H' (ρ.set i (some dd)) := by
  have s' := s.step e j
  have g0 : ¬ z.g.G a := fun q => z.g.dom H a s.j q ha
  have hsub : ∀ b, Uo z O (fun k => if k = i then a else oa k) (ρ.set i (some dd)) b → (Uo z O oa ρ b ∨ b = a) := fun b h => by
    rcases h with h | ⟨k, hk, ⟨d', h⟩, e⟩
    · exact .inl (.inl h)
    · by_cases hki : k = i
      · subst hki
        simp only [↓reduceIte] at e
        exact .inr e.symm
      · simp only [if_neg hki] at e
        rcases set_some h with ⟨q, _, _⟩ | ⟨_, h⟩
        · exact absurd q hki
        · exact .inl (.inr ⟨k, hk, ⟨d', h⟩, e⟩)
  have rl : ∀ {d : D} {v : V}, Rep z.K (Uo z O oa ρ) H d v → Rep z.K (Uo z O (fun k => if k = i then a else oa k) (ρ.set i (some dd))) H' d v := fun {d v} h => by
    refine Rep.mono' (fun b o hb n => ⟨e b o hb fun q => n (s.gu b q), fun q => ?_⟩) d v h
    rcases hsub b q with q | q
    · exact n q
    · subst q; rw [ha] at hb; cases hb
  have rls : ∀ {d : D} {v : HO}, OwnO z.K (Uo z O oa ρ) H d v → OwnO z.K (Uo z O (fun k => if k = i then a else oa k) (ρ.set i (some dd))) H' d v := fun {d v} h => by
    refine h.mono' (fun b o hb n => ⟨e b o hb fun q => n (s.gu b q), fun q => ?_⟩)
    rcases hsub b q with q | q
    · exact n q
    · subst q; rw [ha] at hb; cases hb
  refine ⟨s.ok, s'.ext, j, s'.d0, by simpa using s.len, fun k d' hk h => ?_, fun k d' hk h => ?_, fun k l hk hl ⟨d1, h1⟩ ⟨d2, h2⟩ eq => ?_, fun p hp => rl (s.kp p hp)⟩
  · rcases set_some h with ⟨q, _, _⟩ | ⟨ne, h⟩
    · exact absurd hi (q ▸ hk)
    · obtain ⟨v', e1, r'⟩ := s.env k d' hk h
      exact ⟨v', by rw [List.getElem?_set_ne (Ne.symm ne)]; exact e1, rl r'⟩
  · rcases set_some h with ⟨q, hl, q2⟩ | ⟨ne, h⟩
    · subst q; subst q2
      simp only [↓reduceIte]
      refine ⟨?_, fun q => s.d0 a q ha, uu, r.less hsub, by rw [List.getElem?_set_self (by rw [← s.len]; exact hl)], ha'⟩
      cases q : z.H0 a with
      | none => rfl
      | some o => rw [s.ext a o q g0] at ha; cases ha
    · simp only [if_neg ne]
      obtain ⟨h0, nu, u', r', e1, e2⟩ := s.own k d' hk h
      exact ⟨h0, nu, u', rls r', by rw [List.getElem?_set_ne (Ne.symm ne)]; exact e1, e _ _ e2 fun q => nu (s.ok.gu _ q)⟩
  · have at_ : ∀ {k : Nat} {d' : D}, k ∈ O → k ≠ i → (ρ.set i (some dd))[k]? = some (some d') → oa k ≠ a := fun {k d'} hk ne h q => by
      rcases set_some h with ⟨q, _, _⟩ | ⟨_, h⟩
      · exact ne q
      · obtain ⟨_, _, _, _, _, e2⟩ := s.own k d' hk h
        rw [q, ha] at e2
        cases e2
    by_cases hki : k = i
    · by_cases hli : l = i
      · rw [hki, hli]
      · simp only [if_pos hki, if_neg hli] at eq
        exact absurd eq.symm (at_ hl hli h2)
    · by_cases hli : l = i
      · simp only [if_neg hki, if_pos hli] at eq
        exact absurd eq (at_ hk hki h1)
      · simp only [if_neg hki, if_neg hli] at eq
        refine s.inj k l hk hl ?_ ?_ eq
        · rcases set_some h1 with ⟨q, _, _⟩ | ⟨_, h⟩
          · exact absurd q hki
          · exact ⟨_, h⟩
        · rcases set_some h2 with ⟨q, _, _⟩ | ⟨_, h⟩
          · exact absurd q hli
          · exact ⟨_, h⟩
/-- an own list is changed -/
theorem SO.putO (s : SO z O oa σ H ρ) {i : Nat} {d0 dd : D} {uu : HO} (hi : i ∈ O) (h : ρ[i]? = some (some d0)) (r : OwnO z.K (Uo z O oa ρ) H dd uu) : SO z O oa σ (upd H (oa i) uu) (ρ.set i (some dd)) := by
  obtain ⟨h0, nu, u0, r0, e1, e2⟩ := s.own i d0 hi h
  have hlt : i < ρ.length := (List.getElem?_eq_some_iff.mp h).1
  have hU : Uo z O oa (ρ.set i (some dd)) = Uo z O oa ρ := by
    funext a
    apply propext
    unfold Uo
    constructor
    · rintro (h | ⟨k, hk, ⟨d', h'⟩, e⟩)
      · exact .inl h
      · rcases set_some h' with ⟨q, _, _⟩ | ⟨_, h'⟩
        · subst q; exact .inr ⟨k, hk, ⟨_, h⟩, e⟩
        · exact .inr ⟨k, hk, ⟨d', h'⟩, e⟩
    · rintro (h | ⟨k, hk, ⟨d', h'⟩, e⟩)
      · exact .inl h
      · by_cases q : k = i
        · subst q; exact .inr ⟨k, hk, ⟨dd, by rw [List.getElem?_set_self hlt]⟩, e⟩
        · exact .inr ⟨k, hk, ⟨d', by rw [List.getElem?_set_ne (Ne.symm q)]; exact h'⟩, e⟩
  have inU : Uo z O oa ρ (oa i) := .inr ⟨i, hi, ⟨_, h⟩, rfl⟩
  have rl : ∀ (d : D) (v : V), Rep z.K (Uo z O oa ρ) H d v → Rep z.K (Uo z O oa ρ) (upd H (oa i) uu) d v := Rep.mono' fun b o hb n => ⟨by rw [upd_ne (show b ≠ oa i from fun q => n (by rw [q]; exact inU))]; exact hb, n⟩
  have rls : ∀ (d : D) (v : HO), OwnO z.K (Uo z O oa ρ) H d v → OwnO z.K (Uo z O oa ρ) (upd H (oa i) uu) d v := fun d v h => h.mono' fun b o hb n => ⟨by rw [upd_ne (show b ≠ oa i from fun q => n (by rw [q]; exact inU))]; exact hb, n⟩
  refine ⟨s.ok, fun a o ha g => ?_, z.g.st H _ s.j (fun a ha => upd_ne fun q => nu (q ▸ s.ok.gu a ha)) (fun a φ e => by rw [upd_ne (fun q => by rw [q, e2] at e; exact r0.nx.1 φ (Option.some.inj e))]; exact e), fun a ha => ?_, by simpa using s.len, fun k d' hk h' => ?_, fun k d' hk h' => ?_, fun k l hk hl ⟨d1, h1⟩ ⟨d2, h2⟩ eq => ?_, fun p hp => by rw [hU]; exact rl _ _ (s.kp p hp)⟩
  · rw [upd_ne (ne_of_none ha h0)]
    exact s.ext a o ha g
  · by_cases q : a = oa i
    · rw [q, upd_same]; simp
    · rw [upd_ne q]; exact s.d0 a ha
  · rw [hU]
    rcases set_some h' with ⟨q, _, _⟩ | ⟨ne, h'⟩
    · exact absurd hi (q ▸ hk)
    · obtain ⟨v', f1, r'⟩ := s.env k d' hk h'
      exact ⟨v', f1, rl _ _ r'⟩
  · rw [hU]
    rcases set_some h' with ⟨q, _, q2⟩ | ⟨ne, h'⟩
    · subst q; subst q2
      exact ⟨h0, nu, uu, rls _ _ r, e1, upd_same⟩
    · obtain ⟨k0, ku, u', r', f1, f2⟩ := s.own k d' hk h'
      refine ⟨k0, ku, u', rls _ _ r', f1, ?_⟩
      rw [upd_ne fun q => ne (s.inj k i hk hi ⟨_, h'⟩ ⟨_, h⟩ q)]
      exact f2
  · refine s.inj k l hk hl ?_ ?_ eq
    · rcases set_some h1 with ⟨q, _, _⟩ | ⟨_, h'⟩
      · subst q; exact ⟨_, h⟩
      · exact ⟨_, h'⟩
    · rcases set_some h2 with ⟨q, _, _⟩ | ⟨_, h'⟩
      · subst q; exact ⟨_, h⟩
      · exact ⟨_, h'⟩
theorem SO.put (s : SO z O oa σ H ρ) {i : Nat} {d0 : D} {ds : List D} {xs : List V} (hi : i ∈ O) (h : ρ[i]? = some (some d0)) (r : Reps z.K (Uo z O oa ρ) H ds xs) : SO z O oa σ (upd H (oa i) (.lst xs)) (ρ.set i (some (.lst ds))) := s.putO hi h (.inl ⟨ds, xs, rfl, rfl, r⟩)
/-- an own list -/
theorem SO.ownL (s : SO z O oa σ H ρ) {i : Nat} {ds : List D} (hi : i ∈ O) (h : ρ[i]? = some (some (.lst ds))) : ¬ z.U0 (oa i) ∧ ∃ xs, σ[i]? = some (some (.ref (oa i))) ∧ H (oa i) = some (.lst xs) ∧ Reps z.K (Uo z O oa ρ) H ds xs := by
  obtain ⟨_, nu, u, r, e1, e2⟩ := s.own i _ hi h
  rcases r with ⟨ds', xs, e, rfl, r⟩ | ⟨_, _, _, e, _⟩
  · cases e
    exact ⟨nu, xs, e1, e2, r⟩
  · cases e
/-- an own dict -/
theorem SO.ownK (s : SO z O oa σ H ρ) {i : Nat} {ks : List Key} {ds : List D} (hi : i ∈ O) (h : ρ[i]? = some (some (.dK ks ds))) : ¬ z.U0 (oa i) ∧ ∃ kvs, σ[i]? = some (some (.ref (oa i))) ∧ H (oa i) = some (.dK kvs) ∧ kvs.map (·.1) = ks ∧ Reps z.K (Uo z O oa ρ) H ds (kvs.map (·.2)) := by
  obtain ⟨_, nu, u, r, e1, e2⟩ := s.own i _ hi h
  rcases r with ⟨_, _, e, _⟩ | ⟨ks', ds', kvs, e, rfl, ek, r⟩
  · cases e
  · cases e
    exact ⟨nu, kvs, e1, e2, ek, r⟩
/-- an own list is the def's own no longer -/
theorem SO.freeze (s : SO z O oa σ H ρ) {O' : List Nat} (h : ∀ i, i ∈ O' → i ∈ O) : SO z O' oa σ H ρ := by
  have hU : ∀ a, Uo z O' oa ρ a → Uo z O oa ρ a := fun a q => by
    rcases q with q | ⟨k, hk, q, e⟩
    · exact .inl q
    · exact .inr ⟨k, h k hk, q, e⟩
  refine ⟨s.ok, s.ext, s.j, s.d0, s.len, fun i d hi hd => ?_, fun i d hi hd => ?_, fun i k hi hk => s.inj i k (h i hi) (h k hk), fun p hp => (s.kp p hp).less hU⟩
  · by_cases hO : i ∈ O
    · obtain ⟨h0, nu, u, r, e1, e2⟩ := s.own i d hO hd
      refine ⟨_, e1, r.rep e2 ?_ hU⟩
      rintro (q | ⟨k, hk, q, e⟩)
      · exact nu q
      · exact hi (s.inj k i (h k hk) hO q ⟨_, hd⟩ e ▸ hk)
    · obtain ⟨v, e1, r⟩ := s.env i d hO hd
      exact ⟨v, e1, r.less hU⟩
  · obtain ⟨h0, nu, u, r, e1, e2⟩ := s.own i d (h i hi) hd
    exact ⟨h0, nu, u, r.less hU, e1, e2⟩
end

/-! ### statements -/
structure DK where
  nx : DEnv → Prop
  rt : D → Prop
  bk : DEnv → Prop
  ct : DEnv → Prop
abbrev MS := DK → (DX → Prop) → DEnv → Prop
structure KOk (z : Zc) (O : List Nat) (κ : DK) (Dn : Ends) : Prop where
  nx : ∀ oa σ H ρ, SO z O oa σ H ρ → κ.nx ρ → Dn.nx σ H
  rt : ∀ d v H, κ.rt d → Ext z.g.G z.H0 H → z.g.J H → Rep z.K z.U0 H d v → Dn.rt v H
  bk : ∀ oa σ H ρ, SO z O oa σ H ρ → κ.bk ρ → Dn.bk σ H
  ct : ∀ oa σ H ρ, SO z O oa σ H ρ → κ.ct ρ → Dn.ct σ H
theorem TMe.keep {z : Zc} {te : TE} {m : DEnv → M D} (h : TMe z te m) (kp : List (D × V)) : TMe (z.keep kp) te m := fun U σ H ρ Q Qd E w he hm k => h U σ H ρ Q Qd E ⟨⟨w.ok.gu, w.ok.ek⟩, w.u, w.dom, w.ext, w.j, w.env⟩ he hm k
theorem TMt.keep {z : Zc} {te : TT} {m : DEnv → M Bool} (h : TMt z te m) (kp : List (D × V)) : TMt (z.keep kp) te m := fun U σ H ρ Q Qd E w he hm k => h U σ H ρ Q Qd E ⟨⟨w.ok.gu, w.ok.ek⟩, w.u, w.dom, w.ext, w.j, w.env⟩ he hm k
theorem TMa.keep {z : Zc} {te : TA} {m : DEnv → M (List D)} (h : TMa z te m) (kp : List (D × V)) : TMa (z.keep kp) te m := fun U σ H ρ Q Qd E w he hm k => h U σ H ρ Q Qd E ⟨⟨w.ok.gu, w.ok.ek⟩, w.u, w.dom, w.ext, w.j, w.env⟩ he hm k
def TMs (z : Zc) (O : List Nat) (ts : TS) (ms : MS) : Prop := ∀ (kp : List (D × V)) (oa : Nat → Addr) (σ : L2.St) (H : Hp) (ρ : DEnv) (Dn : Ends) (κ : DK) (E : DX → Prop), SO (z.keep kp) O oa σ H ρ → (∀ x, E x → z.Ed x) → KOk (z.keep kp) O κ Dn → ms κ E ρ → ts Dn σ H
/-- .. where nothing is walked -/
def TMs0 (z : Zc) (O : List Nat) (ts : TS) (ms : MS) : Prop := ∀ (oa : Nat → Addr) (σ : L2.St) (H : Hp) (ρ : DEnv) (Dn : Ends) (κ : DK) (E : DX → Prop), SO z O oa σ H ρ → (∀ x, E x → z.Ed x) → KOk z O κ Dn → ms κ E ρ → ts Dn σ H
theorem tms_of {z : Zc} {O : List Nat} {ts : TS} {ms : MS} (h : ∀ kp, TMs0 (z.keep kp) O ts ms) : TMs z O ts ms := fun kp => h kp
structure DS (X : Cx) (z : Zc) (O : List Nat) (st : Stmt) (ts : TS) (ms : MS) : Prop where
  ps : PS X st ts
  tm : TMs z O ts ms
structure DSs (X : Cx) (z : Zc) (O : List Nat) (st : List Stmt) (ts : TS) (ms : MS) : Prop where
  ps : PSs X st ts
  tm : TMs z O ts ms
section
variable {X : Cx} {z : Zc} {O : List Nat} {st : Stmt} {rest : List Stmt} {t u : TS} {m n : MS} {e : Expr} {te : TE} {me : DEnv → M D} {pos : Pos}
abbrev mNext : MS := fun κ _ ρ => κ.nx ρ
abbrev mSeq (m n : MS) : MS := fun κ E ρ => m { κ with nx := n κ E } E ρ
theorem tms_seq (h1 : TMs z O t m) (h2 : TMs z O u n) : TMs z O (tSeq t u) (mSeq m n) := fun kp oa σ H ρ Dn κ E s he ko hm =>
  h1 kp oa σ H ρ { Dn with nx := u Dn } { κ with nx := n κ E } E s he ⟨fun oa' σ' H' ρ' s' q => h2 kp oa' σ' H' ρ' Dn κ E s' he ko q, ko.rt, ko.bk, ko.ct⟩ hm
theorem dss_nil : DSs X z O [] tNext mNext := ⟨pss_nil, fun kp oa σ H ρ Dn κ E s he ko hm => ko.nx oa σ H ρ s hm⟩
theorem dss_cons (h1 : DS X z O st t m) (h2 : DSs X z O rest u n) : DSs X z O (st :: rest) (tSeq t u) (mSeq m n) := ⟨pss_cons h1.ps h2.ps, tms_seq h1.tm h2.tm⟩
theorem dss_one (h1 : DS X z O st t m) : DSs X z O [st] t m := ⟨pss_one h1.ps, h1.tm⟩
/-- from here on (to the return) fewer lists are the def's own -/
theorem dss_freeze (O' : List Nat) (h : DSs X z O' rest t m) (hO : ∀ i, i ∈ O' → i ∈ O := by decide) :
    DSs X z O rest t (fun κ E ρ => m { nx := fun _ => False, rt := κ.rt, bk := fun _ => False, ct := fun _ => False } E ρ) := ⟨h.ps, fun kp oa σ H ρ Dn κ E s he ko hm =>
  h.tm kp oa σ H ρ Dn { nx := fun _ => False, rt := κ.rt, bk := fun _ => False, ct := fun _ => False } E (s.freeze hO) he ⟨fun _ _ _ _ _ q => q.elim, ko.rt, fun _ _ _ _ _ q => q.elim, fun _ _ _ _ _ q => q.elim⟩ hm⟩
theorem ds_pass : DS X z O (.Pass pos) tNext mNext := ⟨ps_pass, fun kp oa σ H ρ Dn κ E s he ko hm => ko.nx oa σ H ρ s hm⟩
theorem ds_break : DS X z O (.Break pos) tBreak (fun κ _ ρ => κ.bk ρ) := ⟨ps_break, fun kp oa σ H ρ Dn κ E s he ko hm => ko.bk oa σ H ρ s hm⟩
theorem ds_continue : DS X z O (.Continue pos) tCont (fun κ _ ρ => κ.ct ρ) := ⟨ps_continue, fun kp oa σ H ρ Dn κ E s he ko hm => ko.ct oa σ H ρ s hm⟩
/-- an expression whose value is dropped -/
theorem ds_expr (he : DE X z e te me) (hs : swapsWith e none pos.line X.env = pure false := by rfl) : DS X z O (.Expr e pos) (tDrop te) (fun κ E ρ => me ρ (fun _ => κ.nx ρ) E) := ⟨ps_expr he.pe hs, fun kp oa σ H ρ Dn κ E s hE ko hm =>
  (he.tm.keep kp) z.U0 σ H ρ _ _ E s.full hE hm fun d v H' q e1 j1 _ => ko.nx oa σ H' ρ (s.step e1 j1) q⟩
theorem ds_ret (he : DE X z e te me) : DS X z O (.Return (some e) pos) (tRet te) (fun κ E ρ => me ρ κ.rt E) := ⟨ps_ret he.pe, fun kp oa σ H ρ Dn κ E s hE ko hm =>
  (he.tm.keep kp) z.U0 σ H ρ _ _ E s.full hE hm fun d v H' q e1 j1 r1 => ko.rt d v H' q (s.ext.trans e1) j1 r1⟩
theorem ds_retN : DS X z O (.Return none pos) tRetN (fun κ _ _ => κ.rt .non) := ⟨ps_retN, fun kp oa σ H ρ Dn κ E s hE ko hm => ko.rt .non .non H hm s.ext s.j (by simp only [Rep])⟩
theorem ds_if {c : Expr} {a b : List Stmt} {tc : TT} {mc : DEnv → M Bool} (hc : DT X z c tc mc) (ha : DSs X z O a t m) (hb : DSs X z O b u n) : DS X z O (.If c a b pos) (tIfS tc t u) (fun κ E ρ => mc ρ (fun q => if q = true then m κ E ρ else n κ E ρ) E) := ⟨ps_if hc.pe ha.ps hb.ps, fun kp oa σ H ρ Dn κ E s hE ko hm =>
  (hc.tm.keep kp) z.U0 σ H ρ _ _ E s.full hE hm fun q H' hq e1 j1 => by
    cases q with
    | true => exact ha.tm kp oa σ H' ρ Dn κ E (s.step e1 j1) hE ko hq
    | false => exact hb.tm kp oa σ H' ρ Dn κ E (s.step e1 j1) hE ko hq⟩
/-- code that is never come to -/
theorem ds_never : DS X z O st tNever (fun _ _ _ => False) := ⟨ps_never, fun _ _ _ _ _ _ _ _ _ _ _ hm => hm.elim⟩
theorem dss_never {sts : List Stmt} : DSs X z O sts tNever (fun _ _ _ => False) := ⟨pss_never, fun _ _ _ _ _ _ _ _ _ _ _ hm => hm.elim⟩

/-! ### targets -/
def TMg (z : Zc) (O : List Nat) (g : TG) (mg : D → (DEnv → Prop) → DEnv → Prop) : Prop := ∀ (kp : List (D × V)) (oa : Nat → Addr) (σ : L2.St) (H : Hp) (ρ : DEnv) (d : D) (v : V) (k : DEnv → Prop) (Q : L2.St → Hp → Prop), SO (z.keep kp) O oa σ H ρ → Rep z.K (Uo (z.keep kp) O oa ρ) H d v → mg d k ρ → (∀ oa' σ' H' ρ', SO (z.keep kp) O oa' σ' H' ρ' → k ρ' → Q σ' H') → g v σ H Q
def TMgs (z : Zc) (O : List Nat) (g : TGs) (mg : List D → (DEnv → Prop) → DEnv → Prop) : Prop := ∀ (kp : List (D × V)) (oa : Nat → Addr) (σ : L2.St) (H : Hp) (ρ : DEnv) (ds : List D) (vs : List V) (k : DEnv → Prop) (Q : L2.St → Hp → Prop), SO (z.keep kp) O oa σ H ρ → Reps z.K (Uo (z.keep kp) O oa ρ) H ds vs → mg ds k ρ → (∀ oa' σ' H' ρ', SO (z.keep kp) O oa' σ' H' ρ' → k ρ' → Q σ' H') → g vs σ H Q
structure DG (X : Cx) (z : Zc) (O : List Nat) (tg : Expr) (g : TG) (mg : D → (DEnv → Prop) → DEnv → Prop) : Prop where
  pg : PG X tg g
  tm : TMg z O g mg
/-- several targets: names alone -/
structure DGs (X : Cx) (z : Zc) (O : List Nat) (ts : List Expr) (g : TGs) (mg : List D → (DEnv → Prop) → DEnv → Prop) : Prop where
  pg : PGs X ts g
  tm : TMgs z O g mg
abbrev mgName (i : Nat) : D → (DEnv → Prop) → DEnv → Prop := fun d k ρ => k (ρ.set i (some d))
theorem dg_name (i : Nat) {x : Str} (hN : X.N.Nodup) (hi : X.N[i]? = some x := by rfl) (hx : Loc X.env.scope x := by first | exact .inl rfl | exact .inr rfl) (ho : i ∉ O := by decide) (hf : X.fn x = true ∨ X.env.scope.names.lookup x = some .local := by first | exact .inl rfl | exact .inr rfl) : DG X z O (.Name x pos) (gName i) (mgName i) := ⟨pg_name hN hi hx hf, fun kp oa σ H ρ d v k Q s r hm kq => kq oa _ H _ (s.set ho r) hm⟩
abbrev mgNil : List D → (DEnv → Prop) → DEnv → Prop := fun ds k ρ => match ds with | [] => k ρ | _ => False
abbrev mgCons (i : Nat) (m : List D → (DEnv → Prop) → DEnv → Prop) : List D → (DEnv → Prop) → DEnv → Prop := fun ds k ρ => match ds with | d :: r => m r k (ρ.set i (some d)) | [] => False
theorem dgs_nil : DGs X z O [] gNil mgNil := ⟨pgs_nil, fun kp oa σ H ρ ds vs k Q s r hm kq => by
  cases ds with
  | nil => simp only [Reps] at r; exact ⟨r, kq oa σ H ρ s hm⟩
  | cons d ds => exact hm.elim⟩
theorem dgs_cons (i : Nat) {x : Str} {es : List Expr} {u : TGs} {m : List D → (DEnv → Prop) → DEnv → Prop} (hN : X.N.Nodup) (h2 : DGs X z O es u m) (hi : X.N[i]? = some x := by rfl) (hx : Loc X.env.scope x := by first | exact .inl rfl | exact .inr rfl) (ho : i ∉ O := by decide) (hf : X.fn x = true ∨ X.env.scope.names.lookup x = some .local := by first | exact .inl rfl | exact .inr rfl)
    (hs : (assignEach (.Name x pos :: es) X.env).map (·.2) = assign (.Name x pos) X.env :: (assignEach es X.env).map (·.2) := by rfl) : DGs X z O (.Name x pos :: es) (gCons (gName i) u) (mgCons i m) := ⟨pgs_cons (pg_name hN hi hx hf) h2.pg hs, fun kp oa σ H ρ ds vs k Q s r hm kq => by
  cases ds with
  | nil => exact hm.elim
  | cons d ds =>
    simp only [Reps] at r
    obtain ⟨v, vr, rfl, r1, r2⟩ := r
    refine ⟨v, vr, rfl, h2.tm kp oa _ H _ ds vr k Q (s.set ho r1) ?_ hm kq⟩
    rw [Uo_set ho]
    exact r2⟩
abbrev mgTup (n : Nat) (m : List D → (DEnv → Prop) → DEnv → Prop) : D → (DEnv → Prop) → DEnv → Prop := fun d k ρ => match d with | .tup ds => ds.length = n ∧ m ds k ρ | _ => False
theorem dg_tup {es : List Expr} {k : Nat} {t : TGs} {n : Nat} {m : List D → (DEnv → Prop) → DEnv → Prop} (hc : X.calm = true) (hK : X.K = z.K) (h : DGs X z O es t m) (hn : (assignEach es X.env).length = n := by rfl) (hst : (assignEach es X.env).findIdx? (·.1) = none := by rfl) :
    DG X z O (.Tuple es k pos) (gTup z.K n t) (mgTup n m) := ⟨by rw [← hK]; exact pg_tup hc h.pg hn hst, fun kp oa σ H ρ d v k Q s r hm kq => by
  cases d with
  | tup ds =>
    simp only [Rep] at r
    obtain ⟨a, xs, rfl, ha, r⟩ := r
    exact ⟨a, xs, rfl, ha.sq, by rw [r.length]; exact hm.1, h.tm kp oa σ H ρ ds xs k Q s r hm.2 kq⟩
  | _ => exact hm.elim⟩
/-- x = e, e not of the own lists -/
theorem ds_set {i : Nat} {x : Str} {pos' : Pos} (hN : X.N.Nodup) (he : DE X z e te me) (hi : X.N[i]? = some x := by rfl) (hx : Loc X.env.scope x := by first | exact .inl rfl | exact .inr rfl) (ho : i ∉ O := by decide) (hs : swapsWith e (some (.Name x pos')) pos.line X.env = pure false := by rfl) (hf : X.fn x = true ∨ X.env.scope.names.lookup x = some .local := by first | exact .inl rfl | exact .inr rfl) :
    DS X z O (.Assign [.Name x pos'] e pos) (tAsg te (gName i)) (fun κ E ρ => me (hide O ρ) (fun d => κ.nx (ρ.set i (some d))) E) := ⟨ps_set hN hi hx he.pe hs hf, fun kp oa σ H ρ Dn κ E s hE ko hm =>
  (he.tm.keep kp) _ σ H _ _ _ E s.vis hE hm fun d v H' q e1 j1 r1 => ko.nx oa _ H' _ ((s.step e1 j1).set ho r1) q⟩
/-- data without lists, dicts, instances -/
def flat : D → Bool
  | .lst _ => false
  | .ins _ _ _ => false
  | .dK _ _ => false
  | .dT _ _ => false
  | .tup ds => flats ds
  | .ptup ds => flats ds
  | .err _ _ _ _ _ => false
  | .lsta _ _ => false
  | _ => true
where flats : List D → Bool
  | [] => true
  | d :: ds => flat d && flats ds
mutual
theorem Rep.flat' {K : PySem.W.Frag} {U U' : Addr → Prop} {H : Hp} (hU : ∀ a xs, U' a → (H a = some (.tup xs) ∨ ∃ o, H a = some (.frz o (.tup xs))) → U a) : ∀ (d : D) (v : V), flat d = true → Rep K U H d v → Rep K U' H d v
  | .non, v, _, h => by simpa only [Rep] using h
  | .bl b, v, _, h => by simpa only [Rep] using h
  | .int i, v, _, h => by simpa only [Rep] using h
  | .str x, v, _, h => by simpa only [Rep] using h
  | .ty n, v, _, h => by simpa only [Rep] using h
  | .obj a, v, _, h => by simpa only [Rep] using h
  | .tup ds, v, f, h => by
    simp only [Rep] at h ⊢
    simp only [flat] at f
    obtain ⟨a, xs, h1, h2, h3⟩ := h
    refine ⟨a, xs, h1, ?_, Reps.flat' hU ds xs f h3⟩
    rcases h2 with ⟨h2, n⟩ | h2
    · exact .inl ⟨h2, fun q => n (hU a xs q h2)⟩
    · exact .inr h2
  | .lst ds, v, f, h => by simp [flat] at f
  | .ins C ks ds, v, f, h => by simp [flat] at f
  | .dK ks ds, v, f, h => by simp [flat] at f
  | .dT ks ds, v, f, h => by simp [flat] at f
  | .ptup ds, v, f, h => by
    simp only [Rep] at h ⊢
    simp only [flat] at f
    obtain ⟨a, o, xs, h1, ⟨h2, hd, n⟩, h3⟩ := h
    exact ⟨a, o, xs, h1, ⟨h2, hd, fun q => n (hU a xs q (.inr ⟨o, h2⟩))⟩, Reps.flat' hU ds xs f h3⟩
  | .err a dd C ks ds, v, f, h => by simp [flat] at f
  | .lsta a ds, v, f, h => by simp [flat] at f
theorem Reps.flat' {K : PySem.W.Frag} {U U' : Addr → Prop} {H : Hp} (hU : ∀ a xs, U' a → (H a = some (.tup xs) ∨ ∃ o, H a = some (.frz o (.tup xs))) → U a) : ∀ (ds : List D) (vs : List V), flat.flats ds = true → Reps K U H ds vs → Reps K U' H ds vs
  | [], vs, _, h => by simpa only [Reps] using h
  | d :: ds, vs, f, h => by
    simp only [Reps] at h ⊢
    simp only [flat.flats, Bool.and_eq_true] at f
    obtain ⟨x, r, h1, h2, h3⟩ := h
    exact ⟨x, r, h1, Rep.flat' hU d x f.1 h2, Reps.flat' hU ds r f.2 h3⟩
end
theorem SO.flat {oa : Nat → Addr} {σ : L2.St} {H : Hp} {ρ : DEnv} (s : SO z O oa σ H ρ) {d : D} {v : V} (f : DL.flat d = true) (r : Rep z.K z.U0 H d v) : Rep z.K (Uo z O oa ρ) H d v :=
  Rep.flat' (fun a xs q h => by
    rcases q with q | ⟨i, hi, ⟨d', hd⟩, rfl⟩
    · exact q
    · obtain ⟨_, _, u, w, _, e⟩ := s.own i d' hi hd
      rcases h with h | ⟨o, h⟩ <;> rw [e] at h
      · exact absurd (Option.some.inj h) (w.nx.2.1 xs)
      · exact absurd (Option.some.inj h) (w.nx.2.2 o xs)) d v f r
/-- x = e, e of the own lists too; what comes has no list -/
theorem ds_setF {i : Nat} {x : Str} {pos' : Pos} (hN : X.N.Nodup) (he : DE X z e te me) (hi : X.N[i]? = some x := by rfl) (hx : Loc X.env.scope x := by first | exact .inl rfl | exact .inr rfl) (ho : i ∉ O := by decide) (hs : swapsWith e (some (.Name x pos')) pos.line X.env = pure false := by rfl) (hf : X.fn x = true ∨ X.env.scope.names.lookup x = some .local := by first | exact .inl rfl | exact .inr rfl) :
    DS X z O (.Assign [.Name x pos'] e pos) (tAsg te (gName i)) (fun κ E ρ => me ρ (fun d => flat d = true ∧ κ.nx (ρ.set i (some d))) E) := ⟨ps_set hN hi hx he.pe hs hf, fun kp oa σ H ρ Dn κ E s hE ko hm =>
  (he.tm.keep kp) _ σ H _ _ _ E s.full hE hm fun d v H' q e1 j1 r1 => ko.nx oa _ H' _ ((s.step e1 j1).set ho ((s.step e1 j1).flat q.1 r1)) q.2⟩
/-- target = e, e not of the own lists -/
theorem ds_asg {tg : Expr} {g : TG} {mg : D → (DEnv → Prop) → DEnv → Prop} (he : DE X z e te me) (hg : DG X z O tg g mg) (hs : swapsWithSole [tg] e pos.line X.env = pure false := by rfl) (hw : swappedStores [tg] e X.env = pure none := by rfl)
    (h1 : (assignEach [tg] X.env).map (·.2) = [assign tg X.env] := by rfl) : DS X z O (.Assign [tg] e pos) (tAsg te g) (fun κ E ρ => me (hide O ρ) (fun d => mg d κ.nx ρ) E) := ⟨ps_asg he.pe hg.pg hs hw h1, fun kp oa σ H ρ Dn κ E s hE ko hm =>
  (he.tm.keep kp) _ σ H _ _ _ E s.vis hE hm fun d v H' q e1 j1 r1 => hg.tm kp oa σ H' ρ d v _ _ (s.step e1 j1) r1 q fun oa' σ' H'' ρ' s' k => ko.nx oa' σ' H'' ρ' s' k⟩
end
end DL

/-! DIter: enumerate and zip over lists and tuples in any mix; what a loop walks, over data. -/
namespace DL
open PySem PySem.Spec PyProof.Rows L2

/-- the kind of what is walked -/
inductive Sk where
  | l | t
def Sk.Sq (k : Sk) (K : PySem.W.Frag) (H : Hp) (a : Addr) (xs : List V) : Prop := match k with
  | .l => SqL K H a xs
  | .t => SqT K H a xs
def Sk.Is (k : Sk) (h : Heap) (a : Addr) (items : Array Value) : Prop := match k with
  | .l => h.IsList a items
  | .t => h.IsTuple a items
def Sk.It (k : Sk) (h : Heap) (it a : Addr) (i : Nat) : Prop := match k with
  | .l => h.IsListIter it a i
  | .t => h.IsTupleIter it a i
def Sk.o (k : Sk) (a : Addr) : Obj := match k with
  | .l => { cls := .type "list_iterator", data := .fields #[.ref a, .int 0 0] }
  | .t => { cls := .type "tuple_iterator", data := .fields #[.ref a, .int 0 0] }
theorem Sk.begins (k : Sk) (a : Addr) (items : Array Value) : Begins (.ref a) (k.o a) (fun h => k.Is h a items) := match k with
  | .l => begins_list a items
  | .t => begins_tuple a items
theorem Sk.draws (k : Sk) {prog : Program} {w : World} {A : Around} (hh : A.handled = none) (it a : Addr) (hne : a ≠ it) (items : Array Value) :
    Draws prog w A it [it, a] items.size (fun i v => items[i]? = some v) (fun i h => k.It h it a i ∧ k.Is h a items) := match k with
  | .l => Draws.list hh it a hne items
  | .t => Draws.tuple hh it a hne items
theorem Sk.first {k : Sk} {h : Heap} {it a : Addr} (e : h.get? it = some (k.o a)) : k.It h it a 0 := match k, e with
  | .l, e => ⟨_, e, rfl, rfl⟩
  | .t, e => ⟨_, e, rfl, rfl⟩
theorem Sk.itObj {k : Sk} {h : Heap} {it a : Addr} {i : Nat} (e : k.It h it a i) : ∃ o, h.get? it = some o ∧ ∀ v, o.data ≠ .cell v := match k, e with
  | .l, ⟨o, h1, _, d⟩ => ⟨o, h1, fun v q => by rw [d] at q; cases q⟩
  | .t, ⟨o, h1, _, d⟩ => ⟨o, h1, fun v q => by rw [d] at q; cases q⟩
theorem Sk.itKeep {k : Sk} {h h' : Heap} {it a : Addr} {i : Nat} (e : k.It h it a i) (kp : ∀ o, h.get? it = some o → h'.get? it = some o) : k.It h' it a i := match k, e with
  | .l, e => Heap.IsListIter.at e fun o q => kp o q
  | .t, e => Heap.IsTupleIter.at e fun o q => kp o q
section
variable {X : Cx} {pins : List (Addr × Obj)} {σ : L2.St} {H : Hp} {s : Shared} {a : Addr} {xs ys : List V}
theorem Sk.inv {k : Sk} (I : Inv X pins σ H s) (h : k.Sq X.K H a xs) : ∃ its : List Value, Vals xs its ∧ k.Is s.heap a its.toArray ∧ a < s.heap.objs.size := match k, h with
  | .l, h => let ⟨its, r, p, _⟩ := I.list h; ⟨its, r, p.isList, p.lt⟩
  | .t, h => let ⟨its, r, p, _⟩ := I.tuple h; ⟨its, r, p, let ⟨_, ho, _⟩ := p; Heap.lt_size ho⟩
theorem Sk.inj {k : Sk} (I : Inv X pins σ H s) (h : k.Sq X.K H a xs) (h' : k.Sq X.K H a ys) : xs = ys := match k, h, h' with
  | .l, h, h' => I.list_inj h h'
  | .t, h, h' => I.tuple_inj h h'
end

/-! ### enumerate -/
set_option maxHeartbeats 1000000 in
theorem meets_enumerate_new1 {v : Value} {o : Obj} {H : Heap → Prop} (B : Begins v o H) :
    Meets (Builtin.«enumerate.__new__» ⟨[.type "enumerate", v], []⟩) (fun _ R s => H s.heap ∧
      R (.ok (.ret (.ref (s.heap.push o).objs.size))) { s with heap := (s.heap.push o).push { cls := .type "enumerate", data := .fields #[.none, .bool false, .ref s.heap.objs.size, rawInt 0, .none, .none] } }) :=
  .of_wp fun prog w A R s h => by
    obtain ⟨hp, g, d, tk, os⟩ := s; obtain ⟨h1, h⟩ := h
    have hsub := sub_enumerate
    have q1 : ∀ {A' : Around} {E : Value → Shared → Prop} {Q : Value → Shared → Prop}, Q (.ref hp.objs.size) ⟨hp.push o, g, d, tk, os⟩ → wpAny (model prog w) A' (pyIter v) Q E ⟨hp, g, d, tk, os⟩ :=
      fun q => B.iter prog w _ _ ⟨hp, g, d, tk, os⟩ _ h1 q
    wp_walk using q1
    refine wpAny_stack_any fun st => wpAny_pure ?_
    split
    · rename_i c _ _ _ _ _
      cases (c == Value.type "enumerate")
      · wp_walk using q1
        exact ⟨_, rfl, h⟩
      · wp_walk using q1
        exact ⟨_, rfl, h⟩
    · wp_walk using q1
      exact ⟨_, rfl, h⟩
section
variable {prog : Program} {w : World} {A : Around} {E : Value → Shared → Prop} {s : Shared}
theorem enum_begins1 {v : Value} {o : Obj} {H : Heap → Prop} {Q : Value → Shared → Prop} (B : Begins v o H) (h1 : H s.heap)
    (h : ∀ h', IsEnum h' (s.heap.objs.size + 1) s.heap.objs.size 0 .none → h'.get? s.heap.objs.size = some o → h'.objs.size = s.heap.objs.size + 2 →
      (∀ b o, s.heap.get? b = some o → h'.get? b = some o) → Q (.ref (s.heap.objs.size + 1)) { s with heap := h' }) :
    wpAny (model prog w) A (call (.type "enumerate") [v]) Q E s := by
  refine callType_new F.called_enumerate (by decide) (F.typeCall_enumerate_1 _) (F.newCall_enumerate_1 _) (fun obj => F.args_object_init_2 obj _) F.entry_enumerate_new
    (meets_enumerate_new1 B) ⟨h1, ?_⟩
  have hz : (s.heap.push o).objs.size = s.heap.objs.size + 1 := Heap.size_push ..
  show _ ∧ _
  rw [hz]
  have he : IsEnum ((s.heap.push o).push { cls := .type "enumerate", data := .fields #[.none, .bool false, .ref s.heap.objs.size, rawInt 0, .none, .none] }) (s.heap.objs.size + 1) s.heap.objs.size 0 .none := by
    have := Heap.get?_push_size (s.heap.push o) (o := { cls := .type "enumerate", data := .fields #[.none, .bool false, .ref s.heap.objs.size, rawInt 0, .none, .none] }) rfl
    rw [hz] at this; exact this
  refine ⟨⟨_, he, rfl⟩, h _ he (Heap.get?_push_of_some _ (Heap.get?_push_size _ B.free)) (by rw [Heap.size_push, hz]) fun b o x => Heap.get?_push_of_some _ (Heap.get?_push_of_some _ x)⟩
end
/-- the items with their numbers from c, in new pairs -/
def ItE (K : PySem.W.Frag) (k : Sk) (a : Addr) (c : Int) : It :=
  ⟨fun i H => ∃ (xs : List V) (x : V), k.Sq K H a xs ∧ xs[i]? = some x, fun i H v H' => ∃ T x, v = .ref T ∧ H T = none ∧ H' = upd H T (.tup [.int (c + (i : Nat)), x]) ∧ ∀ xs, k.Sq K H a xs → xs[i]? = some x, fun i H => ∃ xs : List V, k.Sq K H a xs ∧ xs.length = i⟩
theorem turn_enumE {P : Program} {w : World} {K : PySem.W.Frag} {elts : List Expr} {kk : Nat} {tpos : Pos} {k : Sk} {c : Int} {a e it : Addr} (h1 : e ≠ it) (h2 : a ≠ e) (h3 : a ≠ it) :
    Turn P w K (.Tuple elts kk tpos) (ItE K k a c) [e, it] e (fun i h => (∃ old, IsEnum h e it (c + ((i : Nat) : Int)) old) ∧ k.It h it a i) where
  mem := by simp
  obj := fun i h st b hb => by
    obtain ⟨⟨old, he⟩, hi⟩ := st
    have e' : b = e ∨ b = it := by simpa using hb
    rcases e' with z | z
    · rw [z]; exact ⟨_, he, fun v q => nomatch q⟩
    · rw [z]; exact Sk.itObj hi
  keep := fun i h h' st kp => let ⟨⟨old, he⟩, hi⟩ := st; ⟨⟨old, kp e (by simp) _ he⟩, Sk.itKeep hi (fun o q => kp it (by simp) o q)⟩
  item := by
    intro X hP hw hK hc i pins s σ H E I hf st hg
    subst hP hw hK
    obtain ⟨he, hit⟩ := st
    obtain ⟨xs, x, hq, hx⟩ := hg
    obtain ⟨its, rv, hs, ha⟩ := Sk.inv I hq
    have hi : i < its.toArray.size := by
      rw [List.size_toArray, ← rv.length]
      exact (List.getElem?_eq_some_iff.mp hx).1
    have D := k.draws (prog := X.prog) (w := X.w) (A := X.A.in1) (I.ok.hd hc) it a h3 its.toArray
    have W := GoesN.enumFrom (elts := elts) (x1 := kk) (pos := tpos) c D e h1 (by simp [h1, Ne.symm h2]) (by simp)
    refine W.goes i s _ E hi ⟨he, hit, hs⟩ fun v h' tk hY st' hk _ => ?_
    obtain ⟨T, t, y, rfl, hT, hy, hTT⟩ := hY
    obtain ⟨u, hu, ru⟩ := rv.get hx
    have eu : y = u := by
      have : its[i]? = some y := by simpa using hy
      rw [hu] at this
      exact (Option.some.inj this).symm
    subst eu
    have hH : H T = none := I.hok.fresh hT
    have new : ObjOk X.prog X.w (upd H T (.tup [.int (c + (i : Nat)), x])) h' T (.tup [.int (c + (i : Nat)), x]) :=
      ⟨by show 2 ≤ sizeLine; decide, [.int (c + (i : Nat)) t, y], .cons ⟨_, rfl⟩ (.cons ru .nil), hTT⟩
    have I1 : Inv X pins σ (upd H T (.tup [.int (c + (i : Nat)), x])) { s with heap := h', toks := tk } := I.turnedNew (ch := [e, it]) (fun b o hb q => hk b o hb q) hf hT new
    exact ⟨.ref T, _, I1, rfl, ⟨T, x, rfl, hH, rfl, fun ys hy => by rw [Sk.inj I hy hq]; exact hx⟩, ⟨st'.1, st'.2.1⟩, fun b hb => by
      rw [upd_ne (fun q => ?_)]
      · exact (hf b hb).1
      · obtain ⟨ob, ho, _⟩ : ∃ o, s.heap.get? b = some o ∧ ∀ v, o.data ≠ .cell v := by
          have e' : b = e ∨ b = it := by simpa using hb
          rcases e' with z | z
          · rw [z]; obtain ⟨old, he⟩ := he; exact ⟨_, he, fun v q => nomatch q⟩
          · rw [z]; exact Sk.itObj hit
        exact absurd (Nat.lt_of_lt_of_le (Heap.lt_size ho) (by rw [q]; exact hT)) (Nat.lt_irrefl _)⟩
  done := by
    intro X hP hw hK hc i pins s σ H E I hf st hg
    subst hP hw hK
    obtain ⟨he, hit⟩ := st
    obtain ⟨xs, hq, hx⟩ := hg
    obtain ⟨its, rv, hs, ha⟩ := Sk.inv I hq
    have hi : i = its.toArray.size := by
      rw [List.size_toArray, ← rv.length]
      exact hx.symm
    subst hi
    have D := k.draws (prog := X.prog) (w := X.w) (A := X.A.in1) (I.ok.hd hc) it a h3 its.toArray
    have W := GoesN.enumFrom (elts := elts) (x1 := kk) (pos := tpos) c D e h1 (by simp [h1, Ne.symm h2]) (by simp)
    exact W.stops s _ E ⟨he, hit, hs⟩ fun h' tk hk _ => I.turnedL (ch := [e, it]) (fun b o hb q => hk b o hb q) hf
  self := fun A i s Q E st h => let ⟨⟨_, he⟩, _⟩ := st; wpAny_pyIter_enum he h
def iEn (K : PySem.W.Frag) (ta : TA) : TI := fun σ H R => ta σ H fun vs H1 => ∃ (k : Sk) (a : Addr) (xs : List V), vs = [.ref a] ∧ k.Sq K H1 a xs ∧ R (ItE K k a 0) H1
theorem pi_en {X : Cx} {e : Expr} {ta : TA} {p pos tpos : Pos} {elts : List Expr} {kk : Nat} (hg : Gl X "enumerate") (hm : X.mg "enumerate" = none) (ha : PA X [e] ta) (hs : starEach [e] X.env = [(false, eval e X.env)] := by rfl) :
    PI X (.Tuple elts kk tpos) (.Call (.Name "enumerate" p) [e] [] pos) (iEn X.K ta) := by
  refine ⟨fun pins s σ H R I h => ?_⟩
  refine Call_ (ld_blt I hg hm boot_enumerate (PyProof.Rows.callWith_type1 (thn (ha.run pos pins s σ H _ I h) fun us s1 ⟨vs, H1, I1, r1, q1⟩ => ?_) hs rfl))
  obtain ⟨k, a, xs, ex, hq, q⟩ := q1
  subst ex
  cases r1 with
  | cons r rr =>
    cases rr
    cases r
    obtain ⟨its, rv, hI, hz⟩ := Sk.inv I1 hq
    refine enum_begins1 (k.begins a its.toArray) hI fun h' he hit hsz hk => wpAny_pyIter_enum he ?_
    have I2 : Inv X pins σ H1 { s1 with heap := h' } := I1.kept (t' := s1.toks) hk
    refine ⟨s1.heap.objs.size + 1, [s1.heap.objs.size + 1, s1.heap.objs.size], _, _, H1, rfl, I2, turn_enumE (k := k) (c := 0) (a := a) (Nat.succ_ne_self _) (Nat.ne_of_lt (Nat.lt_succ_of_lt hz)) (Nat.ne_of_lt hz), ⟨⟨.none, ?_⟩, Sk.first hit⟩, fun b hb => ?_, q⟩
    · simpa using he
    · have e' : b = s1.heap.objs.size + 1 ∨ b = s1.heap.objs.size := by simpa using hb
      have hle : s1.heap.objs.size ≤ b := by
        rcases e' with z | z
        · rw [z]; exact Nat.le_add_right _ _
        · rw [z]; exact Nat.le_refl _
      exact I1.fpOk hle (I1.hok.fresh hle)

/-! ### zip of two -/
def ItZ2 (K : PySem.W.Frag) (k k2 : Sk) (a b : Addr) : It :=
  ⟨fun i H => ∃ (xs ys : List V) (x y : V), k.Sq K H a xs ∧ k2.Sq K H b ys ∧ xs[i]? = some x ∧ ys[i]? = some y,
    fun i H v H' => ∃ T x y, v = .ref T ∧ H T = none ∧ H' = upd H T (.tup [x, y]) ∧ (∀ xs, k.Sq K H a xs → xs[i]? = some x) ∧ ∀ ys, k2.Sq K H b ys → ys[i]? = some y,
    fun i H => ∃ xs ys : List V, k.Sq K H a xs ∧ k2.Sq K H b ys ∧ min xs.length ys.length = i⟩
theorem turn_zip2 {P : Program} {w : World} {K : PySem.W.Frag} {elts : List Expr} {kk : Nat} {tpos : Pos} {k k2 : Sk} {a b z TI TO i1 i2 : Addr} (S : ZipSep2 z TI TO i1 i2 [i1, a] [i2, b]) (h1 : a ≠ i1) (h2 : b ≠ i2) :
    Turn P w K (.Tuple elts kk tpos) (ItZ2 K k k2 a b) [z, TI, TO, i1, i2] z (fun i h => IsZip h z TI TO .none ∧ IsTupOf2 h TI (.ref i1) (.ref i2) ∧ (∃ a1 a2, IsTupOf2 h TO a1 a2) ∧ k.It h i1 a i ∧ k2.It h i2 b i) where
  mem := by simp
  obj := fun i h st c hc => by
    obtain ⟨hz, hTI, ⟨x, y, hTO⟩, e1, e2⟩ := st
    have e' : c = z ∨ c = TI ∨ c = TO ∨ c = i1 ∨ c = i2 := by simpa using hc
    rcases e' with q | q | q | q | q
    · rw [q]; exact ⟨_, hz, fun v q => nomatch q⟩
    · rw [q]; exact ⟨_, hTI, fun v q => nomatch q⟩
    · rw [q]; exact ⟨_, hTO, fun v q => nomatch q⟩
    · rw [q]; exact Sk.itObj e1
    · rw [q]; exact Sk.itObj e2
  keep := fun i h h' st kp => by
    obtain ⟨hz, hTI, ⟨x, y, hTO⟩, e1, e2⟩ := st
    exact ⟨kp z (by simp) _ hz, kp TI (by simp) _ hTI, ⟨x, y, kp TO (by simp) _ hTO⟩, Sk.itKeep e1 (fun o q => kp i1 (by simp) o q), Sk.itKeep e2 (fun o q => kp i2 (by simp) o q)⟩
  item := by
    intro X hP hw hK hc i pins s σ H E I hf st hg
    subst hP hw hK
    obtain ⟨hz, hTI, hTO, e1, e2⟩ := id st
    obtain ⟨xs, ys, x, y, hqx, hqy, hx, hy⟩ := hg
    obtain ⟨its, rv, hs, ha⟩ := Sk.inv I hqx
    obtain ⟨its2, rv2, hs2, hb⟩ := Sk.inv I hqy
    have hi : i < its.toArray.size := by
      rw [List.size_toArray, ← rv.length]
      exact (List.getElem?_eq_some_iff.mp hx).1
    have hi2 : i < its2.toArray.size := by
      rw [List.size_toArray, ← rv2.length]
      exact (List.getElem?_eq_some_iff.mp hy).1
    have D1 := k.draws (prog := X.prog) (w := X.w) (A := X.A.in1) (I.ok.hd hc) i1 a h1 its.toArray
    have D2 := k2.draws (prog := X.prog) (w := X.w) (A := X.A.in1) (I.ok.hd hc) i2 b h2 its2.toArray
    have W := GoesN.zip2 (elts := elts) (x1 := kk) (pos := tpos) S D1 D2
    refine W.goes i s _ E (by omega) ⟨hz, hTI, hTO, ⟨e1, hs⟩, e2, hs2⟩ fun v h' tk hY st' hk _ => ?_
    obtain ⟨T, y1, y2, rfl, hT, hy1, hy2, hTT⟩ := hY
    obtain ⟨u, hu, ru⟩ := rv.get hx
    obtain ⟨u2, hu2, ru2⟩ := rv2.get hy
    have eu : y1 = u := by
      have : its[i]? = some y1 := by simpa using hy1
      rw [hu] at this
      exact (Option.some.inj this).symm
    have eu2 : y2 = u2 := by
      have : its2[i]? = some y2 := by simpa using hy2
      rw [hu2] at this
      exact (Option.some.inj this).symm
    subst eu eu2
    have hH : H T = none := I.hok.fresh hT
    have new : ObjOk X.prog X.w (upd H T (.tup [x, y])) h' T (.tup [x, y]) := ⟨by show 2 ≤ sizeLine; decide, [y1, y2], .cons ru (.cons ru2 .nil), hTT⟩
    have I1 : Inv X pins σ (upd H T (.tup [x, y])) { s with heap := h', toks := tk } := I.turnedNew (ch := [z, TI, TO, i1, i2]) (fun c o hcm q => hk c o (fun hm => hcm (by
      have : c = z ∨ c = TO ∨ c = i1 ∨ c = i2 := by simpa using hm
      rcases this with e | e | e | e <;> simp [e])) q) hf hT new
    refine ⟨.ref T, _, I1, rfl, ⟨T, x, y, rfl, hH, rfl, fun l hl => by rw [Sk.inj I hl hqx]; exact hx, fun l hl => by rw [Sk.inj I hl hqy]; exact hy⟩, ⟨st'.1, st'.2.1, st'.2.2.1, st'.2.2.2.1.1, st'.2.2.2.2.1⟩, fun c hcm => ?_⟩
    rw [upd_ne (fun q => ?_)]
    · exact (hf c hcm).1
    · obtain ⟨ob, ho, _⟩ : ∃ o, s.heap.get? c = some o ∧ ∀ v, o.data ≠ .cell v := by
        obtain ⟨a1, a2, hTO⟩ := hTO
        have e' : c = z ∨ c = TI ∨ c = TO ∨ c = i1 ∨ c = i2 := by simpa using hcm
        rcases e' with q | q | q | q | q
        · rw [q]; exact ⟨_, hz, fun v q => nomatch q⟩
        · rw [q]; exact ⟨_, hTI, fun v q => nomatch q⟩
        · rw [q]; exact ⟨_, hTO, fun v q => nomatch q⟩
        · rw [q]; exact Sk.itObj e1
        · rw [q]; exact Sk.itObj e2
      exact absurd (Nat.lt_of_lt_of_le (Heap.lt_size ho) (by rw [q]; exact hT)) (Nat.lt_irrefl _)
  done := by
    intro X hP hw hK hc i pins s σ H E I hf st hg
    subst hP hw hK
    obtain ⟨hz, hTI, hTO, e1, e2⟩ := id st
    obtain ⟨xs, ys, hqx, hqy, hx⟩ := hg
    obtain ⟨its, rv, hs, ha⟩ := Sk.inv I hqx
    obtain ⟨its2, rv2, hs2, hb⟩ := Sk.inv I hqy
    have hi : i = min its.toArray.size its2.toArray.size := by
      rw [List.size_toArray, List.size_toArray, ← rv.length, ← rv2.length]
      exact hx.symm
    subst hi
    have D1 := k.draws (prog := X.prog) (w := X.w) (A := X.A.in1) (I.ok.hd hc) i1 a h1 its.toArray
    have D2 := k2.draws (prog := X.prog) (w := X.w) (A := X.A.in1) (I.ok.hd hc) i2 b h2 its2.toArray
    have W := GoesN.zip2 (elts := elts) (x1 := kk) (pos := tpos) S D1 D2
    exact W.stops s _ E ⟨hz, hTI, hTO, ⟨e1, hs⟩, e2, hs2⟩ fun h' tk hk _ => I.turnedL (ch := [z, TI, TO, i1, i2]) (fun c o hcm q => hk c o (fun hm => hcm (by
      have : c = z ∨ c = TO ∨ c = i1 ∨ c = i2 := by simpa using hm
      rcases this with e | e | e | e <;> simp [e])) q) hf
  self := fun A i s Q E st h => wpAny_pyIter_zip st.1 h
def iZ2 (K : PySem.W.Frag) (ta : TA) : TI := fun σ H R => ta σ H fun vs H1 => ∃ (k k2 : Sk) (a b : Addr) (xs ys : List V), vs = [.ref a, .ref b] ∧ k.Sq K H1 a xs ∧ k2.Sq K H1 b ys ∧ R (ItZ2 K k k2 a b) H1
theorem pi_z2 {X : Cx} {e e2 : Expr} {ta : TA} {p pos tpos : Pos} {elts : List Expr} {kk : Nat} (hg : Gl X "zip") (hm : X.mg "zip" = none) (ha : PA X [e, e2] ta)
    (hs : starEach [e, e2] X.env = (false, eval e X.env) :: starEach [e2] X.env := by rfl) (hpl : (backTo pos (starEach [e2] X.env)).any (·.1) = false := by rfl) :
    PI X (.Tuple elts kk tpos) (.Call (.Name "zip" p) [e, e2] [] pos) (iZ2 X.K ta) := by
  refine ⟨fun pins s σ H R I h => ?_⟩
  refine Call_ (ld_blt I hg hm PyProof.Rows.boot_zip (PyProof.Rows.callWith_type1 (thn (ha.run pos pins s σ H _ I h) fun us s1 ⟨vs, H1, I1, r1, q1⟩ => ?_) hs hpl))
  obtain ⟨k, k2, a, b, xs, ys, ex, hqx, hqy, q⟩ := q1
  subst ex
  cases r1 with
  | cons r rr =>
    cases rr with
    | cons r' rr =>
      cases rr
      cases r
      cases r'
      obtain ⟨its, rv, hI, hz1⟩ := Sk.inv I1 hqx
      obtain ⟨its2, rv2, hI2, hz2⟩ := Sk.inv I1 hqy
      refine zip_begins2 (k.begins a its.toArray) (k2.begins b its2.toArray) hI hI2 fun h' hz hTI hTO g1 g2 hsz hk => wpAny_pyIter_zip hz ?_
      have I2 : Inv X pins σ H1 { s1 with heap := h' } := I1.kept (t' := s1.toks) hk
      refine ⟨s1.heap.objs.size + 4, [s1.heap.objs.size + 4, s1.heap.objs.size + 2, s1.heap.objs.size + 3, s1.heap.objs.size, s1.heap.objs.size + 1], _, _, H1, rfl, I2,
        turn_zip2 (k := k) (k2 := k2) (a := a) (b := b) (zip_sep2 (fp1 := [a]) (fp2 := [b]) (by simpa using hz1) (by simpa using hz2)) (Nat.ne_of_lt hz1) (Nat.ne_of_lt (Nat.lt_succ_of_lt hz2)), ⟨hz, hTI, ⟨_, _, hTO⟩, Sk.first g1, Sk.first g2⟩, fun c hcm => ?_, q⟩
      have e' : c = s1.heap.objs.size + 4 ∨ c = s1.heap.objs.size + 2 ∨ c = s1.heap.objs.size + 3 ∨ c = s1.heap.objs.size ∨ c = s1.heap.objs.size + 1 := by simpa using hcm
      have hle : s1.heap.objs.size ≤ c := by
        rcases e' with q | q | q | q | q
        · rw [q]; exact Nat.le_add_right _ _
        · rw [q]; exact Nat.le_add_right _ _
        · rw [q]; exact Nat.le_add_right _ _
        · rw [q]; exact Nat.le_refl _
        · rw [q]; exact Nat.le_add_right _ _
      exact I1.fpOk hle (I1.hok.fresh hle)
end DL

/-! DLoop: what is walked, for, comprehensions, over data. -/
namespace DL
open PySem PySem.Spec PyProof.Rows L2

/-! ### what is walked -/
/-- a list, a tuple or a text -/
def iAny (K : PySem.W.Frag) (tl : TE) : TI := fun σ H R => tl σ H fun x H1 => (∃ a, x = .ref a ∧ (∃ xs, SqL K H1 a xs) ∧ R (Itl K a) H1) ∨ (∃ a, x = .ref a ∧ (∃ xs, SqT K H1 a xs) ∧ R (Itt K a) H1) ∨ ∃ z, x = .str z ∧ R (Its z) H1
theorem pi_any {X : Cx} {tg l : Expr} {tl : TE} (hl : PE X l tl) : PI X tg l (iAny X.K tl) := by
  refine ⟨fun pins s σ H R I h => ?_⟩
  refine thn (hl.run pins s σ H _ I h) fun v s1 ⟨x, H1, I1, r1, q1⟩ => ?_
  rcases q1 with ⟨a, e, ⟨xs, hq⟩, q⟩ | ⟨a, e, ⟨xs, hq⟩, q⟩ | ⟨z, ex, q⟩
  · subst e
    cases r1
    obtain ⟨its, rv, p, hz⟩ := I1.list hq
    refine wpAny_pyIter_list p.isList ?_
    refine ⟨s1.heap.objs.size, [s1.heap.objs.size], _, _, H1, rfl, I1.kept (t' := s1.toks) fun b o e => Heap.get?_push_of_some _ e, turn_list a _, ⟨_, Heap.get?_push_size _ rfl, rfl, rfl⟩, fun b hb => ?_, q⟩
    have e : b = s1.heap.objs.size := by simpa using hb
    subst e
    exact I1.fpOk (Nat.le_refl _) (I1.hok.fresh (Nat.le_refl _))
  · subst e
    cases r1
    obtain ⟨its, rv, p, hz⟩ := I1.tuple hq
    refine wpAny_pyIter_tuple (show s1.heap.IsTuple a its.toArray from p) ?_
    refine ⟨s1.heap.objs.size, [s1.heap.objs.size], _, _, H1, rfl, I1.kept (t' := s1.toks) fun b o e => Heap.get?_push_of_some _ e, turn_tuple a _, ⟨_, Heap.get?_push_size _ rfl, rfl, rfl⟩, fun b hb => ?_, q⟩
    have e : b = s1.heap.objs.size := by simpa using hb
    subst e
    exact I1.fpOk (Nat.le_refl _) (I1.hok.fresh (Nat.le_refl _))
  · subst ex
    obtain ⟨t, rfl⟩ := r1
    cases ha : z.cps.all (· < 128)
    · exact wpAny_pyIter_wide ha (pi_one (tk := s1.toks) I1 _ (turn_str _ z t "str_iterator" (.inr rfl)) ⟨_, Heap.get?_push_size _ rfl, rfl, rfl⟩ q)
    · exact wpAny_pyIter_ascii ha (pi_one (tk := s1.toks) I1 _ (turn_str _ z t "str_ascii_iterator" (.inl rfl)) ⟨_, Heap.get?_push_size _ rfl, rfl, rfl⟩ q)

/-- the iterator gives the items as long as the sources stand -/
def Wk (K : PySem.W.Frag) (g : GG) (J : It) (srcs : List (D × V)) (items : List D) : Prop :=
  ∀ (U : Addr → Prop) (H : Hp), (∀ a, g.G a → U a) → (∀ a, U a → H a ≠ none) → g.J H → (∀ p, p ∈ srcs → Rep K U H p.1 p.2) →
    (∀ i, i < items.length → J.go i H ∧ ∀ x H', J.yld i H x H' → Ext g.G H H' ∧ g.J H' ∧ ∃ d, items[i]? = some d ∧ Rep K U H' d x) ∧ J.stop items.length H
def TMi (z : Zc) (wi : TI) (mi : DEnv → M (List D)) : Prop := ∀ (U : Addr → Prop) (σ : L2.St) (H : Hp) (ρ : DEnv) (R : It → Hp → Prop) (Qd : List D → Prop) (E : DX → Prop), WR z U σ H ρ → (∀ x, E x → z.Ed x) → mi ρ Qd E →
  (∀ items J H' srcs, Qd items → Ext z.g.G H H' → z.g.J H' → (∀ p, p ∈ srcs → Rep z.K U H' p.1 p.2) → Wk z.K z.g J srcs items → R J H') → wi σ H R
structure DI (X : Cx) (z : Zc) (tg iter : Expr) (wi : TI) (mi : DEnv → M (List D)) : Prop where
  pi : PI X tg iter wi
  tm : TMi z wi mi
section
variable {K : PySem.W.Frag} {g : GG}
theorem wk_list {a : Addr} {ds : List D} : Wk K g (Itl K a) [(.lst ds, .ref a)] ds := fun U H gu hU j hs => by
  obtain ⟨a', xs, e, hp, r⟩ := rep_lst_inv (hs _ (List.mem_singleton.mpr rfl))
  cases e
  refine ⟨fun i hi => ?_, xs, SqL.of hp.1, by rw [r.length]; exact Nat.le_refl _⟩
  obtain ⟨x, hx, rx⟩ := r.getD (List.getElem?_eq_getElem hi)
  refine ⟨⟨xs, x, SqL.of hp.1, hx⟩, fun y H' q => ?_⟩
  obtain ⟨rfl, q⟩ := q
  have e := q xs (SqL.of hp.1)
  rw [hx] at e
  cases e
  exact ⟨Ext.refl _, j, _, List.getElem?_eq_getElem hi, rx⟩
theorem wk_tup {a : Addr} {ds : List D} : Wk K g (Itt K a) [(.tup ds, .ref a)] ds := fun U H gu hU j hs => by
  obtain ⟨a', xs, e, hp, r⟩ := rep_tup_inv (hs _ (List.mem_singleton.mpr rfl))
  cases e
  refine ⟨fun i hi => ?_, xs, hp.sq, by rw [r.length]; exact Nat.le_refl _⟩
  obtain ⟨x, hx, rx⟩ := r.getD (List.getElem?_eq_getElem hi)
  refine ⟨⟨xs, x, hp.sq, hx⟩, fun y H' q => ?_⟩
  obtain ⟨rfl, q⟩ := q
  have e := q xs hp.sq
  rw [hx] at e
  cases e
  exact ⟨Ext.refl _, j, _, List.getElem?_eq_getElem hi, rx⟩
/-- the signs of a text -/
def signs (x : Str) : List D := x.cps.toList.map fun c => D.str ⟨#[c]⟩
theorem wk_str {x : Str} : Wk K g (Its x) [] (signs x) := fun U H gu hU j hs => by
  have hl : (signs x).length = x.cps.size := by simp [signs]
  refine ⟨fun i hi => ⟨by rw [hl] at hi; exact hi, fun y H' q => ?_⟩, by show x.cps.size ≤ _; rw [hl]; exact Nat.le_refl _⟩
  obtain ⟨rfl, c, hc, rfl⟩ := q
  refine ⟨Ext.refl _, j, .str ⟨#[c]⟩, ?_, rep_str⟩
  have hc' : x.cps.toList[i]? = some c := by simpa using hc
  simp [signs, hc']
/-- lo, lo + 1, .. -/
def rangeD (lo : Int) (n : Nat) : List D := (List.range n).map fun k => D.int (lo + (k : Nat))
theorem wk_range {lo : Int} {n : Nat} : Wk K g (Itr lo n) [] (rangeD lo n) := fun U H gu hU j hs => by
  have hl : (rangeD lo n).length = n := by simp [rangeD]
  refine ⟨fun i hi => ?_, by rw [hl]; exact Nat.le_refl _⟩
  have hi' : i < n := by rw [hl] at hi; exact hi
  refine ⟨hi', fun y H' q => ?_⟩
  obtain ⟨rfl, rfl⟩ := q
  exact ⟨Ext.refl _, j, .int (lo + (i : Nat)), by simp [rangeD, hi'], rep_int⟩
/-- the source at a -/
def srcOf (k : Sk) (ds : List D) : D := match k with
  | .l => .lst ds
  | .t => .tup ds
theorem src_inv {U : Addr → Prop} {H : Hp} {k : Sk} {ds : List D} {v : V} (h : Rep K U H (srcOf k ds) v) : ∃ a xs, v = .ref a ∧ k.Sq K H a xs ∧ Reps K U H ds xs := by
  cases k with
  | l =>
    obtain ⟨a, xs, e, hp, r⟩ := rep_lst_inv h
    exact ⟨a, xs, e, SqL.of hp.1, r⟩
  | t =>
    obtain ⟨a, xs, e, hp, r⟩ := rep_tup_inv h
    exact ⟨a, xs, e, hp.sq, r⟩
/-- (c, a), (c + 1, b), .. -/
def enumD (c : Int) : List D → List D
  | [] => []
  | d :: r => .tup [.int c, d] :: enumD (c + 1) r
theorem enumD_length : ∀ (c : Int) (ds : List D), (enumD c ds).length = ds.length
  | _, [] => rfl
  | c, d :: r => by simp [enumD, enumD_length (c + 1) r]
theorem enumD_get : ∀ (c : Int) (ds : List D) (i : Nat) (d : D), ds[i]? = some d → (enumD c ds)[i]? = some (.tup [.int (c + (i : Nat)), d])
  | _, [], i, d, h => by simp at h
  | c, e :: r, 0, d, h => by
    simp at h
    subst h
    simp [enumD]
  | c, e :: r, i + 1, d, h => by
    have ih := enumD_get (c + 1) r i d (by simpa using h)
    simp only [enumD, List.getElem?_cons_succ, ih]
    have : c + 1 + (i : Int) = c + ((i + 1 : Nat) : Int) := by omega
    rw [this]
theorem wk_enum {k : Sk} {a : Addr} {c : Int} {ds : List D} : Wk K g (ItE K k a c) [(srcOf k ds, .ref a)] (enumD c ds) := fun U H gu hU j hs => by
  obtain ⟨a', xs, e, hp, r⟩ := src_inv (hs _ (List.mem_singleton.mpr rfl))
  cases e
  refine ⟨fun i hi => ?_, xs, hp, by rw [r.length, enumD_length]⟩
  rw [enumD_length] at hi
  obtain ⟨x, hx, rx⟩ := r.getD (List.getElem?_eq_getElem hi)
  refine ⟨⟨xs, x, hp, hx⟩, fun y H' q => ?_⟩
  obtain ⟨T, w, rfl, hT, rfl, q⟩ := q
  have e := q xs hp
  rw [hx] at e
  cases e
  exact ⟨Ext.new hT, g.new j hT, _, enumD_get c ds i _ (List.getElem?_eq_getElem hi), rep_tup_new hU hT (Reps.cons rep_int (Reps.cons rx Reps.nil))⟩
/-- pairs -/
def zipD (ds es : List D) : List D := List.zipWith (fun d e => .tup [d, e]) ds es
theorem wk_zip {k k2 : Sk} {a b : Addr} {ds es : List D} : Wk K g (ItZ2 K k k2 a b) [(srcOf k ds, .ref a), (srcOf k2 es, .ref b)] (zipD ds es) := fun U H gu hU j hs => by
  obtain ⟨a', xs, e, hp, r⟩ := src_inv (hs (srcOf k ds, .ref a) (by simp))
  cases e
  obtain ⟨b', ys, e, hp2, r2⟩ := src_inv (hs (srcOf k2 es, .ref b) (by simp))
  cases e
  have hl : (zipD ds es).length = min ds.length es.length := by simp [zipD]
  refine ⟨fun i hi => ?_, xs, ys, hp, hp2, by rw [r.length, r2.length, hl]⟩
  rw [hl] at hi
  have hi1 : i < ds.length := by omega
  have hi2 : i < es.length := by omega
  obtain ⟨x, hx, rx⟩ := r.getD (List.getElem?_eq_getElem hi1)
  obtain ⟨y, hy, ry⟩ := r2.getD (List.getElem?_eq_getElem hi2)
  refine ⟨⟨xs, ys, x, y, hp, hp2, hx, hy⟩, fun v H' q => ?_⟩
  obtain ⟨T, x', y', rfl, hT, rfl, q, q2⟩ := q
  have e := q xs hp
  have e2 := q2 ys hp2
  rw [hx] at e
  rw [hy] at e2
  cases e
  cases e2
  exact ⟨Ext.new hT, g.new j hT, .tup [ds[i], es[i]], by simp [zipD, List.getElem?_zipWith, hi1, hi2], rep_tup_new hU hT (Reps.cons rx (Reps.cons ry Reps.nil))⟩
end
section
variable {X : Cx} {z : Zc} {tg a b : Expr} {ta tb : TE} {ma mb : DEnv → M D} {tr : TA} {mr : DEnv → M (List D)} {p pos tpos : Pos} {elts : List Expr} {kk : Nat}
abbrev asItems (d : D) : M (List D) := fun Q _ => match d with
  | .lst ds => Q ds
  | .tup ds => Q ds
  | .str x => Q (signs x)
  | _ => False
theorem di_any (hK : X.K = z.K) (ha : DE X z a ta ma) : DI X z tg a (iAny z.K ta) (fun ρ => bnd (ma ρ) asItems) := ⟨by rw [← hK]; exact pi_any ha.pe, fun U σ H ρ R Qd E w he h k => ha.tm U σ H ρ _ _ E w he h fun d v H1 h1 e1 j1 r1 => by
  match d, h1 with
  | .lst ds, h1 =>
    obtain ⟨p, xs, rfl, hp, r⟩ := rep_lst_inv r1
    exact .inl ⟨p, rfl, ⟨xs, SqL.of hp.1⟩, k ds _ H1 [(.lst ds, .ref p)] h1 e1 j1 (fun q hq => by rw [List.mem_singleton.mp hq]; exact r1) wk_list⟩
  | .tup ds, h1 =>
    obtain ⟨p, xs, rfl, hp, r⟩ := rep_tup_inv r1
    exact .inr (.inl ⟨p, rfl, ⟨xs, hp.sq⟩, k ds _ H1 [(.tup ds, .ref p)] h1 e1 j1 (fun q hq => by rw [List.mem_singleton.mp hq]; exact r1) wk_tup⟩)
  | .str x, h1 => exact .inr (.inr ⟨x, inv_str r1, k (signs x) _ H1 [] h1 e1 j1 (fun q hq => nomatch hq) wk_str⟩)⟩
abbrev asRange1 (ds : List D) : M (List D) := fun Q _ => match ds with
  | [.int j] => (-(2 ^ 62) ≤ j ∧ j < 2 ^ 62) ∧ Q (rangeD 0 j.toNat)
  | _ => False
abbrev asRange2 (ds : List D) : M (List D) := fun Q _ => match ds with
  | [.int i, .int j] => (-(2 ^ 62) ≤ i ∧ i < 2 ^ 62 ∧ -(2 ^ 62) ≤ j ∧ j < 2 ^ 62) ∧ Q (rangeD i (j - i).toNat)
  | _ => False
theorem di_range1 (hm : X.mg "range" = none) (ha : DA X z [a] tr mr) (hg : Gl X "range" := by rfl) (hs : starEach [a] X.env = [(false, eval a X.env)] := by rfl) : DI X z tg (.Call (.Name "range" p) [a] [] pos) (iRng1 tr) (fun ρ => bnd (mr ρ) asRange1) := ⟨pi_range1 hg hm ha.pe hs, fun U σ H ρ R Qd E w he h k => ha.tm U σ H ρ _ _ E w he h fun ds vs H1 h1 e1 j1 r1 => by
  match ds, h1 with
  | [.int j], h1 =>
    simp only [Reps] at r1
    obtain ⟨x, t, rfl, rx, rfl⟩ := r1
    exact ⟨j, by rw [inv_int rx], h1.1.1, h1.1.2, k _ _ H1 [] h1.2 e1 j1 (fun q hq => nomatch hq) wk_range⟩⟩
theorem di_range2 (hm : X.mg "range" = none) (ha : DA X z [a, b] tr mr) (hg : Gl X "range" := by rfl) (hs : starEach [a, b] X.env = [(false, eval a X.env), (false, eval b X.env)] := by rfl) (hs2 : starEach [b] X.env = [(false, eval b X.env)] := by rfl) : DI X z tg (.Call (.Name "range" p) [a, b] [] pos) (iRng2 tr) (fun ρ => bnd (mr ρ) asRange2) := ⟨pi_range2 hg hm ha.pe hs hs2, fun U σ H ρ R Qd E w he h k => ha.tm U σ H ρ _ _ E w he h fun ds vs H1 h1 e1 j1 r1 => by
  match ds, h1 with
  | [.int i, .int j], h1 =>
    simp only [Reps] at r1
    obtain ⟨x, t, rfl, rx, y, u, rfl, ry, rfl⟩ := r1
    exact ⟨i, j, by rw [inv_int rx, inv_int ry], h1.1, k _ _ H1 [] h1.2 e1 j1 (fun q hq => nomatch hq) wk_range⟩⟩
/-- what enumerate, zip take -/
def seqOf : D → Option (Sk × List D)
  | .lst ds => some (.l, ds)
  | .tup ds => some (.t, ds)
  | _ => none
theorem seqOf_eq {d : D} {k : Sk} {ds : List D} (h : seqOf d = some (k, ds)) : d = srcOf k ds := by
  cases d <;> simp [seqOf] at h
  all_goals
    obtain ⟨rfl, rfl⟩ := h
    rfl
abbrev asEnum (ds : List D) : M (List D) := fun Q _ => match ds with
  | [.lst ds] => Q (enumD 0 ds)
  | [.tup ds] => Q (enumD 0 ds)
  | _ => False
theorem di_enum (hK : X.K = z.K) (hm : X.mg "enumerate" = none) (ha : DA X z [a] tr mr) (hg : Gl X "enumerate" := by rfl) (hs : starEach [a] X.env = [(false, eval a X.env)] := by rfl) : DI X z (.Tuple elts kk tpos) (.Call (.Name "enumerate" p) [a] [] pos) (iEn z.K tr) (fun ρ => bnd (mr ρ) asEnum) := ⟨by rw [← hK]; exact pi_en hg hm ha.pe hs, fun U σ H ρ R Qd E w he h k => ha.tm U σ H ρ _ _ E w he h fun ds vs H1 h1 e1 j1 r1 => by
  have go : ∀ (sk : Sk) (es : List D), ds = [srcOf sk es] → Qd (enumD 0 es) → ∃ (k : Sk) (a : Addr) (xs : List V), vs = [.ref a] ∧ k.Sq z.K H1 a xs ∧ R (ItE z.K k a 0) H1 := fun sk es e q => by
    subst e
    simp only [Reps] at r1
    obtain ⟨x, t, rfl, rx, rfl⟩ := r1
    obtain ⟨p, xs, rfl, hp, r⟩ := src_inv rx
    exact ⟨sk, p, xs, rfl, hp, k _ _ H1 [(srcOf sk es, .ref p)] q e1 j1 (fun q hq => by rw [List.mem_singleton.mp hq]; exact rx) wk_enum⟩
  match ds, h1, go with
  | [.lst es], h1, go => exact go .l es rfl h1
  | [.tup es], h1, go => exact go .t es rfl h1⟩
abbrev asZip (ds : List D) : M (List D) := fun Q _ => match ds with
  | [.lst ds, .lst es] => Q (zipD ds es)
  | [.lst ds, .tup es] => Q (zipD ds es)
  | [.tup ds, .lst es] => Q (zipD ds es)
  | [.tup ds, .tup es] => Q (zipD ds es)
  | _ => False
theorem di_zip (hK : X.K = z.K) (hm : X.mg "zip" = none) (ha : DA X z [a, b] tr mr) (hg : Gl X "zip" := by rfl) (hs : starEach [a, b] X.env = (false, eval a X.env) :: starEach [b] X.env := by rfl) (hpl : (backTo pos (starEach [b] X.env)).any (·.1) = false := by rfl) :
    DI X z (.Tuple elts kk tpos) (.Call (.Name "zip" p) [a, b] [] pos) (iZ2 z.K tr) (fun ρ => bnd (mr ρ) asZip) := ⟨by rw [← hK]; exact pi_z2 hg hm ha.pe hs hpl, fun U σ H ρ R Qd E w he h k => ha.tm U σ H ρ _ _ E w he h fun ds vs H1 h1 e1 j1 r1 => by
  have go : ∀ (sk sk2 : Sk) (es fs : List D), ds = [srcOf sk es, srcOf sk2 fs] → Qd (zipD es fs) → ∃ (k k2 : Sk) (a b : Addr) (xs ys : List V), vs = [.ref a, .ref b] ∧ k.Sq z.K H1 a xs ∧ k2.Sq z.K H1 b ys ∧ R (ItZ2 z.K k k2 a b) H1 := fun sk sk2 es fs e q => by
    subst e
    simp only [Reps] at r1
    obtain ⟨x, t, rfl, rx, y, u, rfl, ry, rfl⟩ := r1
    obtain ⟨p, xs, rfl, hp, r⟩ := src_inv rx
    obtain ⟨p2, ys, rfl, hp2, r2⟩ := src_inv ry
    exact ⟨sk, sk2, p, p2, xs, ys, rfl, hp, hp2, k _ _ H1 [(srcOf sk es, .ref p), (srcOf sk2 fs, .ref p2)] q e1 j1 (fun q hq => by
      rcases List.mem_cons.mp hq with hq | hq
      · rw [hq]; exact rx
      · rw [List.mem_singleton.mp hq]; exact ry) wk_zip⟩
  match ds, h1, go with
  | [.lst es, .lst fs], h1, go => exact go .l .l es fs rfl h1
  | [.lst es, .tup fs], h1, go => exact go .l .t es fs rfl h1
  | [.tup es, .lst fs], h1, go => exact go .t .l es fs rfl h1
  | [.tup es, .tup fs], h1, go => exact go .t .t es fs rfl h1⟩
end

/-! ### for -/
theorem TMi.keep {z : Zc} {wi : TI} {mi : DEnv → M (List D)} (h : TMi z wi mi) (kp : List (D × V)) : TMi (z.keep kp) wi mi := fun U σ H ρ R Qd E w he hm k => h U σ H ρ R Qd E ⟨⟨w.ok.gu, w.ok.ek⟩, w.u, w.dom, w.ext, w.j, w.env⟩ he hm k
theorem SO.flatk {z : Zc} {O : List Nat} {oa : Nat → Addr} {σ : L2.St} {H : Hp} {ρ : DEnv} {a b : List (D × V)} : SO ((z.keep a).keep b) O oa σ H ρ ↔ SO (z.keep (b ++ a)) O oa σ H ρ := by
  have e : (z.keep a).keep b = z.keep (b ++ a) := by
    unfold Zc.keep
    simp [List.append_assoc]
  rw [e]
theorem SO.unkeep {z : Zc} {O : List Nat} {oa : Nat → Addr} {σ : L2.St} {H : Hp} {ρ : DEnv} {kp : List (D × V)} (s : SO (z.keep kp) O oa σ H ρ) : SO z O oa σ H ρ :=
  ⟨⟨s.ok.gu, s.ok.ek⟩, s.ext, s.j, s.d0, s.len, s.env, s.own, s.inj, fun p hp => s.kp p (List.mem_append_right _ hp)⟩
theorem SO.keep {z : Zc} {O : List Nat} {oa : Nat → Addr} {σ : L2.St} {H : Hp} {ρ : DEnv} {kp : List (D × V)} (s : SO z O oa σ H ρ) (h : ∀ p, p ∈ kp → Rep z.K (Uo z O oa ρ) H p.1 p.2) : SO (z.keep kp) O oa σ H ρ :=
  ⟨⟨s.ok.gu, s.ok.ek⟩, s.ext, s.j, s.d0, s.len, s.env, s.own, s.inj, fun p hp => (List.mem_append.mp hp).elim (h p) (s.kp p)⟩
/-- the turns of a loop over some items -/
def forW (mg : D → (DEnv → Prop) → DEnv → Prop) (mb : MS) (κ : DK) (E : DX → Prop) : List D → DEnv → Prop
  | [], ρ => κ.nx ρ
  | d :: r, ρ => mg d (mb { nx := forW mg mb κ E r, rt := κ.rt, bk := κ.nx, ct := forW mg mb κ E r } E) ρ
theorem ds_for {X : Cx} {z : Zc} {O : List Nat} {tg iter : Expr} {body : List Stmt} {wi : TI} {mi : DEnv → M (List D)} {g : TG} {mg : D → (DEnv → Prop) → DEnv → Prop} {tb : TS} {mb : MS} {pos : Pos} (hp : PassesOwn (model X.prog X.w) X.A X.env X.xe) (hc : X.calm = true)
    (hi : DI X z tg iter wi mi) (hg : DG X z O tg g mg) (hb : DSs X z O body tb mb) (hs : ∀ x, foldedSetIterable iter X.env x = pure x) :
    DS X z O (.For tg iter body [] pos) (tFor wi g tb) (fun κ E ρ => mi (hide O ρ) (fun items => forW mg mb κ E items ρ) E) := ⟨ps_for hp hc hi.pi hg.pg hb.ps hs, fun kp oa σ H ρ Dn κ E s hE ko hm => by
  refine (hi.tm.keep kp) _ σ H _ _ _ E s.vis hE hm fun items J H1 srcs hq e1 j1 hsrc hwk => ?_
  have s1 : SO (z.keep (srcs ++ kp)) O oa σ H1 ρ := SO.flatk.mp ((s.step e1 j1).keep hsrc)
  refine ⟨fun i m σ' H' => ∃ oa' ρ', i ≤ items.length ∧ m = items.length - i ∧ SO (z.keep (srcs ++ kp)) O oa' σ' H' ρ' ∧ forW mg mb κ E (items.drop i) ρ', ⟨_, oa, ρ, Nat.zero_le _, rfl, s1, by rw [List.drop_zero]; exact hq⟩, ?_⟩
  rintro i m σ' H' ⟨oa', ρ', hil, rfl, s', hf⟩
  obtain ⟨w1, w2⟩ := hwk (Uo (z.keep (srcs ++ kp)) O oa' ρ') H' s'.gu s'.dom s'.j fun p hp => s'.kp p (List.mem_append_left _ (List.mem_append_left _ hp))
  by_cases hlt : i < items.length
  · obtain ⟨hgo, hy⟩ := w1 i hlt
    rw [List.drop_eq_getElem_cons hlt] at hf
    refine .inr ⟨hgo, fun σ2 H2 => ∃ oa2 ρ2, SO (z.keep (srcs ++ kp)) O oa2 σ2 H2 ρ2 ∧ forW mg mb κ E (items.drop (i + 1)) ρ2, ?_, ?_⟩
    · rintro σ2 H2 ⟨oa2, ρ2, s2, h2⟩
      exact ⟨items.length - (i + 1), by omega, oa2, ρ2, hlt, rfl, s2, h2⟩
    · intro x H2 hyl
      obtain ⟨e2, j2, d, hd, rd⟩ := hy x H2 hyl
      rw [List.getElem?_eq_getElem hlt] at hd
      cases hd
      refine hg.tm (srcs ++ kp) oa' σ' H2 ρ' _ x _ _ (s'.step e2 j2) rd hf fun oa3 σ3 H3 ρ3 s3 h3 => ?_
      exact hb.tm (srcs ++ kp) oa3 σ3 H3 ρ3 _ { nx := forW mg mb κ E (items.drop (i + 1)), rt := κ.rt, bk := κ.nx, ct := forW mg mb κ E (items.drop (i + 1)) } E s3 hE ⟨fun oa σ H ρ s q => ⟨oa, ρ, s, q⟩, ko.rt, fun oa σ H ρ s q => ko.nx oa σ H ρ (SO.flatk.mpr s).unkeep q, fun oa σ H ρ s q => ⟨oa, ρ, s, q⟩⟩ h3
  · have e : i = items.length := by omega
    subst e
    rw [List.drop_length] at hf
    exact .inl ⟨w2, ko.nx oa' σ' H' ρ' (SO.flatk.mpr s').unkeep hf⟩⟩

/-! ### comprehensions -/
def wipeD (ρ : DEnv) : List Nat → DEnv
  | [] => ρ
  | v :: vs => (wipeD ρ vs).set v none
theorem wipeD_length (ρ : DEnv) : ∀ vs : List Nat, (wipeD ρ vs).length = ρ.length
  | [] => rfl
  | v :: vs => by unfold wipeD; rw [List.length_set, wipeD_length ρ vs]
theorem wipeD_some {ρ : DEnv} {i : Nat} {x : D} : ∀ {vs : List Nat}, (wipeD ρ vs)[i]? = some (some x) → ρ[i]? = some (some x) ∧ i ∉ vs
  | [], h => ⟨h, by simp⟩
  | v :: vs, h => by
    unfold wipeD at h
    by_cases hi : v = i
    · subst hi
      by_cases hv : v < (wipeD ρ vs).length
      · rw [List.getElem?_set_self hv] at h; cases h
      · rw [List.getElem?_eq_none (by simpa using hv)] at h; cases h
    · rw [List.getElem?_set_ne hi] at h
      obtain ⟨h1, h2⟩ := wipeD_some h
      exact ⟨h1, by simp only [List.mem_cons, not_or]; exact ⟨fun e => hi e.symm, h2⟩⟩
theorem wipe_get {σ : L2.St} {i : Nat} : ∀ {vs : List Nat}, i ∉ vs → (wipe σ vs)[i]? = σ[i]? := fun h => wipe_out h
theorem wipe_set {σ : L2.St} {i : Nat} {o : Option V} : ∀ {vs : List Nat}, i ∈ vs → wipe (σ.set i o) vs = wipe σ vs
  | [], h => by simp at h
  | v :: vs, h => by
    unfold wipe
    by_cases hv : i ∈ vs
    · rw [wipe_set hv]
    · have e : v = i := by
        rcases List.mem_cons.mp h with q | q
        · exact q.symm
        · exact absurd q hv
      subst e
      have go : ∀ (ws : List Nat), v ∉ ws → wipe (σ.set v o) ws = (wipe σ ws).set v o := by
        intro ws
        induction ws with
        | nil => intro _; rfl
        | cons w ws ih =>
          intro hw
          simp only [List.mem_cons, not_or] at hw
          show (wipe (σ.set v o) ws).set w none = ((wipe σ ws).set w none).set v o
          rw [ih hw.2, List.set_comm _ _ hw.1]
      rw [go vs hv, List.set_set]
theorem wipe_none {σ : L2.St} {i : Nat} : ∀ {vs : List Nat}, i ∈ vs → (wipe σ vs).set i none = wipe σ vs
  | [], h => by simp at h
  | v :: vs, h => by
    show ((wipe σ vs).set v none).set i none = (wipe σ vs).set v none
    rcases List.mem_cons.mp h with q | q
    · subst q
      rw [List.set_set]
    · by_cases e : i = v
      · subst e
        rw [List.set_set]
      · rw [List.set_comm _ _ (fun z => e z.symm), wipe_none q]
theorem wipe_wipe (σ : L2.St) (vs : List Nat) : wipe (wipe σ vs) vs = wipe σ vs := by
  have go : ∀ ws : List Nat, (∀ v, v ∈ ws → v ∈ vs) → wipe (wipe σ vs) ws = wipe σ vs := by
    intro ws
    induction ws with
    | nil => intro _; rfl
    | cons w ws ih =>
      intro h
      show (wipe (wipe σ vs) ws).set w none = _
      rw [ih fun v hv => h v (List.mem_cons_of_mem _ hv), wipe_none (h w (List.mem_cons_self ..))]
  exact go vs fun _ h => h
theorem WR.wipe {z : Zc} {U : Addr → Prop} {σ : L2.St} {H : Hp} {ρ : DEnv} (w : WR z U σ H ρ) (vs : List Nat) : WR z U (L2.wipe σ vs) H (wipeD ρ vs) := ⟨w.ok, w.u, w.dom, w.ext, w.j, by rw [wipeD_length, wipe_length]; exact w.env.1, fun (i : Nat) (d : D) h => by
  obtain ⟨h1, h2⟩ := wipeD_some h
  obtain ⟨v, e, r⟩ := w.env.2 i d h1
  exact ⟨v, by rw [wipe_get h2]; exact e, r⟩⟩
theorem WR.set {z : Zc} {U : Addr → Prop} {σ : L2.St} {H : Hp} {ρ : DEnv} (w : WR z U σ H ρ) (i : Nat) {d : D} {v : V} (r : Rep z.K U H d v) : WR z U (σ.set i (some v)) H (ρ.set i (some d)) := ⟨w.ok, w.u, w.dom, w.ext, w.j, by simpa using w.env.1, fun (k : Nat) (d' : D) h => by
  rcases set_some h with ⟨e, hl, e2⟩ | ⟨ne, h⟩
  · subst e; subst e2
    exact ⟨v, by rw [List.getElem?_set_self (by rw [← w.env.1]; exact hl)], r⟩
  · obtain ⟨v', e1, r'⟩ := w.env.2 k d' h
    exact ⟨v', by rw [List.getElem?_set_ne (Ne.symm ne)]; exact e1, r'⟩⟩
/-- targets within a comprehension: they store into the slots vs -/
def TMge (z : Zc) (vs : List Nat) (g : TG) (mg : D → (DEnv → Prop) → DEnv → Prop) : Prop := ∀ (U : Addr → Prop) (σ : L2.St) (H : Hp) (ρ : DEnv) (d : D) (v : V) (k : DEnv → Prop) (Q : L2.St → Hp → Prop), WR z U σ H ρ → Rep z.K U H d v → mg d k ρ → (∀ σ' ρ', WR z U σ' H ρ' → L2.wipe σ' vs = L2.wipe σ vs → k ρ' → Q σ' H) → g v σ H Q
def TMges (z : Zc) (vs : List Nat) (g : TGs) (mg : List D → (DEnv → Prop) → DEnv → Prop) : Prop := ∀ (U : Addr → Prop) (σ : L2.St) (H : Hp) (ρ : DEnv) (ds : List D) (xs : List V) (k : DEnv → Prop) (Q : L2.St → Hp → Prop), WR z U σ H ρ → Reps z.K U H ds xs → mg ds k ρ → (∀ σ' ρ', WR z U σ' H ρ' → L2.wipe σ' vs = L2.wipe σ vs → k ρ' → Q σ' H) → g xs σ H Q
structure DGe (X : Cx) (z : Zc) (vs : List Nat) (tg : Expr) (g : TG) (mg : D → (DEnv → Prop) → DEnv → Prop) : Prop where
  pg : PG X tg g
  tm : TMge z vs g mg
structure DGes (X : Cx) (z : Zc) (vs : List Nat) (ts : List Expr) (g : TGs) (mg : List D → (DEnv → Prop) → DEnv → Prop) : Prop where
  pg : PGs X ts g
  tm : TMges z vs g mg
section
variable {X : Cx} {z : Zc} {vs : List Nat} {pos : Pos}
theorem dge_name (i : Nat) {x : Str} (hN : X.N.Nodup) (hv : i ∈ vs := by decide) (hi : X.N[i]? = some x := by rfl) (hx : Loc X.env.scope x := by first | exact .inl rfl | exact .inr rfl) (hf : X.fn x = true ∨ X.env.scope.names.lookup x = some .local := by first | exact .inl rfl | exact .inr rfl) : DGe X z vs (.Name x pos) (gName i) (mgName i) := ⟨pg_name hN hi hx hf, fun U σ H ρ d v k Q w r hm kq =>
  kq _ _ (w.set i r) (wipe_set hv) hm⟩
theorem dges_nil : DGes X z vs [] gNil mgNil := ⟨pgs_nil, fun U σ H ρ ds xs k Q w r hm kq => by
  cases ds with
  | nil => simp only [Reps] at r; exact ⟨r, kq σ ρ w rfl hm⟩
  | cons d ds => exact hm.elim⟩
theorem dges_cons (i : Nat) {x : Str} {es : List Expr} {u : TGs} {m : List D → (DEnv → Prop) → DEnv → Prop} (hN : X.N.Nodup) (h2 : DGes X z vs es u m) (hv : i ∈ vs := by decide) (hi : X.N[i]? = some x := by rfl) (hx : Loc X.env.scope x := by first | exact .inl rfl | exact .inr rfl) (hf : X.fn x = true ∨ X.env.scope.names.lookup x = some .local := by first | exact .inl rfl | exact .inr rfl)
    (hs : (assignEach (.Name x pos :: es) X.env).map (·.2) = assign (.Name x pos) X.env :: (assignEach es X.env).map (·.2) := by rfl) : DGes X z vs (.Name x pos :: es) (gCons (gName i) u) (mgCons i m) := ⟨pgs_cons (pg_name hN hi hx hf) h2.pg hs, fun U σ H ρ ds xs k Q w r hm kq => by
  cases ds with
  | nil => exact hm.elim
  | cons d ds =>
    simp only [Reps] at r
    obtain ⟨v, vr, rfl, r1, r2⟩ := r
    exact ⟨v, vr, rfl, h2.tm U _ H _ ds vr k Q (w.set i r1) r2 hm fun σ' ρ' w' e h => kq σ' ρ' w' (e.trans (wipe_set hv)) h⟩⟩
theorem dge_tup {es : List Expr} {k : Nat} {t : TGs} {n : Nat} {m : List D → (DEnv → Prop) → DEnv → Prop} (hc : X.calm = true) (hK : X.K = z.K) (h : DGes X z vs es t m) (hn : (assignEach es X.env).length = n := by rfl) (hst : (assignEach es X.env).findIdx? (·.1) = none := by rfl) :
    DGe X z vs (.Tuple es k pos) (gTup z.K n t) (mgTup n m) := ⟨by rw [← hK]; exact pg_tup hc h.pg hn hst, fun U σ H ρ d v k Q w r hm kq => by
  cases d with
  | tup ds =>
    simp only [Rep] at r
    obtain ⟨a, xs, rfl, ha, r⟩ := r
    exact ⟨a, xs, rfl, ha.sq, by rw [r.length]; exact hm.1, h.tm U σ H ρ ds xs k Q w r hm.2 kq⟩
  | _ => exact hm.elim⟩
structure DTs (X : Cx) (z : Zc) (ifs : List Expr) (tt : TT) (mt : DEnv → M Bool) : Prop where
  pt : PTs X ifs tt
  tm : TMt z tt mt
theorem dts_nil : DTs X z [] tYes (fun _ => ret true) := ⟨pts_nil, fun U σ H ρ Q Qd E w he h k => k true H h (Ext.refl H) w.j⟩
theorem dts_one {c : Expr} {t : TT} {m : DEnv → M Bool} (h : DT X z c t m) : DTs X z [c] t m := ⟨pts_one h.pe, h.tm⟩
end
/-- a comprehension's turns; acc: what is made so far -/
def lcW (mg : D → (DEnv → Prop) → DEnv → Prop) (mt : DEnv → M Bool) (me : DEnv → M D) (ρ : DEnv) : List D → List D → (List D → Prop) → Prop
  | acc, [], Q => Q acc
  | acc, d :: r, Q => mg d (fun ρ' => mt ρ' (fun b => if b = true then me ρ' (fun y => lcW mg mt me ρ (acc ++ [y]) r Q) (fun _ => False) else lcW mg mt me ρ acc r Q) (fun _ => False)) ρ
abbrev mLc (mi : DEnv → M (List D)) (mg : D → (DEnv → Prop) → DEnv → Prop) (mt : DEnv → M Bool) (me : DEnv → M D) (vs : List Nat) (ρ : DEnv) : M D := fun Q E => mi ρ (fun items => items.length ≤ sizeLine ∧ lcW mg mt me (wipeD ρ vs) [] items fun acc => Q (.lst acc)) E
/-- a fresh list -/
def TMf (z : Zc) (te : TE) (m : DEnv → M D) : Prop := ∀ (U : Addr → Prop) (σ : L2.St) (H : Hp) (ρ : DEnv) (Q : VK) (Qd : D → Prop) (E : DX → Prop), WR z U σ H ρ → (∀ x, E x → z.Ed x) → m ρ Qd E →
  (∀ dd a u H', Qd dd → H a = none → Ext z.g.G H H' → z.g.J H' → H' a = some u → OwnO z.K (fun b => U b ∨ b = a) H' dd u → Q (.ref a) H') → te σ H Q
theorem TMf.tm {z : Zc} {te : TE} {m : DEnv → M D} (h : TMf z te m) : TMe z te m := fun U σ H ρ Q Qd E w he hm k => h U σ H ρ Q Qd E w he hm fun dd a u H' q ha e j hx r => k dd (.ref a) H' q e j (r.rep hx (w.fresh ha) fun _ h => .inl h)
theorem tmf_lc {z : Zc} {wi : TI} {mi : DEnv → M (List D)} {g : TG} {mg : D → (DEnv → Prop) → DEnv → Prop} {tt : TT} {mt : DEnv → M Bool} {te : TE} {me : DEnv → M D} {vs : List Nat} (hi : TMi z wi mi) (hg : TMge z.nox vs g mg) (ht : TMt z.nox tt mt) (he : TMe z.nox te me) :
    TMf z (tLc wi g tt te vs) (mLc mi mg mt me vs) := fun U σ H ρ Q Qd E w hE hm k => by
  refine hi U σ H ρ _ _ E w hE hm fun items J H1 srcs hq e1 j1 hsrc hwk L hL => ?_
  have w1 := w.step e1 j1
  have gL : ¬ z.g.G L := fun q => z.g.dom H1 L j1 q hL
  have nU : ¬ U L := w1.fresh hL
  have hHL : H L = none := by
    cases q : H L with
    | none => rfl
    | some o => rw [e1 L o q gL] at hL; cases hL
  have h0L : z.H0 L = none := by
    cases q : z.H0 L with
    | none => rfl
    | some o => rw [w1.ext L o q gL] at hL; cases hL
  -- what stands at a turn
  have up : ∀ {H2 : Hp} {o : HO} {acc : List V} {σ2 : L2.St} {ρ2 : DEnv}, WR z.nox (fun b => U b ∨ b = L) σ2 H2 ρ2 → H2 L = some (.lst acc) → WR z.nox (fun b => U b ∨ b = L) σ2 (upd H2 L o) ρ2 := fun {H2 o acc σ2 ρ2} w2 hl => by
    refine ⟨w2.ok, w2.u, fun a ha => ?_, fun a o' h g => ?_, z.g.st H2 _ w2.j (fun a ha => upd_ne fun q => gL (q ▸ ha)) (fun a φ e => by rw [upd_ne (fun q => by rw [q, hl] at e; cases e)]; exact e), w2.env.1, fun (i : Nat) (d : D) h => ?_⟩
    · by_cases q : a = L
      · rw [q, upd_same]; simp
      · rw [upd_ne q]; exact w2.dom a ha
    · rw [upd_ne (ne_of_none h h0L)]
      exact w2.ext a o' h g
    · obtain ⟨v, e, r⟩ := w2.env.2 i d h
      exact ⟨v, e, Rep.mono' (fun b ob hb n => ⟨by rw [upd_ne fun q => n (.inr q)]; exact hb, n⟩) d v r⟩
  have repUp : ∀ {H2 : Hp} {o : HO} {d : D} {v : V}, Rep z.K (fun b => U b ∨ b = L) H2 d v → Rep z.K (fun b => U b ∨ b = L) (upd H2 L o) d v := fun {H2 o d v} r =>
    Rep.mono' (fun b ob hb n => ⟨by rw [upd_ne fun q => n (.inr q)]; exact hb, n⟩) d v r
  have repsUp : ∀ {H2 : Hp} {o : HO} {d : List D} {v : List V}, Reps z.K (fun b => U b ∨ b = L) H2 d v → Reps z.K (fun b => U b ∨ b = L) (upd H2 L o) d v := fun {H2 o d v} r =>
    Reps.mono' (fun b ob hb n => ⟨by rw [upd_ne fun q => n (.inr q)]; exact hb, n⟩) d v r
  refine ⟨fun i m H2 => ∃ accD acc, i ≤ items.length ∧ m = items.length - i ∧ accD.length ≤ i ∧ H2 L = some (.lst acc) ∧ Reps z.K (fun b => U b ∨ b = L) H2 accD acc ∧ WR z.nox (fun b => U b ∨ b = L) (L2.wipe σ vs) H2 (wipeD ρ vs) ∧ (∀ p, p ∈ srcs → Rep z.K (fun b => U b ∨ b = L) H2 p.1 p.2) ∧ Ext z.g.G H H2 ∧ lcW mg mt me (wipeD ρ vs) accD (items.drop i) fun acc => Qd (.lst acc), ?_, ?_⟩
  · have first : ∀ {d : D} {v : V}, Rep z.K U H1 d v → Rep z.K (fun b => U b ∨ b = L) (upd H1 L (.lst [])) d v := fun {d v} r =>
      Rep.mono' (fun b ob hb n => ⟨by rw [upd_ne (ne_of_none hb hL)]; exact hb, fun q => q.elim n fun q => by rw [q, hL] at hb; cases hb⟩) d v r
    have ww := (w1.wipe vs).nox
    refine ⟨_, [], [], Nat.zero_le _, rfl, Nat.le_refl _, upd_same, Reps.nil, ⟨ww.ok, fun a h => .inl (ww.u a h), fun a ha => ?_, fun a o' h g => ?_, z.g.new j1 hL, ww.env.1, fun (i : Nat) (d : D) h => ?_⟩, fun p hp => first (hsrc p hp), e1.trans (Ext.new hL), by rw [List.drop_zero]; exact hq.2⟩
    · by_cases q : a = L
      · rw [q, upd_same]; simp
      · rw [upd_ne q]; exact w1.dom a (ha.resolve_right q)
    · rw [upd_ne (ne_of_none h h0L)]
      exact ww.ext a o' h g
    · obtain ⟨v, e, r⟩ := ww.env.2 i d h
      exact ⟨v, e, first r⟩
  · rintro i m H2 ⟨accD, acc, hil, rfl, hacc, hHL2, rAcc, w2, hsrc2, e2, hf⟩
    obtain ⟨k1, k2⟩ := hwk (fun b => U b ∨ b = L) H2 (fun a h => .inl (w.gu a h)) w2.dom w2.j hsrc2
    by_cases hlt : i < items.length
    · obtain ⟨hgo, hy⟩ := k1 i hlt
      rw [List.drop_eq_getElem_cons hlt] at hf
      refine .inr ⟨hgo, fun H3 => ∃ accD acc, accD.length ≤ i + 1 ∧ H3 L = some (.lst acc) ∧ Reps z.K (fun b => U b ∨ b = L) H3 accD acc ∧ WR z.nox (fun b => U b ∨ b = L) (L2.wipe σ vs) H3 (wipeD ρ vs) ∧ (∀ p, p ∈ srcs → Rep z.K (fun b => U b ∨ b = L) H3 p.1 p.2) ∧ Ext z.g.G H H3 ∧ lcW mg mt me (wipeD ρ vs) accD (items.drop (i + 1)) fun acc => Qd (.lst acc), ?_, ?_⟩
      · rintro H3 ⟨accD', acc', a1, a2, a3, a4, a5, a6, a7⟩
        exact ⟨items.length - (i + 1), by omega, accD', acc', hlt, rfl, a1, a2, a3, a4, a5, a6, a7⟩
      · intro x H3 hyl
        obtain ⟨e3, j3, d, hd, rd⟩ := hy x H3 hyl
        rw [List.getElem?_eq_getElem hlt] at hd
        cases hd
        have w3 := w2.step (z := z.nox) e3 j3
        have gu2 : ∀ a, z.g.G a → (fun b => U b ∨ b = L) a := fun a h => .inl (w.gu a h)
        have L3 : ∀ {H4 : Hp} {acc : List V} {H5 : Hp}, Ext z.g.G H4 H5 → H4 L = some (.lst acc) → H5 L = some (.lst acc) := fun e h => e _ _ h gL
        refine hg _ _ H3 _ _ x _ _ w3 rd hf fun σ4 ρ4 w4 hwp h4 => ⟨hwp.trans (wipe_wipe σ vs), ?_⟩
        refine ht _ σ4 H3 ρ4 _ _ _ w4 (fun _ h => h) h4 fun b H5 h5 e5 j5 => ?_
        have w5 := w4.step (z := z.nox) e5 j5
        have w3' := w3.step (z := z.nox) e5 j5
        cases b with
        | true =>
          rw [if_pos rfl] at h5 ⊢
          refine he _ σ4 H5 ρ4 _ _ _ w5 (fun _ h => h) h5 fun y v H6 h6 e6 j6 ry => ?_
          have w6 := w3'.step (z := z.nox) e6 j6
          refine ⟨acc, L3 (e3.trans (e5.trans e6)) hHL2, ?_, accD ++ [y], acc ++ [v], ?_, upd_same, repsUp ((((rAcc.ext e3 gu2).ext e5 gu2).ext e6 gu2).append (Reps.cons ry Reps.nil)), up w6 (L3 (e3.trans (e5.trans e6)) hHL2), fun p hp => repUp ((((hsrc2 p hp).ext e3 gu2).ext e5 gu2).ext e6 gu2), fun a o h g => ?_, h6⟩
          · rw [rAcc.length]
            have := hq.1
            omega
          · rw [List.length_append]
            show accD.length + 1 ≤ i + 1
            omega
          · rw [upd_ne (ne_of_none h hHL)]
            exact ((e2.trans e3).trans (e5.trans e6)) a o h g
        | false =>
          rw [if_neg Bool.false_ne_true] at h5 ⊢
          exact ⟨accD, acc, by omega, L3 (e3.trans e5) hHL2, (rAcc.ext e3 gu2).ext e5 gu2, w3', fun p hp => ((hsrc2 p hp).ext e3 gu2).ext e5 gu2, (e2.trans e3).trans e5, h5⟩
    · have e : i = items.length := by omega
      subst e
      rw [List.drop_length] at hf
      exact .inl ⟨k2, k (.lst accD) L (.lst acc) H2 hf hHL e2 w2.j hHL2 (.inl ⟨_, _, rfl, rfl, rAcc⟩)⟩
section
variable {X : Cx} {z : Zc} {O : List Nat} {elt tg iter : Expr} {ifs : List Expr} {scope : Scope} {own : List (Str × Nat)} {pos spos py : Pos} {wi : TI} {mi : DEnv → M (List D)} {g : TG} {mg : D → (DEnv → Prop) → DEnv → Prop} {tt : TT} {mt : DEnv → M Bool} {te : TE} {me : DEnv → M D} {y : Str}
/-- a list that is new, by a comprehension -/
structure DF (X : Cx) (z : Zc) (e : Expr) (te : TE) (m : DEnv → M D) : Prop where
  pe : PE X e te
  tm : TMf z te m
theorem DF.de {e : Expr} {m : DEnv → M D} (h : DF X z e te m) : DE X z e te m := ⟨h.pe, h.tm.tm⟩
theorem df_lc (hc : X.calm = true) (hN : X.N.Nodup) (hi : DI X z tg iter wi mi) (ok : BlkOk X.N X.env.scope scope own)
    (hg : ∀ (s : Shared) (H : Hp) (C : Addr) (cl : List (Str × Addr)) (fp : List Addr), DGe (X.blk s H scope (compEnvC scope cl C X.env) fp) z.nox (own.map (·.2)) tg g mg) (ht : ∀ (s : Shared) (H : Hp) (C : Addr) (cl : List (Str × Addr)) (fp : List Addr), DTs (X.blk s H scope (compEnvC scope cl C X.env) fp) z.nox ifs tt mt)
    (he : ∀ (s : Shared) (H : Hp) (C : Addr) (cl : List (Str × Addr)) (fp : List Addr), DE (X.blk s H scope (compEnvC scope cl C X.env) fp) z.nox elt te me) (hs : ∀ x, foldedSetIterable iter X.env x = pure x) :
    DF X z (.ListComp elt [⟨tg, iter, ifs, 0⟩] scope pos) (tLc wi g tt te (own.map (·.2))) (mLc mi mg mt me (own.map (·.2))) :=
  ⟨pe_lc hc hN hi.pi ok (fun s H C cl fp => (hg s H C cl fp).pg) (fun s H C cl fp => (ht s H C cl fp).pt) (fun s H C cl fp => (he s H C cl fp).pe) hs,
    tmf_lc hi.tm (hg {} (fun _ => none) 0 [] []).tm (ht {} (fun _ => none) 0 [] []).tm (he {} (fun _ => none) 0 [] []).tm⟩
end
end DL

/-! DOwn: names that get new lists; append and its like; several names at once. -/
namespace DL
open PySem PySem.Spec PyProof.Rows L2

/-! ### one name -/
theorem TMf.keep {z : Zc} {te : TE} {m : DEnv → M D} (h : TMf z te m) (kp : List (D × V)) : TMf (z.keep kp) te m := fun U σ H ρ Q Qd E w he hm k => h U σ H ρ Q Qd E ⟨⟨w.ok.gu, w.ok.ek⟩, w.u, w.dom, w.ext, w.j, w.env⟩ he hm k
theorem tms_set0 {z : Zc} {O : List Nat} {te : TE} {me : DEnv → M D} {i : Nat} (he : TMe z te me) (ho : i ∉ O) : TMs0 z O (tAsg te (gName i)) (fun κ E ρ => me (hide O ρ) (fun d => κ.nx (ρ.set i (some d))) E) := fun oa σ H ρ Dn κ E s hE ko hm =>
  he _ σ H _ _ _ E s.vis hE hm fun d v H' q e1 j1 r1 => ko.nx oa _ H' _ ((s.step e1 j1).set ho r1) q
theorem tms_new0 {z : Zc} {O : List Nat} {te : TE} {me : DEnv → M D} {i : Nat} (he : TMf z te me) (ho : i ∈ O) : TMs0 z O (tAsg te (gName i)) (fun κ E ρ => me (hide O ρ) (fun d => κ.nx (ρ.set i (some d))) E) := fun oa σ H ρ Dn κ E s hE ko hm =>
  he _ σ H _ _ _ E s.vis hE hm fun dd a u H' q ha e1 j1 hx r1 => ko.nx _ _ H' _ (s.setOwn ho e1 j1 ha hx r1) q
section
variable {X : Cx} {z : Zc} {O : List Nat} {e : Expr} {te : TE} {me : DEnv → M D} {pos pos' : Pos} {x : Str}
/-- x = a new list, the def's own from now on -/
theorem ds_new (i : Nat) (hN : X.N.Nodup) (he : DF X z e te me) (hi : X.N[i]? = some x := by rfl) (hx : Loc X.env.scope x := by first | exact .inl rfl | exact .inr rfl) (ho : i ∈ O := by decide) (hs : swapsWith e (some (.Name x pos')) pos.line X.env = pure false := by rfl) (hf : X.fn x = true ∨ X.env.scope.names.lookup x = some .local := by first | exact .inl rfl | exact .inr rfl) :
    DS X z O (.Assign [.Name x pos'] e pos) (tAsg te (gName i)) (fun κ E ρ => me (hide O ρ) (fun d => κ.nx (ρ.set i (some d))) E) := ⟨ps_set hN hi hx he.pe hs hf, tms_of fun kp => tms_new0 (he.tm.keep kp) ho⟩
variable {elt tg iter : Expr} {ifs : List Expr} {scope : Scope} {own : List (Str × Nat)} {spos py : Pos} {wi : TI} {mi : DEnv → M (List D)} {g : TG} {mg : D → (DEnv → Prop) → DEnv → Prop} {tt : TT} {mt : DEnv → M Bool}
/-- x = [..] on one line -/
theorem ds_setLc (i : Nat) (hc : X.calm = true) (hN : X.N.Nodup) (hi : DI X z tg iter wi mi) (ok : BlkOk X.N X.env.scope scope own)
    (hg : ∀ (s : Shared) (H : Hp) (C : Addr) (cl : List (Str × Addr)) (fp : List Addr), DGe (X.blk s H scope (compEnvC scope cl C X.env) fp) z.nox (own.map (·.2)) tg g mg) (ht : ∀ (s : Shared) (H : Hp) (C : Addr) (cl : List (Str × Addr)) (fp : List Addr), DTs (X.blk s H scope (compEnvC scope cl C X.env) fp) z.nox ifs tt mt)
    (he : ∀ (s : Shared) (H : Hp) (C : Addr) (cl : List (Str × Addr)) (fp : List Addr), DE (X.blk s H scope (compEnvC scope cl C X.env) fp) z.nox elt te me)
    (hsw : swapsWith (.ListComp elt [⟨tg, iter, ifs, 0⟩] scope pos) (some (.Name x py)) spos.line X.env = pure true)
    (hy : X.N[i]? = some x := by rfl) (hyl : X.env.scope.names.lookup x = some .local := by rfl) (ho : i ∉ O := by decide) (hs : ∀ x, foldedSetIterable iter X.env x = pure x := by intro _; rfl) :
    DS X z O (.Assign [.Name x py] (.ListComp elt [⟨tg, iter, ifs, 0⟩] scope pos) spos) (tAsg (tLc wi g tt te (own.map (·.2))) (gName i)) (fun κ E ρ => mLc mi mg mt me (own.map (·.2)) (hide O ρ) (fun d => κ.nx (ρ.set i (some d))) E) :=
  ⟨ps_setLc hc hN hy hyl hsw hi.pi ok (fun s H C cl fp => (hg s H C cl fp).pg) (fun s H C cl fp => (ht s H C cl fp).pt) (fun s H C cl fp => (he s H C cl fp).pe) hs,
    tms_of fun kp => tms_set0 (TMe.keep (tmf_lc hi.tm (hg {} (fun _ => none) 0 [] []).tm (ht {} (fun _ => none) 0 [] []).tm (he {} (fun _ => none) 0 [] []).tm).tm kp) ho⟩
theorem ds_newLc (i : Nat) (hc : X.calm = true) (hN : X.N.Nodup) (hi : DI X z tg iter wi mi) (ok : BlkOk X.N X.env.scope scope own)
    (hg : ∀ (s : Shared) (H : Hp) (C : Addr) (cl : List (Str × Addr)) (fp : List Addr), DGe (X.blk s H scope (compEnvC scope cl C X.env) fp) z.nox (own.map (·.2)) tg g mg) (ht : ∀ (s : Shared) (H : Hp) (C : Addr) (cl : List (Str × Addr)) (fp : List Addr), DTs (X.blk s H scope (compEnvC scope cl C X.env) fp) z.nox ifs tt mt)
    (he : ∀ (s : Shared) (H : Hp) (C : Addr) (cl : List (Str × Addr)) (fp : List Addr), DE (X.blk s H scope (compEnvC scope cl C X.env) fp) z.nox elt te me)
    (hsw : swapsWith (.ListComp elt [⟨tg, iter, ifs, 0⟩] scope pos) (some (.Name x py)) spos.line X.env = pure true)
    (hy : X.N[i]? = some x := by rfl) (hyl : X.env.scope.names.lookup x = some .local := by rfl) (ho : i ∈ O := by decide) (hs : ∀ x, foldedSetIterable iter X.env x = pure x := by intro _; rfl) :
    DS X z O (.Assign [.Name x py] (.ListComp elt [⟨tg, iter, ifs, 0⟩] scope pos) spos) (tAsg (tLc wi g tt te (own.map (·.2))) (gName i)) (fun κ E ρ => mLc mi mg mt me (own.map (·.2)) (hide O ρ) (fun d => κ.nx (ρ.set i (some d))) E) :=
  ⟨ps_setLc hc hN hy hyl hsw hi.pi ok (fun s H C cl fp => (hg s H C cl fp).pg) (fun s H C cl fp => (ht s H C cl fp).pt) (fun s H C cl fp => (he s H C cl fp).pe) hs,
    tms_of fun kp => tms_new0 (TMf.keep (tmf_lc hi.tm (hg {} (fun _ => none) 0 [] []).tm (ht {} (fun _ => none) 0 [] []).tm (he {} (fun _ => none) 0 [] []).tm) kp) ho⟩
/-- new lists -/
theorem reps_new {K : PySem.W.Frag} {U : Addr → Prop} {H : Hp} {p : Addr} {o : HO} {ds : List D} {xs : List V} (h : H p = none) (r : Reps K U H ds xs) : Reps K (fun b => U b ∨ b = p) (upd H p o) ds xs :=
  Reps.mono' (fun a u e n => ⟨by rw [upd_ne (ne_of_none e h)]; exact e, fun q => q.elim n fun q => by rw [q, h] at e; cases e⟩) ds xs r
theorem none_back {G : Addr → Prop} {g : GG} {H H' : Hp} {p : Addr} (j : g.J H') (e : Ext g.G H H') (h : H' p = none) : H p = none := by
  cases q : H p with
  | none => rfl
  | some o => rw [e p o q fun z => g.dom H' p j z h] at h; cases h
theorem df_lst {es : List Expr} {tr : TA} {mr : DEnv → M (List D)} (h : DA X z es tr mr) : DF X z (.List es pos) (tLst tr) (fun ρ => bnd (mr ρ) mLst) := ⟨pe_lst h.pe, fun U σ H ρ Q Qd E w he hm k => h.tm U σ H ρ _ _ E w he hm fun ds vs H1 h1 e1 j1 r1 =>
  ⟨by rw [r1.length]; exact h1.1, fun p hp => k (.lst ds) p _ _ h1.2 (none_back (G := z.g.G) j1 e1 hp) (e1.trans (Ext.new hp)) (z.g.new j1 hp) upd_same (.inl ⟨_, _, rfl, rfl, reps_new hp r1⟩)⟩⟩
theorem df_list {a : Expr} {ta : TE} {ma : DEnv → M D} {pp : Pos} (hK : X.K = z.K) (hm : X.mg "list" = none) (ha : DE X z a ta ma) (hg : Gl X "list" := by rfl) (he : starEach [a] X.env = (false, eval a X.env) :: starEach [] X.env := by rfl) (hpl : (backTo pos (starEach [] X.env)).any (·.1) = false := by rfl) :
    DF X z (.Call (.Name "list" pp) [a] [] pos) (tCB (rLstOf z.K) (tCons ta tNil)) (fun ρ => bnd (ma ρ) mLstOf) := ⟨by rw [← hK]; exact pe_callTy crLst hg hm (by decide +kernel) (pa_cons ha.pe pa_nil he) (by decide) (by decide) he hpl, fun U σ H ρ Q Qd E w he hm k => ha.tm U σ H ρ _ _ E w he hm fun d v H1 h1 e1 j1 r1 => by
  match d, h1 with
  | .tup ds, h1 =>
    obtain ⟨p, xs, rfl, hp, r⟩ := rep_tup_inv r1
    exact ⟨p, xs, rfl, .inr hp.sq, fun l hl => k (.lst ds) l _ _ h1 (none_back (G := z.g.G) j1 e1 hl) (e1.trans (Ext.new hl)) (z.g.new j1 hl) upd_same (.inl ⟨_, _, rfl, rfl, reps_new hl r⟩)⟩
  | .lst ds, h1 =>
    obtain ⟨p, xs, rfl, hp, r⟩ := rep_lst_inv r1
    exact ⟨p, xs, rfl, .inl (SqL.of hp.1), fun l hl => k (.lst ds) l _ _ h1 (none_back (G := z.g.G) j1 e1 hl) (e1.trans (Ext.new hl)) (z.g.new j1 hl) upd_same (.inl ⟨_, _, rfl, rfl, reps_new hl r⟩)⟩⟩

/-! ### append and its like -/
abbrev mOwn (i : Nat) (ρ : DEnv) (f : List D → Prop) : Prop := match ρ.getD i none with
  | some (.lst ds) => f ds
  | _ => False
theorem mOwn_inv {i : Nat} {ρ : DEnv} {f : List D → Prop} (h : mOwn i ρ f) : ∃ ds, ρ[i]? = some (some (.lst ds)) ∧ f ds := by
  have h : (match ρ.getD i none with | some (.lst ds) => f ds | _ => False) := h
  cases q : ρ.getD i none with
  | none => rw [q] at h; exact h.elim
  | some d =>
    rw [q] at h
    have q' : ρ[i]? = some (some d) := by
      rw [List.getD_eq_getElem?_getD] at q
      cases e : ρ[i]? with
      | none => rw [e] at q; simp at q
      | some o => rw [e] at q; simp at q; rw [q]
    cases d with
    | lst ds => exact ⟨ds, q', h⟩
    | _ => exact h.elim
variable {a : Expr} {ta : TE} {ma : DEnv → M D} {apos ipos : Pos}
abbrev tApp (K : PySem.W.Frag) (i : Nat) (ta : TE) : TS := tDrop (tBM K "list" rAppend (tVar i) (tCons ta tNil))
theorem tms_app0 {i : Nat} (ha : TMe z ta ma) (ho : i ∈ O) : TMs0 z O (tApp z.K i ta) (fun κ E ρ => mOwn i ρ fun ds => ma (hide O ρ) (fun d => ds.length < sizeLine ∧ κ.nx (ρ.set i (some (.lst (ds ++ [d]))))) E) := fun oa σ H ρ Dn κ E s hE ko hm => by
  obtain ⟨ds, hi, hm⟩ := mOwn_inv hm
  obtain ⟨_, xs, e1, e2, r⟩ := s.ownL ho hi
  refine ⟨_, e1, .inl ⟨rfl, _, SqL.of e2⟩, ha _ σ H _ _ _ E s.vis hE hm fun d v H' q f1 j1 r1 => ?_⟩
  have s1 := s.step f1 j1
  obtain ⟨nu, xs2, e1', e2', r'⟩ := s1.ownL ho hi
  have ex : xs2 = xs := by
    have := f1 _ _ e2 fun q => nu (s.ok.gu _ q)
    rw [e2'] at this
    cases this
    rfl
  refine ⟨oa i, xs2, v, rfl, rfl, e2', ?_, ko.nx oa _ _ _ (s1.put ho hi (r'.append (Reps.cons r1 Reps.nil))) q.2⟩
  rw [r'.length]
  exact q.1
theorem tms_appF0 {i : Nat} (ha : TMe z ta ma) (ho : i ∈ O) : TMs0 z O (tApp z.K i ta) (fun κ E ρ => mOwn i ρ fun ds => ma ρ (fun d => (flat d = true ∧ ds.length < sizeLine) ∧ κ.nx (ρ.set i (some (.lst (ds ++ [d]))))) E) := fun oa σ H ρ Dn κ E s hE ko hm => by
  obtain ⟨ds, hi, hm⟩ := mOwn_inv hm
  obtain ⟨_, xs, e1, e2, r⟩ := s.ownL ho hi
  refine ⟨_, e1, .inl ⟨rfl, _, SqL.of e2⟩, ha _ σ H _ _ _ E s.full hE hm fun d v H' q f1 j1 r1 => ?_⟩
  have s1 := s.step f1 j1
  obtain ⟨nu, xs2, e1', e2', r'⟩ := s1.ownL ho hi
  have r1' := s1.flat q.1.1 r1
  refine ⟨oa i, xs2, v, rfl, rfl, e2', ?_, ko.nx oa _ _ _ (s1.put ho hi (r'.append (Reps.cons r1' Reps.nil))) q.2⟩
  rw [r'.length]
  exact q.1.2
variable {cpos : Pos}
/-- x.append(e), x the def's own -/
theorem ds_app (i : Nat) (hK : X.K = z.K) (ha : DE X z a ta ma) (ho : i ∈ O := by decide) (hN : X.N[i]? = some x := by rfl) (hv : Vis X.env.scope x := by first | exact Or.inl rfl | exact Or.inr (Or.inl rfl) | exact Or.inr (Or.inr rfl)) (hd : (x == ("__debug__" : Str)) = false := by decide) (hcd : (x == ("__classdict__" : Str)) = false := by decide)
    (hbase : attributeBase (.Name x ipos) "append" X.env (eval (.Name x ipos) X.env) = eval (.Name x ipos) X.env := by rfl)
    (hfew : ((backTo cpos (starEach [a] X.env)).all (fun x => !x.1) && (backToKw cpos (keywordEach [] X.env)).all (fun x => x.1.isSome)
      && decide ([a].length + ([] : List Keyword).length + (if ([] : List Keyword).isEmpty then 0 else 1) < 30)) = true := by rfl)
    (hline : (apos.endLine == cpos.line) = true := by rfl) (hs : starEach [a] X.env = (false, eval a X.env) :: starEach [] X.env := by rfl) (hplain : (backTo cpos (starEach [] X.env)).any (·.1) = false := by rfl)
    (hsw : swapsWith (.Call (.Attribute (.Name x ipos) "append" apos) [a] [] cpos) none pos.line X.env = pure false := by rfl) :
    DS X z O (.Expr (.Call (.Attribute (.Name x ipos) "append" apos) [a] [] cpos) pos) (tApp z.K i ta) (fun κ E ρ => mOwn i ρ fun ds => ma (hide O ρ) (fun d => ds.length < sizeLine ∧ κ.nx (ρ.set i (some (.lst (ds ++ [d]))))) E) :=
  ⟨by rw [← hK]; exact ps_expr (pe_bm PySem.F.plainAttrs_list PySem.F.slot_list_append PySem.F.type_list_append mt_append (pv i hN hv hd hcd) (pa_cons ha.pe pa_nil hs) hbase hfew hline hs hplain) hsw, tms_of fun kp => tms_app0 (ha.tm.keep kp) ho⟩
/-- x.append(e), e of the own lists too -/
theorem ds_appF (i : Nat) (hK : X.K = z.K) (ha : DE X z a ta ma) (ho : i ∈ O := by decide) (hN : X.N[i]? = some x := by rfl) (hv : Vis X.env.scope x := by first | exact Or.inl rfl | exact Or.inr (Or.inl rfl) | exact Or.inr (Or.inr rfl)) (hd : (x == ("__debug__" : Str)) = false := by decide) (hcd : (x == ("__classdict__" : Str)) = false := by decide)
    (hbase : attributeBase (.Name x ipos) "append" X.env (eval (.Name x ipos) X.env) = eval (.Name x ipos) X.env := by rfl)
    (hfew : ((backTo cpos (starEach [a] X.env)).all (fun x => !x.1) && (backToKw cpos (keywordEach [] X.env)).all (fun x => x.1.isSome)
      && decide ([a].length + ([] : List Keyword).length + (if ([] : List Keyword).isEmpty then 0 else 1) < 30)) = true := by rfl)
    (hline : (apos.endLine == cpos.line) = true := by rfl) (hs : starEach [a] X.env = (false, eval a X.env) :: starEach [] X.env := by rfl) (hplain : (backTo cpos (starEach [] X.env)).any (·.1) = false := by rfl)
    (hsw : swapsWith (.Call (.Attribute (.Name x ipos) "append" apos) [a] [] cpos) none pos.line X.env = pure false := by rfl) :
    DS X z O (.Expr (.Call (.Attribute (.Name x ipos) "append" apos) [a] [] cpos) pos) (tApp z.K i ta) (fun κ E ρ => mOwn i ρ fun ds => ma ρ (fun d => (flat d = true ∧ ds.length < sizeLine) ∧ κ.nx (ρ.set i (some (.lst (ds ++ [d]))))) E) :=
  ⟨by rw [← hK]; exact ps_expr (pe_bm PySem.F.plainAttrs_list PySem.F.slot_list_append PySem.F.type_list_append mt_append (pv i hN hv hd hcd) (pa_cons ha.pe pa_nil hs) hbase hfew hline hs hplain) hsw, tms_of fun kp => tms_appF0 (ha.tm.keep kp) ho⟩
end

/-! ### several names at once -/
/-- what stands behind a row of expressions: plain values, and (marked true) new lists at As -/
def RowRep (K : PySem.W.Frag) (U : Addr → Prop) (H : Hp) : List Bool → List D → List V → List Addr → Prop
  | [], ds, vs, As => ds = [] ∧ vs = [] ∧ As = []
  | false :: fl, ds, vs, As => ∃ d r v s, ds = d :: r ∧ vs = v :: s ∧ Rep K U H d v ∧ RowRep K U H fl r s As
  | true :: fl, ds, vs, As => ∃ d r a s u A, ds = d :: r ∧ vs = .ref a :: s ∧ As = a :: A ∧ H a = some u ∧ OwnO K U H d u ∧ RowRep K U H fl r s A
theorem RowRep.mono {K : PySem.W.Frag} {U U' : Addr → Prop} {H H' : Hp} (e : ∀ a o, H a = some o → ¬ U a → H' a = some o ∧ ¬ U' a) : ∀ {fl : List Bool} {ds : List D} {vs : List V} {As : List Addr}, (∀ a o, a ∈ As → H a = some o → H' a = some o) → RowRep K U H fl ds vs As → RowRep K U' H' fl ds vs As
  | [], _, _, _, _, h => h
  | false :: fl, _, _, _, f, h => by
    obtain ⟨d, r, v, s, e1, e2, r1, r2⟩ := h
    exact ⟨d, r, v, s, e1, e2, Rep.mono' e d v r1, r2.mono e f⟩
  | true :: fl, _, _, _, f, h => by
    obtain ⟨es, r, a, s, xs, A, e1, e2, e3, h1, r1, r2⟩ := h
    subst e3
    exact ⟨es, r, a, s, xs, A, e1, e2, rfl, f _ _ (by simp) h1, r1.mono' e, r2.mono e fun b o hb => f b o (by simp [hb])⟩
def TMr (z : Zc) (fl : List Bool) (ta : TA) (m : DEnv → M (List D)) : Prop := ∀ (U : Addr → Prop) (σ : L2.St) (H : Hp) (ρ : DEnv) (Q : List V → Hp → Prop) (Qd : List D → Prop) (E : DX → Prop), WR z U σ H ρ → (∀ x, E x → z.Ed x) → m ρ Qd E →
  (∀ ds vs As H', Qd ds → Ext z.g.G H H' → z.g.J H' → (∀ a, a ∈ As → H a = none ∧ H' a ≠ none) → As.Nodup → RowRep z.K (fun b => U b ∨ b ∈ As) H' fl ds vs As → Q vs H') → ta σ H Q
structure DRow (X : Cx) (z : Zc) (fl : List Bool) (es : List Expr) (ta : TA) (m : DEnv → M (List D)) : Prop where
  pe : PA X es ta
  tm : TMr z fl ta m
/-- an environment beside a new list -/
theorem WR.beside {z : Zc} {U : Addr → Prop} {σ : L2.St} {H H1 : Hp} {ρ : DEnv} {a : Addr} (w : WR z U σ H ρ) (e : Ext z.g.G H H1) (j : z.g.J H1) (ha : H a = none) (ha' : H1 a ≠ none) : WR z (fun b => U b ∨ b = a) σ H1 ρ := by
  have w1 := w.step e j
  refine ⟨w1.ok, fun b h => .inl (w1.u b h), fun b h => ?_, w1.ext, j, w1.env.1, fun (i : Nat) (d : D) h => ?_⟩
  · rcases h with h | h
    · exact w1.dom b h
    · rw [h]; exact ha'
  · obtain ⟨v, h1, r⟩ := w.env.2 i d h
    refine ⟨v, h1, Rep.mono' (fun b o hb n => ⟨e b o hb fun q => n (w.gu b q), fun q => q.elim n fun q => ?_⟩) d v r⟩
    rw [q, ha] at hb
    cases hb
section
variable {X : Cx} {z : Zc} {O : List Nat} {e : Expr} {es : List Expr} {te : TE} {me : DEnv → M D} {tr : TA} {mr : DEnv → M (List D)} {fl : List Bool}
theorem dr_nil : DRow X z [] [] tNil (fun _ => ret []) := ⟨pa_nil, fun U σ H ρ Q Qd E w he h k => k [] [] [] H h (Ext.refl H) w.j (by simp) List.nodup_nil ⟨rfl, rfl, rfl⟩⟩
theorem dr_val (ha : DE X z e te me) (hr : DRow X z fl es tr mr) (hs : starEach (e :: es) X.env = (false, eval e X.env) :: starEach es X.env := by rfl) : DRow X z (false :: fl) (e :: es) (tCons te tr) (fun ρ => bnd (me ρ) fun x => bnd (mr ρ) fun xs => ret (x :: xs)) :=
  ⟨pa_cons ha.pe hr.pe hs, fun U σ H ρ Q Qd E w he h k => ha.tm U σ H ρ _ _ E w he h fun d v H1 h1 e1 j1 r1 => hr.tm U σ H1 ρ _ _ E (w.step e1 j1) he h1 fun ds vs As H2 h2 e2 j2 ha nd r2 => by
    refine k (d :: ds) (v :: vs) As H2 h2 (e1.trans e2) j2 (fun a hm => ⟨none_back (G := z.g.G) j1 e1 (ha a hm).1, (ha a hm).2⟩) nd ⟨d, ds, v, vs, rfl, rfl, ?_, r2⟩
    refine Rep.mono' (fun b o hb n => ⟨e2 b o hb fun q => n (w.gu b q), fun q => q.elim n fun q => ?_⟩) d v r1
    rw [(ha b q).1] at hb
    cases hb⟩
theorem dr_new (ha : DF X z e te me) (hr : DRow X z fl es tr mr) (hs : starEach (e :: es) X.env = (false, eval e X.env) :: starEach es X.env := by rfl) : DRow X z (true :: fl) (e :: es) (tCons te tr) (fun ρ => bnd (me ρ) fun x => bnd (mr ρ) fun xs => ret (x :: xs)) :=
  ⟨pa_cons ha.pe hr.pe hs, fun U σ H ρ Q Qd E w he h k => ha.tm U σ H ρ _ _ E w he h fun es a xs H1 h1 hn e1 j1 hx r1 => by
    refine hr.tm (fun b => U b ∨ b = a) σ H1 ρ _ _ E (w.beside e1 j1 hn (by rw [hx]; simp)) he h1 fun ds vs As H2 h2 e2 j2 hA nd r2 => ?_
    have ga : ¬ z.g.G a := fun q => z.g.dom H a w.j q hn
    have na : a ∉ As := fun q => by
      have := (hA a q).1
      rw [hx] at this
      cases this
    have hU : ∀ b, ((U b ∨ b = a) ∨ b ∈ As) ↔ (U b ∨ b ∈ a :: As) := fun b => by
      simp only [List.mem_cons]
      constructor
      · rintro ((h | h) | h)
        · exact .inl h
        · exact .inr (.inl h)
        · exact .inr (.inr h)
      · rintro (h | h | h)
        · exact .inl (.inl h)
        · exact .inl (.inr h)
        · exact .inr h
    have hUe : (fun b => (U b ∨ b = a) ∨ b ∈ As) = fun b => U b ∨ b ∈ a :: As := funext fun b => propext (hU b)
    refine k (es :: ds) (.ref a :: vs) (a :: As) H2 h2 (e1.trans e2) j2 (fun b hb => ?_) (List.nodup_cons.mpr ⟨na, nd⟩) ⟨es, ds, a, vs, xs, As, rfl, rfl, rfl, e2 _ _ hx ga, ?_, ?_⟩
    · rcases List.mem_cons.mp hb with q | q
      · rw [q]
        exact ⟨hn, by rw [e2 _ _ hx ga]; simp⟩
      · exact ⟨none_back (G := z.g.G) j1 e1 (hA b q).1, (hA b q).2⟩
    · refine r1.mono' fun b o hb n => ⟨e2 b o hb fun q => n (.inl (w.gu b q)), fun q => ?_⟩
      rcases q with q | q
      · exact n (.inl q)
      · rcases List.mem_cons.mp q with q | q
        · exact n (.inr q)
        · rw [(hA b q).1] at hb; cases hb
    · show RowRep z.K (fun b => U b ∨ b ∈ a :: As) H2 fl ds vs As
      rw [← hUe]
      exact r2⟩
end
/-- the caller's and the lists at As may change -/
def Zc.with (z : Zc) (As : List Addr) : Zc := { z with U0 := fun b => z.U0 b ∨ b ∈ As }
section
variable {z : Zc} {O : List Nat} {oa : Nat → Addr} {σ : L2.St} {H H' : Hp} {ρ : DEnv} {As : List Addr}
theorem uo_with : ∀ b, Uo (z.with As) O oa ρ b ↔ (Uo z O oa ρ b ∨ b ∈ As) := fun b => by
  unfold Uo Zc.with
  constructor
  · rintro ((h | h) | h)
    · exact .inl (.inl h)
    · exact .inr h
    · exact .inl (.inr h)
  · rintro ((h | h) | h)
    · exact .inl (.inl h)
    · exact .inr h
    · exact .inl (.inr h)
theorem SO.with (s : SO z O oa σ H ρ) (e : Ext z.g.G H H') (j : z.g.J H') (hA : ∀ a, a ∈ As → H a = none ∧ H' a ≠ none) : SO (z.with As) O oa σ H' ρ := by
  have s1 := s.step e j
  have rl : ∀ {d : D} {v : V}, Rep z.K (Uo z O oa ρ) H d v → Rep z.K (Uo (z.with As) O oa ρ) H' d v := fun {d v} r => Rep.mono' (fun b o hb n => ⟨e b o hb fun q => n (s.gu b q), fun q => ((uo_with b).mp q).elim n fun q => by rw [(hA b q).1] at hb; cases hb⟩) d v r
  have rls : ∀ {d : D} {v : HO}, OwnO z.K (Uo z O oa ρ) H d v → OwnO z.K (Uo (z.with As) O oa ρ) H' d v := fun {d v} r => r.mono' fun b o hb n => ⟨e b o hb fun q => n (s.gu b q), fun q => ((uo_with b).mp q).elim n fun q => by rw [(hA b q).1] at hb; cases hb⟩
  refine ⟨⟨fun a h => .inl (s.ok.gu a h), fun x cls dp H h1 h2 h3 h4 => s.ok.ek x cls dp H h1 h2 h3 (h4.less fun a h => .inl h)⟩, s1.ext, j, fun a h => ?_, s1.len, fun i d hi h => ?_, fun i d hi h => ?_, s1.inj, fun p hp => rl (s.kp p hp)⟩
  · rcases h with h | h
    · exact s1.d0 a h
    · exact (hA a h).2
  · obtain ⟨v, h1, r⟩ := s.env i d hi h
    exact ⟨v, h1, rl r⟩
  · obtain ⟨h0, nu, u, r, e1, e2⟩ := s.own i d hi h
    refine ⟨h0, fun q => q.elim nu fun q => ?_, u, rls r, e1, e _ _ e2 fun q => nu (s.ok.gu _ q)⟩
    rw [(hA _ q).1] at e2
    cases e2
/-- one of these becomes the def's own -/
theorem SO.adopt {a : Addr} {dd : D} {uu : HO} {i : Nat} (s : SO (z.with (a :: As)) O oa σ H ρ) (zo : z.Ok) (na : a ∉ As) (n0 : ¬ z.U0 a) (h0 : z.H0 a = none) (hi : i ∈ O) (hx : H a = some uu) (r : OwnO z.K (Uo (z.with (a :: As)) O oa ρ) H dd uu) :
    SO (z.with As) O (fun k => if k = i then a else oa k) (σ.set i (some (.ref a))) H (ρ.set i (some dd)) := by
  have hU : ∀ b, Uo (z.with As) O (fun k => if k = i then a else oa k) (ρ.set i (some dd)) b → Uo (z.with (a :: As)) O oa ρ b := fun b h => by
    rcases h with (h | h) | ⟨k, hk, ⟨d', h⟩, q⟩
    · exact .inl (.inl h)
    · exact .inl (.inr (List.mem_cons_of_mem _ h))
    · by_cases hki : k = i
      · simp only [if_pos hki] at q
        rw [← q]
        exact .inl (.inr (List.mem_cons_self ..))
      · simp only [if_neg hki] at q
        rcases set_some h with ⟨q', _, _⟩ | ⟨_, h⟩
        · exact absurd q' hki
        · exact .inr ⟨k, hk, ⟨d', h⟩, q⟩
  have at_ : ∀ {k : Nat} {d' : D}, k ∈ O → ρ[k]? = some (some d') → oa k ≠ a := fun {k d'} hk h q => (s.own k d' hk h).2.1 (by rw [q]; exact .inr (List.mem_cons_self ..))
  refine ⟨⟨fun b h => .inl (zo.gu b h), fun x cls dp H h1 h2 h3 h4 => zo.ek x cls dp H h1 h2 h3 (h4.less fun a h => .inl h)⟩, s.ext, s.j, fun b h => s.d0 b (h.elim .inl fun h => .inr (List.mem_cons_of_mem _ h)), by simpa using s.len, fun k d' hk h => ?_, fun k d' hk h => ?_, fun k l hk hl ⟨d1, h1⟩ ⟨d2, h2⟩ eq => ?_, fun p hp => (s.kp p hp).less hU⟩
  · rcases set_some h with ⟨q, _, _⟩ | ⟨ne, h⟩
    · exact absurd hi (q ▸ hk)
    · obtain ⟨v', e1, r'⟩ := s.env k d' hk h
      exact ⟨v', by rw [List.getElem?_set_ne (Ne.symm ne)]; exact e1, r'.less hU⟩
  · rcases set_some h with ⟨q, hl, q2⟩ | ⟨ne, h⟩
    · subst q; subst q2
      simp only [↓reduceIte]
      exact ⟨h0, fun q => q.elim n0 na, uu, r.less hU, by rw [List.getElem?_set_self (by rw [← s.len]; exact hl)], hx⟩
    · simp only [if_neg ne]
      obtain ⟨k0, ku, u', r', e1, e2⟩ := s.own k d' hk h
      exact ⟨k0, fun q => ku (q.elim .inl fun q => .inr (List.mem_cons_of_mem _ q)), u', r'.less hU, by rw [List.getElem?_set_ne (Ne.symm ne)]; exact e1, e2⟩
  · by_cases hki : k = i
    · by_cases hli : l = i
      · rw [hki, hli]
      · simp only [if_pos hki, if_neg hli] at eq
        rcases set_some h2 with ⟨q, _, _⟩ | ⟨_, h⟩
        · exact absurd q hli
        · exact absurd eq.symm (at_ hl h)
    · by_cases hli : l = i
      · simp only [if_neg hki, if_pos hli] at eq
        rcases set_some h1 with ⟨q, _, _⟩ | ⟨_, h⟩
        · exact absurd q hki
        · exact absurd eq (at_ hk h)
      · simp only [if_neg hki, if_neg hli] at eq
        refine s.inj k l hk hl ?_ ?_ eq
        · rcases set_some h1 with ⟨q, _, _⟩ | ⟨_, h⟩
          · exact absurd q hki
          · exact ⟨_, h⟩
        · rcases set_some h2 with ⟨q, _, _⟩ | ⟨_, h⟩
          · exact absurd q hli
          · exact ⟨_, h⟩
end
def setAll {α : Type} : List Nat → List α → List (Option α) → List (Option α)
  | i :: is, v :: vs, σ => setAll is vs (σ.set i (some v))
  | _, _, σ => σ
/-- the marked slots are own ones -/
def RowOk (O : List Nat) : List Bool → List Nat → Prop
  | [], [] => True
  | false :: fl, i :: is => i ∉ O ∧ RowOk O fl is
  | true :: fl, i :: is => i ∈ O ∧ RowOk O fl is
  | _, _ => False
theorem SO.setRow {z : Zc} {O : List Nat} {H : Hp} (zo : z.Ok) (hz : ∀ a, z.U0 a → H a ≠ none) : ∀ (fl : List Bool) (is : List Nat) (As : List Addr) (ds : List D) (vs : List V) (oa : Nat → Addr) (σ : L2.St) (ρ : DEnv), SO (z.with As) O oa σ H ρ → As.Nodup → (∀ a, a ∈ As → ¬ z.U0 a ∧ z.H0 a = none) → RowOk O fl is → RowRep z.K (Uo (z.with As) O oa ρ) H fl ds vs As →
    ∃ oa', SO z O oa' (setAll is vs σ) H (setAll is ds ρ)
  | [], [], As, ds, vs, oa, σ, ρ, s, nd, hA, hO, hr => by
    obtain ⟨rfl, rfl, rfl⟩ := hr
    have hU : ∀ b, Uo (z.with []) O oa ρ b ↔ Uo z O oa ρ b := fun b => (uo_with b).trans (by simp)
    have hUe : Uo (z.with []) O oa ρ = Uo z O oa ρ := funext fun b => propext (hU b)
    show ∃ oa', SO z O oa' σ H ρ
    refine ⟨oa, zo, s.ext, s.j, hz, s.len, fun i d hi h => ?_, fun i d hi h => ?_, s.inj, fun p hp => ?_⟩
    · rw [← hUe]; exact s.env i d hi h
    · rw [← hUe]
      obtain ⟨h0, nu, r⟩ := s.own i d hi h
      exact ⟨h0, fun q => nu (.inl q), r⟩
    · rw [← hUe]; exact s.kp p hp
  | false :: fl, i :: is, As, ds, vs, oa, σ, ρ, s, nd, hA, hO, hr => by
    obtain ⟨d, r, v, t, rfl, rfl, r1, r2⟩ := hr
    have s1 : SO (z.with As) O oa (σ.set i (some v)) H (ρ.set i (some d)) := s.set hO.1 r1
    exact SO.setRow zo hz fl is As r t oa _ _ s1 nd hA hO.2 (by rw [Uo_set hO.1]; exact r2)
  | true :: fl, i :: is, As, ds, vs, oa, σ, ρ, s, nd, hA, hO, hr => by
    obtain ⟨es, r, a, t, xs, A, rfl, rfl, rfl, hx, r1, r2⟩ := hr
    have nda := List.nodup_cons.mp nd
    have s1 := s.adopt zo nda.1 (hA a (List.mem_cons_self ..)).1 (hA a (List.mem_cons_self ..)).2 hO.1 hx r1
    refine SO.setRow zo hz fl is A r t _ _ _ s1 nda.2 (fun b hb => hA b (List.mem_cons_of_mem _ hb)) hO.2 ?_
    refine r2.mono (fun b o hb n => ⟨hb, fun q => n ?_⟩) fun b o _ h => h
    rcases q with (q | q) | ⟨k, hk, ⟨d', h⟩, q⟩
    · exact .inl (.inl q)
    · exact .inl (.inr (List.mem_cons_of_mem _ q))
    · by_cases hki : k = i
      · simp only [if_pos hki] at q
        rw [← q]
        exact .inl (.inr (List.mem_cons_self ..))
      · simp only [if_neg hki] at q
        rcases set_some h with ⟨q', _, _⟩ | ⟨_, h⟩
        · exact absurd q' hki
        · exact .inr ⟨k, hk, ⟨d', h⟩, q⟩
theorem rowRep_length {K : PySem.W.Frag} {U : Addr → Prop} {H : Hp} : ∀ {fl : List Bool} {ds : List D} {vs : List V} {As : List Addr}, RowRep K U H fl ds vs As → vs.length = fl.length ∧ ds.length = fl.length
  | [], _, _, _, h => by obtain ⟨rfl, rfl, _⟩ := h; exact ⟨rfl, rfl⟩
  | false :: fl, _, _, _, h => by
    obtain ⟨d, r, v, s, rfl, rfl, _, r2⟩ := h
    have := rowRep_length r2
    exact ⟨by simp [this.1], by simp [this.2]⟩
  | true :: fl, _, _, _, h => by
    obtain ⟨es, r, a, s, xs, A, rfl, rfl, rfl, _, _, r2⟩ := h
    have := rowRep_length r2
    exact ⟨by simp [this.1], by simp [this.2]⟩
theorem TMr.keep {z : Zc} {fl : List Bool} {ta : TA} {m : DEnv → M (List D)} (h : TMr z fl ta m) (kp : List (D × V)) : TMr (z.keep kp) fl ta m := fun U σ H ρ Q Qd E w he hm k => h U σ H ρ Q Qd E ⟨⟨w.ok.gu, w.ok.ek⟩, w.u, w.dom, w.ext, w.j, w.env⟩ he hm k
theorem tms_row0 {z : Zc} {O : List Nat} {fl : List Bool} {is : List Nat} {ta : TA} {ma : DEnv → M (List D)} {Post : Ends → L2.St → List V → Hp → Prop} (ha : TMr z fl ta ma) (hO : RowOk O fl is) (hts : ∀ Dn σ vs H1, vs.length = fl.length → Dn.nx (setAll is vs σ) H1 → Post Dn σ vs H1) :
    TMs0 z O (fun Dn σ H => ta σ H (Post Dn σ)) (fun κ E ρ => ma (hide O ρ) (fun ds => κ.nx (setAll is ds ρ)) E) := fun oa σ H ρ Dn κ E s hE ko hm => by
  refine ha _ σ H _ _ _ E s.vis hE hm fun ds vs As H' q e j hA nd hr => hts Dn σ vs H' (rowRep_length hr).1 ?_
  have s1 : SO (z.with As) O oa σ H' ρ := s.with e j hA
  have hUe : (fun b => Uo z O oa ρ b ∨ b ∈ As) = Uo (z.with As) O oa ρ := funext fun b => propext (uo_with b).symm
  rw [hUe] at hr
  obtain ⟨oa', s2⟩ := SO.setRow s.ok (s.step e j).d0 fl is As ds vs oa σ ρ s1 nd (fun a h => ⟨fun q => s.d0 a q (hA a h).1, by
    cases q : z.H0 a with
    | none => rfl
    | some o =>
      have := s.ext a o q fun g => z.g.dom H a s.j g (hA a h).1
      rw [(hA a h).1] at this
      cases this⟩) hO hr
  exact ko.nx oa' _ H' _ s2 q
theorem rowOk_len {O : List Nat} : ∀ {fl : List Bool} {is : List Nat}, RowOk O fl is → fl.length = is.length
  | [], [], _ => rfl
  | false :: fl, i :: is, h => by simp [rowOk_len h.2]
  | true :: fl, i :: is, h => by simp [rowOk_len h.2]
section
variable {X : Cx} {z : Zc} {O : List Nat} {i j l : Nat} {x y w : Str} {a b c : Expr} {ta : TA} {ma : DEnv → M (List D)} {fl : List Bool} {px py pz pt pos : Pos} {kt k2 pt2}
/-- a, b = e1, e2 -/
theorem ds_par2 (i j : Nat) (hc : X.calm = true) (hN : X.N.Nodup) (ha : DRow X z fl [a, b] ta ma) (hO : RowOk O fl [i, j] := by simp [RowOk]) (hi : X.N[i]? = some x := by rfl) (hj : X.N[j]? = some y := by rfl) (hij : i ≠ j := by decide)
    (hx : X.env.scope.names.lookup x = some .local := by rfl) (hy : X.env.scope.names.lookup y = some .local := by rfl)
    (hw : swappedStores [.Tuple [.Name x px, .Name y py] kt pt] (.Tuple [a, b] k2 pt2) X.env = pure (some [x, y]) := by rfl)
    (hs : swapsWithSole [.Tuple [.Name x px, .Name y py] kt pt] (.Tuple [a, b] k2 pt2) pos.line X.env = pure false := by rfl) :
    DS X z O (.Assign [.Tuple [.Name x px, .Name y py] kt pt] (.Tuple [a, b] k2 pt2) pos) (tPar i j ta) (fun κ E ρ => ma (hide O ρ) (fun ds => κ.nx (setAll [i, j] ds ρ)) E) :=
  ⟨ps_par hc hN hi hj hij hx hy ha.pe hw hs, tms_of fun kp => tms_row0 (ha.tm.keep kp) hO fun Dn σ vs H1 hl h => by
    rw [rowOk_len hO] at hl
    match vs, hl, h with
    | [v, w], _, h => exact ⟨v, w, rfl, h⟩⟩
/-- a, b, c = e1, e2, e3 -/
theorem ds_par3 (i j l : Nat) (hc : X.calm = true) (hN : X.N.Nodup) (ha : DRow X z fl [a, b, c] ta ma) (hO : RowOk O fl [i, j, l] := by simp [RowOk]) (hi : X.N[i]? = some x := by rfl) (hj : X.N[j]? = some y := by rfl) (hl : X.N[l]? = some w := by rfl) (hij : i ≠ j := by decide) (hil : i ≠ l := by decide) (hjl : j ≠ l := by decide)
    (hx : X.env.scope.names.lookup x = some .local := by rfl) (hy : X.env.scope.names.lookup y = some .local := by rfl) (hz : X.env.scope.names.lookup w = some .local := by rfl)
    (hw : swappedStores [.Tuple [.Name x px, .Name y py, .Name w pz] kt pt] (.Tuple [a, b, c] k2 pt2) X.env = pure (some [x, y, w]) := by rfl)
    (hs : swapsWithSole [.Tuple [.Name x px, .Name y py, .Name w pz] kt pt] (.Tuple [a, b, c] k2 pt2) pos.line X.env = pure false := by rfl) :
    DS X z O (.Assign [.Tuple [.Name x px, .Name y py, .Name w pz] kt pt] (.Tuple [a, b, c] k2 pt2) pos) (tPar3 i j l ta) (fun κ E ρ => ma (hide O ρ) (fun ds => κ.nx (setAll [i, j, l] ds ρ)) E) :=
  ⟨ps_par3 hc hN hi hj hl hij hil hjl hx hy hz ha.pe hw hs, tms_of fun kp => tms_row0 (ha.tm.keep kp) hO fun Dn σ vs H1 hl h => by
    rw [rowOk_len hO] at hl
    match vs, hl, h with
    | [u, v, w], _, h => exact ⟨u, v, w, rfl, h⟩⟩
end
end DL

/-! DCall: defs over data, their calls; instances of one attribute. -/
namespace DL
open PySem PySem.Spec PyProof.Rows L2

/-- a def of the module that keeps a promise over data -/
def GF (P : Program) (w : World) (K : PySem.W.Frag) (mg : Str → Option Value) (base : Heap) (g : GG) (x : Str) (n k : Nat) (sp : FS) : Prop :=
  ∃ f fd ps, mg x = some (.ref f) ∧ PySem.W.keepIn K (.ref f) = true ∧ FnOk P w K mg base (L2.CX P w) k f fd ps (spOf K g n sp) ∧ Binds K fd ps []
section
variable {X : Cx} {z : Zc} {a : Expr} {es : List Expr} {tr : TA} {mr : DEnv → M (List D)} {x : Str} {n k k' : Nat} {sp : FS} {pp pos : Pos}
abbrev mCall (n : Nat) (sp : FS) (ds : List D) : M D := fun Q E => ds.length = n ∧ sp ds Q E
theorem tm_call (h : TMa z tr mr) : TMe z (tCall (spOf z.K z.g n sp) [] z.EK tr) (fun ρ => bnd (mr ρ) (mCall n sp)) := fun U σ H ρ Q Qd E w he hm k =>
  h U σ H ρ _ _ E w he hm fun ds vs H1 h1 e1 j1 r1 => by
    have w1 := w.step e1 j1
    rw [List.append_nil]
    exact ⟨r1.length.trans h1.1, U, ds, Qd, E, w.gu, w1.dom, j1, r1, h1.2, fun d v H' q e2 j2 r2 => k d v H' q (e1.trans e2) j2 r2, fun x cls dp H' q e2 j2 r2 => w.ok.ek x cls dp H' (he x q) (w1.ext.trans e2) j2 (r2.less w.u)⟩
theorem de_call (F : GF X.prog X.w X.K X.mg X.base z.g x n k sp) (hr : Room k' X.A) (hk : k ≤ k') (tk : Takes X (fun c d _ H => z.EK c d H)) (hK : X.K = z.K) (ha : DA X z (a :: es) tr mr) (hg : Gl X x := by rfl) (hdb : (x == ("__debug__" : Str)) = false := by decide)
    (he : starEach (a :: es) X.env = (false, eval a X.env) :: starEach es X.env := by rfl) (hpl : (backTo pos (starEach es X.env)).any (·.1) = false := by rfl) : DE X z (.Call (.Name x pp) (a :: es) [] pos) (tCall (spOf z.K z.g n sp) [] z.EK tr) (fun ρ => bnd (mr ρ) (mCall n sp)) := by
  obtain ⟨f, fd, ps, h1, h2, h3, h4⟩ := F
  refine ⟨?_, tm_call ha.tm⟩
  rw [← hK]
  exact pe_call h3 (hr.mono hk) hg h1 h2 h4 .nil (passes_call tk fun _ _ _ _ h => h) ha.pe hdb he hpl
theorem de_call0 (F : GF X.prog X.w X.K X.mg X.base z.g x n k sp) (hr : Room k' X.A) (hk : k ≤ k') (tk : Takes X (fun c d _ H => z.EK c d H)) (hK : X.K = z.K) (hg : Gl X x := by rfl) (hdb : (x == ("__debug__" : Str)) = false := by decide) :
    DE X z (.Call (.Name x pp) [] [] pos) (tCall (spOf z.K z.g n sp) [] z.EK tNil) (fun ρ => mCall n sp []) := by
  obtain ⟨f, fd, ps, h1, h2, h3, h4⟩ := F
  refine ⟨?_, fun U σ H ρ Q Qd E w he hm k => tm_call (mr := fun _ => ret []) (fun U σ H ρ Q Qd E w he h k => k [] [] H h (Ext.refl H) w.j Reps.nil) U σ H ρ Q Qd E w he hm k⟩
  rw [← hK]
  exact pe_call0 h3 (hr.mono hk) hg h1 h2 h4 .nil (passes_call tk fun _ _ _ _ h => h) hdb
theorem takesN : Takes X (fun c d _ H => z.nox.EK c d H) := takes0
end
/-- the environment at the entry -/
def startD (N : List Str) (ds : List D) : DEnv := ds.map some ++ List.replicate (N.length - ds.length) none
theorem so_start {z : Zc} {O : List Nat} {N : List Str} {ds : List D} {vs : List V} (ok : z.Ok) (d0 : ∀ a, z.U0 a → z.H0 a ≠ none) (j : z.g.J z.H0) (r : Reps z.K z.U0 z.H0 ds vs) (hO : ∀ i, i ∈ O → ds.length ≤ i) (hk : z.kept = []) :
    SO z O (fun _ => 0) (L2.start N vs) z.H0 (startD N ds) := by
  have nO : ∀ (i : Nat) (d : D), i ∈ O → (startD N ds)[i]? = some (some d) → False := fun i d hi h => by
    unfold startD at h
    have hl := hO i hi
    rw [List.getElem?_append_right (by simpa using hl), List.getElem?_replicate] at h
    split at h <;> cases h
  have hU : Uo z O (fun _ => 0) (startD N ds) = z.U0 := by
    funext a
    apply propext
    constructor
    · rintro (h | ⟨i, hi, ⟨d, h⟩, _⟩)
      · exact h
      · exact (nO i d hi h).elim
    · exact .inl
  refine ⟨ok, Ext.refl _, j, d0, ?_, fun i d hi h => ?_, fun i d hi h => (nO i d hi h).elim, fun i k hi _ ⟨d, h⟩ => (nO i d hi h).elim, fun p hp => by rw [hk] at hp; cases hp⟩
  · unfold startD L2.start
    simp [r.length]
  · rw [hU]
    unfold startD at h
    unfold L2.start
    by_cases hl : i < ds.length
    · rw [List.getElem?_append_left (by simpa using hl), List.getElem?_map] at h
      cases e : ds[i]? with
      | none => rw [e] at h; cases h
      | some d' =>
        rw [e] at h
        cases h
        obtain ⟨v, h1, h2⟩ := r.getD e
        refine ⟨v, ?_, h2⟩
        rw [List.getElem?_append_left (by simpa [r.length] using hl), List.getElem?_map, h1]
        rfl
    · rw [List.getElem?_append_right (by simpa using Nat.le_of_not_lt hl), List.getElem?_replicate] at h
      split at h <;> cases h
/-- the context of a def's body -/
abbrev bCx (P : Program) (w : World) (K : PySem.W.Frag) (mg : Str → Option Value) (base : Heap) (N : List Str) (qual : Str) (st : Stmt) (f : Addr) (cdv : Value) (A : Around) (outer : List Env) (s : Shared) (H : Hp) (E : XK) : Cx :=
  cxOf (L2.CX P w) P w K mg base N qual (defScope st) f cdv A outer s H E
abbrev bZ (K : PySem.W.Frag) (g : GG) (U : Addr → Prop) (H : Hp) (Ed : DX → Prop) (E : XK) : Zc := { K := K, g := g, U0 := U, H0 := H, Ed := Ed, EK := E }
abbrev κOf (Q : D → Prop) : DK := { nx := fun _ => Q .non, rt := Q, bk := fun _ => False, ct := fun _ => False }
section
variable {P : Program} {w : World} {K : PySem.W.Frag} {mg : Str → Option Value} {base : Heap}
theorem bTakes {N : List Str} {qual : Str} {st : Stmt} {f : Addr} {cdv : Value} {A : Around} {outer : List Env} {s : Shared} {H : Hp} {E : XK} : Takes (bCx P w K mg base N qual st f cdv A outer s H E) (fun c d _ H => E c d H) := takes_of rfl rfl rfl rfl
theorem bPass {N : List Str} {qual : Str} {st : Stmt} {f : Addr} {cdv : Value} {A : Around} {outer : List Env} {s : Shared} {H : Hp} {E : XK} : PassesOwn (model P w) (bCx P w K mg base N qual st f cdv A outer s H E).A (bCx P w K mg base N qual st f cdv A outer s H E).env (bCx P w K mg base N qual st f cdv A outer s H E).xe := passes_of (X := bCx P w K mg base N qual st f cdv A outer s H E) rfl
/-- THE RULE for a def over data -/
theorem fun_okD {x qual : Str} {st : Stmt} {f : Addr} {fd : FuncData} {N ps : List Str} {k n : Nat} {g : GG} {sp : FS} (F : Fun K x qual st f fd) (S : FnScope N ps (defScope st)) (hn : ps.length = n) (O : List Nat) {ms : MS} (hO : ∀ i, i ∈ O → n ≤ i)
    (hb : ∀ (cdv : Value) (A : Around) (outer : List Env) (s : Shared) (H : Hp) (E : XK) (U : Addr → Prop) (Ed : DX → Prop), Room k (A.deeper (envOfC qual (defScope st) s.heap.objs.size f cdv)) →
      ∃ ts, DSs (bCx P w K mg base N qual st f cdv A outer s H E) (bZ K g U H Ed E) O (defBody st) ts ms)
    (h : ∀ ds Q E, ds.length = n → sp ds Q E → ms (κOf Q) E (startD N ds)) : FnOk P w K mg base (L2.CX P w) (k + 1) f fd ps (spOf K g n sp) := by
  refine F.okX S (fun vs H Q E h => h.1.trans hn.symm) fun cdv A outer s H vs Q E hr hsp => ?_
  obtain ⟨hl, U, ds, Qd, Ed, hG, hU, j, r, hf, hQ, hE⟩ := hsp
  obtain ⟨ts, d⟩ := hb cdv A outer s H E U Ed hr
  have hds : ds.length = n := r.length.symm.trans hl
  have ok : (bZ K g U H Ed E).Ok := ⟨hG, hE⟩
  refine ⟨ts, d.ps, d.tm [] _ _ _ _ _ (κOf Qd) Ed (so_start (z := bZ K g U H Ed E) (N := N) ok hU j r (fun i hi => by rw [hds]; exact hO i hi) rfl) (fun _ h => h) ⟨fun oa σ H' ρ s' q => hQ .non .non H' q s'.ext s'.j (by simp only [Rep]), fun d v H' q e j' r' => hQ d v H' q e j' r', fun _ _ _ _ _ q => q.elim, fun _ _ _ _ _ q => q.elim⟩ (h ds Qd Ed hds hf)⟩
theorem gf_of {x qual : Str} {st : Stmt} {f : Addr} {fd : FuncData} {ps : List Str} {k n : Nat} {g : GG} {sp : FS} (F : Fun K x qual st f fd) (hm : mg x = some (.ref f)) (b : Binds K fd ps []) (h : FnOk P w K mg base (L2.CX P w) k f fd ps (spOf K g n sp)) : GF P w K mg base g x n k sp := ⟨f, fd, ps, hm, F.kp, h, b⟩
end
end DL

/-! DLam: lambdas handed to a def, over data. -/
namespace DL
open PySem PySem.Spec PyProof.Rows L2 LamX NdefX

/-! ### later states -/
/-- the state (o, s, H) lies behind the state (o0, s0, H0), whose frames o0 it still has -/
structure Later (G : Addr → Prop) (o0 : List Env) (s0 : Shared) (H0 : Hp) (o : List Env) (s : Shared) (H : Hp) : Prop where
  keep : ∀ b u, s0.heap.get? b = some u → H0 b = none → b ∉ frs o0 → s.heap.get? b = some u
  free : ∀ b u, s0.heap.get? b = some u → H0 b = none → H b = none
  fr : ∀ b u, s0.heap.get? b = some u → b ∈ frs o → b ∈ frs o0
  there : ∀ b u, s0.heap.get? b = some u → ∃ u', s.heap.get? b = some u'
  ext : Ext G H0 H
theorem Later.trans {G : Addr → Prop} {o0 o1 o2 : List Env} {s0 s1 s2 : Shared} {H0 H1 H2 : Hp} (a : Later G o0 s0 H0 o1 s1 H1) (b : Later G o1 s1 H1 o2 s2 H2) : Later G o0 s0 H0 o2 s2 H2 :=
  ⟨fun x u e n f => b.keep x u (a.keep x u e n f) (a.free x u e n) fun z => f (a.fr x u e z), fun x u e n => by
    obtain ⟨u', e'⟩ := a.there x u e
    exact b.free x u' e' (a.free x u e n), fun x u e f => by
    obtain ⟨u', e'⟩ := a.there x u e
    exact a.fr x u e (b.fr x u' e' f), fun x u e => by
    obtain ⟨u', e'⟩ := a.there x u e
    exact b.there x u' e', a.ext.trans b.ext⟩
theorem Later.of {X : Cx} {pins : List (Addr × Obj)} {σ : L2.St} {H : Hp} {s : Shared} {G : Addr → Prop} (I : Inv X pins σ H s) (hx : X.ex = []) (e : Ext G X.H_0 H) : Later G X.outer X.s_0 X.H_0 X.stack s H := by
  have nx : ∀ b, b ∉ X.ex := fun b z => by rw [hx] at z; cases z
  refine ⟨fun b u h n f => I.base.keep b u h n f (nx b), fun b u h n => I.base.free b u h n (nx b), fun b u h f => ?_, fun b u h => I.base.there b u h (nx b), e⟩
  rcases List.mem_cons.mp (I.stkSub b f) with q | q
  · have h1 := Heap.lt_size h
    have h2 := I.ok.above
    rw [q] at h1
    exact absurd (Nat.lt_of_lt_of_le h1 h2) (Nat.lt_irrefl _)
  · exact q
/-- the function at f keeps the promise sp, whenever it is called behind the state (o0, s0, H0) -/
def CloAt (P : Program) (w : World) (K : PySem.W.Frag) (mg : Str → Option Value) (base : Heap) (g : GG) (o0 : List Env) (s0 : Shared) (H0 : Hp) (f : Addr) (n k : Nat) (sp : FS) : Prop :=
  ∀ (A : Around) (o : List Env) (s : Shared) (H : Hp), Later g.G o0 s0 H0 o s H → g.J H → Room k A → Env0 P w K mg base A o s H →
    PySem.W.FnAt f s.heap ∧ ∀ (us : List Value) (vs : List V) (Q : VK) (E : XK), Vals vs us → spOf K g n sp vs H Q E → codeAny (model P w) A (.call (.ref f) ⟨us, []⟩) (CR (L2.CX P w) o P w H s Q E) s
theorem CloAt.later {P : Program} {w : World} {K : PySem.W.Frag} {mg : Str → Option Value} {base : Heap} {g : GG} {o0 o1 : List Env} {s0 s1 : Shared} {H0 H1 : Hp} {f : Addr} {n k : Nat} {sp : FS} (c : CloAt P w K mg base g o0 s0 H0 f n k sp) (l : Later g.G o0 s0 H0 o1 s1 H1) : CloAt P w K mg base g o1 s1 H1 f n k sp :=
  fun A o s H l2 => c A o s H (l.trans l2)
theorem CloAt.mono {P : Program} {w : World} {K : PySem.W.Frag} {mg : Str → Option Value} {base : Heap} {g : GG} {o0 : List Env} {s0 : Shared} {H0 : Hp} {f : Addr} {n j k : Nat} {sp : FS} (c : CloAt P w K mg base g o0 s0 H0 f n j sp) (h : j ≤ k) : CloAt P w K mg base g o0 s0 H0 f n k sp :=
  fun A o s H l jj r => c A o s H l jj (r.mono h)

/-! ### a call of a name that holds it -/
section
variable {X : Cx} {z : Zc} {a : Expr} {es : List Expr} {tr : TA} {mr : DEnv → M (List D)} {x : Str} {f : Addr} {n k k' i : Nat} {sp : FS} {pp pos : Pos}
def tClo (K : PySem.W.Frag) (g : GG) (H0 : Hp) (i : Nat) (f : Addr) (n : Nat) (sp : FS) (E : XK) (t : TA) : TE := fun σ H Q => σ[i]? = some (some (.ref f)) ∧ t σ H fun vs H1 => Ext g.G H0 H1 ∧ g.J H1 ∧ spOf K g n sp vs H1 Q E
/-- what is met behind a call -/
theorem met {pins : List (Addr × Obj)} {σ : L2.St} {H : Hp} {s : Shared} {Q : VK} {E : XK} {us : List Value} {g : Addr} (hx : Passes (L2.CX X.prog X.w) X E) (I : Inv X pins σ H s)
    (h : codeAny (model X.prog X.w) X.A (.call (.ref g) ⟨us, []⟩) (CR (L2.CX X.prog X.w) X.stack X.prog X.w H s Q E) s) : wpAny (model X.prog X.w) X.A (call (.ref g) us) (EP X pins σ Q) X.xe s := by
  refine wpAny_call (codeAny_mono h fun res s2 hq => ?_)
  match res, hq with
  | .error e, hq => exact hx pins σ H s e s2 I hq
  | .ok (.ret u), hq => exact I.after hq
  | .ok .next, hq => exact False.elim hq
  | .ok .brk, hq => exact False.elim hq
  | .ok .cont, hq => exact False.elim hq
theorem de_clo (hC : CloAt X.prog X.w X.K X.mg X.base z.g X.outer X.s_0 X.H_0 f n k sp) (hK : X.K = z.K) (hx : X.ex = []) (h0 : z.H0 = X.H_0) (hr : Room k' X.A) (hk : k ≤ k') (tk : Takes X (fun c d _ H => z.EK c d H)) (ha : DA X z (a :: es) tr mr)
    (hN : X.N[i]? = some x := by rfl) (hv : Vis X.env.scope x := by first | exact Or.inl rfl | exact Or.inr (Or.inl rfl) | exact Or.inr (Or.inr rfl)) (hd : (x == ("__debug__" : Str)) = false := by decide)
    (hcd : (x == ("__classdict__" : Str)) = false := by decide) (he : starEach (a :: es) X.env = (false, eval a X.env) :: starEach es X.env := by rfl) (hpl : (backTo pos (starEach es X.env)).any (·.1) = false := by rfl) :
    DE X z (.Call (.Name x pp) (a :: es) [] pos) (tClo X.K z.g X.H_0 i f n sp z.EK tr) (fun ρ => bnd (gv ρ i) fun d => fun Q E => d = .obj f ∧ bnd (mr ρ) (mCall n sp) Q E) := by
  refine ⟨⟨fun pins s σ H Q I h => ?_⟩, fun U σ H ρ Q Qd E w hE hm k2 => ?_⟩
  · obtain ⟨hs, ht⟩ := h
    refine wpAny_Call_Name_kw (thn ((pe_var (pos := pp) (i := i) hN hv hd hcd).run pins s σ H (fun v H1 => v = .ref f ∧ H1 = H) I ⟨.ref f, hs, rfl, rfl⟩) fun u s1 hu => ?_)
    obtain ⟨v, H1, I1, r1, rfl, rfl⟩ := hu
    obtain rfl : u = Value.ref f := r1
    have fa : ∀ {s3 : Shared} {H3 : Hp}, Inv X pins σ H3 s3 → Ext z.g.G X.H_0 H3 → z.g.J H3 → PySem.W.FnAt f s3.heap ∧ _ := fun {s3 H3} I3 e3 j3 => hC X.A X.stack s3 H3 (Later.of I3 hx e3) j3 (hr.mono hk) I3.env0
    have run := ha.pe.run pos pins s1 σ _ _ I1 ht
    rw [he] at run ⊢
    refine PySem.W.callWith_of (by show ((false || (backTo pos (starEach es X.env)).any (·.1)) || false) = false; rw [hpl]; rfl) PySem.W.keeps_F (PySem.Calls.evalArgs_plain ?_)
    refine thn run fun us s2 hu2 => ?_
    obtain ⟨vs, H2, I2, r, e2, j2, q⟩ := hu2
    obtain ⟨q1, q2⟩ := fa I2 e2 j2
    exact ⟨q1, met (passes_call tk fun _ _ _ _ h => h) I2 (q2 us vs Q z.EK r q)⟩
  · have hm : (match ρ.getD i none with | some d => d = .obj f ∧ bnd (mr ρ) (mCall n sp) Qd E | none => False) := hm
    cases q : ρ.getD i none with
    | none => rw [q] at hm; exact hm.elim
    | some d =>
      rw [q] at hm
      obtain ⟨rfl, hm⟩ := hm
      have q' : ρ[i]? = some (some (.obj f)) := by
        rw [List.getD_eq_getElem?_getD] at q
        cases e : ρ[i]? with
        | none => rw [e] at q; simp at q
        | some o => rw [e] at q; simp at q; rw [q]
      obtain ⟨v, h1, h2⟩ := w.env.2 i _ q'
      simp only [Rep] at h2
      subst h2
      rw [hK]
      refine ⟨h1, ha.tm U σ H ρ _ _ E w hE hm fun ds vs H1 hh e1 j1 r1 => ?_⟩
      have w1 := w.step e1 j1
      exact ⟨by rw [← h0]; exact w1.ext, j1, r1.length.trans hh.1, U, ds, Qd, E, w.gu, w1.dom, j1, r1, hh.2, fun d v H' q e2 j2 r2 => k2 d v H' q (e1.trans e2) j2 r2, fun x cls dp H' q e2 j2 r2 => w.ok.ek x cls dp H' (hE x q) (w1.ext.trans e2) j2 (r2.less w.u)⟩
end

/-! ### a lambda is made -/
section
variable {X : Cx} {pins : List (Addr × Obj)} {σ : L2.St} {H : Hp} {s : Shared}
/-- all that is tracked but the table at P stays -/
def ExtP (P : Addr) (H H' : Hp) : Prop := ∀ b o, H b = some o → b ≠ P → H' b = some o
abbrev lamQ (X : Cx) : Str := X.env.qual ++ "<lambda>"
/-- the closure at f, just made by the running frame -/
structure MadeL (X : Cx) (params : Arguments) (body : Expr) (scope : Scope) (s : Shared) (H : Hp) (f c' : Addr) : Prop where
  get : ∃ pm ctv, s.heap.get? f = some (PySem.W.kla_obj "<lambda>" (lamQ X) params body scope (cloFrom X.env.cells scope.names []) pm c' ctv)
  no : H f = none
  nf : f ∉ frs X.stack
  co : H c' = some (CodeO c' (lamQ X))
theorem nofr_new (I : Inv X pins σ H s) {a : Addr} (ha : s.heap.objs.size ≤ a) : a ∉ frs X.stack := fun q => by
  cases List.mem_cons.mp (I.stkSub a q) with
  | inl e =>
    have l := I.lt
    rw [← e] at l
    exact absurd (Nat.lt_of_lt_of_le l ha) (Nat.lt_irrefl _)
  | inr e => exact I.nofs ha e
theorem lam_mk {T : List (Addr × Str)} {c P : Addr} {params : Arguments} {body : Expr} {scope : Scope} {pos : Pos} {E Q : Value → Shared → Prop} (I : Inv X pins σ H s) (B : TabB X.base X.mg c P) (hcode : X.env.code = .ref c)
    (hm : (P, lamQ X) ∈ T) (hu : ∀ p ∈ T, p.1 = P → p.2 = lamQ X) (hT : Tabs T H) (hdef : defaultsOf params X.env = ([], [])) (hfree : ∀ y ∈ scope.names, y.2 = .free → ∃ a, X.env.cells.lookup y.1 = some a)
    (h : ∀ (f c' : Addr) (H1 : Hp) (s' : Shared), Inv X pins σ H1 s' → ExtP P H H1 → Tabs T H1 → MadeL X params body scope s' H1 f c' → Q (.ref f) s') :
    wpAny (model X.prog X.w) X.A (eval (.Lambda params body scope pos) X.env) Q E s := by
  have tP : TabS H P (lamQ X) := hT _ hm
  obtain ⟨ps, eP, ok, among⟩ := tP
  have bi : s.heap.BuiltinsAt X.mg P := B.bm.keeps I.bk
  have oP : s.heap.get? P = some { cls := .none, data := .fields ps } := I.hok P _ eP
  apply PySem.W.kla_eval hdef
  match hc : codeAmong pos ps.toList with
  | some cv =>
    obtain ⟨c', rfl, co⟩ := among pos cv hc
    refine PySem.W.kla_makeFunctionHit (c := c) (P := P) (ps := ps) (mg := X.mg) (closure_ok hfree) I.ok.glob (I.mod.glob.keeps I.bk) hcode (B.code.keeps I.bk) oP ok hc bi fun ctv h' tk keep hsz => ?_
    exact h h'.objs.size c' H _ (I.kept (t' := tk) fun b o e => Heap.get?_push_of_some _ (keep b o e)) (fun _ _ e _ => e) hT ⟨⟨(X.mg "__name__").getD .none, ctv, Heap.get?_push_size _ rfl⟩, I.hok.fresh hsz, nofr_new I hsz, co⟩
  | none =>
    refine PySem.W.kla_makeFunction (c := c) (P := P) (ps := ps) (mg := X.mg) (closure_ok hfree) I.ok.glob (I.mod.glob.keeps I.bk) hcode (B.code.keeps I.bk) oP ok hc B.gP bi fun c' ctv h' tk keep ge lt hrec tab => ?_
    obtain ⟨c2, oc, vs, t, hcc, hoc, hd, hv⟩ := hrec
    cases hcc
    have new : H c' = none := I.hok.fresh ge
    have I1 := inv_table (t' := tk) (more := #[rawInt pos.line, rawInt pos.col, .ref c']) (h' := h'.push (PySem.W.kla_obj "<lambda>" (lamQ X) params body scope (cloFrom X.env.cells scope.names []) ((X.mg "__name__").getD .none) c' ctv)) I eP
      (fun b o ne e => Heap.get?_push_of_some _ (keep b o ne e)) (Heap.get?_push_of_some _ tab) ge ⟨oc, vs, t, Heap.get?_push_of_some _ hoc, hd, hv⟩
    have hsz : s.heap.objs.size ≤ h'.objs.size := by omega
    have kp : ExtP P H (upd (upd H P (.tbl (ps ++ #[rawInt pos.line, rawInt pos.col, .ref c']))) c' (CodeO c' (lamQ X))) := fun b o e n => by rw [upd_ne (ne_of_none e new), upd_ne n]; exact e
    have hl : (ps ++ #[rawInt pos.line, rawInt pos.col, .ref c']).toList = ps.toList ++ [rawInt pos.line, rawInt pos.col, .ref c'] := by simp
    have nP : ∀ {a : Addr} {o : HO}, H a = some o → (∀ qs, o ≠ .tbl qs) → a ≠ P := fun {a o} e n q => n ps (Option.some.inj ((q ▸ e).symm.trans eP))
    refine h h'.objs.size c' _ _ I1 kp (fun p hp => ?_) ⟨⟨(X.mg "__name__").getD .none, ctv, Heap.get?_push_size _ rfl⟩, ?_, nofr_new I hsz, upd_same⟩
    · by_cases hb : p.1 = P
      · rw [hu p hp hb, hb]
        refine ⟨_, (upd_ne (ne_of_none eP new)).trans upd_same, by rw [hl]; exact PySem.TriplesOk_snoc _ _ _ _ ok, fun p' cv hcv => ?_⟩
        rw [hl] at hcv
        cases among_app _ ok hcv with
        | inl q =>
          obtain ⟨c0, r1, r2⟩ := among p' cv q
          exact ⟨c0, r1, kp _ _ r2 (nP r2 codeO_ne)⟩
        | inr q => exact ⟨c', q, upd_same⟩
      · obtain ⟨qs, a1, a2, a3⟩ := hT p hp
        refine ⟨qs, kp _ _ a1 hb, a2, fun p' cv hcv => ?_⟩
        obtain ⟨c0, r1, r2⟩ := a3 p' cv hcv
        exact ⟨c0, r1, kp _ _ r2 (nP r2 codeO_ne)⟩
    · have n1 : h'.objs.size ≠ c' := by omega
      have lp := Heap.lt_size oP
      have n2 : h'.objs.size ≠ P := Nat.ne_of_gt (Nat.lt_of_lt_of_le lp hsz)
      rw [upd_ne n1, upd_ne n2]
      exact I.hok.fresh hsz
end

/-! ### what a made lambda promises -/
/-- a value that is the same in every heap -/
def capV : D → V
  | .bl b => .bl b
  | .int i => .int i
  | .str x => .str x
  | .ty n => .ty n
  | .obj a => .ref a
  | _ => .non
def isCap : D → Bool
  | .non | .bl _ | .int _ | .str _ | .ty _ | .obj _ => true
  | _ => false
theorem rep_cap {K : PySem.W.Frag} {U : Addr → Prop} {H : Hp} {d : D} {v : V} (h : isCap d = true) : Rep K U H d v ↔ v = capV d := by
  cases d <;> first | (simp only [Rep, capV]; done) | (simp [isCap] at h)
/-- the names' data at the entry of a lambda -/
def startC (N : List Str) (ds caps : List D) : DEnv := ds.map some ++ (caps.map some ++ List.replicate (N.length - ds.length - caps.length) none)
abbrev lamNF (X : Cx) (params : Arguments) (scope : Scope) (c' : Addr) : NF := ⟨"<lambda>", lamQ X, params, [], scope, cloFrom X.env.cells scope.names [], c'⟩
/-- the context of its body -/
abbrev lCx (X : Cx) (params : Arguments) (scope : Scope) (N : List Str) (f c' : Addr) (A : Around) (o : List Env) (s : Shared) (H : Hp) (E : XK) : Cx :=
  ncx (L2.CX X.prog X.w) X.prog X.w X.K X.mg X.base N (lamNF X params scope c') f A o s H E
section
variable {X : Cx} {pins : List (Addr × Obj)} {σ : L2.St} {H : Hp} {s : Shared} {params : Arguments} {body : Expr} {scope : Scope} {f c' : Addr} {N ps fr : List Str} {caps : List D} {g : GG} {n k : Nat} {spL : FS} {mb : DEnv → M D}
theorem lTakes {A : Around} {o : List Env} {E : XK} : Takes (lCx X params scope N f c' A o s H E) (fun c d _ H => E c d H) := takes_of rfl rfl rfl rfl
theorem clo_of (I : Inv X pins σ H s) (j : g.J H) (hx : ∀ H a φ, g.J H → g.G a → H a ≠ some (.ext φ)) (mk : MadeL X params body scope s H f c') (S : NScope N ps fr scope) (hn : ps.length = n)
    (hbind : ∀ (q : Str) (cl : List (Str × Addr)) (pm cv ctv : Value) (us : List Value), us.length = ps.length → bindArgs (PySem.W.kla_fn "<lambda>" q params body scope cl pm cv ctv) ⟨us, []⟩ = pure (ps.zip us))
    (C : CellsAt (cloFrom X.env.cells scope.names []) fr (caps.map fun d => some (capV d)) s.heap H) (hcf : ∀ y a, (cloFrom X.env.cells scope.names []).lookup y = some a → a ∉ frs X.stack) (hcap : ∀ d ∈ caps, isCap d = true)
    (hb : ∀ (A : Around) (o : List Env) (s' : Shared) (H' : Hp) (E : XK) (U : Addr → Prop) (Ed : DX → Prop), Later g.G X.stack s H o s' H' → Room k (A.deeper (envF (lamNF X params scope c') f s'.heap.objs.size)) →
      ∃ te, DE (lCx X params scope N f c' A o s' H' E) (bZ X.K g U H' Ed E) body te mb)
    (h : ∀ ds Q E, ds.length = n → spL ds Q E → mb (startC N ds caps) Q E) : CloAt X.prog X.w X.K X.mg X.base g X.stack s H f n (k + 1) spL := by
  intro A o s' H' l j' hr e0
  obtain ⟨⟨pm, ctv, hf⟩, f0, ff, co⟩ := mk
  have hf' := l.keep f _ hf f0 ff
  have co' : H' c' = some (CodeO c' (lamQ X)) := l.ext c' _ co fun q => hx H c' _ j q co
  refine ⟨⟨_, _, _, _, hf'⟩, fun us vs Q E r hsp => ?_⟩
  obtain ⟨hl, U, ds, Qd, Ed, hG, hU, _, rd, hs, hQ, hE⟩ := hsp
  have hds : ds.length = n := rd.length.symm.trans hl
  have lim : s'.heap.NoLimit := e0.mod.nolimit.keeps fun b u e => (e0.bs b u e).1
  have C' : CellsAt (cloFrom X.env.cells scope.names []) fr (caps.map fun d => some (capV d)) s'.heap H' := by
    have kp : ∀ y a, (cloFrom X.env.cells scope.names []).lookup y = some a → ∀ v, s.heap.IsCell a v → s'.heap.IsCell a v := fun y a e v ⟨u, hu, hd⟩ => ⟨u, l.keep a u hu (C.all y a e).1 (hcf y a e), hd⟩
    refine ⟨C.len, fun y a e => ?_, C.inj, fun i y e => ?_⟩
    · obtain ⟨n0, v, q⟩ := C.all y a e
      obtain ⟨u, hu, _⟩ := id q
      exact ⟨l.free a u hu n0, v, kp y a e v q⟩
    · obtain ⟨a, ha, hv⟩ := C.has i y e
      refine ⟨a, ha, fun v ev => ?_⟩
      obtain ⟨u, ru, q⟩ := hv v ev
      exact ⟨u, ru, kp y a ha _ q⟩
  refine PySem.W.kla_callFunE hr.depth hf' rfl S.co S.gen rfl (codeO_at e0.hok co') ?_
  rw [hbind _ _ _ _ _ us (by rw [← r.length, hl, hn])]
  refine wpAny_pure (wpAny_newFunctionEnv (fun y hy => S.nocell y hy) (fun y hy => S.par y.1 (List.of_mem_zip hy).1) (fun h₁ hns hsb => And.intro (lim.fresh _ hsb) ?_) S.kind)
  obtain ⟨te, d⟩ := hb A o s' H' E U Ed l (hr.deeper _)
  have kp : ∀ b u, s'.heap.get? b = some u → h₁.get? b = some u := fun b u e => hsb.extBut b u (Nat.ne_of_lt (Heap.lt_size e)) (Heap.get?_push_of_some _ e)
  have J : Inv (lCx X params scope N f c' A o s' H' E) [] (startF N vs (caps.map fun d => some (capV d))) H' { s' with heap := h₁, toks := s'.toks + (ps.zip us).length } := inv_startN (F := lamNF X params scope c') S hr.hd e0 (hl.trans hn.symm) r C' hns kp
  have env : EnvRep X.K U H' (startF N vs (caps.map fun d => some (capV d))) (startC N ds caps) := by
    unfold startF startC
    refine ⟨by simp [rd.length], fun i d hi => ?_⟩
    by_cases h1 : i < ds.length
    · rw [List.getElem?_append_left (by simpa using h1), List.getElem?_map] at hi
      rw [List.getElem?_append_left (by simpa [rd.length] using h1), List.getElem?_map]
      cases e : ds[i]? with
      | none => rw [e] at hi; cases hi
      | some d' =>
        rw [e] at hi
        cases hi
        obtain ⟨v, e1, e2⟩ := rd.getD e
        exact ⟨v, by rw [e1]; rfl, e2⟩
    · rw [List.getElem?_append_right (by simpa using Nat.le_of_not_lt h1)] at hi
      rw [List.getElem?_append_right (by simpa [rd.length] using Nat.le_of_not_lt h1)]
      simp only [List.length_map] at hi ⊢
      rw [rd.length]
      by_cases h2 : i - ds.length < caps.length
      · rw [List.getElem?_append_left (by simpa using h2), List.getElem?_map] at hi
        rw [List.getElem?_append_left (by simpa using h2), List.getElem?_map]
        cases e : caps[i - ds.length]? with
        | none => rw [e] at hi; cases hi
        | some d' =>
          rw [e] at hi
          cases hi
          exact ⟨capV d, rfl, (rep_cap (hcap d (List.mem_of_getElem? e))).mpr rfl⟩
      · rw [List.getElem?_append_right (by simpa using Nat.le_of_not_lt h2), List.getElem?_replicate] at hi
        split at hi <;> cases hi
  have w : WR (bZ X.K g U H' Ed E) U (startF N vs (caps.map fun d => some (capV d))) H' (startC N ds caps) := ⟨⟨hG, hE⟩, fun _ q => q, hU, Ext.refl _, j', env⟩
  have tm := d.tm U _ H' _ Q Qd Ed w (fun _ q => q) (h ds Qd Ed hds hs) hQ
  refine PySem.W.kla_codeExpr (wpAny_mono (d.pe.run [] _ _ H' Q J tm) (fun v s3 q => ?_) fun _ _ q => q)
  obtain ⟨v', H3, J3, rv, q3⟩ := q
  exact ⟨v', H3, J3.os, J3.bare, J3.base, J3.hok, rv, q3⟩
end

/-! ### an argument list whose last is a lambda -/
abbrev TL := L2.St → Hp → (List V → Addr → Hp → Prop) → Prop
structure PL (X : Cx) (params : Arguments) (body : Expr) (scope : Scope) (es : List Expr) (t : TL) : Prop where
  run : ∀ (pos : Pos) (pins : List (Addr × Obj)) (s : Shared) (σ : L2.St) (H : Hp) (Q : List V → Addr → Hp → Prop), Inv X pins σ H s → t σ H Q →
    wpAny (model X.prog X.w) X.A (spliced (backTo pos (starEach es X.env))) (fun us s' => ∃ vs f c' H', Inv X pins σ H' s' ∧ Vals vs us ∧ MadeL X params body scope s' H' f c' ∧ Q vs f H') X.xe s
def tlLast (T : List (Addr × Str)) (P : Addr) : TL := fun _ H Q => Tabs T H ∧ ∀ f H1, ExtP P H H1 → Tabs T H1 → Q [.ref f] f H1
def tlCons (te : TE) (tl : TL) : TL := fun σ H Q => te σ H fun v H1 => tl σ H1 fun vs f H2 => Q (v :: vs) f H2
/-- the same over data: the written arguments' data -/
def TMl (z : Zc) (tl : TL) (m : DEnv → M (List D)) : Prop := ∀ (U : Addr → Prop) (σ : L2.St) (H : Hp) (ρ : DEnv) (Q : List V → Addr → Hp → Prop) (Qd : List D → Prop) (E : DX → Prop), WR z U σ H ρ → (∀ x, E x → z.Ed x) → m ρ Qd E →
  (∀ ds vs f H', Qd ds → Ext z.g.G H H' → z.g.J H' → Reps z.K U H' (ds ++ [.obj f]) vs → Q vs f H') → tl σ H Q
structure DL (X : Cx) (z : Zc) (params : Arguments) (body : Expr) (scope : Scope) (es : List Expr) (tl : TL) (m : DEnv → M (List D)) : Prop where
  pl : PL X params body scope es tl
  tm : TMl z tl m
/-- how the law's things bear the making of lambdas -/
structure LamJ (g : GG) (T : List (Addr × Str)) (P : Addr) : Prop where
  t : ∀ H, g.J H → Tabs T H
  p : g.G P
  j : ∀ H H1, g.J H → ExtP P H H1 → Tabs T H1 → g.J H1
  x : ∀ H a φ, g.J H → g.G a → H a ≠ some (.ext φ)
section
variable {X : Cx} {z : Zc} {params : Arguments} {body : Expr} {scope : Scope} {T : List (Addr × Str)} {c P : Addr} {lpos : Pos}
theorem dl_last (J : LamJ z.g T P) (B : TabB X.base X.mg c P) (hcode : X.env.code = .ref c) (hm : (P, lamQ X) ∈ T) (hu : ∀ p ∈ T, p.1 = P → p.2 = lamQ X) (hdef : defaultsOf params X.env = ([], []))
    (hfree : X.Ok → ∀ y ∈ scope.names, y.2 = .free → ∃ a, X.env.cells.lookup y.1 = some a) : DL X z params body scope [.Lambda params body scope lpos] (tlLast T P) (fun _ => ret []) := by
  refine ⟨⟨fun pos pins s σ H Q I h => ?_⟩, fun U σ H ρ Q Qd E w he h k => ?_⟩
  · obtain ⟨hT, h⟩ := h
    show wpAny _ _ (spliced ((false, eval (.Lambda params body scope lpos) X.env) :: backTo pos (starEach [] X.env))) _ _ s
    refine Calls.spliced_cons (lam_mk I B hcode hm hu hT hdef (hfree I.ok) fun f c' H1 s' I1 e1 t1 mk => ?_)
    exact Calls.spliced_nil ⟨[.ref f], f, c', H1, I1, .cons rfl .nil, mk, h f H1 e1 t1⟩
  · refine ⟨J.t H w.j, fun f H1 e1 t1 => k [] _ f H1 h (fun a o ha ng => e1 a o ha fun q => ng (q ▸ J.p)) (J.j H H1 w.j e1 t1) (Reps.cons (by simp only [Rep]) Reps.nil)⟩
variable {e : Expr} {es : List Expr} {te : TE} {tl : TL} {me : DEnv → M D} {ml : DEnv → M (List D)}
theorem dl_cons (he : DE X z e te me) (hr : DL X z params body scope es tl ml) (hs : starEach (e :: es) X.env = (false, eval e X.env) :: starEach es X.env := by rfl) :
    DL X z params body scope (e :: es) (tlCons te tl) (fun ρ => bnd (me ρ) fun d => bnd (ml ρ) fun ds => ret (d :: ds)) := by
  refine ⟨⟨fun pos pins s σ H Q I h => ?_⟩, fun U σ H ρ Q Qd E w hE h k => ?_⟩
  · rw [hs]
    show wpAny _ _ (spliced ((false, eval e X.env) :: backTo pos (starEach es X.env))) _ _ s
    refine Calls.spliced_cons (thn (he.pe.run pins s σ H _ I h) fun u s1 hu => ?_)
    obtain ⟨v, H1, I1, r1, q1⟩ := hu
    have run := hr.pl.run pos pins s1 σ H1 _ I1 q1
    refine thn run fun us s2 hu2 => ?_
    obtain ⟨vs, f, c', H2, I2, r2, mk, q2⟩ := hu2
    exact ⟨v :: vs, f, c', H2, I2, .cons r1 r2, mk, q2⟩
  · refine he.tm U σ H ρ _ _ E w hE h fun d v H1 h1 e1 j1 r1 => hr.tm U σ H1 ρ _ _ E (w.step e1 j1) hE h1 fun ds vs f H2 h2 e2 j2 r2 => k (d :: ds) (v :: vs) f H2 h2 (e1.trans e2) j2 (Reps.cons (r1.ext e2 w.gu) r2)
end
/-! ### a def that takes a function as its last argument -/
def GFL (P : Program) (w : World) (K : PySem.W.Frag) (mg : Str → Option Value) (base : Heap) (g : GG) (x : Str) (n k nL kL : Nat) (sp : Addr → FS → FS) : Prop :=
  ∃ f, mg x = some (.ref f) ∧ PySem.W.keepIn K (.ref f) = true ∧ ∀ (A : Around) (o : List Env) (s : Shared) (H : Hp) (us : List Value) (vs : List V) (Q : VK) (E : XK) (fL : Addr) (spL : FS), Room k A → Env0 P w K mg base A o s H → Vals vs us →
    CloAt P w K mg base g o s H fL nL kL spL → spOf K g n (fun ds Qd Ed => ds.getLast? = some (.obj fL) ∧ sp fL spL ds Qd Ed) vs H Q E → codeAny (model P w) A (.call (.ref f) ⟨us, []⟩) (CR (L2.CX P w) o P w H s Q E) s
section
variable {P : Program} {w : World} {K : PySem.W.Frag} {mg : Str → Option Value} {base : Heap}
theorem gfl_of {x qual : Str} {st : Stmt} {f : Addr} {fd : FuncData} {N ps : List Str} {k n nL kL : Nat} {g : GG} {sp : Addr → FS → FS} (F : Fun K x qual st f fd) (hmg : mg x = some (.ref f)) (b : Binds K fd ps []) (S : FnScope N ps (defScope st)) (hn : ps.length = n) (O : List Nat) (hO : ∀ i, i ∈ O → n ≤ i)
    (hb : ∀ (fL : Addr) (spL : FS), ∃ ms : MS, (∀ (cdv : Value) (A : Around) (o : List Env) (s : Shared) (H : Hp) (E : XK) (U : Addr → Prop) (Ed : DX → Prop), Room k (A.deeper (envOfC qual (defScope st) s.heap.objs.size f cdv)) → fd.code = cdv → CloAt P w K mg base g o s H fL nL kL spL →
      ∃ ts, DSs (bCx P w K mg base N qual st f cdv A o s H E) (bZ K g U H Ed E) O (defBody st) ts ms) ∧ ∀ ds Q E, ds.length = n → ds.getLast? = some (.obj fL) → sp fL spL ds Q E → ms (κOf Q) E (startD N ds)) : GFL P w K mg base g x n (k + 1) nL kL sp := by
  refine ⟨f, hmg, F.kp, fun A o s H us vs Q E fL spL hr e0 r c hsp => ?_⟩
  obtain ⟨oc, od, kV, doc, pm, an, cdv, ct, osl, rfl, lk, hcd⟩ := F.ex
  obtain ⟨hl, U, ds, Qd, Ed, hG, hU, j, rd, ⟨hf0, hf⟩, hQ, hE⟩ := hsp
  have KX : K.In s.heap := e0.mod.kin.keeps fun b o e => (e0.bs b o e).1
  have hb2 := b s us KX (by rw [List.append_nil, ← r.length, hl, hn])
  rw [List.append_nil] at hb2
  refine run_ofS (N := N) (ps := ps) (us := us) (vs := vs) lk hcd S hr e0 hb2 r (hl.trans hn.symm) fun hr' => ?_
  obtain ⟨ms, hb1, h⟩ := hb fL spL
  obtain ⟨ts, d⟩ := hb1 cdv A o s H E U Ed hr' rfl c
  have hds : ds.length = n := rd.length.symm.trans hl
  have ok : (bZ K g U H Ed E).Ok := ⟨hG, hE⟩
  exact ⟨ts, d.ps, d.tm [] _ _ _ _ _ (κOf Qd) Ed (so_start (z := bZ K g U H Ed E) (N := N) ok hU j rd (fun i hi => by rw [hds]; exact hO i hi) rfl) (fun _ h => h) ⟨fun oa σ H' ρ s' q => hQ .non .non H' q s'.ext s'.j (by simp only [Rep]), fun d v H' q e j' r' => hQ d v H' q e j' r', fun _ _ _ _ _ q => q.elim, fun _ _ _ _ _ q => q.elim⟩ (h ds Qd Ed hds hf0 hf)⟩
/-- the rule for a def over data, its code object told -/
theorem fun_okDc {x qual : Str} {st : Stmt} {f : Addr} {fd : FuncData} {N ps : List Str} {k n : Nat} {g : GG} {sp : FS} (F : Fun K x qual st f fd) (S : FnScope N ps (defScope st)) (hn : ps.length = n) (O : List Nat) {ms : MS} (hO : ∀ i, i ∈ O → n ≤ i)
    (hb : ∀ (cdv : Value) (A : Around) (outer : List Env) (s : Shared) (H : Hp) (E : XK) (U : Addr → Prop) (Ed : DX → Prop), Room k (A.deeper (envOfC qual (defScope st) s.heap.objs.size f cdv)) → fd.code = cdv →
      ∃ ts, DSs (bCx P w K mg base N qual st f cdv A outer s H E) (bZ K g U H Ed E) O (defBody st) ts ms)
    (h : ∀ ds Q E, ds.length = n → sp ds Q E → ms (κOf Q) E (startD N ds)) : FnOk P w K mg base (L2.CX P w) (k + 1) f fd ps (spOf K g n sp) := by
  obtain ⟨oc, od, kV, doc, pm, an, cdv, ct, osl, rfl, lk, hcd⟩ := F.ex
  refine fn_of lk hcd S (fun vs H Q E h => h.1.trans hn.symm) fun A outer s H vs Q E hr hsp => ?_
  obtain ⟨hl, U, ds, Qd, Ed, hG, hU, j, r, hf, hQ, hE⟩ := hsp
  obtain ⟨ts, d⟩ := hb cdv A outer s H E U Ed hr rfl
  have hds : ds.length = n := r.length.symm.trans hl
  have ok : (bZ K g U H Ed E).Ok := ⟨hG, hE⟩
  exact ⟨ts, d.ps, d.tm [] _ _ _ _ _ (κOf Qd) Ed (so_start (z := bZ K g U H Ed E) (N := N) ok hU j r (fun i hi => by rw [hds]; exact hO i hi) rfl) (fun _ h => h) ⟨fun oa σ H' ρ s' q => hQ .non .non H' q s'.ext s'.j (by simp only [Rep]), fun d v H' q e j' r' => hQ d v H' q e j' r', fun _ _ _ _ _ q => q.elim, fun _ _ _ _ _ q => q.elim⟩ (h ds Qd Ed hds hf)⟩
end
/-! ### its call with a lambda -/
def tCallLam (K : PySem.W.Frag) (g : GG) (H0 : Hp) (n : Nat) (js : List Nat) (caps : List D) (spA : Addr → FS) (E : XK) (tl : TL) : TE := fun σ H Q => js.map (slotAt σ) = caps.map (fun d => some (capV d)) ∧ tl σ H fun vs f H1 => Ext g.G H0 H1 ∧ g.J H1 ∧ spOf K g n (fun ds Qd Ed => ds.getLast? = some (.obj f) ∧ spA f ds Qd Ed) vs H1 Q E
section
variable {X : Cx} {z : Zc} {params : Arguments} {body : Expr} {scope : Scope} {es : List Expr} {e : Expr} {tl : TL} {ml : DEnv → M (List D)} {x : Str} {n k k' nL kL : Nat} {sp : Addr → FS → FS} {spL : FS} {N ps fr : List Str} {js : List Nat} {caps : List D} {mb : DEnv → M D} {pp pos : Pos}
theorem de_lam (F : GFL X.prog X.w X.K X.mg X.base z.g x n k nL (kL + 1) sp) (hK : X.K = z.K) (hx : X.ex = []) (h0 : z.H0 = X.H_0) (hr : Room k' X.A) (hk : k ≤ k') (tk : Takes X (fun c d _ H => z.EK c d H))
    (hGx : ∀ H a φ, z.g.J H → z.g.G a → H a ≠ some (.ext φ)) (ha : DL X z params body scope (e :: es) tl ml) (S : NScope N ps fr scope) (hn : ps.length = nL)
    (hbind : ∀ (q : Str) (cl : List (Str × Addr)) (pm cv ctv : Value) (us : List Value), us.length = ps.length → bindArgs (PySem.W.kla_fn "<lambda>" q params body scope cl pm cv ctv) ⟨us, []⟩ = pure (ps.zip us))
    (cp : X.Ok → Caps X (cloFrom X.env.cells scope.names []) fr js) (hfn : ∀ y a, (cloFrom X.env.cells scope.names []).lookup y = some a → X.fn y = true) (hcap : ∀ d ∈ caps, isCap d = true)
    (hb : ∀ (f c' : Addr) (A : Around) (o : List Env) (s' : Shared) (H' : Hp) (E : XK) (U : Addr → Prop) (Ed : DX → Prop), Later z.g.G X.outer X.s_0 X.H_0 o s' H' → Room kL (A.deeper (envF (lamNF X params scope c') f s'.heap.objs.size)) →
      ∃ te, DE (lCx X params scope N f c' A o s' H' E) (bZ X.K z.g U H' Ed E) body te mb)
    (h : ∀ ds Q E, ds.length = nL → spL ds Q E → mb (startC N ds caps) Q E)
    (hg : Gl X x := by rfl) (hdb : (x == ("__debug__" : Str)) = false := by decide) (he : starEach (e :: es) X.env = (false, eval e X.env) :: starEach es X.env := by rfl) (hpl : (backTo pos (starEach es X.env)).any (·.1) = false := by rfl) :
    DE X z (.Call (.Name x pp) (e :: es) [] pos) (tCallLam X.K z.g X.H_0 n js caps (fun f => sp f spL) z.EK tl) (fun ρ => fun Q E => js.map (fun j => ρ.getD j none) = caps.map some ∧ bnd (ml ρ) (fun ds Q E => ∀ f, mCall n (sp f spL) (ds ++ [.obj f]) Q E) Q E) := by
  obtain ⟨g, h1, h2, h3⟩ := F
  refine ⟨⟨fun pins s σ H Q I hh => ?_⟩, fun U σ H ρ Q Qd E w hE hm k2 => ?_⟩
  · obtain ⟨hcs, ht⟩ := hh
    refine wpAny_Call_Name_kw (ld_glob I hg h1 ?_ hdb)
    refine PySem.W.callWith_K (h₀ := X.base) I.ok.mod.kin h2 (thn (ha.pl.run pos pins s σ H _ I ht) fun us s1 hu => ?_) he hpl
    obtain ⟨vs, f, c', H1, I1, r, mk, e1, j1, q⟩ := hu
    refine ⟨I1.kIn, met (passes_call tk fun _ _ _ _ h => h) I1 (h3 X.A X.stack s1 H1 us vs Q z.EK f spL (hr.mono hk) I1.env0 r ?_ q)⟩
    have C := cells_of I1 (cp I1.ok)
    rw [hcs] at C
    refine clo_of I1 j1 hGx mk S hn hbind C (fun y a hy hs => ?_) hcap (fun A o s' H' E U Ed l rr => hb f c' A o s' H' E U Ed ((Later.of I1 hx e1).trans l) rr) h
    have hy' := (cp I1.ok).sub y a hy
    rcases List.mem_cons.mp (I1.stkSub a hs) with q | q
    · obtain ⟨_, v, u, hu, hd⟩ := C.all y a hy
      obtain ⟨m, ⟨u2, es2, ep, hu2, hd2, _⟩, _⟩ := I1.loc
      rw [← q, hu] at hu2
      cases hu2
      rw [hd] at hd2
      cases hd2
    · have ca := I1.ok.cab y a (hfn y a hy) hy'
      obtain ⟨_, u, hu, _⟩ := I1.ok.funs.mem q
      exact absurd (Nat.lt_of_lt_of_le (Heap.lt_size hu) ca) (Nat.lt_irrefl _)
  · obtain ⟨hc, hm⟩ := hm
    refine ⟨?_, ha.tm U σ H ρ _ _ E w hE hm fun ds vs f H1 hh e1 j1 r1 => ?_⟩
    · have : ∀ (js : List Nat) (caps : List D), (∀ d ∈ caps, isCap d = true) → js.map (fun j => ρ.getD j none) = caps.map some → js.map (slotAt σ) = caps.map fun d => some (capV d) := by
        intro js
        induction js with
        | nil =>
          intro caps _ q
          cases caps with
          | nil => rfl
          | cons d caps => simp at q
        | cons j js ih =>
          intro caps hcap q
          cases caps with
          | nil => simp at q
          | cons d caps =>
            simp only [List.map_cons, List.cons.injEq] at q ⊢
            refine ⟨?_, ih caps (fun d hd => hcap d (List.mem_cons_of_mem _ hd)) q.2⟩
            have q' : ρ[j]? = some (some d) := by
              have q1 := q.1
              rw [List.getD_eq_getElem?_getD] at q1
              cases e : ρ[j]? with
              | none => rw [e] at q1; simp at q1
              | some o => rw [e] at q1; simp at q1; rw [q1]
            obtain ⟨v, h1, h2⟩ := w.env.2 j d q'
            rw [(rep_cap (hcap d List.mem_cons_self)).mp h2] at h1
            exact slotAt_of h1
      exact this js caps hcap hc
    · have w1 := w.step e1 j1
      rw [hK]
      obtain ⟨hh1, hh2⟩ := hh f
      exact ⟨by rw [← h0]; exact w1.ext, j1, r1.length.trans hh1, U, _, Qd, E, w.gu, w1.dom, j1, r1, ⟨by simp, hh2⟩, fun d v H' q e2 j2 r2 => k2 d v H' q (e1.trans e2) j2 r2, fun x cls dp H' q e2 j2 r2 => w.ok.ek x cls dp H' (hE x q) (w1.ext.trans e2) j2 (r2.less w.u)⟩
end
end DL

/-! DCls: isinstance, attributes, properties, new instances, over data. -/
namespace DL
open PySem PySem.Spec PyProof.Rows L2

/-! ### isinstance -/
/-- an own class whose instances are told by their class alone -/
structure ClsF (K : PySem.W.Frag) (C : Addr) : Prop where
  cl : Cls K C
  ha : PySem.W.findIn K (.ref C) "__class__" = some (some (.builtin "object.__class__"))
  hn : PySem.W.specialIn K (.builtin "object.__class__") "__get__" = some (some (.builtin "getset_descriptor.__get__"))
  ht : PySem.W.takesIn K (.builtin "object.__class__") = some true
  hm : PySem.W.mroIn K C (.type "object") = some true
def tyD : D → Option String
  | .non => some "NoneType"
  | .bl _ => some "bool"
  | .int _ => some "int"
  | .str _ => some "str"
  | .tup _ => some "tuple"
  | .lst _ => some "list"
  | .dK _ _ => some "dict"
  | .dT _ _ => some "dict"
  | .ptup _ => some "tuple"
  | .lsta _ _ => some "list"
  | _ => none
def tyNs : List String := ["NoneType", "bool", "int", "str", "tuple", "list", "dict"]
def isTy (a b : String) : Bool := a == b || (a == "bool" && b == "int")
theorem kitB_ty : ∀ a ∈ tyNs, ∀ b ∈ ["bool", "int", "str", "tuple", "list", "dict"], kitB a b = some (isTy a b) := by decide +kernel
theorem tyD_in {d : D} {t : String} (h : tyD d = some t) : t ∈ tyNs := by
  cases d <;> simp [tyD] at h <;> subst h <;> decide
/-- the own classes that isinstance is asked of -/
structure CSF (K : PySem.W.Frag) (CS : List Addr) : Prop where
  cls : ∀ C ∈ CS, ClsF K C
  tb : ∀ C ∈ CS, ∀ b ∈ ["bool", "int", "str", "tuple", "list", "dict"], PySem.W.kitOne K (.ref C) (.type b) = some false
  bt : ∀ C ∈ CS, ∀ a ∈ tyNs, PySem.W.kitOne K (.type a) (.ref C) = some false
  cc : ∀ C ∈ CS, ∀ C' ∈ CS, PySem.W.kitOne K (.ref C) (.ref C') = some (C == C')
abbrev mIsi (CS : List Addr) (d c : D) : M D := fun Q _ => match c with
  | .ty b => b ∈ ["bool", "int", "str", "tuple", "list", "dict"] ∧ match tyD d with
    | some a => Q (.bl (isTy a b))
    | none => match d with
      | .ins C _ _ => C ∈ CS ∧ Q (.bl false)
      | _ => False
  | .obj C' => C' ∈ CS ∧ match tyD d with
    | some _ => Q (.bl false)
    | none => match d with
      | .ins C _ _ => C ∈ CS ∧ Q (.bl (C == C'))
      | _ => False
  | _ => False
theorem tyx_of {K : PySem.W.Frag} {U : Addr → Prop} {H : Hp} {d : D} {v : V} {a : String} (r : Rep K U H d v) (h : tyD d = some a) : TyX K H v (.type a) := by
  cases d <;> simp only [tyD, Option.some.injEq] at h <;> first | (subst h) | (cases h)
  all_goals simp only [Rep] at r
  · subst r; exact .base .non
  · subst r; exact .base (.bl _)
  · subst r; exact .base (.int _)
  · subst r; exact .base (.str _)
  · obtain ⟨p, xs, rfl, q, _⟩ := r
    rcases q with ⟨q | ⟨o, q⟩, _⟩ | ⟨o, its, n, e, c, _⟩
    · exact .base (.tup q)
    · exact .fTuple q
    · exact .kTuple e c
  · obtain ⟨p, xs, rfl, ⟨q, _⟩, _⟩ := r
    exact .base (.lst q)
  · obtain ⟨p, xs, rfl, ⟨q, _⟩, _⟩ := r
    exact .base (.dK q)
  · obtain ⟨p, xs, rfl, ⟨q, _⟩, _⟩ := r
    exact .base (.dT q)
  · obtain ⟨p, o, xs, rfl, ⟨q, _⟩, _⟩ := r
    exact .fTuple q
  · obtain ⟨rfl, xs, ⟨q, _⟩, _⟩ := r
    exact .base (.lst q)
section
variable {X : Cx} {z : Zc}
theorem rmIsi {CS : List Addr} (F : CSF z.K CS) : RMn z (rIsi z.K) (m2 (mIsi CS)) := rmn2 fun U H d c x y Q Qd E gu hU j r1 r2 he h k => by
  cases c with
  | ty b =>
    obtain ⟨hb, h⟩ := h
    simp only [Rep] at r2
    subst r2
    cases ht : tyD d with
    | some a =>
      rw [ht] at h
      exact ⟨x, _, _, _, _, rfl, .ty b, tyx_of r1 ht, kit_ty (kitB_ty a (tyD_in ht) b hb), k _ _ H h (Ext.refl H) j (by simp only [Rep])⟩
    | none =>
      rw [ht] at h
      cases d with
      | ins C ks ds =>
        obtain ⟨hC, h⟩ := h
        have f := F.cls C hC
        simp only [Rep] at r1
        obtain ⟨a, dx, fs, rfl, ⟨e, _, _⟩, _⟩ := r1
        exact ⟨_, _, _, _, _, rfl, .ty b, .base (.ins e f.cl f.ha f.hn f.ht f.hm), F.tb C hC b hb, k _ _ H h (Ext.refl H) j (by simp only [Rep])⟩
      | _ => exact h.elim
  | obj C' =>
    obtain ⟨hb, h⟩ := h
    simp only [Rep] at r2
    subst r2
    cases ht : tyD d with
    | some a =>
      rw [ht] at h
      exact ⟨x, _, _, _, _, rfl, .own C', tyx_of r1 ht, F.bt C' hb a (tyD_in ht), k _ _ H h (Ext.refl H) j (by simp only [Rep])⟩
    | none =>
      rw [ht] at h
      cases d with
      | ins C ks ds =>
        obtain ⟨hC, h⟩ := h
        have f := F.cls C hC
        simp only [Rep] at r1
        obtain ⟨a, dx, fs, rfl, ⟨e, _, _⟩, _⟩ := r1
        exact ⟨_, _, _, _, _, rfl, .own C', .base (.ins e f.cl f.ha f.hn f.ht f.hm), F.cc C hC C' hb, k _ _ H h (Ext.refl H) j (by simp only [Rep])⟩
      | _ => exact h.elim
  | _ => exact h.elim
variable {a e : Expr} {es : List Expr} {te : TE} {me : DEnv → M D} {tr : TA} {mr : DEnv → M (List D)} {pp pos : Pos} {f x : Str}
theorem de_isi {CS : List Addr} (F : CSF z.K CS) (hK : X.K = z.K) (hm : X.mg "isinstance" = none) (ha : DA X z (a :: es) tr mr) (hg : Gl X "isinstance" := by rfl)
    (he : starEach (a :: es) X.env = (false, eval a X.env) :: starEach es X.env := by rfl) (hpl : (backTo pos (starEach es X.env)).any (·.1) = false := by rfl) :
    DE X z (.Call (.Name "isinstance" pp) (a :: es) [] pos) (tCB (rIsi z.K) tr) (fun ρ => bnd (mr ρ) (m2 (mIsi CS))) := de_cb (hK ▸ call_isi) (rmIsi F) hm rfl ha hg (by decide) (by decide) he hpl

/-! ### attributes -/
def getA (f : Str) : List Str → List D → Option D
  | k :: ks, d :: ds => if f = k then some d else getA f ks ds
  | _, _ => none
theorem getA_of {K : PySem.W.Frag} {U : Addr → Prop} {H : Hp} {f : Str} : ∀ {fs : List (Str × V)} {ds : List D} {d : D}, Reps K U H ds (fs.map (·.2)) → getA f (fs.map (·.1)) ds = some d → ∃ v, fs.lookup f = some v ∧ Rep K U H d v
  | [], ds, d, r, h => by simp [getA] at h
  | (k, v) :: fs, [], d, r, h => by simp [getA] at h
  | (k, v) :: fs, d' :: ds, d, r, h => by
    simp only [List.map_cons, Reps, List.cons.injEq] at r
    obtain ⟨_, _, ⟨rfl, rfl⟩, r1, r2⟩ := r
    simp only [List.map_cons, getA] at h
    by_cases q : f = k
    · rw [if_pos q] at h
      cases h
      exact ⟨v, by rw [List.lookup_cons, q]; simp, r1⟩
    · rw [if_neg q] at h
      obtain ⟨w, h1, h2⟩ := getA_of r2 h
      refine ⟨w, ?_, h2⟩
      rw [List.lookup_cons, show (f == k) = false by simp [q]]
      exact h1
abbrev mFld (CS : List Addr) (f : Str) (d : D) : M D := fun Q _ => match d with
  | .ins C ks ds => C ∈ CS ∧ (match getA f ks ds with | some v => Q v | none => False)
  | _ => False
/-- e.f, an attribute of its own -/
theorem de_fld {CS : List Addr} (F : ∀ C ∈ CS, Cls z.K C ∧ NoAttr z.K C f) (hK : X.K = z.K) (he : DE X z e te me) (hb : attributeBase e f X.env (eval e X.env) = eval e X.env := by rfl) : DE X z (.Attribute e f pos) (tFld X.K te f) (fun ρ => bnd (me ρ) (mFld CS f)) :=
  ⟨pe_fld he.pe hb, fun U σ H ρ Q Qd E w hE h k => he.tm U σ H ρ _ _ E w hE h fun d v H1 h1 e1 j1 r1 => by
    cases d with
    | ins C ks ds =>
      obtain ⟨hC, h1⟩ := h1
      simp only [Rep] at r1
      obtain ⟨p, dx, fs, rfl, ⟨q, nu, rfl⟩, rs⟩ := r1
      cases hg : getA f (fs.map (·.1)) ds with
      | none => rw [hg] at h1; exact h1.elim
      | some d =>
        rw [hg] at h1
        obtain ⟨w', l, r⟩ := getA_of rs hg
        obtain ⟨c, n⟩ := F C hC
        exact ⟨p, C, dx, fs, w', rfl, q, hK ▸ c, hK ▸ n, l, k d w' H1 h1 e1 j1 r⟩
    | _ => exact h1.elim⟩
/-- a getter of the class C that keeps a promise over data -/
def GP (P : Program) (w : World) (K : PySem.W.Frag) (mg : Str → Option Value) (base : Heap) (g : GG) (C : Addr) (f : Str) (k : Nat) (sp : FS) : Prop :=
  ∃ p fa fd ps, PropOf K C f p fa ∧ FnOk P w K mg base (L2.CX P w) k fa fd ps (spOf K g 1 sp) ∧ Binds K fd ps []
theorem de_prop {C : Addr} {k k' : Nat} {sp : FS} (F : GP X.prog X.w X.K X.mg X.base z.g C f k sp) (c : Cls X.K C) (hr : Room k' X.A) (hk : k + 1 ≤ k') (hK : X.K = z.K) (he : DE X z e te me) (hb : attributeBase e f X.env (eval e X.env) = eval e X.env := by rfl) :
    DE X z (.Attribute e f pos) (tProp C (spOf z.K z.g 1 sp) [] (fun _ _ _ => False) te) (fun ρ => bnd (me ρ) fun d Q E => (∃ ks ds, d = .ins C ks ds) ∧ sp [d] Q (fun _ => False)) := by
  obtain ⟨p, fa, fd, ps, h1, h2, h3⟩ := F
  refine ⟨?_, fun U σ H ρ Q Qd E w hE h k2 => he.tm U σ H ρ _ _ E w hE h fun d v H1 h1 e1 j1 r1 => ?_⟩
  · rw [← hK]
    exact pe_prop he.pe c h1 h2 (hr.mono hk) h3 .nil (passes_call (takes0 (X := X.nox)) fun _ _ _ _ h => h) hb
  · obtain ⟨⟨ks, ds, rfl⟩, h1⟩ := h1
    have r0 := r1
    simp only [Rep] at r1
    obtain ⟨a, dx, fs, rfl, ⟨q, _, _⟩, _⟩ := r1
    have w1 := w.step e1 j1
    exact ⟨a, dx, fs, rfl, q, rfl, U, _, Qd, _, w.gu, w1.dom, j1, Reps.cons r0 Reps.nil, h1, fun d v H' q e2 j2 r2 => k2 d v H' q (e1.trans e2) j2 r2, fun _ _ _ _ q => q.elim⟩

/-! ### an __init__ that stores one attribute last -/
/-- its promise: self, then the arguments; what is stored under f is told by spM -/
def spInit (K : PySem.W.Frag) (g : GG) (C : Addr) (f : Str) (n : Nat) (spM : FS) : Sp := fun vs H Q E => vs.length = n + 1 ∧ ∃ (x dx : Addr) (vs' : List V) (U : Addr → Prop) (ds : List D) (Qd : D → Prop) (Ed : DX → Prop), vs = .ref x :: vs' ∧ H x = some (.ins C dx []) ∧ ¬ g.G x ∧
  (∀ a, g.G a → U a) ∧ (∀ a, U a → H a ≠ none) ∧ U x ∧ g.J H ∧ Reps K U H ds vs' ∧ spM ds Qd Ed ∧
  (∀ d v H', Qd d → Ext g.G H H' → g.J H' → H' x = some (.ins C dx []) → Rep K U H' d v → Q .non (upd H' x (.ins C dx [(f, v)]))) ∧ ∀ ex cls dp H', Ed ex → Ext g.G H H' → g.J H' → RepX K U H' cls dp ex → E cls dp H'
/-- a list of statements that ends with the storing -/
structure DSl (X : Cx) (z : Zc) (O : List Nat) (x C dx : Addr) (f : Str) (sts : List Stmt) (ts : TS) (ml : (D → Prop) → (DX → Prop) → DEnv → Prop) : Prop where
  ps : PSs X sts ts
  tm : ∀ (oa : Nat → Addr) (σ : L2.St) (H : Hp) (ρ : DEnv) (Dn : Ends) (Qd : D → Prop) (E : DX → Prop), SO z O oa σ H ρ → (∀ x, E x → z.Ed x) → ml Qd E ρ →
    (∀ d v H' σ', Qd d → Ext z.g.G z.H0 H' → z.g.J H' → Rep z.K z.U0 H' d v → Dn.nx σ' (upd H' x (.ins C dx [(f, v)]))) → ts Dn σ H
variable {O : List Nat} {x' C dx : Addr} {st : Stmt} {sts : List Stmt} {t u : TS} {m : MS} {ml : (D → Prop) → (DX → Prop) → DEnv → Prop} {p1 p2 : Pos}
theorem dsl_cons (h1 : DS X z O st t m) (h2 : DSl X z O x' C dx f sts u ml) : DSl X z O x' C dx f (st :: sts) (tSeq t u) (fun Qd E ρ => m { nx := ml Qd E, rt := fun _ => False, bk := fun _ => False, ct := fun _ => False } E ρ) :=
  ⟨pss_cons h1.ps h2.ps, fun oa σ H ρ Dn Qd E s he hm k => h1.tm [] oa σ H ρ { Dn with nx := u Dn } { nx := ml Qd E, rt := fun _ => False, bk := fun _ => False, ct := fun _ => False } E s he ⟨fun oa' σ' H' ρ' s' q => h2.tm oa' σ' H' ρ' Dn Qd E s' he q k, fun _ _ _ q => q.elim, fun _ _ _ _ _ q => q.elim, fun _ _ _ _ _ q => q.elim⟩ hm⟩
theorem dsl_last {nm : Str} (hK : X.K = z.K) (h0 : z.H0 x' = some (.ins C dx [])) (ng : ¬ z.g.G x') (c : Cls X.K C) (na : NoAttr X.K C f) (he : DE X z e te me) (hs0 : DE X z (.Name nm p1) (tVar 0) (fun ρ => gv ρ 0))
    (hs : swapsWith e (some (.Attribute (.Name nm p1) f p2)) pos.line X.env = pure false := by rfl) :
    DSl X z O x' C dx f [.Assign [.Attribute (.Name nm p1) f p2] e pos] (sFld X.K (tVar 0) te f) (fun Qd E ρ => me ρ (fun d => gv ρ 0 (fun d0 => d0 = .obj x' ∧ Qd d) E) E) :=
  ⟨pss_one (ps_fld hs0.pe he.pe hs), fun oa σ H ρ Dn Qd E s hE hm k => he.tm z.U0 σ H ρ _ _ E s.full hE hm fun d v H1 h1 e1 j1 r1 => by
    have w1 := s.full.step e1 j1
    refine hs0.tm z.U0 σ H1 ρ _ _ E w1 hE h1 fun d0 v0 H2 h2 e2 j2 r2 => ?_
    obtain ⟨rfl, q⟩ := h2
    simp only [Rep] at r2
    subst r2
    have e3 := w1.ext.trans e2
    exact ⟨x', C, dx, [], rfl, e3 x' _ h0 ng, c, na, by simp, k d v H2 σ q e3 j2 (r1.ext e2 s.full.gu)⟩⟩
variable {P : Program} {w : World} {K : PySem.W.Frag} {mg : Str → Option Value} {base : Heap}
theorem init_okD {nm qual : Str} {st : Stmt} {fa : Addr} {fd : FuncData} {N ps : List Str} {k n : Nat} {g : GG} {spM : FS} (F : Fun K nm qual st fa fd) (S : FnScope N ps (defScope st)) (hn : ps.length = n + 1) (O : List Nat) {ml : Addr → (D → Prop) → (DX → Prop) → DEnv → Prop} (hO : ∀ i, i ∈ O → n + 1 ≤ i)
    (hb : ∀ (cdv : Value) (A : Around) (outer : List Env) (s : Shared) (H : Hp) (E : XK) (U : Addr → Prop) (Ed : DX → Prop) (x dx : Addr), Room k (A.deeper (envOfC qual (defScope st) s.heap.objs.size fa cdv)) → H x = some (.ins C dx []) → ¬ g.G x →
      ∃ ts, DSl (bCx P w K mg base N qual st fa cdv A outer s H E) (bZ K g U H Ed E) O x C dx f (defBody st) ts (ml x))
    (h : ∀ x ds Q E, ds.length = n → spM ds Q E → ml x Q E (startD N (.obj x :: ds))) : FnOk P w K mg base (L2.CX P w) (k + 1) fa fd ps (spInit K g C f n spM) := by
  refine F.okX S (fun vs H Q E h => h.1.trans hn.symm) fun cdv A outer s H vs Q E hr hsp => ?_
  obtain ⟨hl, x, dx, vs', U, ds, Qd, Ed, rfl, hx, ng, hG, hU, hUx, j, r, hf, hQ, hE⟩ := hsp
  obtain ⟨ts, d⟩ := hb cdv A outer s H E U Ed x dx hr hx ng
  have hds : ds.length = n := by
    have q := r.length
    simp only [List.length_cons] at hl
    omega
  have ok : (bZ K g U H Ed E).Ok := ⟨hG, hE⟩
  have so := so_start (z := bZ K g U H Ed E) (N := N) ok hU j (Reps.cons (d := .obj x) (x := .ref x) (by simp only [Rep]) r) (fun i hi => by rw [List.length_cons, hds]; exact hO i hi) rfl
  exact ⟨ts, d.ps, d.tm _ _ _ _ _ Qd Ed so (fun _ h => h) (h x ds Qd Ed hds hf) fun d v H' σ' q e1 j1 r1 => hQ d v H' q e1 j1 (e1 x _ hx ng) r1⟩
/-- a class whose __init__ keeps such a promise -/
def GM (P : Program) (w : World) (K : PySem.W.Frag) (mg : Str → Option Value) (base : Heap) (g : GG) (nm : Str) (C : Addr) (f : Str) (n k : Nat) (ps : List Str) (spM : FS) : Prop :=
  ∃ fa fd, mg nm = some (.ref C) ∧ Mk K C fa ∧ FnOk P w K mg base (L2.CX P w) k fa fd ps (spInit K g C f n spM) ∧ Binds K fd ps []
theorem made_tm {U : Addr → Prop} {σ : L2.St} {H : Hp} {ρ : DEnv} {Q : VK} {Qd : D → Prop} {E : DX → Prop} {n : Nat} {spM : FS} {ds : List D} {vs : List V} (w : WR z U σ H ρ) (hE : ∀ x, E x → z.Ed x) (r : Reps z.K U H ds vs) (hl : ds.length = n) (hm : spM ds (fun d => Qd (.ins C [f] [d])) E)
    (k : ∀ d v H', Qd d → Ext z.g.G H H' → z.g.J H' → Rep z.K U H' d v → Q v H') (hGx : ∀ H a φ, z.g.J H → z.g.G a → H a ≠ some (.ext φ)) :
    ∀ x dx, H x = none → H dx = none → dx ≠ x → spInit z.K z.g C f n spM (.ref x :: vs) (upd (upd H dx (.own x)) x (.ins C dx [])) (fun v H2 => v = .non ∧ Q (.ref x) H2) z.EK := fun x dx hx hdx ne => by
  have ngx : ¬ z.g.G x := fun q => z.g.dom H x w.j q hx
  have hx1 : upd H dx (.own x) x = none := by rw [upd_ne (Ne.symm ne)]; exact hx
  have j1 : z.g.J (upd (upd H dx (.own x)) x (.ins C dx [])) := z.g.new (z.g.new w.j hdx) hx1
  have nUx : ¬ U x := w.fresh hx
  have old : ∀ a o, H a = some o → upd (upd H dx (.own x)) x (.ins C dx []) a = some o := fun a o e => by rw [upd_ne (ne_of_none e hx), upd_ne (ne_of_none e hdx)]; exact e
  have r' : Reps z.K (fun a => U a ∨ a = x) (upd (upd H dx (.own x)) x (.ins C dx [])) ds vs := Reps.mono' (fun a o e n => ⟨old a o e, fun q => q.elim n fun q => by rw [q, hx] at e; cases e⟩) ds vs r
  have dm : ∀ a, U a ∨ a = x → upd (upd H dx (.own x)) x (.ins C dx []) a ≠ none := fun a q => by
    rcases q with q | q
    · cases e : H a with
      | none => exact absurd e (w.dom a q)
      | some o => rw [old a o e]; simp
    · rw [q, upd_same]; simp
  have ok : ∀ d v H', Qd (.ins C [f] [d]) → Ext z.g.G (upd (upd H dx (.own x)) x (.ins C dx [])) H' → z.g.J H' → H' x = some (.ins C dx []) → Rep z.K (fun a => U a ∨ a = x) H' d v → Q (.ref x) (upd H' x (.ins C dx [(f, v)])) := fun d v H' q e2 j2 hx2 r2 => by
    have eG : Ext z.g.G H (upd H' x (.ins C dx [(f, v)])) := fun a o e ng => by
      rw [upd_ne (ne_of_none e hx)]
      exact e2 a o (old a o e) ng
    refine k _ _ _ q eG (z.g.st H' _ j2 (fun a ha => upd_ne fun q => ngx (q ▸ ha)) fun a φ e => ?_) ?_
    · rw [upd_ne (fun q => by rw [q, hx2] at e; cases e)]; exact e
    · simp only [Rep]
      refine ⟨x, dx, [(f, v)], rfl, ⟨upd_same, nUx, rfl⟩, ?_⟩
      exact Reps.cons (Rep.mono' (fun a o e n => ⟨by rw [upd_ne fun q => n (.inr q)]; exact e, fun q => n (.inl q)⟩) d v r2) Reps.nil
  exact ⟨by simp [r.length, hl], x, dx, vs, fun a => U a ∨ a = x, ds, fun d => Qd (.ins C [f] [d]), E, rfl, upd_same, ngx, fun a q => .inl (w.gu a q), dm, .inr rfl, j1, r', hm, fun d v H' q e2 j2 hx2 r2 => ⟨rfl, ok d v H' q e2 j2 hx2 r2⟩,
    fun ex cls dp H' q e2 j2 r2 => w.ok.ek ex cls dp H' (hE ex q) (fun a o h ng => e2 a o (old a o (w.ext a o h ng)) ng) j2 (r2.less fun a h => .inl (w.u a h))⟩
abbrev mMake (C : Addr) (f : Str) (n : Nat) (spM : FS) (ds : List D) : M D := fun Q E => ds.length = n ∧ spM ds (fun d => Q (.ins C [f] [d])) E
/-- C(..) -/
theorem de_make {nm : Str} {n k k' : Nat} {ps : List Str} {spM : FS} (F : GM X.prog X.w X.K X.mg X.base z.g nm C f n k ps spM) (hr : Room k' X.A) (hk : k + 1 ≤ k') (tk : Takes X (fun c d _ H => z.EK c d H)) (hK : X.K = z.K) (hGx : ∀ H a φ, z.g.J H → z.g.G a → H a ≠ some (.ext φ)) (ha : DA X z (a :: es) tr mr)
    (hg : Gl X nm := by rfl) (hdb : (nm == ("__debug__" : Str)) = false := by decide) (he : starEach (a :: es) X.env = (false, eval a X.env) :: starEach es X.env := by rfl) (hpl : (backTo pos (starEach es X.env)).any (·.1) = false := by rfl) :
    DE X z (.Call (.Name nm pp) (a :: es) [] pos) (tMake C (spInit z.K z.g C f n spM) [] z.EK tr) (fun ρ => bnd (mr ρ) (mMake C f n spM)) := by
  obtain ⟨fa, fd, h1, h2, h3, h4⟩ := F
  refine ⟨?_, fun U σ H ρ Q Qd E w hE hm k2 => ha.tm U σ H ρ _ _ E w hE hm fun ds vs H1 hh e1 j1 r1 => ?_⟩
  · rw [← hK]
    exact pe_make h2 h3 (hr.mono hk) hg h1 h4 .nil (passes_call tk fun _ _ _ _ h => h) ha.pe hdb he hpl
  · simp only [List.append_nil]
    exact made_tm (w.step e1 j1) hE r1 hh.1 hh.2 (fun d v H' q e2 j2 r2 => k2 d v H' q (e1.trans e2) j2 r2) hGx
end
end DL

/-! DMore: and/or/not as values, chains, products of sequences, more built-in calls, stars, keywords, while; over data. -/
namespace DL
open PySem PySem.Spec PyProof.Rows L2
section
variable {X : Cx} {z : Zc} {a b c : Expr} {rest : List Expr} {ta tb tc : TE} {ma mb mc : DEnv → M D} {pos : Pos}
/-! ### and, or, not as values -/
theorem de_one {op : BoolOp} (h : DE X z a ta ma) : DE X z (.BoolOp op [a] pos) ta ma := ⟨pe_one h.pe, h.tm⟩
theorem de_and (ha : DE X z a ta ma) (hb : DE X z (.BoolOp .And (b :: rest) pos) tb mb) : DE X z (.BoolOp .And (a :: b :: rest) pos) (tAndV ta tb) (fun ρ => bnd (bnd (ma ρ) asB) fun q => if q = true then mb ρ else ret (.bl false)) :=
  ⟨pe_and ha.pe hb.pe, fun U σ H ρ Q Qd E w he h k => ha.tm U σ H ρ _ _ E w he h fun d v H1 h1 e1 j1 r1 => by
    cases d with
    | bl q =>
      simp only [Rep] at r1
      refine ⟨q, r1, ?_⟩
      cases q with
      | true => exact hb.tm U σ H1 ρ Q Qd E (w.step e1 j1) he h1 fun d v H2 h2 e2 j2 r2 => k d v H2 h2 (e1.trans e2) j2 r2
      | false => exact k _ _ H1 h1 e1 j1 rep_bl
    | _ => exact h1.elim⟩
theorem de_or (ha : DE X z a ta ma) (hb : DE X z (.BoolOp .Or (b :: rest) pos) tb mb) : DE X z (.BoolOp .Or (a :: b :: rest) pos) (tOrV ta tb) (fun ρ => bnd (bnd (ma ρ) asB) fun q => if q = true then ret (.bl true) else mb ρ) :=
  ⟨pe_or ha.pe hb.pe, fun U σ H ρ Q Qd E w he h k => ha.tm U σ H ρ _ _ E w he h fun d v H1 h1 e1 j1 r1 => by
    cases d with
    | bl q =>
      simp only [Rep] at r1
      refine ⟨q, r1, ?_⟩
      cases q with
      | false => exact hb.tm U σ H1 ρ Q Qd E (w.step e1 j1) he h1 fun d v H2 h2 e2 j2 r2 => k d v H2 h2 (e1.trans e2) j2 r2
      | true => exact k _ _ H1 h1 e1 j1 rep_bl
    | _ => exact h1.elim⟩
theorem de_not (ha : DE X z a ta ma) : DE X z (.UnaryOp .Not a pos) (tNotV ta) (fun ρ => bnd (bnd (ma ρ) asB) fun q => ret (.bl (!q))) :=
  ⟨pe_not ha.pe, fun U σ H ρ Q Qd E w he h k => ha.tm U σ H ρ _ _ E w he h fun d v H1 h1 e1 j1 r1 => by
    cases d with
    | bl q =>
      simp only [Rep] at r1
      exact ⟨q, r1, k _ _ H1 h1 e1 j1 rep_bl⟩
    | _ => exact h1.elim⟩
/-! ### a op b op c -/
theorem tm_chain {r r' : R2} {m m' : D → D → M D} (hr : RM2 z r m) (hr' : RM2 z r' m') (ha : TMe z ta ma) (hb : TMe z tb mb) (hc : TMe z tc mc) :
    TMe z (tChain r r' ta tb tc) (fun ρ => bnd (ma ρ) fun x => bnd (mb ρ) fun y => bnd (bnd (m x y) asB) fun q => if q = true then bnd (mc ρ) fun v => m' y v else ret (.bl false)) := fun U σ H ρ Q Qd E w he h k =>
  ha U σ H ρ _ _ E w he h fun d1 v1 H1 h1 e1 j1 r1 => hb U σ H1 ρ _ _ E (w.step e1 j1) he h1 fun d2 v2 H2 h2 e2 j2 r2 => by
    have w2 := (w.step e1 j1).step e2 j2
    refine hr U H2 d1 d2 v1 v2 _ _ E w2.gu w2.dom j2 (r1.ext e2 w.gu) r2 he h2 fun d v H3 q e3 j3 r3 => ?_
    cases d with
    | bl q' =>
      simp only [Rep] at r3
      refine ⟨q', r3, ?_⟩
      cases q' with
      | true =>
        have w3 := w2.step e3 j3
        exact hc U σ H3 ρ _ _ E w3 he q fun d4 v4 H4 h4 e4 j4 r4 => hr' U H4 d2 d4 v2 v4 Q Qd E w.gu (w3.step e4 j4).dom j4 ((r2.ext e3 w.gu).ext e4 w.gu) r4 he h4 fun d v H5 q5 e5 j5 r5 => k d v H5 q5 ((((e1.trans e2).trans e3).trans e4).trans e5) j5 r5
      | false => exact k _ _ H3 q ((e1.trans e2).trans e3) j3 rep_bl
    | _ => exact q.elim
variable {op op' : CmpOp} {r r' : R2} {m m' : D → D → M D}
theorem de_chain (ho : OpR X (compareOp op) r) (hr : RM2 z r m) (ho' : OpR X (compareOp op') r') (hr' : RM2 z r' m') (ha : DE X z a ta ma) (hb : DE X z b tb mb) (hc : DE X z c tc mc) (hm : lastMarks [op, op'] [b, c] = false := by with_unfolding_all rfl) :
    DE X z (.Compare a [op, op'] [b, c] pos) (tChain r r' ta tb tc) (fun ρ => bnd (ma ρ) fun x => bnd (mb ρ) fun y => bnd (bnd (m x y) asB) fun q => if q = true then bnd (mc ρ) fun v => m' y v else ret (.bl false)) := ⟨pe_chain ho ho' ha.pe hb.pe hc.pe hm, tm_chain hr hr' ha.tm hb.tm hc.tm⟩
theorem dt_chain (ho : OpR X (compareOp op) r) (hr : RM2 z r m) (ho' : OpR X (compareOp op') r') (hr' : RM2 z r' m') (ha : DE X z a ta ma) (hb : DE X z b tb mb) (hc : DE X z c tc mc) (hm : lastMarks [op, op'] [b, c] = false := by with_unfolding_all rfl) :
    DT X z (.Compare a [op, op'] [b, c] pos) (tTest (tChain r r' ta tb tc)) (fun ρ => bnd (bnd (ma ρ) fun x => bnd (mb ρ) fun y => bnd (bnd (m x y) asB) fun q => if q = true then bnd (mc ρ) fun v => m' y v else ret (.bl false)) asB) := ⟨pt_chain ho ho' ha.pe hb.pe hc.pe hm, tm_test (tm_chain hr hr' ha.tm hb.tm hc.tm)⟩
end

/-! ### a module's constant -/
def GK (K : PySem.W.Frag) (mg : Str → Option Value) (x : Str) (d : D) : Prop := ∃ v u, mg x = some u ∧ RelV v u ∧ ∀ U H, Rep K U H d v
theorem de_globE {X : Cx} {z : Zc} {K : PySem.W.Frag} {mg : Str → Option Value} {x : Str} {d : D} {pos : Pos} (h : GK K mg x d) (hK : z.K = K) (hm : X.mg = mg) (hg : Gl X x := by rfl) (hd : (x == ("__debug__" : Str)) = false := by decide) : DE X z (.Name x pos) (tC h.choose) (fun _ => ret d) := by
  subst hK hm
  exact ⟨pe_glob hg h.choose_spec.choose_spec.1 h.choose_spec.choose_spec.2.1 hd, fun U σ H ρ Q Qd E w he h' k => k d _ H h' (Ext.refl H) w.j (h.choose_spec.choose_spec.2.2 U H)⟩
theorem de_cls {X : Cx} {z : Zc} {x : Str} {C : Addr} {pos : Pos} (h : X.mg x = some (.ref C)) (hg : Gl X x := by rfl) (hd : (x == ("__debug__" : Str)) = false := by decide) : DE X z (.Name x pos) (tC (.ref C)) (fun _ => ret (.obj C)) := de_glob h rfl (fun _ _ _ => by simp only [Rep]) hg hd
/-! ### a comprehension's block by a look -/
def blkC (N : List Str) (sc scope : Scope) (own : List (Str × Nat)) : Bool :=
  decide (scope.kind = .function) && (scope.names.all fun y => decide (scope.names.lookup y.1 = some y.2)) && (own.all fun p => decide (N[p.2]? = some p.1)) &&
    (scope.names.all fun y => !decide (y.2 = .free) || (decide (sc.names.lookup y.1 = some .cell) || decide (sc.names.lookup y.1 = some .free))) &&
    (scope.names.all fun y => !(decide (y.2 = .local) || decide (y.2 = .cell)) || (decide (y.1 ∈ own.map (·.1)) || decide (y.1 ∉ N)))
theorem blk_of {N : List Str} {sc scope : Scope} {own : List (Str × Nat)} (h : blkC N sc scope own = true) : BlkOk N sc scope own := by
  unfold blkC at h
  simp only [Bool.and_eq_true, List.all_eq_true, decide_eq_true_eq, Bool.or_eq_true, Bool.not_eq_true', decide_eq_false_iff_not, Bool.or_eq_false_iff] at h
  obtain ⟨⟨⟨⟨h1, h2⟩, h3⟩, h4⟩, h5⟩ := h
  exact ⟨h1, h2, h3, fun y hy e => (h4 y hy).elim (fun q => absurd e q) id, fun y hy e => (h5 y hy).elim (fun q => e.elim (fun z => absurd z q.1) fun z => absurd z q.2) id⟩
/-! ### products -/
def strRep (x : Str) (k : Int) : Str := ⟨(List.replicate k.toNat x.cps).foldl (· ++ ·) #[]⟩
def rRepS : R2 := fun x y H Q => ∃ i k, x = .str i ∧ y = .int k ∧ 2 ≤ k ∧ k < 2 ^ 31 ∧ 0 < i.length ∧ i.length * k.toNat ≤ sizeLine ∧ Q (.str (strRep i k)) H
theorem rep_cps {α : Type} (a : Array α) (b : Array α) (n : Nat) : ((List.replicate n a).foldl (· ++ ·) b).size = b.size + a.size * n := by
  induction n generalizing b with
  | zero => simp
  | succ n ih =>
    rw [List.replicate_succ, List.foldl_cons, ih, Array.size_append, Nat.mul_succ]
    omega
theorem strRep_len (x : Str) (k : Int) : (strRep x k).length = x.length * k.toNat := by
  show ((List.replicate k.toNat x.cps).foldl (· ++ ·) #[]).size = x.cps.size * k.toNat
  rw [rep_cps]
  simp
theorem op_repS {X : Cx} : OpR X (binaryOp .Mult) rRepS := by
  intro pins s σ H x y v u Q I rx ry h
  obtain ⟨i, k, rfl, rfl, h2, h3, h0, hz, q⟩ := h
  obtain ⟨t, rfl⟩ := rx
  obtain ⟨t', rfl⟩ := ry
  have e1 : (k == 1 || i.length == 0) = false := by
    rw [Bool.or_eq_false_iff]
    exact ⟨beq_eq_false_iff_ne.mpr (by omega), beq_eq_false_iff_ne.mpr (by omega)⟩
  have hs : i.length * k.toNat ≤ sizeLine := hz
  rw [sizeLine_eq] at hz
  have hl : Builtin.Str.tooLong (i.length * k.toNat) = false := by
    unfold Builtin.Str.tooLong
    exact decide_eq_false (by omega)
  refine PySem.P.mul_str (by rw [decide_eq_false (by omega), decide_eq_false (by omega)]; rfl) (fun _ _ => ?_) (fun _ _ => hl) ?_
  · have h4 : i.length ≤ i.length * k.toNat := Nat.le_mul_of_pos_right _ (by omega)
    have h5 : (2 : Int) ^ 32 - 1 ≤ (2 ^ 63 - 1) / k := (Int.le_ediv_iff_mul_le (by omega)).mpr (by
      have : (2 ^ 32 - 1) * k ≤ (2 ^ 32 - 1) * 2 ^ 31 := Int.mul_le_mul_of_nonneg_left (by omega) (by decide)
      omega)
    omega
  · rw [if_neg (by omega), e1, if_neg Bool.false_ne_true]
    exact ⟨Nat.le_trans (Nat.le_of_eq (strRep_len i k)) hs, ⟨.str (strRep i k), H, I.tok _, ⟨_, rfl⟩, q⟩⟩
abbrev mMulD (a b : D) : M D := fun Q _ => match a, b with
  | .int i, .int j => MulOk i j ∧ Q (.int (i * j))
  | .str x, .int k => 2 ≤ k ∧ k < 2 ^ 31 ∧ 0 < x.length ∧ x.length * k.toNat ≤ sizeLine ∧ Q (.str (strRep x k))
  | .lst ds, .int k => 0 ≤ k ∧ k < 2 ^ 31 ∧ ds.length * k.toNat ≤ sizeLine ∧ Q (.lst (List.replicate k.toNat ds).flatten)
  | .tup ds, .int k => ds ≠ [] ∧ 2 ≤ k ∧ k ≤ 1000 ∧ ds.length ≤ 1000 ∧ Q (.tup (List.replicate k.toNat ds).flatten)
  | _, _ => False
abbrev rMulD (K : PySem.W.Frag) : R2 := fun x y H Q => rI MulOk (fun i j => .int (i * j)) x y H Q ∨ rRepS x y H Q ∨ rRep x y H Q ∨ rRepT K x y H Q
theorem opMulD {X : Cx} : OpR X (binaryOp .Mult) (rMulD X.K) := opMul.or (op_repS.or (op_rep.or op_repT))
theorem reps_rep {K : PySem.W.Frag} {U : Addr → Prop} {H : Hp} {ds : List D} {xs : List V} (r : Reps K U H ds xs) : ∀ n : Nat, Reps K U H (List.replicate n ds).flatten (List.replicate n xs).flatten
  | 0 => Reps.nil
  | n + 1 => by
    rw [List.replicate_succ, List.replicate_succ, List.flatten_cons, List.flatten_cons]
    exact r.append (reps_rep r n)
theorem rmMulD {z : Zc} : RM2 z (rMulD z.K) mMulD := fun U H a b x y Q Qd E gu hU j ra rb he h k => by
  match a, b, h with
  | .int i, .int l, h => exact .inl ⟨i, l, inv_int ra, inv_int rb, h.1, k _ _ H h.2 (Ext.refl H) j rep_int⟩
  | .str i, .int l, h => exact .inr (.inl ⟨i, l, inv_str ra, inv_int rb, h.1, h.2.1, h.2.2.1, h.2.2.2.1, k _ _ H h.2.2.2.2 (Ext.refl H) j rep_str⟩)
  | .lst d, .int l, h =>
    obtain ⟨p, xs, rfl, hp, r1⟩ := rep_lst_inv ra
    exact .inr (.inr (.inl ⟨p, l, xs, rfl, inv_int rb, hp.1, by omega, by omega, by rw [r1.length]; exact h.2.2.1, fun q hq => k _ _ _ h.2.2.2 (Ext.new hq) (z.g.new j hq) (rep_lst_new hU hq (reps_rep r1 _))⟩))
  | .tup d, .int l, h =>
    obtain ⟨p, xs, rfl, hp, r1⟩ := rep_tup_inv ra
    exact .inr (.inr (.inr ⟨p, l, xs, rfl, inv_int rb, hp.sq, fun e => h.1 (r1.nil_iff.mp e), h.2.1, h.2.2.1, by rw [r1.length]; exact h.2.2.2.1, fun q hq => k _ _ _ h.2.2.2.2 (Ext.new hq) (z.g.new j hq) (rep_tup_new hU hq (reps_rep r1 _))⟩))

/-! ### more built-in calls -/
section
variable {X : Cx} {z : Zc}
abbrev mSumD (d : D) : M D := fun Q _ => match d with
  | .lst ds => (match intsOf ds with | some ns => Q (.int ns.sum) | none => False)
  | .tup ds => (match intsOf ds with | some ns => Q (.int ns.sum) | none => False)
  | _ => False
abbrev mMaxD (d : D) : M D := fun Q _ => match d with
  | .lst ds => (match intsOf ds with | some ns => 0 < ns.length ∧ ∀ m, m ∈ ns → (∀ y, y ∈ ns → y ≤ m) → Q (.int m) | none => False)
  | _ => False
abbrev mMinD (d : D) : M D := fun Q _ => match d with
  | .lst ds => (match intsOf ds with | some ns => 0 < ns.length ∧ ∀ m, m ∈ ns → (∀ y, y ∈ ns → m ≤ y) → Q (.int m) | none => False)
  | _ => False
abbrev mSortI (d : D) : M D := fun Q _ => match d with
  | .lst ds => (match intsOf ds with | some ns => ∀ ns' : List Int, ns'.Perm ns → ns'.Pairwise (· ≤ ·) → Q (.lst (ns'.map D.int)) | none => False)
  | _ => False
abbrev mSortS (d : D) : M D := fun Q _ => match d with
  | .lst ds => (match strsOf ds with | some xs => xs.length < 64 ∧ ∀ ys : List Str, ys.Perm xs → sortedS ys = true → Q (.lst (ys.map D.str)) | none => False)
  | _ => False
abbrev mI2f (f : Int → Int → Int) (a b : D) : M D := fun Q _ => match a, b with | .int i, .int j => Q (.int (f i j)) | _, _ => False
theorem rmMax2 : RMn z (fun xs H Q => ∃ i j, xs = [.int i, .int j] ∧ Q (.int (if j > i then j else i)) H) (m2 (mI2f fun i j => if j > i then j else i)) := rmn2 fun U H a b x y Q Qd E gu hU j ra rb he h k => by
  match a, b, h with
  | .int i, .int l, h => exact ⟨i, l, by rw [inv_int ra, inv_int rb], k _ _ H h (Ext.refl H) j rep_int⟩
theorem rmMin2 : RMn z (fun xs H Q => ∃ i j, xs = [.int i, .int j] ∧ Q (.int (if j < i then j else i)) H) (m2 (mI2f fun i j => if j < i then j else i)) := rmn2 fun U H a b x y Q Qd E gu hU j ra rb he h k => by
  match a, b, h with
  | .int i, .int l, h => exact ⟨i, l, by rw [inv_int ra, inv_int rb], k _ _ H h (Ext.refl H) j rep_int⟩
def rLcm : List V → Hp → VK → Prop := fun vs H Q => ∃ a b : Int, vs = [.int a, .int b] ∧ a.natAbs < 2 ^ 64 ∧ b.natAbs < 2 ^ 64 ∧ Q (.int ((Nat.lcm a.natAbs b.natAbs : Nat) : Int)) H
theorem cr_lcm : CallR X (.builtin "math.lcm") rLcm := by
  intro pins s σ H vs us Q I r h
  obtain ⟨a, b, rfl, ha, hb, q⟩ := h
  obtain ⟨t, u, rfl⟩ := Vals.int2 r
  exact PySem.W.mc_lcm ha hb fun _ => ⟨.int _, H, I.tok _, ⟨_, rfl⟩, q⟩
abbrev mLcmD (a b : D) : M D := fun Q _ => match a, b with | .int i, .int j => i.natAbs < 2 ^ 64 ∧ j.natAbs < 2 ^ 64 ∧ Q (.int ((Nat.lcm i.natAbs j.natAbs : Nat) : Int)) | _, _ => False
theorem rmLcm : RMn z rLcm (m2 mLcmD) := rmn2 fun U H a b x y Q Qd E gu hU j ra rb he h k => by
  match a, b, h with
  | .int i, .int l, h => exact ⟨i, l, by rw [inv_int ra, inv_int rb], h.1, h.2.1, k _ _ H h.2.2 (Ext.refl H) j rep_int⟩
end

/-! ### sum, max, min of lists and tuples -/
section
variable {prog : Program} {w : World} {A : Around} {E : Value → Shared → Prop} {s : Shared} {l : Addr} {xs : Array (Int × Tok)} {Q : Value → Shared → Prop}
theorem iter_tup {Q : Value → Shared → Prop} (hl : s.heap.IsTuple l (intItems xs))
    (h : ∀ s₂ : Shared, s₂ = { s with heap := s.heap.push { cls := .type "tuple_iterator", data := .fields #[.ref l, .int 0 0] } } → (s₂.heap.IsTupleIter s.heap.objs.size l 0 ∧ s₂.heap.IsTuple l (intItems xs)) → (∀ b ∈ [s.heap.objs.size, l], b < s₂.heap.objs.size) → l ≠ s.heap.objs.size → Q (.ref s.heap.objs.size) s₂) :
    wpAny (model prog w) A (pyIter (.ref l)) Q E s := by
  obtain ⟨o, ho, _⟩ := id hl
  have lt : l < s.heap.objs.size := Heap.lt_size ho
  refine wpAny_pyIter_tuple hl (h _ rfl ⟨⟨_, Heap.get?_push_size _ rfl, rfl, rfl⟩, hl.at fun o e => Heap.get?_push_of_some _ e⟩ (fun b hb => ?_) (Nat.ne_of_lt lt))
  show b < (s.heap.push _).objs.size
  rw [Heap.size_push]
  simp only [List.mem_cons, List.not_mem_nil, or_false] at hb
  rcases hb with rfl | rfl
  · exact Nat.lt_succ_self _
  · exact Nat.lt_succ_of_lt lt
theorem old_tup {h' : Heap} (hk : ∀ b o, b ∉ [s.heap.objs.size] → (s.heap.push { cls := .type "tuple_iterator", data := .fields #[.ref l, .int 0 0] }).get? b = some o → h'.get? b = some o) : ∀ b o, s.heap.get? b = some o → h'.get? b = some o := fun b o e =>
  hk b o (fun hm => by
    rw [List.mem_singleton] at hm
    have lt := Heap.lt_size e
    rw [hm] at lt
    exact Nat.lt_irrefl _ lt) (Heap.get?_push_of_some _ e)
theorem max_tup (hh : A.handled = none) (hl : s.heap.IsTuple l (intItems xs)) (hne : 0 < xs.size)
    (h : ∀ v h' tk, (intItems xs)[argBest (fun i j => decide (numAt xs i > numAt xs j)) (xs.size - 1)]? = some v → (∀ b o, s.heap.get? b = some o → h'.get? b = some o) → Q v { s with heap := h', toks := tk }) : wpAny (model prog w) A (call (.builtin "max") [.ref l]) Q E s := by
  refine call_max_walk (iter_tup hl fun s2 e st fp ne => ?_)
  subst e
  exact ⟨_, _, _, _, _, _, _, rfl, Walks.tuple (A := A.in1) hh _ l ne (intItems xs), st, fp, by simpa [intItems] using hne, CmpOf.ints_gt (numAt xs) (fun _ _ => intItems_at), fun v h' tk hP hk => h v h' tk (by simpa [intItems] using hP) (old_tup hk)⟩
theorem min_tup (hh : A.handled = none) (hl : s.heap.IsTuple l (intItems xs)) (hne : 0 < xs.size)
    (h : ∀ v h' tk, (intItems xs)[argBest (fun i j => decide (numAt xs i < numAt xs j)) (xs.size - 1)]? = some v → (∀ b o, s.heap.get? b = some o → h'.get? b = some o) → Q v { s with heap := h', toks := tk }) : wpAny (model prog w) A (call (.builtin "min") [.ref l]) Q E s := by
  refine call_min_walk (iter_tup hl fun s2 e st fp ne => ?_)
  subst e
  exact ⟨_, _, _, _, _, _, _, rfl, Walks.tuple (A := A.in1) hh _ l ne (intItems xs), st, fp, by simpa [intItems] using hne, CmpOf.ints_lt (numAt xs) (fun _ _ => intItems_at), fun v h' tk hP hk => h v h' tk (by simpa [intItems] using hP) (old_tup hk)⟩
end
section
variable {X : Cx} {z : Zc}
abbrev rInts (K : PySem.W.Frag) (L T : Bool) (C : List Int → Prop) (R : List Int → Int → Prop) : List V → Hp → VK → Prop := fun vs H Q => ∃ (a : Addr) (ns : List Int), vs = [V.ref a] ∧ ((L = true ∧ SqL K H a (ns.map V.int)) ∨ (T = true ∧ SqT K H a (ns.map V.int))) ∧ C ns ∧ ∀ m, R ns m → Q (.int m) H
abbrev isMax (ns : List Int) (m : Int) : Prop := m ∈ ns ∧ ∀ y, y ∈ ns → y ≤ m
abbrev isMin (ns : List Int) (m : Int) : Prop := m ∈ ns ∧ ∀ y, y ∈ ns → m ≤ y
abbrev rSumD (K : PySem.W.Frag) := rInts K true true (fun _ => True) fun ns m => m = ns.sum
abbrev rMaxD (K : PySem.W.Frag) := rInts K true true (fun ns => 0 < ns.length) isMax
abbrev rMinD (K : PySem.W.Frag) := rInts K true true (fun ns => 0 < ns.length) isMin
theorem crSum (hc : X.calm = true) : CallR X (.builtin "sum") (rSumD X.K) := by
  intro pins s σ H vs us Q I r h
  obtain ⟨a, ns, rfl, hs, _, q⟩ := h
  rcases hs with ⟨_, hs⟩ | ⟨_, hs⟩
  · exact cr_sum hc pins s σ H _ us Q I r ⟨a, ns, rfl, hs, q _ rfl⟩
  · obtain ⟨its, rv, hl, _⟩ := I.tuple hs
    rw [Vals.ref1 r]
    have hi := rv.ints
    obtain ⟨xs, e⟩ := hi.allInts.items
    have hn : numsOf (intItems xs).toList = ns := by rw [← e]; exact hi.numsOf
    rw [nums_intItems] at hn
    rw [e] at hl
    refine PySem.W.ktm_sumG (I.ok.hd hc) hl fun h' tk t' hk => ⟨.int ns.sum, H, I.kept hk, ⟨t', ?_⟩, q _ rfl⟩
    rw [preSum_eq, List.take_of_length_le (by simp), hn]
theorem crMax (hc : X.calm = true) : CallR X (.builtin "max") (rMaxD X.K) := by
  intro pins s σ H vs us Q I r h
  obtain ⟨a, ns, rfl, hs, hne, q⟩ := h
  rcases hs with ⟨_, hs⟩ | ⟨_, hs⟩
  · exact cr_max hc pins s σ H _ us Q I r ⟨a, ns, rfl, hs, hne, fun m h1 h2 => q m ⟨h1, h2⟩⟩
  · obtain ⟨its, rv, hl, _⟩ := I.tuple hs
    rw [Vals.ref1 r]
    have hi := rv.ints
    obtain ⟨xs, e⟩ := hi.allInts.items
    have hn : numsOf (intItems xs).toList = ns := by rw [← e]; exact hi.numsOf
    rw [nums_intItems] at hn
    subst hn
    rw [e] at hl
    have hsz : 0 < xs.size := by simpa using hne
    refine max_tup (I.ok.hd hc) hl hsz fun v h' tk hv hk => ?_
    obtain ⟨t, rfl⟩ := intItems_at hv
    obtain ⟨h1, h2⟩ := argBest_gt (numAt xs) (xs.size - 1)
    refine ⟨.int _, H, I.kept hk, ⟨_, rfl⟩, q _ ⟨?_, fun y hy => ?_⟩⟩
    · rw [numAt_eq]; exact PySem.getD_mem (by rw [List.length_map, Array.length_toList]; omega)
    · obtain ⟨j, hj, rfl⟩ := mem_getD hy
      rw [List.length_map, Array.length_toList] at hj
      rw [← numAt_eq]; exact h2 j (by omega)
theorem crMin (hc : X.calm = true) : CallR X (.builtin "min") (rMinD X.K) := by
  intro pins s σ H vs us Q I r h
  obtain ⟨a, ns, rfl, hs, hne, q⟩ := h
  rcases hs with ⟨_, hs⟩ | ⟨_, hs⟩
  · exact cr_min hc pins s σ H _ us Q I r ⟨a, ns, rfl, hs, hne, fun m h1 h2 => q m ⟨h1, h2⟩⟩
  · obtain ⟨its, rv, hl, _⟩ := I.tuple hs
    rw [Vals.ref1 r]
    have hi := rv.ints
    obtain ⟨xs, e⟩ := hi.allInts.items
    have hn : numsOf (intItems xs).toList = ns := by rw [← e]; exact hi.numsOf
    rw [nums_intItems] at hn
    subst hn
    rw [e] at hl
    have hsz : 0 < xs.size := by simpa using hne
    refine min_tup (I.ok.hd hc) hl hsz fun v h' tk hv hk => ?_
    obtain ⟨t, rfl⟩ := intItems_at hv
    obtain ⟨h1, h2⟩ := argBest_lt (numAt xs) (xs.size - 1)
    refine ⟨.int _, H, I.kept hk, ⟨_, rfl⟩, q _ ⟨?_, fun y hy => ?_⟩⟩
    · rw [numAt_eq]; exact PySem.getD_mem (by rw [List.length_map, Array.length_toList]; omega)
    · obtain ⟨j, hj, rfl⟩ := mem_getD hy
      rw [List.length_map, Array.length_toList] at hj
      rw [← numAt_eq]; exact h2 j (by omega)
def seqInts (d : D) : Option (List Int) := match d with
  | .lst ds => intsOf ds
  | .tup ds => intsOf ds
  | _ => none
abbrev mInts (C : List Int → Prop) (R : List Int → Int → Prop) (d : D) : M D := fun Q _ => match seqInts d with
  | some ns => C ns ∧ ∀ m, R ns m → Q (.int m)
  | none => False
abbrev mSum : D → M D := mInts (fun _ => True) fun ns m => m = ns.sum
abbrev mMax : D → M D := mInts (fun ns => 0 < ns.length) isMax
abbrev mMin : D → M D := mInts (fun ns => 0 < ns.length) isMin
theorem rmInts {C : List Int → Prop} {R : List Int → Int → Prop} : RMn z (rInts z.K true true C R) (m1 (mInts C R)) := rmn1 fun U H a x Q Qd E gu hU j ra he h k => by
  cases e : seqInts a with
  | none => simp only [mInts, e] at h
  | some ns =>
    simp only [mInts, e] at h
    cases a with
    | lst ds =>
      have := intsOf_eq e
      subst this
      obtain ⟨p, xs, rfl, hp, r⟩ := rep_lst_inv ra
      have := reps_ints r
      subst this
      exact ⟨p, ns, rfl, .inl ⟨rfl, SqL.of hp.1⟩, h.1, fun m hm => k _ _ H (h.2 m hm) (Ext.refl H) j rep_int⟩
    | tup ds =>
      have := intsOf_eq e
      subst this
      obtain ⟨p, xs, rfl, hp, r⟩ := rep_tup_inv ra
      have := reps_ints r
      subst this
      exact ⟨p, ns, rfl, .inr ⟨rfl, hp.sq⟩, h.1, fun m hm => k _ _ H (h.2 m hm) (Ext.refl H) j rep_int⟩
    | _ => simp [seqInts] at e
/-! ### sorted -/
theorem rmSortI : RMn z (rSortedI z.K) (m1 mSortI) := rmn1 fun U H a x Q Qd E gu hU j ra he h k => by
  cases a with
  | lst ds =>
    cases e : intsOf ds with
    | none => simp only [mSortI, e] at h
    | some ns =>
      simp only [mSortI, e] at h
      have := intsOf_eq e
      subst this
      obtain ⟨p, xs, rfl, hp, r⟩ := rep_lst_inv ra
      have := reps_ints r
      subst this
      exact ⟨p, ns, rfl, SqL.of hp.1, fun ns' q h1 h2 hq => k _ _ _ (h ns' h1 h2) (Ext.new hq) (z.g.new j hq) (rep_lst_new hU hq reps_of_ints)⟩
  | _ => exact h.elim
theorem rmSortS : RMn z (rSortedS z.K) (m1 mSortS) := rmn1 fun U H a x Q Qd E gu hU j ra he h k => by
  cases a with
  | lst ds =>
    cases e : strsOf ds with
    | none => simp only [mSortS, e] at h
    | some ns =>
      simp only [mSortS, e] at h
      have := strsOf_eq e
      subst this
      obtain ⟨p, xs, rfl, hp, r⟩ := rep_lst_inv ra
      have := reps_strs r
      subst this
      exact ⟨p, ns, rfl, SqL.of hp.1, h.1, fun ns' q h1 h2 hq => k _ _ _ (h.2 ns' h1 h2) (Ext.new hq) (z.g.new j hq) (rep_lst_new hU hq reps_of_strs)⟩
  | _ => exact h.elim
/-! ### stars, split, keywords, while -/
variable {a e : Expr} {es : List Expr} {ta te tb : TE} {ma me : DEnv → M D} {tr : TA} {mr : DEnv → M (List D)} {pp pos p : Pos}
abbrev asSeq (d : D) : M (List D) := fun Q _ => match d with | .tup ds => Q ds | .lst ds => Q ds | _ => False
theorem da_star (hK : X.K = z.K) (ha : DE X z a ta ma) (hr : DA X z es tr mr) (hs : starEach (.Starred a p :: es) X.env = (true, eval a X.env) :: starEach es X.env := by rfl) :
    DA X z (.Starred a p :: es) (StX.tStar X.K ta tr) (fun ρ => bnd (bnd (ma ρ) asSeq) fun xs => bnd (mr ρ) fun ys => ret (xs ++ ys)) :=
  ⟨StX.pa_star ha.pe hr.pe hs, fun U σ H ρ Q Qd E w he h k => ha.tm U σ H ρ _ _ E w he h fun d v H1 h1 e1 j1 r1 => by
    rw [hK]
    cases d with
    | tup ds =>
      obtain ⟨q, xs, rfl, hp, r⟩ := rep_tup_inv r1
      exact ⟨q, xs, rfl, .inl hp.sq, hr.tm U σ H1 ρ _ _ E (w.step e1 j1) he h1 fun ds' vs H2 h2 e2 j2 r2 => k _ _ H2 h2 (e1.trans e2) j2 ((r.ext e2 w.gu).append r2)⟩
    | lst ds =>
      obtain ⟨q, xs, rfl, hp, r⟩ := rep_lst_inv r1
      exact ⟨q, xs, rfl, .inr (SqL.of hp.1), hr.tm U σ H1 ρ _ _ E (w.step e1 j1) he h1 fun ds' vs H2 h2 e2 j2 r2 => k _ _ H2 h2 (e1.trans e2) j2 ((r.ext e2 w.gu).append r2)⟩
    | _ => exact h1.elim⟩
end

section
variable {X : Cx} {z : Zc} {a e o : Expr} {es : List Expr} {to ta te tb : TE} {mo ma me : DEnv → M D} {tr tk : TA} {mr mk : DEnv → M (List D)} {pp pos apos p : Pos}
abbrev mSplit (a b : D) : M D := fun Q _ => match a, b with
  | .str x, .str y => (y.length == 0) = false ∧ x.length + 2 ≤ sizeLine ∧ Q (.lst ((Txt.split x y).map D.str))
  | _, _ => False
/-- x.split(y) -/
theorem de_split (ho : DE X z o to mo) (he : DE X z e te me) (hs : starEach [e] X.env = [(false, eval e X.env)] := by rfl) (hbase : attributeBase o "split" X.env (eval o X.env) = eval o X.env := by rfl) (hline : (apos.endLine == pos.line) = true := by rfl) :
    DE X z (.Call (.Attribute o "split" apos) [e] [] pos) (tM1 (fun x xs H Q => ∃ a b, x = .str a ∧ xs = [.str b] ∧ (b.length == 0) = false ∧ a.length + 2 ≤ sizeLine ∧ rNewStrs (Txt.split a b) H Q) to te) (fun ρ => bnd (mo ρ) fun x => fun Q E => (∃ a, x = .str a) ∧ me ρ (fun y => mSplit x y Q E) E) :=
  ⟨pe_split ho.pe he.pe hs hbase hline, fun U σ H ρ Q Qd E w hE h k => ho.tm U σ H ρ _ _ E w hE h fun d v H1 h1 e1 j1 r1 => by
    obtain ⟨⟨x, rfl⟩, h1⟩ := h1
    refine ⟨⟨x, inv_str r1⟩, he.tm U σ H1 ρ _ _ E (w.step e1 j1) hE h1 fun d2 v2 H2 h2 e2 j2 r2 => ?_⟩
    cases d2 with
    | str y => exact ⟨x, y, inv_str r1, by rw [inv_str r2], h2.1, h2.2.1, fun q hq => k _ _ _ h2.2.2 ((e1.trans e2).trans (Ext.new hq)) (z.g.new j2 hq) (rep_lst_new ((w.step e1 j1).step e2 j2).dom hq reps_of_strs)⟩
    | _ => exact h2.elim⟩
/-! ### keywords -/
structure DKw (X : Cx) (z : Zc) (kws : List Keyword) (tk : TA) (mk : DEnv → M (List D)) : Prop where
  pk : PK X kws tk
  tm : TMa z tk mk
variable {kws : List Keyword} {nm : Option Str} {kpos : Pos}
theorem dk_nil : DKw X z [] tNil (fun _ => ret []) := ⟨pk_nil, da_nil (X := X).tm⟩
theorem dk_cons (ha : DE X z a ta ma) (hr : DKw X z kws tk mk) : DKw X z (⟨nm, a, kpos⟩ :: kws) (tCons ta tk) (fun ρ => bnd (ma ρ) fun x => bnd (mk ρ) fun xs => ret (x :: xs)) :=
  ⟨pk_cons ha.pe hr.pk, fun U σ H ρ Q Qd E w he h k => ha.tm U σ H ρ _ _ E w he h fun d v H1 h1 e1 j1 r1 => hr.tm U σ H1 ρ _ _ E (w.step e1 j1) he h1 fun ds vs H2 h2 e2 j2 r2 => k _ _ H2 h2 (e1.trans e2) j2 (Reps.cons (r1.ext e2 w.gu) r2)⟩
/-- the keywords' values in the parameters' order: the parameter i is the keyword is[i] -/
def permL {α : Type} (is : List Nat) (l : List α) : List α := is.filterMap fun i => l[i]?
theorem vals_perm {vs : List V} {us : List Value} (r : Vals vs us) : ∀ is : List Nat, Vals (permL is vs) (permL is us)
  | [] => .nil
  | i :: is => by
    unfold permL
    rw [List.filterMap_cons, List.filterMap_cons]
    cases e : vs[i]? with
    | none =>
      have e2 : us[i]? = none := by
        rw [List.getElem?_eq_none_iff] at e ⊢
        rw [← r.length]
        exact e
      rw [e2]
      exact vals_perm r is
    | some v =>
      obtain ⟨u, hu, rv⟩ := r.get e
      rw [hu]
      exact .cons rv (vals_perm r is)
theorem reps_perm {K : PySem.W.Frag} {U : Addr → Prop} {H : Hp} {ds : List D} {vs : List V} (r : Reps K U H ds vs) : ∀ is : List Nat, Reps K U H (permL is ds) (permL is vs)
  | [] => Reps.nil
  | i :: is => by
    unfold permL
    rw [List.filterMap_cons, List.filterMap_cons]
    cases e : ds[i]? with
    | none =>
      have e2 : vs[i]? = none := by
        rw [List.getElem?_eq_none_iff] at e ⊢
        rw [r.length]
        exact e
      rw [e2]
      exact reps_perm r is
    | some d =>
      obtain ⟨v, hv, rv⟩ := r.getD e
      rw [hv]
      exact Reps.cons rv (reps_perm r is)
/-- how a call by keywords alone binds (behind the values first) -/
def KwB (K : PySem.W.Frag) (fd : FuncData) (ps ks : List Str) (n : Nat) (is : List Nat) : Prop := ∀ (s : Shared) (us ws : List Value), K.In s.heap → us.length = n → ws.length = ks.length → BindsTo s fd ⟨us, ks.zip ws⟩ (ps.zip (us ++ permL is ws))
def GFk (P : Program) (w : World) (K : PySem.W.Frag) (mg : Str → Option Value) (base : Heap) (g : GG) (x : Str) (n k : Nat) (ks : List Str) (is : List Nat) (sp : FS) : Prop :=
  ∃ f fd ps, mg x = some (.ref f) ∧ PySem.W.keepIn K (.ref f) = true ∧ FnOk P w K mg base (L2.CX P w) k f fd ps (spOf K g n sp) ∧ KwB K fd ps ks 0 is
def tCallKw (K : PySem.W.Frag) (g : GG) (n m : Nat) (is : List Nat) (sp : FS) (E : XK) (tk : TA) : TE := fun σ H Q => tk σ H fun zs H2 => zs.length = m ∧ spOf K g n sp (permL is zs) H2 Q E
theorem de_callkw {x : Str} {n k k' : Nat} {ks : List Str} {is : List Nat} {sp : FS} (F : GFk X.prog X.w X.K X.mg X.base z.g x n k ks is sp) (hr : Room k' X.A) (hk : k ≤ k') (tkk : Takes X (fun c d _ H => z.EK c d H)) (hK : X.K = z.K) (ha : DKw X z kws tk mk) (hg : Gl X x := by rfl)
    (hall : (backToKw pos (keywordEach kws X.env)).all (·.1.isSome) = true := by rfl) (hks : (backToKw pos (keywordEach kws X.env)).filterMap (·.1) = ks := by rfl) (hdb : (x == ("__debug__" : Str)) = false := by decide)
    (hpl : ((backTo pos (starEach [] X.env)).any (·.1) || (backToKw pos (keywordEach kws X.env)).any (·.1.isNone)) = false := by rfl) :
    DE X z (.Call (.Name x pp) [] kws pos) (tCallKw z.K z.g n ks.length is sp z.EK tk) (fun ρ => bnd (mk ρ) fun ds Q E => ds.length = ks.length ∧ mCall n sp (permL is ds) Q E) := by
  obtain ⟨f, fd, ps, h1, h2, h3, h4⟩ := F
  refine ⟨⟨fun pins s σ H Q I h => ?_⟩, fun U σ H ρ Q Qd E w he hm k => ?_⟩
  · refine wpAny_Call_Name_kw (ld_glob I hg h1 ?_ hdb)
    refine PySem.W.callWith_KW0 (h₀ := X.base) I.ok.mod.kin h2 hall ?_ hpl
    refine thn (ha.pk.run pos pins s σ H _ I h) fun ws s2 hw => ⟨?_, ?_⟩
    · obtain ⟨zs, H2, I2, rz, l, q⟩ := hw
      exact I2.kIn
    · obtain ⟨zs, H2, I2, rz, l, q⟩ := hw
      rw [← hK] at q
      rw [hks]
      have hl : ws.length = ks.length := rz.length.symm.trans l
      refine wpAny_call (codeAny_mono (h3.run X.A X.stack s2 H2 ⟨[], ks.zip ws⟩ (permL is ws) (permL is zs) Q z.EK (hr.mono hk) I2.env0 (h4 s2 [] ws I2.kIn rfl hl) (vals_perm rz is) q) fun res s3 hq => ?_)
      match res, hq with
      | .error e, hq => exact passes_call tkk (fun _ _ _ _ h => h) pins σ H2 s2 e s3 I2 hq
      | .ok (.ret u), hq => exact I2.after hq
      | .ok .next, hq => exact False.elim hq
      | .ok .brk, hq => exact False.elim hq
      | .ok .cont, hq => exact False.elim hq
  · refine ha.tm U σ H ρ _ _ E w he hm fun ds vs H1 h1 e1 j1 r1 => ?_
    have w1 := w.step e1 j1
    have r2 := reps_perm r1 is
    exact ⟨r1.length.trans h1.1, r2.length.trans h1.2.1, U, _, Qd, E, w.gu, w1.dom, j1, r2, h1.2.2, fun d v H' q e2 j2 r2 => k d v H' q (e1.trans e2) j2 r2, fun x cls dp H' q e2 j2 r2 => w.ok.ek x cls dp H' (he x q) (w1.ext.trans e2) j2 (r2.less w.u)⟩
/-- C(k = v, ..) -/
def GMk (P : Program) (w : World) (K : PySem.W.Frag) (mg : Str → Option Value) (base : Heap) (g : GG) (nm : Str) (C : Addr) (f : Str) (n k : Nat) (ks : List Str) (is : List Nat) (ps : List Str) (spM : FS) : Prop :=
  ∃ fa fd, mg nm = some (.ref C) ∧ Mk K C fa ∧ FnOk P w K mg base (L2.CX P w) k fa fd ps (spInit K g C f n spM) ∧ KwB K fd ps ks 1 is
theorem de_makekw {nm : Str} {C : Addr} {f : Str} {n k k' : Nat} {ks : List Str} {is : List Nat} {ps : List Str} {spM : FS} (F : GMk X.prog X.w X.K X.mg X.base z.g nm C f n k ks is ps spM) (hr : Room k' X.A) (hk : k + 1 ≤ k') (tkk : Takes X (fun c d _ H => z.EK c d H)) (hK : X.K = z.K) (hGx : ∀ H a φ, z.g.J H → z.g.G a → H a ≠ some (.ext φ)) (ha : DKw X z kws tk mk)
    (hg : Gl X nm := by rfl) (hall : (backToKw pos (keywordEach kws X.env)).all (·.1.isSome) = true := by rfl) (hks : (backToKw pos (keywordEach kws X.env)).filterMap (·.1) = ks := by rfl) (hdb : (nm == ("__debug__" : Str)) = false := by decide)
    (hpl : ((backTo pos (starEach [] X.env)).any (·.1) || (backToKw pos (keywordEach kws X.env)).any (·.1.isNone)) = false := by rfl) :
    DE X z (.Call (.Name nm pp) [] kws pos) (tMakeK C 0 ks.length (spInit z.K z.g C f n spM) (fun vs zs => vs ++ permL is zs) z.EK tNil tk) (fun ρ => bnd (mk ρ) fun ds Q E => ds.length = ks.length ∧ mMake C f n spM (permL is ds) Q E) := by
  obtain ⟨fa, fd, h1, h2, h3, h4⟩ := F
  refine ⟨?_, fun U σ H ρ Q Qd E w hE hm k2 => ?_⟩
  · rw [← hK]
    exact pe_makeK0 h2 h3 (hr.mono hk) hg h1 (g := fun us ws => us ++ permL is ws) ⟨fun s us ws hin l1 l2 => h4 s us ws hin l1 l2, fun r1 r2 => r1.append (vals_perm r2 is)⟩ (passes_call tkk fun _ _ _ _ h => h) ha.pk hall hks hdb hpl
  · refine ha.tm U σ H ρ _ _ E w hE hm fun ds vs H1 h1 e1 j1 r1 => ⟨rfl, r1.length.trans h1.1, ?_⟩
    exact made_tm (w.step e1 j1) hE (reps_perm r1 is) h1.2.1 h1.2.2 (fun d v H' q e2 j2 r2 => k2 d v H' q (e1.trans e2) j2 r2) hGx
/-! ### while -/
variable {O : List Nat} {c : Expr} {body : List Stmt} {tc : TT} {mc : DEnv → M Bool} {tB : TS} {mB : MS}
def whW (mc : DEnv → M Bool) (mB : MS) : MS := fun κ E ρ => ∃ Pv : Nat → DEnv → Prop, (∃ m, Pv m ρ) ∧ ∀ m ρ, Pv m ρ → mc ρ (fun b => if b = true then ∃ N : DEnv → Prop, (∀ ρ', N ρ' → ∃ m', m' < m ∧ Pv m' ρ') ∧ mB { nx := N, rt := κ.rt, bk := κ.nx, ct := N } E ρ else κ.nx ρ) E
theorem ds_while (hp : PassesOwn (model X.prog X.w) X.A X.env X.xe) (hc : DT X z c tc mc) (hb : DSs X z O body tB mB) : DS X z O (.While c body [] pos) (tWhile tc tB) (whW mc mB) := ⟨ps_while hp hc.pe hb.ps, fun kp oa σ H ρ Dn κ E s hE ko hm => by
  obtain ⟨Pv, ⟨m0, h0⟩, turn⟩ := hm
  refine ⟨fun m σ H => ∃ oa ρ, SO (z.keep kp) O oa σ H ρ ∧ Pv m ρ, ⟨m0, oa, ρ, s, h0⟩, fun m σ H hw => ?_⟩
  obtain ⟨oa, ρ, s, h1⟩ := hw
  refine (hc.tm.keep kp) z.U0 σ H ρ _ _ E s.full hE (turn m ρ h1) fun b H1 hb1 e1 j1 => ?_
  have s1 := s.step e1 j1
  cases b with
  | true =>
    obtain ⟨N, hN, hb2⟩ := hb1
    refine ⟨fun σ' H' => ∃ oa ρ, SO (z.keep kp) O oa σ' H' ρ ∧ N ρ, fun σ' H' q => ?_, hb.tm kp oa σ H1 ρ _ { nx := N, rt := κ.rt, bk := κ.nx, ct := N } E s1 hE ⟨fun oa' σ' H' ρ' s' q => ⟨oa', ρ', s', q⟩, ko.rt, ko.nx, fun oa' σ' H' ρ' s' q => ⟨oa', ρ', s', q⟩⟩ hb2⟩
    obtain ⟨oa', ρ', s', q⟩ := q
    obtain ⟨m', hlt, q'⟩ := hN ρ' q
    exact ⟨m', hlt, oa', ρ', s', q'⟩
  | false => exact ko.nx oa σ H1 ρ s1 hb1⟩
end
end DL

/-! DIdx: bare tuples: made by tuple(list), taken as tuples, t.index(x). -/
namespace DL
open PySem PySem.Spec PyProof.Rows L2

/-- the place holds a tuple whose object has no own dict -/
def BareT (x : V) (H : Hp) : Prop := ∃ (p : Addr) (o : Obj) (xs : List V), x = .ref p ∧ H p = some (.frz o (.tup xs)) ∧ o.dict = none
theorem bare_is {X : Cx} {pins : List (Addr × Obj)} {σ : L2.St} {H : Hp} {s : Shared} {x : V} {v : Value} (I : Inv X pins σ H s) (rv : RelV x v) (b : BareT x H) :
    s.TypeIs v "tuple" ∧ ∀ a, v = .ref a → ∃ ob, s.heap.get? a = some ob ∧ ob.dict = none := by
  obtain ⟨p, o, xs, rfl, hp, hd⟩ := b
  cases rv
  obtain ⟨e, _, its, _, o', e', hc, _⟩ := I.hok p _ hp
  rw [e] at e'
  cases e'
  exact ⟨⟨o, e, hc⟩, fun a z => by cases z; exact ⟨o, e, hd⟩⟩
section
variable {X : Cx} {z : Zc} {o e a : Expr} {to te ta : TE} {t : TA} {mo me ma : DEnv → M D} {apos pos pp : Pos}
abbrev rIdx (K : PySem.W.Frag) : V → List V → Hp → VK → Prop := fun x xs H Q => ∃ p, ∃ ys : List Str, ∃ z j, x = .ref p ∧ xs = [.str z] ∧ SqT K H p (ys.map V.str) ∧ ys[j]? = some z ∧ (∀ m, m < j → ys[m]? ≠ some z) ∧ Q (.int (j : Nat)) H
def tIdx (K : PySem.W.Frag) (to : TE) (t : TA) : TE := fun σ H Q => to σ H fun x H1 => BareT x H1 ∧ t σ H1 fun xs H2 => rIdx K x xs H2 Q
theorem pe_idx (ho : PE X o to) (ha : PA X [e] t) (hs : starEach [e] X.env = (false, eval e X.env) :: starEach [] X.env := by rfl) (hbase : attributeBase o "index" X.env (eval o X.env) = eval o X.env := by rfl) (hline : (apos.endLine == pos.line) = true := by rfl)
    (hfew : ((backTo pos (starEach [e] X.env)).all (fun x => !x.1) && (backToKw pos (keywordEach [] X.env)).all (fun x => x.1.isSome) && decide ([e].length + ([] : List Keyword).length + (if ([] : List Keyword).isEmpty then 0 else 1) < 30)) = true := by rfl)
    (hplain : (backTo pos (starEach [] X.env)).any (·.1) = false := by rfl) :
    PE X (.Call (.Attribute o "index" apos) [e] [] pos) (tIdx X.K to t) := by
  constructor
  intro pins s σ H Q I h
  refine wpAny_Call_method_late hbase hfew hline rfl (thn (ho.run pins s σ H _ I h) fun v s1 w => ?_)
  obtain ⟨x, H1, I1, r1, bt, q1⟩ := w
  have hb := bare_is I1 r1 bt
  refine ⟨"tuple", "tuple.index", F.plainAttrs_tuple, F.slot_tuple_index, F.type_tuple_index, hb.1, hb.2, ?_⟩
  have hA := ha.run pos pins s1 σ H1 _ I1 q1
  rw [hs] at hA ⊢
  refine Calls.callWith_builtin (show (false || (backTo pos (starEach [] X.env)).any (·.1)) = false by rw [hplain]; rfl) (Calls.evalArgs_plain ?_)
  refine thn hA fun us s2 w2 => ?_
  obtain ⟨vs, H2, I2, r2, q2⟩ := w2
  exact mt_tup_index pins s2 σ H2 x vs v us Q I2 r1 r2 q2
/-- the place of a text in a bare tuple of texts -/
abbrev mIdx (a b : D) : M D := fun Q _ => match a, b with
  | .ptup ds, .str x => ∃ (ys : List Str) (j : Nat), ds = ys.map D.str ∧ ys[j]? = some x ∧ (∀ m, m < j → ys[m]? ≠ some x) ∧ Q (.int (j : Int))
  | _, _ => False
theorem de_idx (hK : X.K = z.K) (ho : DE X z o to mo) (he : DE X z e te me) (hs : starEach [e] X.env = (false, eval e X.env) :: starEach [] X.env := by rfl) (hbase : attributeBase o "index" X.env (eval o X.env) = eval o X.env := by rfl) (hline : (apos.endLine == pos.line) = true := by rfl)
    (hfew : ((backTo pos (starEach [e] X.env)).all (fun x => !x.1) && (backToKw pos (keywordEach [] X.env)).all (fun x => x.1.isSome) && decide ([e].length + ([] : List Keyword).length + (if ([] : List Keyword).isEmpty then 0 else 1) < 30)) = true := by rfl)
    (hplain : (backTo pos (starEach [] X.env)).any (·.1) = false := by rfl) :
    DE X z (.Call (.Attribute o "index" apos) [e] [] pos) (tIdx z.K to (tCons te tNil)) (fun ρ => bnd (mo ρ) fun x => fun Q E => (∃ ds, x = .ptup ds) ∧ me ρ (fun y => mIdx x y Q E) E) :=
  ⟨by rw [← hK]; exact pe_idx ho.pe (pa_cons he.pe pa_nil hs) hs hbase hline hfew hplain, fun U σ H ρ Q Qd E w hE h k => ho.tm U σ H ρ _ _ E w hE h fun d v H1 h1 e1 j1 r1 => by
    obtain ⟨⟨ds, rfl⟩, h1⟩ := h1
    have r1' := r1
    simp only [Rep] at r1
    obtain ⟨p, ob, xs, rfl, ⟨hp, hd, hu⟩, rs⟩ := r1
    refine ⟨⟨p, ob, xs, rfl, hp, hd⟩, he.tm U σ H1 ρ _ _ E (w.step e1 j1) hE h1 fun d2 v2 H2 h2 e2 j2 r2 => ?_⟩
    cases d2 with
    | str x =>
      obtain ⟨ys, j, rfl, hj, hn, hq⟩ := h2
      rw [reps_strs rs] at hp
      exact ⟨p, ys, x, j, rfl, by rw [inv_str r2], .inl (.inr ⟨ob, e2 _ _ hp fun q => hu (w.gu _ q)⟩), hj, hn, k _ _ H2 hq (e1.trans e2) j2 rep_int⟩
    | _ => exact h2.elim⟩
/-- a bare tuple as a tuple -/
def unP : D → D
  | .ptup ds => .tup ds
  | d => d
theorem rep_unP {K : PySem.W.Frag} {U : Addr → Prop} {H : Hp} {d : D} {v : V} (r : Rep K U H d v) : Rep K U H (unP d) v := by
  cases d with
  | ptup ds =>
    simp only [Rep] at r
    obtain ⟨a, ob, xs, rfl, ⟨h, _, n⟩, rs⟩ := r
    show Rep K U H (.tup ds) (.ref a)
    simp only [Rep]
    exact ⟨a, xs, rfl, .inl ⟨.inr ⟨ob, h⟩, n⟩, rs⟩
  | _ => exact r
theorem de_weak (h : DE X z e te me) : DE X z e te (fun ρ => bnd (me ρ) fun d => ret (unP d)) := ⟨h.pe, fun U σ H ρ Q Qd E w hE q k => h.tm U σ H ρ _ _ E w hE q fun d v H1 h1 e1 j1 r1 => k _ v H1 h1 e1 j1 (rep_unP r1)⟩
/-- tuple(list), its object kept in mind -/
abbrev rTupP (K : PySem.W.Frag) : List V → Hp → VK → Prop := fun xs H Q => ∃ p ys, xs = [.ref p] ∧ SqL K H p ys ∧ ∀ l ob, H l = none → ob.dict = none → Q (.ref l) (upd H l (.frz ob (.tup ys)))
theorem crTupP : CallR X (.type "tuple") (rTupP X.K) := fun pins s σ H xs us Q I r h => by
  obtain ⟨p, ys, rfl, hq, q⟩ := h
  obtain ⟨u, rfl, rx⟩ := vals1 r
  cases rx
  obtain ⟨its, r', pl, hz⟩ := I.list hq
  have hl := r'.length
  refine call_tuple_list pl.isList (fun h1 kp => ?_) (by rw [List.size_toArray, ← hl]; exact hz)
  have J : Inv X pins σ H { s with heap := h1 } := I.kept (t' := s.toks) kp
  refine ⟨.ref h1.objs.size, _, J.laid (o := .frz { cls := .type "tuple", data := .seq its.toArray } (.tup ys)) (t' := s.toks) (fun b o e => Heap.get?_push_of_some _ e) (Nat.le_refl _) ⟨Heap.get?_push_size _ rfl, hz, its, r', IsTup.new _ _⟩, rfl, q _ _ (J.hok.fresh (Nat.le_refl _)) rfl⟩
abbrev mTupP (d : D) : M D := fun Q _ => match d with
  | .lst ds => Q (.ptup ds)
  | _ => False
theorem rmTupP : RMn z (rTupP z.K) (m1 mTupP) := rmn1 fun U H a x Q Qd E gu hU j ra he h k => by
  match a, h with
  | .lst ds, h =>
    obtain ⟨p, xs, rfl, hp, r⟩ := rep_lst_inv ra
    refine ⟨p, xs, rfl, SqL.of hp.1, fun l ob hl hd => k _ _ _ h (Ext.new hl) (z.g.new j hl) ?_⟩
    simp only [Rep]
    exact ⟨l, ob, xs, rfl, ⟨upd_same, hd, fun q => hU l q hl⟩, Reps.mono' (fun a o e n => ⟨by rw [upd_ne (ne_of_none e hl)]; exact e, n⟩) ds xs r⟩
end
end DL

/-! DDict: dicts with numbers or texts as keys: a def's own ones are stored into; several names at once by a tuple. -/
namespace DL
open PySem PySem.Spec PyProof.Rows L2
theorem two_small : 2 ≤ sizeLine := by rw [sizeLine_eq]; decide
/-! ### tables of pairs -/
def getP {α : Type} : List (Key × α) → Key → Option α
  | [], _ => none
  | p :: r, k => if p.1 = k then some p.2 else getP r k
def hasP {α : Type} : List (Key × α) → Key → Bool
  | [], _ => false
  | p :: r, k => decide (p.1 = k) || hasP r k
def putP {α : Type} (kvs : List (Key × α)) (k : Key) (v : α) : List (Key × α) := if hasP kvs k = true then kvs.map (fun p => (p.1, if p.1 = k then v else p.2)) else kvs ++ [(k, v)]
def dictD (kvs : List (Key × D)) : D := .dK (kvs.map (·.1)) (kvs.map (·.2))
theorem zip_back {α : Type} : ∀ kvs : List (Key × α), (kvs.map (·.1)).zip (kvs.map (·.2)) = kvs
  | [] => rfl
  | p :: r => by simp only [List.map_cons, List.zip_cons_cons, zip_back r]
theorem has_get {α : Type} {k : Key} : ∀ {kvs : List (Key × α)}, hasP kvs k = (getP kvs k).isSome
  | [] => rfl
  | p :: r => by
    unfold hasP getP
    by_cases e : p.1 = k
    · rw [if_pos e, decide_eq_true e]; rfl
    · rw [if_neg e, decide_eq_false e, Bool.false_or, has_get]
theorem get_map {α : Type} {k j : Key} {v : α} : ∀ {kvs : List (Key × α)}, getP (kvs.map fun p => (p.1, if p.1 = k then v else p.2)) j = (getP kvs j).map fun x => if j = k then v else x
  | [] => rfl
  | p :: r => by
    rw [List.map_cons]
    unfold getP
    by_cases e : p.1 = j
    · rw [if_pos e, if_pos e, Option.map_some, e]
    · rw [if_neg e, if_neg e, get_map]
theorem get_snoc {α : Type} {k j : Key} {v : α} : ∀ {kvs : List (Key × α)}, getP (kvs ++ [(k, v)]) j = match getP kvs j with | some x => some x | none => if k = j then some v else none
  | [] => by simp [getP]
  | p :: r => by
    rw [List.cons_append]
    unfold getP
    by_cases e : p.1 = j
    · rw [if_pos e, if_pos e]
    · rw [if_neg e, if_neg e, get_snoc]
theorem get_put {α : Type} {k j : Key} {v : α} {kvs : List (Key × α)} : getP (putP kvs k v) j = if j = k then some v else getP kvs j := by
  unfold putP
  by_cases h : hasP kvs k = true
  · rw [if_pos h, get_map]
    by_cases e : j = k
    · subst e
      rw [has_get] at h
      rw [if_pos rfl]
      obtain ⟨x, hx⟩ := Option.isSome_iff_exists.mp h
      rw [hx, Option.map_some, if_pos rfl]
    · rw [if_neg e]
      cases getP kvs j <;> simp [e]
  · rw [if_neg h, get_snoc]
    rw [has_get] at h
    by_cases e : j = k
    · subst e
      rw [if_pos rfl]
      cases q : getP kvs j with
      | none => simp
      | some x => rw [q] at h; simp at h
    · rw [if_neg e]
      cases q : getP kvs j with
      | none => simp [Ne.symm e]
      | some x => rfl
theorem put_len {α : Type} {k : Key} {v : α} {kvs : List (Key × α)} : (putP kvs k v).length ≤ kvs.length + 1 := by
  unfold putP
  split
  · rw [List.length_map]; omega
  · rw [List.length_append]; simp
section
variable {K : PySem.W.Frag} {U : Addr → Prop} {H : Hp}
theorem getV_rel {k : Key} : ∀ {kvs : List (Key × V)} {ds : List D}, Reps K U H ds (kvs.map (·.2)) → match getP ((kvs.map (·.1)).zip ds) k with | some d => ∃ v, valV kvs k = some v ∧ Rep K U H d v | none => valV kvs k = none
  | [], ds, h => by simp [getP, valV]
  | p :: r, ds, h => by
    cases ds with
    | nil => simp only [Reps] at h; cases h
    | cons d ds =>
      simp only [Reps, List.map_cons] at h
      obtain ⟨x, t, e, r1, r2⟩ := h
      cases e
      simp only [List.map_cons, List.zip_cons_cons]
      unfold getP
      by_cases e : p.1 = k
      · rw [if_pos e]
        exact ⟨p.2, valV_pos e, r1⟩
      · rw [if_neg e, valV_neg e]
        exact getV_rel r2
theorem hasV_rel {k : Key} : ∀ {kvs : List (Key × V)} {ds : List D}, kvs.length = ds.length → hasP ((kvs.map (·.1)).zip ds) k = kvs.any fun kv => decide (kv.1 = k)
  | [], ds, h => by simp [hasP]
  | p :: r, ds, h => by
    cases ds with
    | nil => simp at h
    | cons d ds =>
      simp only [List.map_cons, List.zip_cons_cons, List.any_cons]
      unfold hasP
      rw [hasV_rel (by simpa using h)]
theorem mapV_rel {k : Key} {d : D} {v : V} (r : Rep K U H d v) : ∀ {kvs : List (Key × V)} {ds : List D}, Reps K U H ds (kvs.map (·.2)) →
    (kvs.map fun kv => if kv.1 = k then (kv.1, v) else kv).map (·.1) = (((kvs.map (·.1)).zip ds).map fun p => (p.1, if p.1 = k then d else p.2)).map (·.1) ∧ Reps K U H ((((kvs.map (·.1)).zip ds).map fun p => (p.1, if p.1 = k then d else p.2)).map (·.2)) ((kvs.map fun kv => if kv.1 = k then (kv.1, v) else kv).map (·.2))
  | [], ds, h => ⟨by simp, by simpa using Reps.nil⟩
  | p :: t, ds, h => by
    cases ds with
    | nil => simp only [Reps] at h; cases h
    | cons d' ds =>
      simp only [Reps, List.map_cons] at h
      obtain ⟨x, t', e, r1, r2⟩ := h
      cases e
      obtain ⟨i1, i2⟩ := mapV_rel r r2
      simp only [List.map_cons, List.zip_cons_cons]
      by_cases e : p.1 = k
      · simp only [if_pos e]
        exact ⟨by rw [i1], Reps.cons r i2⟩
      · simp only [if_neg e]
        exact ⟨by rw [i1], Reps.cons r1 i2⟩
/-- a store, in the heap and in the data -/
theorem putV_rel {k : Key} {d : D} {v : V} {kvs : List (Key × V)} {ds : List D} (r : Rep K U H d v) (h : Reps K U H ds (kvs.map (·.2))) :
    (putK kvs k v).map (·.1) = (putP ((kvs.map (·.1)).zip ds) k d).map (·.1) ∧ Reps K U H ((putP ((kvs.map (·.1)).zip ds) k d).map (·.2)) ((putK kvs k v).map (·.2)) := by
  have hl : kvs.length = ds.length := by
    have := h.length
    simpa using this
  unfold putK putP
  rw [hasV_rel hl]
  by_cases q : (kvs.any fun kv => decide (kv.1 = k)) = true
  · rw [if_pos q, if_pos q]
    exact mapV_rel r h
  · rw [if_neg q, if_neg q]
    have e1 : ((kvs.map (·.1)).zip ds).map (·.1) = kvs.map (·.1) := by
      rw [List.map_fst_zip]
      simp [hl]
    have e2 : ((kvs.map (·.1)).zip ds).map (·.2) = ds := by
      rw [List.map_snd_zip]
      simp [hl]
    rw [List.map_append, List.map_append, List.map_append, List.map_append, e1, e2]
    exact ⟨rfl, h.append (Reps.cons r Reps.nil)⟩
end
/-- a key as data -/
def keyD : D → Option Key
  | .int n => some (.inl n)
  | .str x => some (.inr x)
  | _ => none
theorem key_rep {K : PySem.W.Frag} {U : Addr → Prop} {H : Hp} {d : D} {v : V} {k : Key} (h : keyD d = some k) (r : Rep K U H d v) : v = kV k := by
  cases d with
  | int n => cases h; rw [inv_int r]; rfl
  | str x => cases h; rw [inv_str r]; rfl
  | _ => cases h
abbrev asDict (d : D) : M (List (Key × D)) := fun Q _ => match d with | .dK ks ds => Q (ks.zip ds) | _ => False
/-- d[k] -/
abbrev mGet (x y : D) : M D := fun Q _ => match x with
  | .dK ks ds => (match keyD y with
    | some k => (match getP (ks.zip ds) k with
      | some d => Q d
      | none => False)
    | none => False)
  | _ => False
/-- d.get(k, v) -/
abbrev mGet2 (x y u : D) : M D := fun Q _ => match x with
  | .dK ks ds => (match keyD y with
    | some k => Q ((getP (ks.zip ds) k).getD u)
    | none => False)
  | _ => False
section
variable {X : Cx} {z : Zc} {O : List Nat} {o i e : Expr} {to ti te : TE} {mo mi me : DEnv → M D} {pos pos' ppos ipos : Pos} {k' : Nat} {x : Str}
theorem rep_dict_inv {K : PySem.W.Frag} {U : Addr → Prop} {H : Hp} {ks : List Key} {ds : List D} {v : V} (h : Rep K U H (.dK ks ds) v) : ∃ a kvs, v = .ref a ∧ (H a = some (.dK kvs) ∧ ¬ U a ∧ kvs.map (·.1) = ks) ∧ Reps K U H ds (kvs.map (·.2)) := by simpa only [Rep] using h
theorem tm_dget (ho : TMe z to mo) (hi : TMe z ti mi) : TMe z (tDGet to ti) (fun ρ => bnd (mo ρ) fun x => bnd (mi ρ) fun y => mGet x y) := fun U σ H ρ Q Qd E w he h k =>
  ho U σ H ρ _ _ E w he h fun d v H1 h1 e1 j1 r1 => hi U σ H1 ρ _ _ E (w.step e1 j1) he h1 fun d2 v2 H2 h2 e2 j2 r2 => by
    have r1 := r1.ext e2 w.gu
    cases d with
    | dK ks ds =>
      obtain ⟨a, kvs, rfl, ⟨ha, na, rfl⟩, r⟩ := rep_dict_inv r1
      have h2 : (match keyD d2 with | some k => (match getP ((kvs.map (·.1)).zip ds) k with | some d => Qd d | none => False) | none => False) := h2
      cases hk : keyD d2 with
      | none => rw [hk] at h2; exact h2.elim
      | some key =>
        simp only [hk] at h2
        have g := getV_rel (k := key) r
        cases hg : getP ((kvs.map (·.1)).zip ds) key with
        | none => simp only [hg] at h2
        | some dv =>
          simp only [hg] at h2
          rw [hg] at g
          obtain ⟨v, hv, rv⟩ := g
          refine ⟨a, v, rfl, ?_, k dv v H2 h2 (e1.trans e2) j2 rv⟩
          rw [key_rep hk r2, ← hv]
          exact DGet.k ha
    | _ => exact h2.elim
theorem de_dget (hr : Room k' X.A) (ho : DE X z o to mo) (hi : DE X z i ti mi) (hs : NoSl i := by exact fun _ _ => rfl) : DE X z (.Subscript o i pos) (tDGet to ti) (fun ρ => bnd (mo ρ) fun x => bnd (mi ρ) fun y => mGet x y) := ⟨pe_dget (hu_of hr) ho.pe hi.pe hs, tm_dget ho.tm hi.tm⟩
/-- {} -/
theorem df_dnew : DF X z (.Dict [] [] pos) tDNewK (fun _ => ret (.dK [] [])) := ⟨pe_dnewK, fun U σ H ρ Q Qd E w he h k p hp => k (.dK [] []) p _ _ h hp (Ext.new hp) (z.g.new w.j hp) upd_same (.inr ⟨[], [], [], rfl, rfl, rfl, Reps.nil⟩)⟩
/-- the def's own dict in a slot -/
abbrev mOwnK (i : Nat) (ρ : DEnv) (f : List (Key × D) → Prop) : Prop := match ρ.getD i none with
  | some (.dK ks ds) => f (ks.zip ds)
  | _ => False
theorem mOwnK_inv {i : Nat} {ρ : DEnv} {f : List (Key × D) → Prop} (h : mOwnK i ρ f) : ∃ ks ds, ρ[i]? = some (some (.dK ks ds)) ∧ f (ks.zip ds) := by
  have h : (match ρ.getD i none with | some (.dK ks ds) => f (ks.zip ds) | _ => False) := h
  cases q : ρ.getD i none with
  | none => rw [q] at h; exact h.elim
  | some d =>
    rw [q] at h
    have q' : ρ[i]? = some (some d) := by
      rw [List.getD_eq_getElem?_getD] at q
      cases e : ρ[i]? with
      | none => rw [e] at q; simp at q
      | some o => rw [e] at q; simp at q; rw [q]
    cases d with
    | dK ks ds => exact ⟨ks, ds, q', h⟩
    | _ => exact h.elim
/-- what a store does to the own dict -/
theorem SO.putKey {oa : Nat → Addr} {σ : L2.St} {H : Hp} {ρ : DEnv} (s : SO z O oa σ H ρ) {i : Nat} {ks : List Key} {ds : List D} {d : D} {v : V} {k : Key} (hi : i ∈ O) (h : ρ[i]? = some (some (.dK ks ds))) (r : Rep z.K (Uo z O oa ρ) H d v) :
    ∃ kvs, σ[i]? = some (some (.ref (oa i))) ∧ H (oa i) = some (.dK kvs) ∧ kvs.length = (ks.zip ds).length ∧ SO z O oa σ (upd H (oa i) (.dK (putK kvs k v))) (ρ.set i (some (dictD (putP (ks.zip ds) k d)))) := by
  obtain ⟨nu, kvs, e1, e2, rfl, rs⟩ := s.ownK hi h
  obtain ⟨p1, p2⟩ := putV_rel (k := k) r rs
  have hl := rs.length
  rw [List.length_map] at hl
  exact ⟨kvs, e1, e2, by simp [hl], s.putO hi h (.inr ⟨_, _, _, rfl, rfl, p1, p2⟩)⟩
theorem tms_dput0 {j : Nat} (he : TMe z te me) (hk : TMe z ti mi) (ho : j ∈ O) : TMs0 z O (sDPut (tVar j) ti te) (fun κ E ρ => me (hide O ρ) (fun d => mOwnK j ρ fun kvs => mi (hide O ρ) (fun y => match keyD y with
    | some k => kvs.length < sizeLine ∧ κ.nx (ρ.set j (some (dictD (putP kvs k d))))
    | none => False) E) E) := fun oa σ H ρ Dn κ E s hE ko hm =>
  he _ σ H _ _ _ E s.vis hE hm fun d v H1 h1 e1 j1 r1 => by
    have s1 := s.step e1 j1
    obtain ⟨ks, ds, hρ, h1⟩ := mOwnK_inv h1
    obtain ⟨_, kvs0, hσ, _, _, _⟩ := s1.ownK ho hρ
    refine ⟨_, hσ, hk _ σ H1 _ _ _ E s1.vis hE h1 fun d2 v2 H2 h2 e2 j2 r2 => ?_⟩
    have s2 := s1.step e2 j2
    cases q : keyD d2 with
    | none => simp only [q] at h2
    | some key =>
      simp only [q] at h2
      obtain ⟨kvs, e3, e4, e5, s3⟩ := s2.putKey (k := key) ho hρ (r1.ext e2 s1.gu)
      rw [key_rep q r2]
      exact ⟨oa j, _, rfl, DPut.k e4 (by rw [e5]; exact h2.1), ko.nx oa _ _ _ s3 h2.2⟩
/-- x[k] = e, x the def's own dict -/
theorem ds_dput (j : Nat) (hr : Room k' X.A) (he : DE X z e te me) (hk : DE X z i ti mi) (ho : j ∈ O := by decide) (hN : X.N[j]? = some x := by rfl) (hv : Vis X.env.scope x := by first | exact Or.inl rfl | exact Or.inr (Or.inl rfl) | exact Or.inr (Or.inr rfl)) (hd : (x == ("__debug__" : Str)) = false := by decide) (hcd : (x == ("__classdict__" : Str)) = false := by decide)
    (hs : swapsWith e (some (.Subscript (.Name x ppos) i pos')) pos.line X.env = pure false := by rfl) :
    DS X z O (.Assign [.Subscript (.Name x ppos) i pos'] e pos) (sDPut (tVar j) ti te) (fun κ E ρ => me (hide O ρ) (fun d => mOwnK j ρ fun kvs => mi (hide O ρ) (fun y => match keyD y with
      | some k => kvs.length < sizeLine ∧ κ.nx (ρ.set j (some (dictD (putP kvs k d))))
      | none => False) E) E) := ⟨ps_dput (hu_of hr) (pv j hN hv hd hcd) hk.pe he.pe hs, tms_of fun kp => tms_dput0 (he.tm.keep kp) (hk.tm.keep kp) ho⟩
/-- list(range(n)) -/
abbrev mLstRg (d : D) : M D := fun Q _ => match d with | .int n => (0 ≤ n ∧ n ≤ 16777216) ∧ Q (.lst (rangeD 0 n.toNat)) | _ => False
theorem reps_rg {K : PySem.W.Frag} {U : Addr → Prop} {H : Hp} {n : Int} : Reps K U H (rangeD 0 n.toNat) (rgV 0 n) := by
  unfold rangeD rgV
  rw [Int.sub_zero]
  generalize List.range n.toNat = l
  induction l with
  | nil => exact Reps.nil
  | cons i r ih => exact Reps.cons rep_int ih
theorem df_listRg {rp lp : Pos} (hc : X.calm = true) (hl : X.mg "list" = none) (hm : X.mg "range" = none) (ha : DE X z e te me) (hg : Gl X "list" := by rfl) (hg2 : Gl X "range" := by rfl) (na : starEach [e] X.env = (false, eval e X.env) :: starEach [] X.env := by rfl)
    (na2 : starEach [.Call (.Name "range" rp) [e] [] ppos] X.env = (false, eval (.Call (.Name "range" rp) [e] [] ppos) X.env) :: starEach [] X.env := by rfl) : DF X z (.Call (.Name "list" lp) [.Call (.Name "range" rp) [e] [] ppos] [] pos) (tLstRg (tRg1 te)) (fun ρ => bnd (me ρ) mLstRg) :=
  ⟨pe_listRg hc hg hl (prg_1 hg2 hm ha.pe na) na2, fun U σ H ρ Q Qd E w he h k => ha.tm U σ H ρ _ _ E w he h fun d v H1 h1 e1 j1 r1 => by
    cases d with
    | int n =>
      refine ⟨n, inv_int r1, RgOk.of_le (by decide) h1.1.2 (by decide) h1.1.1, fun q hq => ?_⟩
      exact k (.lst (rangeD 0 n.toNat)) q _ _ h1.2 (none_back (G := z.g.G) j1 e1 hq) (e1.trans (Ext.new hq)) (z.g.new j1 hq) upd_same (.inl ⟨_, _, rfl, rfl, reps_rg⟩)
    | _ => exact h1.elim⟩
/-! ### two names at once -/
variable {a b : Expr} {ta tb : TE} {ma mb : DEnv → M D} {fl : List Bool} {tr : TA} {mr : DEnv → M (List D)} {y : Str} {px py pt : Pos} {kt k2 : Nat} {pt2 : Pos}
/-- a, b = e1, e2: e1 of the own objects too, what it gives is flat -/
theorem tms_par2F0 {i j : Nat} (ha : TMe z ta ma) (hb : TMe z tb mb) (hi : i ∉ O) (hj : j ∉ O) : TMs0 z O (tPar i j (tCons ta (tCons tb tNil))) (fun κ E ρ => ma ρ (fun d1 => flat d1 = true ∧ mb (hide O ρ) (fun d2 => κ.nx ((ρ.set i (some d1)).set j (some d2))) E) E) := fun oa σ H ρ Dn κ E s hE ko hm =>
  ha _ σ H _ _ _ E s.full hE hm fun d1 v1 H1 h1 e1 j1 r1 => by
    have s1 := s.step e1 j1
    have r1' := s1.flat h1.1 r1
    refine hb _ σ H1 _ _ _ E s1.vis hE h1.2 fun d2 v2 H2 h2 e2 j2 r2 => ⟨v1, v2, rfl, ?_⟩
    have s2 := s1.step e2 j2
    refine ko.nx oa _ H2 _ ((s2.set hi (r1'.ext e2 s1.gu)).set hj ?_) h2
    rw [Uo_set hi]
    exact r2
theorem ds_par2F (i j : Nat) (hc : X.calm = true) (hN : X.N.Nodup) (ha : DE X z a ta ma) (hb : DE X z b tb mb) (hio : i ∉ O := by decide) (hjo : j ∉ O := by decide) (hi : X.N[i]? = some x := by rfl) (hj : X.N[j]? = some y := by rfl) (hij : i ≠ j := by decide)
    (hx : X.env.scope.names.lookup x = some .local := by rfl) (hy : X.env.scope.names.lookup y = some .local := by rfl)
    (hw : swappedStores [.Tuple [.Name x px, .Name y py] kt pt] (.Tuple [a, b] k2 pt2) X.env = pure (some [x, y]) := by rfl)
    (hs : swapsWithSole [.Tuple [.Name x px, .Name y py] kt pt] (.Tuple [a, b] k2 pt2) pos.line X.env = pure false := by rfl)
    (h1 : starEach [a, b] X.env = (false, eval a X.env) :: starEach [b] X.env := by rfl) (h2 : starEach [b] X.env = (false, eval b X.env) :: starEach [] X.env := by rfl) :
    DS X z O (.Assign [.Tuple [.Name x px, .Name y py] kt pt] (.Tuple [a, b] k2 pt2) pos) (tPar i j (tCons ta (tCons tb tNil))) (fun κ E ρ => ma ρ (fun d1 => flat d1 = true ∧ mb (hide O ρ) (fun d2 => κ.nx ((ρ.set i (some d1)).set j (some d2))) E) E) :=
  ⟨ps_par hc hN hi hj hij hx hy (pa_cons ha.pe (pa_cons hb.pe pa_nil h2) h1) hw hs, tms_of fun kp => tms_par2F0 (ha.tm.keep kp) (hb.tm.keep kp) hio hjo⟩
/-- the same by a tuple (a name is a cell), the marked ones new and the def's own -/
theorem tms_tup20 {i j : Nat} (ha : TMr z fl tr mr) (hO : RowOk O fl [i, j]) : TMs0 z O (tAsg (tTup tr) (gTup z.K 2 (gCons (gName i) (gCons (gName j) gNil)))) (fun κ E ρ => mr (hide O ρ) (fun ds => κ.nx (setAll [i, j] ds ρ)) E) := fun oa σ H ρ Dn κ E s hE ko hm => by
  refine ha _ σ H _ _ _ E s.vis hE hm fun ds vs As H' q e jj hA nd hr => ?_
  have hlen := (rowRep_length hr).1
  rw [rowOk_len hO] at hlen
  match vs, hlen, hr with
  | [v, w], _, hr =>
    refine ⟨two_small, fun p hp => ⟨p, [v, w], rfl, .inl (.inl upd_same), rfl, v, [w], rfl, w, [], rfl, rfl, ?_⟩⟩
    have hn := none_back (G := z.g.G) jj e hp
    have e' : Ext z.g.G H (upd H' p (.tup [v, w])) := e.trans (Ext.new hp)
    have j' : z.g.J (upd H' p (.tup [v, w])) := z.g.new jj hp
    have hA' : ∀ a, a ∈ As → H a = none ∧ upd H' p (.tup [v, w]) a ≠ none := fun a h => ⟨(hA a h).1, by
      cases q : H' a with
      | none => exact absurd q (hA a h).2
      | some o => rw [upd_ne (ne_of_none q hp), q]; simp⟩
    have hr' : RowRep z.K (fun b => Uo z O oa ρ b ∨ b ∈ As) (upd H' p (.tup [v, w])) fl ds [v, w] As := hr.mono (fun b o hb n => ⟨by rw [upd_ne (ne_of_none hb hp)]; exact hb, n⟩) fun b o _ hb => by rw [upd_ne (ne_of_none hb hp)]; exact hb
    have s1 : SO (z.with As) O oa σ (upd H' p (.tup [v, w])) ρ := s.with e' j' hA'
    have hUe : (fun b => Uo z O oa ρ b ∨ b ∈ As) = Uo (z.with As) O oa ρ := funext fun b => propext (uo_with b).symm
    rw [hUe] at hr'
    obtain ⟨oa', s2⟩ := SO.setRow s.ok (s.step e' j').d0 fl [i, j] As ds [v, w] oa σ ρ s1 nd (fun a h => ⟨fun q => s.d0 a q (hA a h).1, by
      cases q : z.H0 a with
      | none => rfl
      | some o =>
        have := s.ext a o q fun g => z.g.dom H a s.j g (hA a h).1
        rw [(hA a h).1] at this
        cases this⟩) hO hr'
    exact ko.nx oa' _ _ _ s2 q
theorem ds_tup2 (i j : Nat) (hc : X.calm = true) (hK : X.K = z.K) (hN : X.N.Nodup) (ha : DRow X z fl [a, b] tr mr) (hO : RowOk O fl [i, j] := by simp [RowOk]) (hi : X.N[i]? = some x := by rfl) (hj : X.N[j]? = some y := by rfl)
    (hx : Loc X.env.scope x := by first | exact .inl rfl | exact .inr rfl) (hy : Loc X.env.scope y := by first | exact .inl rfl | exact .inr rfl) (hfx : X.fn x = true ∨ X.env.scope.names.lookup x = some .local := by first | exact .inl rfl | exact .inr rfl) (hfy : X.fn y = true ∨ X.env.scope.names.lookup y = some .local := by first | exact .inl rfl | exact .inr rfl)
    (hs : swapsWithSole [.Tuple [.Name x px, .Name y py] kt pt] (.Tuple [a, b] k2 pt2) pos.line X.env = pure false := by rfl) (hw : swappedStores [.Tuple [.Name x px, .Name y py] kt pt] (.Tuple [a, b] k2 pt2) X.env = pure none := by rfl)
    (h1 : (assignEach [.Tuple [.Name x px, .Name y py] kt pt] X.env).map (·.2) = [assign (.Tuple [.Name x px, .Name y py] kt pt) X.env] := by rfl)
    (hs1 : (assignEach [.Name x px, .Name y py] X.env).map (·.2) = assign (.Name x px) X.env :: (assignEach [.Name y py] X.env).map (·.2) := by rfl)
    (hs2 : (assignEach [.Name y py] X.env).map (·.2) = assign (.Name y py) X.env :: (assignEach [] X.env).map (·.2) := by rfl)
    (hn : (assignEach [.Name x px, .Name y py] X.env).length = 2 := by rfl) (hst : (assignEach [.Name x px, .Name y py] X.env).findIdx? (·.1) = none := by rfl) :
    DS X z O (.Assign [.Tuple [.Name x px, .Name y py] kt pt] (.Tuple [a, b] k2 pt2) pos) (tAsg (tTup tr) (gTup z.K 2 (gCons (gName i) (gCons (gName j) gNil)))) (fun κ E ρ => mr (hide O ρ) (fun ds => κ.nx (setAll [i, j] ds ρ)) E) :=
  ⟨ps_asg (pe_tup ha.pe) (by rw [← hK]; exact pg_tup hc (pgs_cons (pg_name hN hi hx hfx) (pgs_cons (pg_name hN hj hy hfy) pgs_nil hs2) hs1) hn hst) hs hw h1, tms_of fun kp => tms_tup20 (ha.tm.keep kp) hO⟩
end
end DL

/-! DTab: a call of what a written dict of defs holds under a text. -/
namespace DL
open PySem PySem.Spec PyProof.Rows L2
/-- the def at f keeps a promise over data -/
def GFat (P : Program) (w : World) (K : PySem.W.Frag) (mg : Str → Option Value) (base : Heap) (g : GG) (f : Addr) (n k : Nat) (sp : FS) : Prop :=
  ∃ fd ps, PySem.W.keepIn K (.ref f) = true ∧ FnOk P w K mg base (L2.CX P w) k f fd ps (spOf K g n sp) ∧ Binds K fd ps []
/-- the module's dict x, at p: under each text that T tells stands a def that keeps the promise told -/
def GTab (P : Program) (w : World) (K : PySem.W.Frag) (mg : Str → Option Value) (base : Heap) (g : GG) (x : Str) (p : Addr) (n k : Nat) (T : Str → Option FS) : Prop :=
  mg x = some (.ref p) ∧ ∀ y sp, T y = some sp → ∃ f, KDct K w p y (.ref f) ∧ GFat P w K mg base g f n k sp
def tTab (P : Program) (w : World) (K : PySem.W.Frag) (mg : Str → Option Value) (base : Heap) (g : GG) (p : Addr) (n k : Nat) (E : XK) (tk : TE) (t : TA) : TE := fun σ H Q =>
  tOp (rIxD K w) (tC (.ref p)) tk σ H fun v H1 => ∃ sp f, v = .ref f ∧ GFat P w K mg base g f n k sp ∧ t σ H1 fun vs H2 => spOf K g n sp vs H2 Q E
section
variable {X : Cx} {z : Zc} {a ke : Expr} {es : List Expr} {tk : TE} {mk : DEnv → M D} {tr : TA} {mr : DEnv → M (List D)} {x : Str} {p : Addr} {n k k' : Nat} {T : Str → Option FS} {pp px pos : Pos} {P : Program} {w : World} {K : PySem.W.Frag} {mg : Str → Option Value} {base : Heap} {g : GG} {EK : XK}
theorem de_tab (F : GTab P w K mg base g x p n k T) (hP : X.prog = P) (hw : X.w = w) (hX : X.K = K) (hmg : X.mg = mg) (hbase : X.base = base) (hgg : z.g = g) (hE : z.EK = EK) (hr : Room k' X.A) (hk : k ≤ k') (tkk : Takes X (fun c d _ H => z.EK c d H)) (hK : X.K = z.K) (hkey : DE X z ke tk mk) (ha : DA X z (a :: es) tr mr) (hg : Gl X x := by rfl) (hs : PlainIx ke := by exact fun _ _ => rfl)
    (hdb : (x == ("__debug__" : Str)) = false := by decide)
    (ht : eval (.Call (.Subscript (.Name x pp) ke px) (a :: es) [] pos) X.env = (do callWith pos (← eval (.Subscript (.Name x pp) ke px) X.env) [] (backTo pos (starEach (a :: es) X.env)) (backToKw pos (keywordEach [] X.env))) := by rfl)
    (he : starEach (a :: es) X.env = (false, eval a X.env) :: starEach es X.env := by rfl) (hpl : (backTo pos (starEach es X.env)).any (·.1) = false := by rfl) :
    DE X z (.Call (.Subscript (.Name x pp) ke px) (a :: es) [] pos) (tTab P w K mg base g p n k EK tk tr) (fun ρ => bnd (mk ρ) fun d => fun Q E => match d with | .str y => (match T y with | some sp => bnd (mr ρ) (mCall n sp) Q E | none => False) | _ => False) := by
  subst hP hw hX hmg hbase hgg hE
  obtain ⟨h1, h2⟩ := F
  refine ⟨⟨fun pins s σ H Q I h => ?_⟩, fun U σ H ρ Q Qd E w he hm k => hkey.tm U σ H ρ _ _ E w he hm fun d v H1 hd e1 j1 r1 => ?_⟩
  · have sub := pe_ix (pos := px) (ix_kdict (X := X)) (pe_glob (pos := pp) hg h1 (v := .ref p) rfl hdb) hkey.pe hs
    refine Call_ (thn (sub.run pins s σ H _ I h) fun u s1 hu => ?_) ht
    obtain ⟨v, H1, I1, r1, sp, f, rfl, ⟨fd, ps, g1, g2, g3⟩, q⟩ := hu
    obtain rfl : u = Value.ref f := r1
    refine PySem.W.callWith_K (h₀ := X.base) I1.ok.mod.kin g1 (thn (ha.pe.run pos pins s1 σ H1 _ I1 q) fun us s2 hu2 => ?_) he hpl
    obtain ⟨vs, H2, I2, r2, q2⟩ := hu2
    exact ⟨I2.kIn, run_fn g2 (hr.mono hk) g3 .nil (passes_call tkk fun _ _ _ _ h => h) I2 r2 (by rw [List.append_nil]; exact q2)⟩
  · cases d with
    | str y =>
      cases hT : T y with
      | none =>
        simp only [hT] at hd
      | some sp =>
        simp only [hT] at hd
        obtain ⟨f, kd, gf⟩ := h2 y sp hT
        have w1 := w.step e1 j1
        refine ⟨p, y, .ref f, rfl, inv_str r1, kd, sp, f, rfl, gf, ha.tm U σ H1 ρ _ _ E w1 he hd fun ds vs H2 hh e2 j2 r2 => ?_⟩
        have w2 := w1.step e2 j2
        rw [hK]
        exact ⟨r2.length.trans hh.1, U, ds, Qd, E, w.gu, w2.dom, j2, r2, hh.2, fun d v H' q e3 j3 r3 => k d v H' q ((e1.trans e2).trans e3) j3 r3, fun x cls dp H' q e3 j3 r3 => w.ok.ek x cls dp H' (he x q) (w2.ext.trans e3) j3 (r3.less w.u)⟩
    | _ => exact hd.elim
end
end DL

/-! DSpec: fractions as data, what the program's and the law's fraction defs promise. -/
namespace DL
open PySem PySem.Spec PyProof.Rows L2
/-- a fraction as data -/
abbrev rD (q : Rat) : D := .tup [.int q.num, .int (q.den : Int)]
/-- of at most k bits -/
def Bd (k : Nat) (q : Rat) : Prop := q.num.natAbs < 2 ^ k ∧ q.den < 2 ^ k
theorem pw (a b : Nat) : (2 : Nat) ^ (a + b) = 2 ^ a * 2 ^ b := Nat.pow_add 2 a b
theorem Bd.mono {j k : Nat} {q : Rat} (h : Bd j q) (l : j ≤ k) : Bd k q := ⟨Nat.lt_of_lt_of_le h.1 (Nat.pow_le_pow_right (by decide) l), Nat.lt_of_lt_of_le h.2 (Nat.pow_le_pow_right (by decide) l)⟩
theorem log_lt {n k : Nat} (h : n < 2 ^ k) (hk : 0 < k) : n.log2 < k := by
  by_cases h0 : n = 0
  · subst h0; simpa using hk
  · exact (Nat.log2_lt h0).mpr h
theorem mulOk_of {i j : Int} {k l : Nat} (h1 : i.natAbs < 2 ^ k) (h2 : j.natAbs < 2 ^ l) (hk : k + l < 900000) : MulOk i j := by
  refine .inr ?_
  unfold CMulW
  have a := log_lt (k := k + 1) (Nat.lt_of_lt_of_le h1 (Nat.pow_le_pow_right (by decide) (Nat.le_succ _))) (Nat.succ_pos _)
  have b := log_lt (k := l + 1) (Nat.lt_of_lt_of_le h2 (Nat.pow_le_pow_right (by decide) (Nat.le_succ _))) (Nat.succ_pos _)
  omega
theorem divOk_of {i j : Int} {l : Nat} (h0 : j ≠ 0) (h2 : j.natAbs < 2 ^ l) (hk : l < 8999) : DivOk i j := by
  have b := log_lt (k := l + 1) (Nat.lt_of_lt_of_le h2 (Nat.pow_le_pow_right (by decide) (Nat.le_succ _))) (Nat.succ_pos _)
  exact ⟨h0, by omega⟩
theorem natAbs_mul_lt {i j : Int} {k l : Nat} (h1 : i.natAbs < 2 ^ k) (h2 : j.natAbs < 2 ^ l) : (i * j).natAbs < 2 ^ (k + l) := by
  rw [Int.natAbs_mul, pw]
  exact Nat.mul_lt_mul'' h1 h2
theorem natAbs_add_lt {i j : Int} {k : Nat} (h1 : i.natAbs < 2 ^ k) (h2 : j.natAbs < 2 ^ k) : (i + j).natAbs < 2 ^ (k + 1) := by
  have := Int.natAbs_add_le i j
  rw [Nat.pow_succ]
  omega
theorem natAbs_sub_lt {i j : Int} {k : Nat} (h1 : i.natAbs < 2 ^ k) (h2 : j.natAbs < 2 ^ k) : (i - j).natAbs < 2 ^ (k + 1) := by
  rw [Int.sub_eq_add_neg]
  exact natAbs_add_lt h1 (by rwa [Int.natAbs_neg])
/-- the common divisor with the sign of the lower number -/
def cdiv (a b : Int) : Int := if b > 0 then ((Nat.gcd a.natAbs b.natAbs : Nat) : Int) else -((Nat.gcd a.natAbs b.natAbs : Nat) : Int)
theorem gcd_pos' {a b : Int} (h : b ≠ 0) : 0 < Nat.gcd a.natAbs b.natAbs := Nat.gcd_pos_of_pos_right _ (Int.natAbs_pos.mpr h)
theorem cdiv_ne {a b : Int} (h : b ≠ 0) : cdiv a b ≠ 0 := by
  have := gcd_pos' (a := a) h
  unfold cdiv
  split <;> omega
theorem cdiv_le {a b : Int} (h : b ≠ 0) : (cdiv a b).natAbs ≤ b.natAbs := by
  have := Nat.gcd_le_right (n := b.natAbs) a.natAbs (Int.natAbs_pos.mpr h)
  unfold cdiv
  split <;> omega
theorem low_num {a b : Int} (h : b ≠ 0) : a.fdiv (cdiv a b) = (Rat.divInt a b).num := by
  rw [Rat.num_divInt]
  have hg : (b.gcd a : Int) = ((Nat.gcd a.natAbs b.natAbs : Nat) : Int) := by rw [Int.gcd_comm]; rfl
  have hp := gcd_pos' (a := a) h
  have hd : ((Nat.gcd a.natAbs b.natAbs : Nat) : Int) ∣ a := Int.ofNat_dvd_left.mpr (Nat.gcd_dvd_left _ _)
  rw [hg]
  unfold cdiv
  by_cases hb : b > 0
  · rw [if_pos hb, Int.sign_eq_one_of_pos hb, Int.one_mul, Int.fdiv_eq_ediv_of_nonneg _ (by omega)]
  · rw [if_neg hb, Int.sign_eq_neg_one_of_neg (by omega)]
    obtain ⟨c, hc⟩ := hd
    have hg0 : ((Nat.gcd a.natAbs b.natAbs : Nat) : Int) ≠ 0 := by omega
    generalize ((Nat.gcd a.natAbs b.natAbs : Nat) : Int) = g at hc hg0
    subst hc
    have e1 : g * c = (-c) * (-g) := by rw [Int.neg_mul_neg, Int.mul_comm]
    have e2 : -1 * (g * c) = g * (-c) := by rw [Int.neg_one_mul, Int.mul_neg]
    rw [e2, Int.mul_ediv_cancel_left _ hg0, e1, Int.mul_fdiv_cancel _ (by omega)]
theorem low_den {a b : Int} (h : b ≠ 0) : b.fdiv (cdiv a b) = ((Rat.divInt a b).den : Int) := by
  rw [Rat.den_divInt, if_neg h]
  have hg : b.gcd a = Nat.gcd a.natAbs b.natAbs := by rw [Int.gcd_comm]; rfl
  have hp := gcd_pos' (a := a) h
  obtain ⟨c, hc⟩ := Nat.gcd_dvd_right a.natAbs b.natAbs
  rw [hg]
  unfold cdiv
  generalize Nat.gcd a.natAbs b.natAbs = g at hc hp
  have e0 : b.natAbs / g = c := by rw [hc]; exact Nat.mul_div_cancel_left _ hp
  rw [e0]
  have h1 : (b.natAbs : Int) = (g : Int) * (c : Int) := by rw [hc]; exact Int.natCast_mul g c
  have hg0 : (g : Int) ≠ 0 := by omega
  by_cases hb : b > 0
  · rw [if_pos hb, show b = (c : Int) * (g : Int) by rw [Int.mul_comm]; omega, Int.mul_fdiv_cancel _ hg0]
  · rw [if_neg hb, show b = (c : Int) * (-(g : Int)) by rw [Int.mul_neg, Int.mul_comm]; omega, Int.mul_fdiv_cancel _ (by omega)]
/-! ### Rat and data -/
theorem rD_of {a b : Int} (h : b ≠ 0) : D.tup [.int (a.fdiv (cdiv a b)), .int (b.fdiv (cdiv a b))] = rD (Rat.divInt a b) := by rw [low_num h, low_den h]
theorem den_ne (q : Rat) : (q.den : Int) ≠ 0 := by have := q.den_pos; omega
theorem add_div (p q : Rat) : p + q = Rat.divInt (p.num * q.den + q.num * p.den) (p.den * q.den : Int) := by
  rw [Rat.add_def', ← Rat.divInt_ofNat]; simp
theorem sub_div (p q : Rat) : p - q = Rat.divInt (p.num * q.den - q.num * p.den) (p.den * q.den : Int) := by
  rw [Rat.sub_def', ← Rat.divInt_ofNat]; simp
theorem mul_div (p q : Rat) : p * q = Rat.divInt (p.num * q.num) (p.den * q.den : Int) := by
  rw [Rat.mul_def', ← Rat.divInt_ofNat]; simp
theorem div_div (p q : Rat) (h : q ≠ 0) : p / q = Rat.divInt (p.num * q.den) (p.den * q.num) := by
  rw [Rat.div_def, Rat.inv_def]
  conv => lhs; lhs; rw [← Rat.num_divInt_den p]
  rw [Rat.divInt_mul_divInt]
theorem num_ne {q : Rat} (h : q ≠ 0) : q.num ≠ 0 := fun e => h (Rat.num_eq_zero.mp e)
theorem Bd.of {a b : Int} {k : Nat} (h : b ≠ 0) (h1 : a.natAbs < 2 ^ k) (h2 : b.natAbs < 2 ^ k) : Bd k (Rat.divInt a b) := by
  constructor
  · rw [Rat.num_divInt]
    have hp : 0 < b.gcd a := Int.gcd_pos_of_ne_zero_left _ h
    have e : (b.sign * a / (b.gcd a : Int)).natAbs ≤ (b.sign * a).natAbs := Int.natAbs_ediv_le_natAbs _ _
    have e2 : (b.sign * a).natAbs = a.natAbs := by
      rw [Int.natAbs_mul, Int.natAbs_sign_of_ne_zero h, Nat.one_mul]
    omega
  · rw [Rat.den_divInt, if_neg h]
    exact Nat.lt_of_le_of_lt (Nat.div_le_self _ _) h2
theorem Bd.add {j k : Nat} {p q : Rat} (hp : Bd j p) (hq : Bd k q) : Bd (j + k + 1) (p + q) := by
  rw [add_div]
  have d1 : (p.den : Int).natAbs < 2 ^ j := by simpa using hp.2
  have d2 : (q.den : Int).natAbs < 2 ^ k := by simpa using hq.2
  refine .of (Int.mul_ne_zero (den_ne p) (den_ne q)) (natAbs_add_lt (natAbs_mul_lt hp.1 d2) (by rw [Nat.add_comm]; exact natAbs_mul_lt hq.1 d1)) (Nat.lt_of_lt_of_le (natAbs_mul_lt d1 d2) (Nat.pow_le_pow_right (by decide) (Nat.le_succ _)))
theorem Bd.sub {j k : Nat} {p q : Rat} (hp : Bd j p) (hq : Bd k q) : Bd (j + k + 1) (p - q) := by
  rw [Rat.sub_eq_add_neg]
  exact hp.add ⟨by rw [Rat.neg_num, Int.natAbs_neg]; exact hq.1, by rw [Rat.neg_den]; exact hq.2⟩
theorem Bd.mul {j k : Nat} {p q : Rat} (hp : Bd j p) (hq : Bd k q) : Bd (j + k) (p * q) := by
  rw [mul_div]
  have d1 : (p.den : Int).natAbs < 2 ^ j := by simpa using hp.2
  have d2 : (q.den : Int).natAbs < 2 ^ k := by simpa using hq.2
  exact .of (Int.mul_ne_zero (den_ne p) (den_ne q)) (natAbs_mul_lt hp.1 hq.1) (natAbs_mul_lt d1 d2)
theorem Bd.div {j k : Nat} {p q : Rat} (h : q ≠ 0) (hp : Bd j p) (hq : Bd k q) : Bd (j + k) (p / q) := by
  rw [div_div p q h]
  have d1 : (p.den : Int).natAbs < 2 ^ j := by simpa using hp.2
  have d2 : (q.den : Int).natAbs < 2 ^ k := by simpa using hq.2
  exact .of (Int.mul_ne_zero (den_ne p) (num_ne h)) (natAbs_mul_lt hp.1 d2) (natAbs_mul_lt d1 hq.1)
theorem Bd.int {k : Nat} {i : Int} (h : i.natAbs < 2 ^ k) (hk : 0 < k) : Bd k (i : Rat) := ⟨by simpa using h, by simpa using Nat.one_lt_two_pow (by omega)⟩
theorem Bd.neg {k : Nat} {q : Rat} (h : Bd k q) : Bd k (-q) := ⟨by rw [Rat.neg_num, Int.natAbs_neg]; exact h.1, by rw [Rat.neg_den]; exact h.2⟩
/-! ### what the fraction defs promise -/
def sp_lowest : FS := fun ds Q E => ∃ a b : Int, ds = [.int a, .int b] ∧ b ≠ 0 ∧ b.natAbs < 2 ^ 8000 ∧ Q (rD (Rat.divInt a b))
def spQ2 (f : Rat → Rat → D) (C : Rat → Rat → Prop) : FS := fun ds Q E => ∃ p q : Rat, ds = [rD p, rD q] ∧ Bd 2000 p ∧ Bd 2000 q ∧ C p q ∧ Q (f p q)
abbrev sp_plus : FS := spQ2 (fun p q => rD (p + q)) fun _ _ => True
abbrev sp_minus : FS := spQ2 (fun p q => rD (p - q)) fun _ _ => True
abbrev sp_times : FS := spQ2 (fun p q => rD (p * q)) fun _ _ => True
abbrev sp_over : FS := spQ2 (fun p q => rD (p / q)) fun _ q => q ≠ 0
abbrev sp_is_less : FS := spQ2 (fun p q => .bl (decide (p < q))) fun _ _ => True
abbrev sp_lesser : FS := spQ2 (fun p q => rD (if q < p then q else p)) fun _ _ => True

/-! ### reckoning with readings -/
theorem ite_ap {α : Type} {c : Prop} [Decidable c] (A B : M α) (Q : α → Prop) (E : DX → Prop) : (if c then A else B) Q E = if c then A Q E else B Q E := by split <;> rfl
theorem at20 {α : Type} (x y : α) : atI [x, y] 0 = some x := rfl
theorem at21 {α : Type} (x y : α) : atI [x, y] 1 = some y := rfl
theorem at30 {α : Type} (x y z : α) : atI [x, y, z] 0 = some x := rfl
theorem at31 {α : Type} (x y z : α) : atI [x, y, z] 1 = some y := rfl
theorem at32 {α : Type} (x y z : α) : atI [x, y, z] 2 = some z := rfl
theorem dec_true {c : Prop} [Decidable c] : (decide c = true) = c := by simp
theorem two_le : 2 ≤ sizeLine := by rw [sizeLine_eq]; decide
theorem bd_dn {k : Nat} {q : Rat} (h : Bd k q) : ((q.den : Int)).natAbs < 2 ^ k := by simpa using h.2
theorem nn_of {q : Rat} : (0 : Int) < (q.den : Int) := by have := q.den_pos; omega
theorem lt_dec (p q : Rat) : decide (p.num * (q.den : Int) < q.num * (p.den : Int)) = decide (p < q) := by
  rw [decide_eq_decide, Rat.lt_iff]

def sp_as_fraction : FS := fun ds Q E => ∃ i : Int, ds = [.int i] ∧ Q (rD (i : Rat))
/-- the items of a sequence -/
def seqD : D → Option (List D)
  | .tup ds => some ds
  | .lst ds => some ds
  | _ => none
theorem asItems_seq {d : D} {ds : List D} {Q : List D → Prop} {E : DX → Prop} (h : seqD d = some ds) : asItems d Q E = Q ds := by
  cases d <;> simp [seqD] at h <;> subst h <;> rfl
/-- a sum of a list of fractions of at most k bits, so many that the sum stays small -/
def sp_total : FS := fun ds Q E => ∃ (d : D) (qs : List Rat), ds = [d] ∧ seqD d = some (qs.map rD) ∧ (∀ q ∈ qs, Bd 100 q) ∧ qs.length ≤ 12 ∧ Q (rD qs.sum)

/-! ### loops -/
theorem forW_ind {mg : D → (DEnv → Prop) → DEnv → Prop} {mb : MS} {κ : DK} {E : DX → Prop} (I : Nat → DEnv → Prop) : ∀ (items : List D) (n : Nat) (ρ : DEnv), I n ρ →
    (∀ i d ρ (k : DEnv → Prop), items[i]? = some d → I (n + i) ρ → (∀ ρ', I (n + i + 1) ρ' → k ρ') → mg d (mb { nx := k, rt := κ.rt, bk := κ.nx, ct := k } E) ρ) → (∀ ρ, I (n + items.length) ρ → κ.nx ρ) → forW mg mb κ E items ρ
  | [], n, ρ, h, _, he => he ρ h
  | d :: r, n, ρ, h, hs, he => by
    refine hs 0 d ρ _ rfl h fun ρ' h' => ?_
    refine forW_ind I r (n + 1) ρ' h' (fun i d ρ k hi hI hk => ?_) fun ρ h => he ρ ?_
    · refine hs (i + 1) d ρ k (by simpa using hi) ?_ ?_
      · rw [show n + (i + 1) = n + 1 + i by omega]; exact hI
      · rw [show n + (i + 1) + 1 = n + 1 + i + 1 by omega]; exact hk
    · rw [List.length_cons, show n + (r.length + 1) = n + 1 + r.length by omega]; exact h
/-- a comprehension without a condition that gives f of each item -/
theorem lcW_map {mg : D → (DEnv → Prop) → DEnv → Prop} {me : DEnv → M D} {ρ : DEnv} {f : D → D} {Q : List D → Prop} : ∀ (items acc : List D), (∀ d ∈ items, ∀ k : D → Prop, k (f d) → mg d (fun ρ' => me ρ' k fun _ => False) ρ) → Q (acc ++ items.map f) →
    lcW mg (fun _ => DL.ret true) me ρ acc items Q
  | [], acc, _, hq => by simpa [lcW] using hq
  | d :: r, acc, h, hq => by
    have go : lcW mg (fun _ => DL.ret true) me ρ (acc ++ [f d]) r Q := lcW_map r (acc ++ [f d]) (fun d hd => h d (List.mem_cons_of_mem _ hd)) (by simpa using hq)
    have := h d List.mem_cons_self (fun v => lcW mg (fun _ => DL.ret true) me ρ (acc ++ [v]) r Q) go
    unfold lcW
    exact this

theorem Bd.zero {k : Nat} (h : 0 < k) : Bd k 0 := ⟨by simp [Nat.two_pow_pos], by simpa using Nat.one_lt_two_pow (by omega)⟩
theorem Bd.sum {k : Nat} : ∀ {qs : List Rat}, (∀ q ∈ qs, Bd k q) → Bd (qs.length * (k + 1) + 1) qs.sum
  | [], _ => Bd.zero (by omega)
  | q :: r, h => by
    rw [List.sum_cons, List.length_cons, Nat.succ_mul]
    exact ((h q List.mem_cons_self).add (Bd.sum fun x hx => h x (List.mem_cons_of_mem _ hx))).mono (by omega)
theorem sum_take_succ' {qs : List Rat} {i : Nat} {q : Rat} (h : qs[i]? = some q) : (qs.take (i + 1)).sum = (qs.take i).sum + q := by
  rw [List.take_add_one, h, Option.toList_some, List.sum_append, List.sum_singleton]

def sp_divisor : FS := fun ds Q E => ∃ a b : Nat, ds = [.int a, .int b] ∧ Q (.int ((Nat.gcd a b : Nat) : Int))
def sp_frac : FS := fun ds Q E => ∃ n m : Int, ds = [.int n, .int m] ∧ 0 < m ∧ m.natAbs < 2 ^ 8000 ∧ Q (rD (Rat.divInt n m))
abbrev sp_by : FS := spQ2 (fun p q => rD (p / q)) fun _ q => 0 < q
def sp_neg : FS := fun ds Q E => ∃ p : Rat, ds = [rD p] ∧ Q (rD (-p))
theorem num_pos {q : Rat} (h : 0 < q) : 0 < q.num := by
  have h1 := num_ne (Rat.ne_of_gt h)
  have h2 := Rat.num_nonneg.mpr (Rat.le_of_lt h)
  omega
end DL

/-! DWell: a law's wells: lists of three ints that draws change; what stands in them is not told. -/
namespace DL
open PySem PySem.Spec PyProof.Rows L2
structure WellJ (g : GG) (Wl : Addr → Prop) : Prop where
  at_ : ∀ H a, g.J H → Wl a → ∃ x y u : Int, H a = some (.lst [.int x, .int y, .int u])
  gi : ∀ a, Wl a → g.G a
  j : ∀ H a (x y u : Int), g.J H → Wl a → g.J (upd H a (.lst [.int x, .int y, .int u]))
section
variable {X : Cx} {z : Zc} {Wl : Addr → Prop} {O : List Nat} {e : Expr} {te : TE} {me : DEnv → M D} {x : Str} {pp pi pos ps : Pos} {jj : Nat}
/-- the slot i holds a well -/
abbrev isW (Wl : Addr → Prop) (i : Nat) (ρ : DEnv) : Prop := match ρ.getD i none with
  | some (.obj a) => Wl a
  | _ => False
theorem isW_inv {i : Nat} {ρ : DEnv} (h : isW Wl i ρ) : ∃ a, ρ[i]? = some (some (.obj a)) ∧ Wl a := by
  have h : (match ρ.getD i none with | some (.obj a) => Wl a | _ => False) := h
  cases q : ρ.getD i none with
  | none => rw [q] at h; exact h.elim
  | some d =>
    rw [q] at h
    have q' : ρ[i]? = some (some d) := by
      rw [List.getD_eq_getElem?_getD] at q
      cases e : ρ[i]? with
      | none => rw [e] at q; simp at q
      | some o => rw [e] at q; simp at q; rw [q]
    cases d with
    | obj a => exact ⟨a, q', h⟩
    | _ => exact h.elim
theorem at_three {α : Type} {x y u : α} {j : Int} (h0 : 0 ≤ j) (h3 : j < 3) : ∃ v, atI [x, y, u] j = some v ∧ (v = x ∨ v = y ∨ v = u) := by
  have : j = 0 ∨ j = 1 ∨ j = 2 := by omega
  rcases this with rfl | rfl | rfl
  · exact ⟨x, rfl, .inl rfl⟩
  · exact ⟨y, rfl, .inr (.inl rfl)⟩
  · exact ⟨u, rfl, .inr (.inr rfl)⟩
/-- well[j], read -/
theorem de_wix {i : Nat} {j : Int} (W : WellJ z.g Wl) (hK : X.K = z.K) (h0 : 0 ≤ j) (h3 : j < 3) (hN : X.N[i]? = some x := by rfl) (hv : Vis X.env.scope x := by first | exact Or.inl rfl | exact Or.inr (Or.inl rfl) | exact Or.inr (Or.inr rfl)) (hd : (x == ("__debug__" : Str)) = false := by decide)
    (hcd : (x == ("__classdict__" : Str)) = false := by decide) : DE X z (.Subscript (.Name x pp) (.Constant (.int j) jj pi) pos) (tOp (rIxL z.K) (tVar i) (tC (.int j))) (fun ρ => fun Q _ => isW Wl i ρ ∧ ∀ v : Int, Q (.int v)) :=
  ⟨by rw [← hK]; exact pe_ix ix_list (pv i hN hv hd hcd) pe_int (fun _ _ => rfl), fun U σ H ρ Q Qd E w he h k => by
    obtain ⟨a, h1, h2⟩ := isW_inv h.1
    obtain ⟨v, e1, e2⟩ := w.env.2 i _ h1
    simp only [Rep] at e2
    subst e2
    obtain ⟨n1, n2, n3, hH⟩ := W.at_ H a w.j h2
    obtain ⟨v, hat, hv⟩ := at_three (x := V.int n1) (y := V.int n2) (u := V.int n3) h0 h3
    refine ⟨.ref a, e1, a, _, j, v, rfl, rfl, SqL.of hH, hat, ?_⟩
    rcases hv with rfl | rfl | rfl
    · exact k _ _ H (h.2 n1) (Ext.refl H) w.j rep_int
    · exact k _ _ H (h.2 n2) (Ext.refl H) w.j rep_int
    · exact k _ _ H (h.2 n3) (Ext.refl H) w.j rep_int⟩

theorem well_ext {g : GG} (W : WellJ g Wl) {H : Hp} {a : Addr} {o : HO} (h : Wl a) : Ext g.G H (upd H a o) := fun b u e n => by
  rw [upd_ne fun q => n (by rw [q]; exact W.gi a h)]
  exact e
/-- a store into a well -/
theorem well_set {g : GG} (W : WellJ g Wl) {H : Hp} {a : Addr} {j v : Int} (jj : g.J H) (h : Wl a) (h0 : 0 ≤ j) (h3 : j < 3) {Q : Hp → Prop} (k : ∀ H', Ext g.G H H' → g.J H' → Q H') : rSetL (.ref a) (.int j) (.int v) H Q := by
  obtain ⟨n1, n2, n3, hH⟩ := W.at_ H a jj h
  have : j = 0 ∨ j = 1 ∨ j = 2 := by omega
  rcases this with rfl | rfl | rfl
  · exact ⟨a, _, 0, 0, rfl, rfl, hH, rfl, k _ (well_ext W h) (W.j H a v n2 n3 jj h)⟩
  · exact ⟨a, _, 1, 1, rfl, rfl, hH, rfl, k _ (well_ext W h) (W.j H a n1 v n3 jj h)⟩
  · exact ⟨a, _, 2, 2, rfl, rfl, hH, rfl, k _ (well_ext W h) (W.j H a n1 n2 v jj h)⟩
/-- well[j] = e -/
theorem ds_wset {i : Nat} {j : Int} (W : WellJ z.g Wl) (hK : X.K = z.K) (h0 : 0 ≤ j) (h3 : j < 3) (hi : i ∉ O) (he : DE X z e te me) (hN : X.N[i]? = some x := by rfl) (hv : Vis X.env.scope x := by first | exact Or.inl rfl | exact Or.inr (Or.inl rfl) | exact Or.inr (Or.inr rfl)) (hd : (x == ("__debug__" : Str)) = false := by decide)
    (hcd : (x == ("__classdict__" : Str)) = false := by decide) (hs : swapsWithSole [.Subscript (.Name x pp) (.Constant (.int j) jj pi) pos] e ps.line X.env = pure false := by rfl) (hw : swappedStores [.Subscript (.Name x pp) (.Constant (.int j) jj pi) pos] e X.env = pure none := by rfl)
    (h1 : (assignEach [.Subscript (.Name x pp) (.Constant (.int j) jj pi) pos] X.env).map (·.2) = [assign (.Subscript (.Name x pp) (.Constant (.int j) jj pi) pos) X.env] := by rfl)
    (ha : ∀ v, assign (.Subscript (.Name x pp) (.Constant (.int j) jj pi) pos) X.env v = (do
      let ov ← holding [v] (eval (.Name x pp) X.env)
      let iv ← holding [v, ov] (eval (.Constant (.int j) jj pi) X.env)
      standAt pos
      holding [v, ov, iv] (setItem ov iv v)
      release [v, ov, iv] []) := by intro _; rfl) :
    DS X z O (.Assign [.Subscript (.Name x pp) (.Constant (.int j) jj pi) pos] e ps) (tAsg te (gSub (tVar i) (tC (.int j)) rSetL)) (fun κ E ρ => me (hide O ρ) (fun d => (∃ v, d = .int v) ∧ isW Wl i ρ ∧ κ.nx ρ) E) :=
  ⟨ps_asg he.pe (pg_sub (pv i hN hv hd hcd) pe_int set_list ha) hs hw h1, fun kp oa σ H ρ Dn κ E s hE ko hm => (he.tm.keep kp) _ σ H _ _ _ E s.vis hE hm fun d v H' q e1 j1 r1 => by
    obtain ⟨⟨n, rfl⟩, hW, q⟩ := q
    simp only [Rep] at r1
    subst r1
    obtain ⟨a, h1, h2⟩ := isW_inv hW
    have s1 := s.step e1 j1
    obtain ⟨v, e1', e2⟩ := s1.env i _ hi h1
    simp only [Rep] at e2
    subst e2
    refine ⟨.ref a, e1', ?_⟩
    exact well_set W (s1.j) h2 h0 h3 fun H2 e2 j2 => ko.nx oa σ H2 ρ (s1.step e2 j2) q⟩
abbrev mDivmod (a b : D) : M D := fun Q _ => match a, b with | .int i, .int j => (0 < j ∧ j < 1073741824) ∧ Q (.tup [.int (i / j), .int (i % j)]) | _, _ => False
theorem rmDivmod : RMn z (fun xs H Q => ∃ i j, xs = [.int i, .int j] ∧ CDiv i j ∧ ∀ p, H p = none → Q (.ref p) (upd H p (.tup [.int (i / j), .int (i % j)]))) (m2 mDivmod) := rmn2 fun U H a b x y Q Qd E gu hU j ra rb he h k => by
  match a, b, h with
  | .int i, .int l, h => exact ⟨i, l, by rw [inv_int ra, inv_int rb], h.1, fun p hp => k _ _ _ h.2 (Ext.new hp) (z.g.new j hp) (rep_tup_new hU hp (Reps.cons rep_int (Reps.cons rep_int Reps.nil)))⟩
/-- well[j], y = .. -/
theorem dg_wpair {i f : Nat} {j : Int} {y : Str} {k : Nat} {py : Pos} (W : WellJ z.g Wl) (hK : X.K = z.K) (hc : X.calm = true) (h0 : 0 ≤ j) (h3 : j < 3) (hi : i ∉ O) (hif : i ≠ f) (hf : f ∉ O) (hNd : X.N.Nodup) (hNf : X.N[f]? = some y := by rfl) (hx : Loc X.env.scope y := by first | exact .inl rfl | exact .inr rfl)
    (hfn : X.fn y = true ∨ X.env.scope.names.lookup y = some .local := by first | exact .inl rfl | exact .inr rfl)
    (hN : X.N[i]? = some x := by rfl) (hv : Vis X.env.scope x := by first | exact Or.inl rfl | exact Or.inr (Or.inl rfl) | exact Or.inr (Or.inr rfl)) (hd : (x == ("__debug__" : Str)) = false := by decide)
    (hcd : (x == ("__classdict__" : Str)) = false := by decide) 
    (ha : ∀ v, assign (.Subscript (.Name x pp) (.Constant (.int j) jj pi) pos) X.env v = (do
      let ov ← holding [v] (eval (.Name x pp) X.env)
      let iv ← holding [v, ov] (eval (.Constant (.int j) jj pi) X.env)
      standAt pos
      holding [v, ov, iv] (setItem ov iv v)
      release [v, ov, iv] []) := by intro _; rfl)
    (hs : (assignEach [.Subscript (.Name x pp) (.Constant (.int j) jj pi) pos, .Name y py] X.env).map (·.2) = assign (.Subscript (.Name x pp) (.Constant (.int j) jj pi) pos) X.env :: (assignEach [.Name y py] X.env).map (·.2) := by rfl)
    (hs2 : (assignEach [.Name y py] X.env).map (·.2) = assign (.Name y py) X.env :: (assignEach [] X.env).map (·.2) := by rfl)
    (hn : (assignEach [.Subscript (.Name x pp) (.Constant (.int j) jj pi) pos, .Name y py] X.env).length = 2 := by rfl) (hst : (assignEach [.Subscript (.Name x pp) (.Constant (.int j) jj pi) pos, .Name y py] X.env).findIdx? (·.1) = none := by rfl) :
    DG X z O (.Tuple [.Subscript (.Name x pp) (.Constant (.int j) jj pi) pos, .Name y py] k ps) (gTup z.K 2 (gCons (gSub (tVar i) (tC (.int j)) rSetL) (gCons (gName f) gNil)))
      (fun d kk ρ => match d with | .tup [.int _, d2] => isW Wl i ρ ∧ kk (ρ.set f (some d2)) | _ => False) :=
  ⟨by rw [← hK]; exact pg_tup hc (pgs_cons (pg_sub (pv i hN hv hd hcd) pe_int set_list ha) (pgs_cons (pg_name hNd hNf hx hfn) pgs_nil hs2) hs) hn hst, fun kp oa σ H ρ d v kk Q s r hm kq => by
    match d, hm with
    | .tup [.int n, d2], hm =>
      simp only [Rep] at r
      obtain ⟨b, xs, rfl, hb, r⟩ := r
      simp only [Reps] at r
      obtain ⟨v1, t1, rfl, r1, v2, t2, rfl, r2, rfl⟩ := r
      simp only [Rep] at r1
      subst r1
      obtain ⟨a, h1, h2⟩ := isW_inv hm.1
      obtain ⟨v, e1', e2⟩ := s.env i _ hi h1
      simp only [Rep] at e2
      subst e2
      refine ⟨b, _, rfl, hb.sq, rfl, .int n, [v2], rfl, .ref a, e1', ?_⟩
      refine well_set W s.j h2 h0 h3 fun H2 e2 j2 => ⟨v2, [], rfl, rfl, ?_⟩
      exact kq oa _ H2 _ ((s.step e2 j2).set hf (r2.ext e2 s.gu)) hm.2⟩
end
end DL

/-! DPurse: what the program's looks at values and its purses promise, where they are right. -/
namespace DL
open PySem PySem.Spec PyProof.Rows L2
def sp_is_whole : FS := fun ds Q E => ∃ i : Int, ds = [.int i] ∧ Q (.bl true)
def sp_is_between : FS := fun ds Q E => ∃ i a b : Int, ds = [.int i, .int a, .int b] ∧ Q (.bl (decide (a ≤ i ∧ i ≤ b)))
def sp_is_up_to : FS := fun ds Q E => ∃ i b : Int, ds = [.int i, .int b] ∧ Q (.bl (decide (0 ≤ i ∧ i ≤ b)))
def sp_is_one_of : FS := fun ds Q E => ∃ (x : Str) (ws : List D), ds = [.str x, .tup ws] ∧ ws.all isFlat = true ∧ Q (.bl (inD (.str x) ws))
/-! ### words, names -/
def lowerB (c : Nat) : Bool := Nat.ble 97 c && Nat.ble c 122
abbrev LET : Str := "abcdefghijklmnopqrstuvwxyz"
theorem letter_all : ((List.range 26).all fun i => inS ⟨#[97 + i]⟩ LET) = true := by decide +kernel
theorem letter_in {c : Nat} (h : lowerB c = true) : inS ⟨#[c]⟩ LET = true := by
  unfold lowerB at h
  simp only [Bool.and_eq_true, Nat.ble_eq] at h
  have := List.all_eq_true.mp letter_all (c - 97) (List.mem_range.mpr (by omega))
  rwa [show 97 + (c - 97) = c by omega] at this
def WordOk (x : Str) : Prop := ∀ c ∈ x.cps.toList, lowerB c = true
def sp_is_word : FS := fun ds Q E => ∃ x : Str, ds = [.str x] ∧ WordOk x ∧ 0 < x.length ∧ x.length ≤ 1000 ∧ Q (.bl true)
theorem signs_mem {x : Str} {d : D} (h : d ∈ signs x) : ∃ c ∈ x.cps.toList, d = .str ⟨#[c]⟩ := by
  obtain ⟨c, hc, e⟩ := List.mem_map.mp h
  exact ⟨c, hc, e.symm⟩
theorem signs_small {x : Str} (h : x.length ≤ 1000) : (signs x).length ≤ sizeLine := by
  unfold signs
  rw [List.length_map, Array.length_toList, sizeLine_eq]
  have : x.cps.size = x.length := rfl
  omega
theorem word_ne {x : Str} (h : 0 < x.length) : eqD (.str x) (.str "") = false := by
  unfold eqD
  refine beq_eq_false_iff_ne.mpr fun e => ?_
  subst e
  exact absurd h (by decide)
theorem bls_rep {n : Nat} : blsOf (List.replicate n (D.bl true)) = some (List.replicate n true) := by
  have := blsOf_map (List.replicate n true)
  rwa [List.map_replicate] at this
theorem all_rep (n : Nat) : (List.replicate n true).all _root_.id = true := by
  rw [List.all_eq_true]
  intro b hb
  exact (List.mem_replicate.mp hb).2
theorem all_true {n : Nat} (Q : D → Prop) (E : DX → Prop) (k : Q (.bl true)) : mAll (.lst (List.replicate n (D.bl true))) Q E := by
  show (match blsOf (List.replicate n (D.bl true)) with | some bs => Q (.bl (bs.all _root_.id)) | none => False)
  rw [bls_rep]
  show Q (.bl ((List.replicate n true).all _root_.id))
  rw [all_rep]
  exact k
theorem int_ne {a b : Int} (h : a ≠ b) : eqD (.int a) (.int b) = false := by
  unfold eqD
  exact beq_eq_false_iff_ne.mpr h
theorem int_eq {a b : Int} (h : a = b) : eqD (.int a) (.int b) = true := by
  unfold eqD
  exact beq_iff_eq.mpr h
theorem cut_to {α : Type} {xs : List α} {i : Nat} (h : i ≤ xs.length) : cutD xs none (some (0 + (i : Int))) = xs.take i := by
  unfold cutD
  rw [Int.zero_add, HT.sIx_none, HT.sIx_nat, List.drop_zero, Nat.sub_zero, Nat.min_eq_left h]
/-- the words that are no names -/
def wordsD : List D := [.str "all", .str "award", .str "book", .str "case", .str "claim", .str "class", .str "deal", .str "even", .str "game", .str "halves", .str "in", .str "losses", .str "none", .str "of", .str "open", .str "orders", .str "out", .str "pay", .str "people", .str "purse", .str "quit", .str "rank", .str "rule", .str "shares", .str "strike", .str "undo", .str "yes"]
structure NameOk (x : Str) : Prop where
  w : WordOk x
  p : 0 < x.length
  l : x.length ≤ 8
  n : inD (.str x) wordsD = false
def sp_is_name : FS := fun ds Q E => ∃ x : Str, ds = [.str x] ∧ NameOk x ∧ Q (.bl true)
/-! ### in order -/
def sp_are_below : FS := fun ds Q E => ∃ (xs : List Str) (y : Str), ds = [.tup (xs.map D.str), .str y] ∧ (∀ x ∈ xs, PyData.strOk x = true) ∧ (xs = [] ∨ ∃ z, xs.getLast? = some z ∧ strLt z y = true) ∧ Q (.bl true)
theorem plains_strs : ∀ {xs : List Str}, (∀ x ∈ xs, PyData.strOk x = true) → plains (xs.map D.str) = true
  | [], _ => rfl
  | x :: r, h => by
    simp only [List.map_cons, plains, plain, Bool.and_eq_true]
    exact ⟨h x List.mem_cons_self, plains_strs fun y hy => h y (List.mem_cons_of_mem _ hy)⟩
theorem deps_strs : ∀ {xs : List Str}, deps (xs.map D.str) = 0
  | [] => rfl
  | x :: r => by simp [deps, dep, deps_strs]
theorem strs_eqOk {xs : List Str} (h : ∀ x ∈ xs, PyData.strOk x = true) : EqOk (.tup (xs.map D.str)) (.tup []) := by
  refine ⟨?_, rfl, ?_, by decide⟩
  · simp only [plain]; exact plains_strs h
  · simp only [dep, deps_strs]; decide
theorem strs_ne {xs : List Str} {z : Str} (h : xs.getLast? = some z) : eqD (.tup (xs.map D.str)) (.tup []) = false := by
  cases xs with
  | nil => simp at h
  | cons x r => rfl
theorem at_last {xs : List Str} {z : Str} (h : xs.getLast? = some z) : atI (xs.map D.str) (-1) = some (.str z) := by
  have hl : 0 < xs.length := by
    cases xs with
    | nil => simp at h
    | cons x r => simp
  unfold atI ixN
  rw [if_neg (by decide), List.length_map, if_pos (by omega)]
  show (xs.map D.str)[((-1 : Int) + (xs.length : Int)).toNat]? = _
  rw [show ((-1 : Int) + (xs.length : Int)).toNat = xs.length - 1 by omega, List.getElem?_map, ← List.getLast?_eq_getElem?, h]
  rfl
def sp_is_tuple_of : FS := fun ds Q E => ∃ (xs : List D) (m : Int), ds = [.tup xs, .int m] ∧ Q (.bl ((xs.length : Int) == m))
/-- nothing is wrong in it -/
def sp_wrong_in (fL : Addr) (spL : FS) : FS := fun ds Q E => ∃ (xs : List D) (least most : Int), ds = [.tup xs, .int least, .int most, .obj fL] ∧ least ≤ xs.length ∧ (xs.length : Int) ≤ most ∧
  (∀ i x, xs[i]? = some x → ∀ (k : D → Prop), k (.bl true) → spL [.tup (xs.take i), x] k E) ∧ Q (.lst [])
def sp_wrong_in_all (fL : Addr) (spL : FS) : FS := fun ds Q E => ∃ (xs : List D), ds = [.tup xs, .int xs.length, .obj fL] ∧ (∀ x ∈ xs, ∀ (k : D → Prop), k (.bl true) → spL [x] k E) ∧ Q (.lst [])

theorem strOk_of {x : Str} (h : WordOk x) (hl : x.length ≤ 1000) : PyData.strOk x = true := by
  unfold PyData.strOk
  rw [Array.all_eq_true_iff_forall_mem]
  intro c hc
  have := h c (Array.mem_toList_iff.mpr hc)
  unfold lowerB at this
  simp only [Bool.and_eq_true, Nat.ble_eq] at this
  exact decide_eq_true (by omega)
theorem NameOk.str {x : Str} (h : NameOk x) : PyData.strOk x = true := strOk_of h.w (by have := h.l; omega)
/-- people, as a purse wants them -/
structure PeopleOk (ns : List Str) : Prop where
  p : 1 ≤ ns.length
  l : ns.length ≤ 6
  n : ∀ x ∈ ns, NameOk x
  o : ns.Pairwise fun x y => strLt x y = true
theorem PeopleOk.before {ns : List Str} (h : PeopleOk ns) {i : Nat} {y : Str} (e : ns[i]? = some y) : ns.take i = [] ∨ ∃ z, (ns.take i).getLast? = some z ∧ strLt z y = true := by
  cases i with
  | zero => exact .inl rfl
  | succ i =>
    have hi := (List.getElem?_eq_some_iff.mp e).1
    have ez : ns[i]? = some ns[i] := List.getElem?_eq_getElem (by omega)
    refine .inr ⟨ns[i], ?_, ?_⟩
    · rw [List.getLast?_eq_getElem?, List.length_take, List.getElem?_take_of_lt (by omega), show min (i + 1) ns.length - 1 = i by omega]
      exact ez
    · have ey : ns[i + 1] = y := by
        rw [List.getElem?_eq_getElem hi] at e
        exact Option.some.inj e
      rw [← ey]
      exact List.pairwise_iff_getElem.mp h.o i (i + 1) (by omega) hi (by omega)
def sp_wrong_in_people : FS := fun ds Q E => ∃ ns : List Str, ds = [.tup (ns.map D.str)] ∧ PeopleOk ns ∧ Q (.lst [])
def sp_wrong_in_claims : FS := fun ds Q E => ∃ (ps : List D) (cs : List Int), ds = [.tup ps, .tup (cs.map D.int)] ∧ cs.length = ps.length ∧ (∀ c ∈ cs, 0 ≤ c ∧ c ≤ 99) ∧ Q (.lst [])
def sp_check_number : FS := fun ds Q E => ∃ n a b : Int, ds = [.int n, .int a, .int b] ∧ a ≤ n ∧ n ≤ b ∧ Q .non
/-- a purse's parts -/
structure PurseOk (ns : List Str) (cs : List Int) (m : Int) : Prop where
  pe : PeopleOk ns
  cl : cs.length = ns.length
  c : ∀ c ∈ cs, 0 ≤ c ∧ c ≤ 99
  m0 : 0 ≤ m
  m1 : m ≤ cs.sum
abbrev partsD (ns : List Str) (cs : List Int) (m : Int) : D := .tup [.ptup (ns.map D.str), .tup (cs.map D.int), .int m]
abbrev purseD (C : Addr) (ns : List Str) (cs : List Int) (m : Int) : D := .ins C ["all_told"] [partsD ns cs m]
def sp_Purse : FS := fun ds Q E => ∃ ns cs m, ds = [.ptup (ns.map D.str), .tup (cs.map D.int), .int m] ∧ PurseOk ns cs m ∧ Q (partsD ns cs m)

def sp_check_purse (C : Addr) : FS := fun ds Q E => ∃ ks fs, ds = [.ins C ks fs] ∧ Q .non
def rulesD : List D := [.str "even", .str "losses", .str "shares", .str "halves", .str "orders"]
def sp_check_rule : FS := fun ds Q E => ∃ x : Str, ds = [.str x] ∧ inD (.str x) rulesD = true ∧ Q .non
def sp_check_rules (C : Addr) : FS := fun ds Q E => ∃ (x : Str) (ks : List Str) (fs : List D), ds = [.ins C ks fs, .str x] ∧ inD (.str x) rulesD = true ∧ Q .non

theorem three_le : 3 ≤ sizeLine := by rw [sizeLine_eq]; decide
/-- a part of a purse -/
def sp_part (C : Addr) (i : Nat) : FS := fun ds Q E => ∃ ns cs m, ds = [purseD C ns cs m] ∧ Q (match i with | 0 => .ptup (ns.map D.str) | 1 => .tup (cs.map D.int) | _ => .int m)

theorem mInts_tup {C : List Int → Prop} {R : List Int → Int → Prop} {cs : List Int} {Q : D → Prop} {E : DX → Prop} : mInts C R (.tup (cs.map D.int)) Q E = (C cs ∧ ∀ m, R cs m → Q (.int m)) := by
  show (match intsOf (cs.map D.int) with | some ns => C ns ∧ ∀ m, R ns m → Q (.int m) | none => False) = _
  rw [intsOf_map]
theorem mInts_lst {C : List Int → Prop} {R : List Int → Int → Prop} {cs : List Int} {Q : D → Prop} {E : DX → Prop} : mInts C R (.lst (cs.map D.int)) Q E = (C cs ∧ ∀ m, R cs m → Q (.int m)) := by
  show (match intsOf (cs.map D.int) with | some ns => C ns ∧ ∀ m, R ns m → Q (.int m) | none => False) = _
  rw [intsOf_map]

def sp_claims_of (C : Addr) : FS := fun ds Q E => ∃ ns cs m, ds = [purseD C ns cs m] ∧ cs.length ≤ 100 ∧ Q (.lst (cs.map fun (c : Int) => rD (c : Rat)))
theorem eqD_rD (p q : Rat) : eqD (rD p) (rD q) = decide (p = q) := by
  simp only [eqD, eqDs, Bool.and_true]
  rw [Bool.eq_iff_iff]
  simp only [Bool.and_eq_true, beq_iff_eq, decide_eq_true_eq]
  constructor
  · rintro ⟨h1, h2⟩
    exact Rat.ext h1 (by omega)
  · rintro rfl
    exact ⟨rfl, rfl⟩
theorem EqOk_rD (p q : Rat) : EqOk (rD p) (rD q) = True := by
  simp only [EqOk, plain, plains, dep, deps]
  simp
/-- the fraction of such data -/
def ofD : D → Rat
  | .tup [.int n, .int m] => Rat.divInt n m
  | _ => 0
theorem ofD_rD (q : Rat) : ofD (rD q) = q := Rat.num_divInt_den q
def sp_shares_by : FS := fun ds Q E => ∃ (qs : List Rat) (m : Rat), ds = [.lst (qs.map rD), rD m] ∧ (∀ q ∈ qs, Bd 100 q) ∧ qs.length ≤ 12 ∧ Bd 100 m ∧ Q (.tup (qs.map fun q => rD (q * if qs.sum = 0 then 0 else m / qs.sum)))
def sp_by_rule (T : Str → Option FS) : FS := fun ds Q E => ∃ (y : Str) (a b : D) (sp : FS), ds = [.str y, a, b] ∧ T y = some sp ∧ sp [a, b] Q E
def sp_awards_of (C : Addr) (T : Str → Option FS) : FS := fun ds Q E => ∃ ns cs m y sp, ds = [purseD C ns cs m, .str y] ∧ cs.length ≤ 100 ∧ T y = some sp ∧ sp [.lst (cs.map fun (c : Int) => rD (c : Rat)), rD (m : Rat)] Q E
def sp_awards_by (C : Addr) (T : Str → Option FS) : FS := fun ds Q E => ∃ ns cs m y sp, ds = [purseD C ns cs m, .str y] ∧ cs.length ≤ 100 ∧ inD (.str y) rulesD = true ∧ T y = some sp ∧ sp [.lst (cs.map fun (c : Int) => rD (c : Rat)), rD (m : Rat)] Q E
/-- the promises of the rules by their names -/
abbrev RuleT := List (Str × FS)
def RuleT.get (r : RuleT) : Str → Option FS := fun y => r.lookup y

/-! ### what the law's helpers promise -/
/-- a draw: any number below the limit -/
def sp_draw (Wl : Addr → Prop) : FS := fun ds Q E => ∃ (a : Addr) (l : Int), ds = [.obj a, .int l] ∧ Wl a ∧ 0 < l ∧ l < 1073741824 ∧ ∀ r : Int, 0 ≤ r → r < l → Q (.int r)
/-- the items that may be drawn -/
def itemsD : D → Option (List D)
  | .tup ds => some ds
  | .lst ds => some ds
  | .str x => if x.length ≤ 1000 then some (signs x) else none
  | _ => none
def sp_of (Wl : Addr → Prop) : FS := fun ds Q E => ∃ (a : Addr) (d : D) (xs : List D), ds = [.obj a, d] ∧ Wl a ∧ itemsD d = some xs ∧ 0 < xs.length ∧ xs.length ≤ 100000 ∧ ∀ x ∈ xs, Q x
end DL

/-! DLaw: what a law's helpers promise: words, names, purses, awards. -/
namespace DL
open PySem PySem.Spec PyProof.Rows L2
theorem len_items {d : D} {xs : List D} (h : itemsD d = some xs) (Q : D → Prop) (E : DX → Prop) : mLen d Q E = Q (.int xs.length) := by
  cases d with
  | tup ds => cases h; rfl
  | lst ds => cases h; rfl
  | str x =>
    have h : (if x.length ≤ 1000 then some (signs x) else none) = some xs := h
    by_cases hx : x.length ≤ 1000
    · rw [if_pos hx] at h
      cases h
      have e : (signs x).length = x.length := by unfold signs; rw [List.length_map, Array.length_toList]; rfl
      show (x.length ≤ sizeLine ∧ Q (.int x.length)) = _
      rw [e, sizeLine_eq, eq_iff_iff]
      exact ⟨fun z => z.2, fun z => ⟨by omega, z⟩⟩
    · rw [if_neg hx] at h; cases h
  | _ => cases h
theorem atI_nat {α : Type} {xs : List α} {r : Int} (h0 : 0 ≤ r) (h1 : r < xs.length) : ∃ x, x ∈ xs ∧ xs[r.toNat]? = some x ∧ atI xs r = some x := by
  have hi : r.toNat < xs.length := by omega
  refine ⟨xs[r.toNat], List.getElem_mem hi, List.getElem?_eq_getElem hi, ?_⟩
  unfold atI ixN
  rw [if_pos h0, if_pos h1]
  exact List.getElem?_eq_getElem hi
theorem ix_items {d : D} {xs : List D} (h : itemsD d = some xs) {r : Int} (h0 : 0 ≤ r) (h1 : r < xs.length) {Q : D → Prop} {E : DX → Prop} (k : ∀ x ∈ xs, Q x) : mIx d (.int r) Q E := by
  cases d with
  | tup ds =>
    cases h
    obtain ⟨x, hm, _, e⟩ := atI_nat h0 h1
    show (match atI _ r with | some d => Q d | none => False)
    rw [e]
    exact k x hm
  | lst ds =>
    cases h
    obtain ⟨x, hm, _, e⟩ := atI_nat h0 h1
    show (match atI _ r with | some d => Q d | none => False)
    rw [e]
    exact k x hm
  | str x =>
    have h : (if x.length ≤ 1000 then some (signs x) else none) = some xs := h
    by_cases hx : x.length ≤ 1000
    · rw [if_pos hx] at h
      cases h
      have e : (signs x).length = x.cps.toList.length := by unfold signs; rw [List.length_map]
      rw [e] at h1
      obtain ⟨c, hm, _, e⟩ := atI_nat h0 h1
      show x.length ≤ sizeLine ∧ (match atI x.cps.toList r with | some c => Q (.str ⟨#[c]⟩) | none => False)
      rw [e, sizeLine_eq]
      exact ⟨by omega, k _ (List.mem_map.mpr ⟨c, hm, rfl⟩)⟩
    · rw [if_neg hx] at h; cases h
  | _ => cases h
theorem lcW_some {mg : D → (DEnv → Prop) → DEnv → Prop} {me : DEnv → M D} {ρ : DEnv} {P : D → D → Prop} {Q : List D → Prop} : ∀ (items acc : List D), (∀ d ∈ items, ∀ k : D → Prop, (∀ y, P d y → k y) → mg d (fun ρ' => me ρ' k fun _ => False) ρ) → (∀ ys : List D, ys.length = items.length → (∀ (i : Nat) (d y : D), items[i]? = some d → ys[i]? = some y → P d y) → Q (acc ++ ys)) →
    lcW mg (fun _ => DL.ret true) me ρ acc items Q
  | [], acc, _, hq => by
    have := hq [] rfl (fun i d y h => by simp at h)
    simpa [lcW] using this
  | d :: r, acc, h, hq => by
    have go : ∀ y, P d y → lcW mg (fun _ => DL.ret true) me ρ (acc ++ [y]) r Q := fun y hy => lcW_some (P := P) r (acc ++ [y]) (fun d hd => h d (List.mem_cons_of_mem _ hd)) fun ys hl hp => by
      have := hq (y :: ys) (by simp [hl]) fun i d' y' e1 e2 => by
        cases i with
        | zero =>
          simp only [List.getElem?_cons_zero] at e1 e2
          cases e1
          cases e2
          exact hy
        | succ i => exact hp i d' y' (by simpa using e1) (by simpa using e2)
      simpa using this
    have := h d List.mem_cons_self (fun v => lcW mg (fun _ => DL.ret true) me ρ (acc ++ [v]) r Q) go
    unfold lcW
    simpa [DL.ret] using this
theorem rangeD_get {lo : Int} {n i : Nat} (h : i < n) : (rangeD lo n)[i]? = some (.int (lo + (i : Int))) := by
  unfold rangeD
  rw [List.getElem?_map, List.getElem?_range h]
  rfl
theorem all_flat_strs : ∀ {xs : List Str}, (xs.map D.str).all isFlat = true
  | [] => rfl
  | x :: r => by rw [List.map_cons, List.all_cons, all_flat_strs]; rfl
theorem wordOk_nil : WordOk "" := fun c hc => by
  have e : ("" : Str).cps.toList = [] := rfl
  rw [e] at hc
  exact (List.not_mem_nil hc).elim
/-- one statement at a time -/
theorem seqI {m n : MS} {κ : DK} {E : DX → Prop} {ρ : DEnv} (h : ∀ N : DEnv → Prop, (∀ ρ', n κ E ρ' → N ρ') → m { κ with nx := N } E ρ) : mSeq m n κ E ρ := h _ fun _ h => h
def sp_words (ws : List Str) : FS := fun ds Q E => ds = [] ∧ Q (.lst (ws.map D.str))
theorem inD_strs {x : Str} : ∀ {ws : List Str}, inD (.str x) (ws.map D.str) = decide (x ∈ ws)
  | [] => rfl
  | w :: r => by
    have ih := inD_strs (x := x) (ws := r)
    unfold inD at *
    rw [List.map_cons, List.any_cons, ih]
    have e : eqD (.str w) (.str x) = decide (x = w) := by
      unfold eqD
      rw [Bool.eq_iff_iff, beq_iff_eq, decide_eq_true_iff, eq_comm]
    first
    | rw [e, Bool.eq_iff_iff]; simp [List.mem_cons]; done
    | trace_state; skip

/-! ### names made -/
theorem toList_app (x y : Str) : (x ++ y).cps.toList = x.cps.toList ++ y.cps.toList := Array.toList_append
theorem str_len (x : Str) : x.length = x.cps.toList.length := (Array.length_toList).symm
theorem WordOk.app {x y : Str} (hx : WordOk x) (hy : WordOk y) : WordOk (x ++ y) := fun c hc => by
  rw [toList_app] at hc
  exact (List.mem_append.mp hc).elim (hx c) (hy c)
theorem len_app (x y : Str) : (x ++ y).length = x.length + y.length := by
  rw [str_len, str_len, str_len, toList_app, List.length_append]
theorem cut_front (x : Str) {k : Nat} (h : k ≤ x.length) : (cutS x none (some (k : Int))).cps.toList = x.cps.toList.take k := by
  unfold cutS
  rw [HT.sIx_none, HT.sIx_nat, List.drop_zero, Nat.sub_zero, Nat.min_eq_left h]
theorem cut_back (x : Str) {k : Nat} (h : k ≤ x.length) : (cutS x (some (k : Int)) none).cps.toList = x.cps.toList.drop k := by
  unfold cutS
  rw [HT.sIx_none, HT.sIx_nat, Nat.min_eq_left h]
  show ((x.cps.toList.drop k).take (x.length - k)) = _
  rw [List.take_of_length_le]
  rw [List.length_drop, ← str_len]
  exact Nat.le_refl _
/-- the letter of a turn -/
abbrev let1 (i : Nat) : Str := ⟨#[97 + i]⟩
theorem let_ok {i : Nat} (h : i < 26) : WordOk (let1 i) := fun c hc => by
  have : c = 97 + i := by simpa [let1] using hc
  subst this
  simp [lowerB]; omega
/-- x[:k] + letter + x[k:] -/
abbrev putIn (x : Str) (k i : Nat) : Str := cutS x none (some (k : Int)) ++ let1 i ++ cutS x (some (k : Int)) none
theorem putIn_len {x : Str} {k : Nat} (i : Nat) (h : k ≤ x.length) : (putIn x k i).length = x.length + 1 := by
  rw [str_len, toList_app, toList_app, cut_front x h, cut_back x h, List.length_append, List.length_append, List.length_take, List.length_drop, str_len x]
  rw [str_len] at h
  show min k _ + 1 + _ = _
  omega
theorem putIn_ok {x : Str} {k i : Nat} (h : k ≤ x.length) (hi : i < 26) (hx : WordOk x) : WordOk (putIn x k i) := fun c hc => by
  rw [toList_app, toList_app, cut_front x h, cut_back x h] at hc
  rcases List.mem_append.mp hc with hc | hc
  · rcases List.mem_append.mp hc with hc | hc
    · exact hx c (List.mem_of_mem_take hc)
    · exact let_ok hi c hc
  · exact hx c (List.mem_of_mem_drop hc)
theorem putIn_mem {x : Str} {k : Nat} (i : Nat) (h : k ≤ x.length) : 97 + i ∈ (putIn x k i).cps.toList := by
  rw [toList_app, toList_app]
  exact List.mem_append.mpr (.inl (List.mem_append.mpr (.inr (by simp [let1]))))
/-- the names found so far -/
structure Found (fs : List Str) : Prop where
  ok : ∀ x ∈ fs, NameOk x
  has : ∀ (i : Nat) x, fs[i]? = some x → 97 + i ∈ x.cps.toList
  nd : fs.Nodup
theorem Found.nil : Found [] := ⟨fun _ h => (List.not_mem_nil h).elim, fun _ _ h => by simp at h, List.nodup_nil⟩
theorem Found.add {fs : List Str} {x : Str} (h : Found fs) (hx : NameOk x) (hc : 97 + fs.length ∈ x.cps.toList) (hn : x ∉ fs) : Found (fs ++ [x]) := by
  refine ⟨fun y hy => ?_, fun i y e => ?_, ?_⟩
  · rcases List.mem_append.mp hy with hy | hy
    · exact h.ok y hy
    · rw [List.mem_singleton.mp hy]; exact hx
  · by_cases hi : i < fs.length
    · rw [List.getElem?_append_left hi] at e
      exact h.has i y e
    · rw [List.getElem?_append_right (by omega)] at e
      have : i - fs.length = 0 := by
        have := (List.getElem?_eq_some_iff.mp e).1
        simp at this
        omega
      rw [this] at e
      cases e
      rw [show i = fs.length by omega]
      exact hc
  · rw [List.nodup_append]
    exact ⟨h.nd, List.pairwise_singleton _ _, fun a ha b hb e => hn (by rw [← List.mem_singleton.mp hb, ← e]; exact ha)⟩
/-- the letter eight times -/
abbrev let8 (i : Nat) : Str := strRep (let1 i) 8
theorem let8_eq (i : Nat) : (let8 i).cps.toList = List.replicate 8 (97 + i) := by
  simp [strRep, List.replicate]
theorem let8_ok {i : Nat} (h : i < 6) : NameOk (let8 i) := by
  refine ⟨fun c hc => ?_, ?_, ?_, ?_⟩
  · rw [let8_eq] at hc
    rw [(List.mem_replicate.mp hc).2]
    simp [lowerB]; omega
  · rw [str_len, let8_eq, List.length_replicate]; decide
  · rw [str_len, let8_eq, List.length_replicate]; decide
  · have : i = 0 ∨ i = 1 ∨ i = 2 ∨ i = 3 ∨ i = 4 ∨ i = 5 := by omega
    rcases this with rfl | rfl | rfl | rfl | rfl | rfl <;> decide +kernel
theorem Found.new8 {fs : List Str} (h : Found fs) (hl : fs.length < 6) : Found (fs ++ [let8 fs.length]) := by
  refine h.add (let8_ok hl) (by rw [let8_eq]; simp) fun hm => ?_
  obtain ⟨i, hi, e⟩ := List.getElem_of_mem hm
  have := h.has i _ (List.getElem?_eq_getElem hi)
  rw [e, let8_eq] at this
  have := (List.mem_replicate.mp this).2
  omega
/-- what stands at a place of the letters -/
theorem let_at {i : Nat} (h : i < 6) : atI LET.cps.toList (0 + (i : Int)) = some (97 + i) := by
  have : i = 0 ∨ i = 1 ∨ i = 2 ∨ i = 3 ∨ i = 4 ∨ i = 5 := by omega
  rcases this with rfl | rfl | rfl | rfl | rfl | rfl <;> decide +kernel
theorem sign_ok {d : D} (h : d ∈ signs LET) : ∃ x : Str, d = .str x ∧ WordOk x ∧ x.length = 1 := by
  obtain ⟨c, hc, rfl⟩ := signs_mem h
  refine ⟨_, rfl, fun u hu => ?_, rfl⟩
  have : u = c := by simpa using hu
  subst this
  have hall : (LET.cps.toList.all lowerB) = true := by decide +kernel
  exact List.all_eq_true.mp hall u hc
/-! ### sorted names -/
theorem lt_of_not {x p : Str} (h : strLt x p = false) (hn : p ≠ x) : strLt p x = true := by
  simp only [decide_eq_false_iff_not, decide_eq_true_eq] at *
  rcases Std.lt_trichotomy (α := List Nat) p.cps.toList x.cps.toList with h' | h' | h'
  · exact h'
  · exact absurd (by cases p; cases x; simp only [Str.mk.injEq]; exact Array.toList_inj.mp h') hn
  · exact absurd h' h
theorem lt_tr {x y u : Str} (h : strLt x y = true) (h' : strLt y u = true) : strLt x u = true := by
  simp only [decide_eq_true_eq] at *
  exact List.lt_trans h h'
theorem rising_lt : ∀ (l : List Str) (p : Str), risingS p l = true → (p :: l).Nodup → (p :: l).Pairwise fun x y => strLt x y = true
  | [], p, _, _ => List.pairwise_singleton _ _
  | x :: r, p, h, hn => by
    simp only [risingS, Bool.and_eq_true, Bool.not_eq_true', ltCps_eq] at h
    have hn' := List.nodup_cons.mp hn
    have ih := rising_lt r x h.2 hn'.2
    have hpx : strLt p x = true := lt_of_not h.1 fun e => hn'.1 (by rw [e]; exact List.mem_cons_self)
    refine List.pairwise_cons.mpr ⟨fun y hy => ?_, ih⟩
    rcases List.mem_cons.mp hy with rfl | hm
    · exact hpx
    · exact lt_tr hpx ((List.pairwise_cons.mp ih).1 y hm)
theorem sorted_lt {l : List Str} (h : sortedS l = true) (hn : l.Nodup) : l.Pairwise fun x y => strLt x y = true := by
  cases l with
  | nil => exact List.Pairwise.nil
  | cons x r => exact rising_lt r x h hn
theorem Found.people {fs ns : List Str} (h : Found fs) (h1 : 1 ≤ fs.length) (h6 : fs.length ≤ 6) (hp : ns.Perm fs) (hs : sortedS ns = true) : PeopleOk ns :=
  ⟨by rw [hp.length_eq]; exact h1, by rw [hp.length_eq]; exact h6, fun x hx => h.ok x (hp.mem_iff.mp hx), sorted_lt hs (hp.nodup_iff.mpr h.nd)⟩
def sp_names (Wl : Addr → Prop) : FS := fun ds Q E => ∃ (a : Addr) (n : Nat), ds = [.obj a, .int n] ∧ Wl a ∧ 1 ≤ n ∧ n ≤ 6 ∧ ∀ ns : List Str, PeopleOk ns → ns.length = n → Q (.ptup (ns.map D.str))
def wordsS : List Str := ["all", "award", "book", "case", "claim", "class", "deal", "even", "game", "halves", "in", "losses", "none", "of", "open", "orders", "out", "pay", "people", "purse", "quit", "rank", "rule", "shares", "strike", "undo", "yes"]
theorem wordsD_eq : wordsD = wordsS.map D.str := rfl
theorem no_word {x : Str} {ws own : List Str} (hall : (wordsS.all fun u => decide (u ∈ ws) || decide (u ∈ own)) = true) (h1 : inD (.str x) (ws.map D.str) = false) (h2 : inD (.str x) (own.map D.str) = false) : inD (.str x) wordsD = false := by
  rw [wordsD_eq, inD_strs, decide_eq_false_iff_not]
  rw [inD_strs, decide_eq_false_iff_not] at h1 h2
  intro hm
  have := List.all_eq_true.mp hall x hm
  simp only [Bool.or_eq_true, decide_eq_true_eq] at this
  exact this.elim h1 h2
/-! ### purses made -/
def sp_lawpurse (Wl : Addr → Prop) : FS := fun ds Q E => ∃ (a : Addr) (n : Nat), ds = [.obj a, .int n] ∧ Wl a ∧ 1 ≤ n ∧ n ≤ 6 ∧ ∀ (ns : List Str) (cs : List Int) (m : Int), PurseOk ns cs m → ns.length = n → Q (partsD ns cs m)
def sp_made (C : Addr) : FS := fun ds Q E => ∃ ns cs m, ds = [partsD ns cs m] ∧ PurseOk ns cs m ∧ Q (purseD C ns cs m)
end DL

/-! DShare: awards by shares; what the law's looks promise. -/
namespace DL
open PySem PySem.Spec PyProof.Rows L2
theorem ints_all {P : Int → Prop} : ∀ {ys : List D}, (∀ y ∈ ys, ∃ c : Int, y = .int c ∧ P c) → ∃ cs : List Int, ys = cs.map D.int ∧ ∀ c ∈ cs, P c
  | [], _ => ⟨[], rfl, fun _ h => (List.not_mem_nil h).elim⟩
  | y :: r, h => by
    obtain ⟨c, rfl, hc⟩ := h y List.mem_cons_self
    obtain ⟨cs, rfl, hcs⟩ := ints_all fun z hz => h z (List.mem_cons_of_mem _ hz)
    refine ⟨c :: cs, rfl, fun x hx => ?_⟩
    rcases List.mem_cons.mp hx with rfl | hm
    · exact hc
    · exact hcs x hm
theorem sum_bound {b : Int} : ∀ {cs : List Int}, (∀ c ∈ cs, 0 ≤ c ∧ c ≤ b) → 0 ≤ cs.sum ∧ cs.sum ≤ cs.length * b
  | [], _ => by simp
  | c :: r, h => by
    have h1 := sum_bound fun x hx => h x (List.mem_cons_of_mem _ hx)
    have h2 := h c List.mem_cons_self
    rw [List.sum_cons, List.length_cons, Int.natCast_add, Int.add_mul]
    omega
theorem eqOk_int {a b : Int} : EqOk (.int a) (.int b) := by simp [EqOk, plain, dep]
theorem eqOk_str {a b : Str} : EqOk (.str a) (.str b) := by simp [EqOk]
theorem str_ne {a b : Str} (h : a ≠ b) : eqD (.str a) (.str b) = false := by
  unfold eqD
  exact beq_eq_false_iff_ne.mpr h
theorem str_eq {a b : Str} (h : a = b) : eqD (.str a) (.str b) = true := by
  unfold eqD
  exact beq_iff_eq.mpr h
/-! ### what the law's looks promise -/
def sp_is_row : FS := fun ds Q E => ∃ (xs : List D) (a b : Int), ds = [.tup xs, .int a, .int b] ∧ Q (.bl (decide (a ≤ (xs.length : Int) ∧ (xs.length : Int) ≤ b)))
def sp_is_frac : FS := fun ds Q E => ∃ q : Rat, ds = [rD q] ∧ Bd 2000 q ∧ Q (.bl true)
abbrev rats (cs : List Int) : List Rat := cs.map fun (c : Int) => (c : Rat)
/-- the awards by shares -/
def shareOf (cs : List Int) (m : Int) : List Rat := cs.map fun (c : Int) => if 0 < (rats cs).sum then (c : Rat) * (m : Rat) / (rats cs).sum else 0
theorem rats_sum : ∀ cs : List Int, (rats cs).sum = ((cs.sum : Int) : Rat)
  | [] => rfl
  | c :: r => by
    rw [show rats (c :: r) = (c : Rat) :: rats r from rfl, List.sum_cons, List.sum_cons, rats_sum r, Rat.intCast_add]
theorem sum_mulR (k : Rat) : ∀ l : List Rat, (l.map fun x => x * k).sum = l.sum * k
  | [] => by simp
  | x :: r => by rw [List.map_cons, List.sum_cons, List.sum_cons, sum_mulR k r, Rat.add_mul]
theorem cpos {i : Int} : (0 : Rat) < (i : Rat) ↔ 0 < i := by
  rw [show (0 : Rat) = ((0 : Int) : Rat) from rfl, Rat.intCast_lt_intCast]
theorem cnn {i : Int} : (0 : Rat) ≤ (i : Rat) ↔ 0 ≤ i := by
  rw [show (0 : Rat) = ((0 : Int) : Rat) from rfl, Rat.intCast_le_intCast]
theorem shareOf_eq (cs : List Int) (m : Int) : shareOf cs m = (rats cs).map fun q => q * (if 0 < cs.sum then (m : Rat) / (cs.sum : Int) else 0) := by
  unfold shareOf rats
  rw [List.map_map]
  refine List.map_congr_left fun c _ => ?_
  simp only [Function.comp]
  have e := rats_sum cs
  unfold rats at e
  rw [e]
  by_cases h : 0 < cs.sum
  · rw [if_pos (cpos.mpr h), if_pos h, Rat.div_def, Rat.div_def, Rat.mul_assoc]
  · rw [if_neg (fun z => h (cpos.mp z)), if_neg h, Rat.mul_zero]
theorem sum_nn : ∀ {cs : List Int}, (∀ c ∈ cs, 0 ≤ c) → 0 ≤ cs.sum
  | [], _ => by simp
  | c :: r, h => by
    have := sum_nn fun x hx => h x (List.mem_cons_of_mem _ hx)
    have := h c List.mem_cons_self
    rw [List.sum_cons]; omega
theorem sum_zero : ∀ {cs : List Int}, (∀ c ∈ cs, 0 ≤ c) → cs.sum ≤ 0 → ∀ c ∈ cs, c = 0
  | [], _, _, c, hc => (List.not_mem_nil hc).elim
  | c :: r, h, hs, x, hx => by
    have h1 := sum_nn fun x hx => h x (List.mem_cons_of_mem _ hx)
    have h2 := h c List.mem_cons_self
    rw [List.sum_cons] at hs
    rcases List.mem_cons.mp hx with rfl | hm
    · omega
    · exact sum_zero (fun x hx => h x (List.mem_cons_of_mem _ hx)) (by omega) x hm
theorem shareOf_sum {cs : List Int} {m : Int} (m0 : 0 ≤ m) (m1 : m ≤ cs.sum) : (shareOf cs m).sum = (m : Rat) := by
  rw [shareOf_eq, sum_mulR, rats_sum]
  by_cases h : 0 < cs.sum
  · rw [if_pos h, Rat.mul_comm, Rat.div_mul_cancel (Rat.ne_of_gt (cpos.mpr h))]
  · rw [if_neg h, Rat.mul_zero, show m = 0 by omega]
    rfl
theorem share_le {c m s : Int} (h : 0 < s) (hc : 0 ≤ c) (m0 : 0 ≤ m) (m1 : m ≤ s) : 0 ≤ (c : Rat) * ((m : Rat) / (s : Rat)) ∧ (c : Rat) * ((m : Rat) / (s : Rat)) ≤ c := by
  have hs := cpos.mpr h
  have hq : (m : Rat) / s * s = m := Rat.div_mul_cancel (Rat.ne_of_gt hs)
  have h1 : 0 ≤ (m : Rat) / s := by
    refine Rat.not_lt.mp fun hn => ?_
    have := (Rat.div_lt_iff hs).mp hn
    rw [Rat.zero_mul] at this
    exact Rat.not_le.mpr this (cnn.mpr m0)
  have h2 : (m : Rat) / s ≤ 1 := by
    refine Rat.not_lt.mp fun hn => ?_
    have := (Rat.lt_div_iff hs).mp hn
    rw [Rat.one_mul] at this
    exact Rat.not_le.mpr this (Rat.intCast_le_intCast.mpr m1)
  refine ⟨Rat.mul_nonneg (cnn.mpr hc) h1, ?_⟩
  have := Rat.mul_le_mul_of_nonneg_left h2 (cnn.mpr hc)
  rwa [Rat.mul_one] at this
theorem shareOf_get {cs : List Int} {m : Int} {i : Nat} {c : Int} {q : Rat} (e1 : cs[i]? = some c) (e2 : (shareOf cs m)[i]? = some q) : q = (c : Rat) * (if 0 < cs.sum then (m : Rat) / (cs.sum : Int) else 0) := by
  rw [shareOf_eq, List.getElem?_map, List.getElem?_map, e1] at e2
  exact (Option.some.inj e2).symm
theorem shareOf_in {cs : List Int} {m : Int} (h0 : ∀ c ∈ cs, 0 ≤ c) (m0 : 0 ≤ m) (m1 : m ≤ cs.sum) (i : Nat) (c : Int) (q : Rat) (e1 : cs[i]? = some c) (e2 : (shareOf cs m)[i]? = some q) : 0 ≤ q ∧ q ≤ (c : Rat) := by
  rw [shareOf_get e1 e2]
  have hc := h0 c (List.mem_of_getElem? e1)
  by_cases h : 0 < cs.sum
  · rw [if_pos h]
    exact share_le h hc m0 m1
  · rw [if_neg h, Rat.mul_zero]
    exact ⟨Rat.le_refl, cnn.mpr hc⟩
theorem shareOf_length (cs : List Int) (m : Int) : (shareOf cs m).length = cs.length := List.length_map _
theorem sum_double : ∀ cs : List Int, (cs.map fun c => 2 * c).sum = 2 * cs.sum
  | [] => rfl
  | c :: r => by rw [List.map_cons, List.sum_cons, List.sum_cons, sum_double r]; omega
theorem shareOf_double (cs : List Int) (m : Int) : shareOf (cs.map fun c => 2 * c) (2 * m) = (shareOf cs m).map fun q => 2 * q := by
  rw [shareOf_eq, shareOf_eq, sum_double]
  unfold rats
  simp only [List.map_map]
  refine List.map_congr_left fun c _ => ?_
  simp only [Function.comp]
  by_cases h : 0 < cs.sum
  · rw [if_pos (show 0 < 2 * cs.sum by omega), if_pos h, Rat.intCast_mul, Rat.intCast_mul, Rat.intCast_mul]
    have h2 := cpos.mpr h
    generalize ((cs.sum : Int) : Rat) = s at h2
    have hs : s ≠ 0 := Rat.ne_of_gt h2
    generalize (m : Rat) = a
    generalize (c : Rat) = b
    rw [Rat.mul_assoc]
    congr 1
    congr 1
    rw [Rat.div_def, Rat.inv_mul_rev, Rat.div_def]
    rw [show ((2 : Int) : Rat) * a * (s⁻¹ * ((2 : Int) : Rat)⁻¹) = (((2 : Int) : Rat) * ((2 : Int) : Rat)⁻¹) * (a * s⁻¹) by grind]
    rw [Rat.mul_inv_cancel _ (by decide), Rat.one_mul]
  · rw [if_neg (show ¬ 0 < 2 * cs.sum by omega), if_neg h, Rat.mul_zero, Rat.mul_zero, Rat.mul_zero]
/-- the law's own sum by whole numbers -/
theorem share_frac {c m s : Int} : Rat.divInt (c * m) s = (c : Rat) * ((m : Rat) / (s : Rat)) := by
  rw [Rat.divInt_eq_div, Rat.intCast_mul, Rat.div_def, Rat.div_def, Rat.mul_assoc]

theorem Bd.of_int {c : Int} (h : c.natAbs < 2 ^ 100) : Bd 100 (c : Rat) := Bd.int h (by decide)
theorem rats_bd {cs : List Int} (h : ∀ c ∈ cs, 0 ≤ c ∧ c ≤ 1000) : ∀ q ∈ rats cs, Bd 100 q := fun q hq => by
  obtain ⟨c, hc, rfl⟩ := List.mem_map.mp hq
  have := h c hc
  exact Bd.of_int (by omega)
theorem shareOf_bd {cs : List Int} {m : Int} (hc : ∀ c ∈ cs, 0 ≤ c ∧ c ≤ 1000) (hn : cs.length ≤ 6) (h0 : 0 ≤ m) (h1 : m ≤ 10000) : ∀ q ∈ shareOf cs m, Bd 100 q := fun q hq => by
  obtain ⟨c, hc', rfl⟩ := List.mem_map.mp hq
  have hs := sum_bound hc
  have b1 : Bd 20 (c : Rat) := Bd.int (by have := hc c hc'; omega) (by decide)
  have b2 : Bd 20 (m : Rat) := Bd.int (by omega) (by decide)
  have b3 : Bd 20 ((cs.sum : Int) : Rat) := Bd.int (by omega) (by decide)
  rw [rats_sum]
  by_cases h : (0 : Rat) < ((cs.sum : Int) : Rat)
  · rw [if_pos h]
    exact (Bd.div (Rat.ne_of_gt h) (b1.mul b2) b3).mono (by decide)
  · rw [if_neg h]
    exact Bd.zero (by decide)
/-- what the program's rule gives -/
theorem shares_eq {cs : List Int} {m : Int} (h0 : ∀ c ∈ cs, 0 ≤ c) : ((rats cs).map fun q => rD (q * if (rats cs).sum = 0 then 0 else (m : Rat) / (rats cs).sum)) = (shareOf cs m).map rD := by
  rw [shareOf_eq, rats_sum]
  simp only [List.map_map]
  refine List.map_congr_left fun c _ => ?_
  simp only [Function.comp]
  have hs := sum_nn h0
  by_cases h : 0 < cs.sum
  · rw [if_pos h, if_neg (Rat.ne_of_gt (cpos.mpr h))]
  · rw [if_neg h, show cs.sum = 0 by omega]
    rfl
def sp_dealt : FS := fun ds Q E => ∃ (cs : List Int) (m : Int), ds = [.lst (cs.map fun (c : Int) => rD (c : Rat)), rD (m : Rat), .str "shares"] ∧ (∀ c ∈ cs, 0 ≤ c ∧ c ≤ 1000) ∧ cs.length ≤ 6 ∧ (0 ≤ m ∧ m ≤ 10000) ∧ Q (.lst ((shareOf cs m).map rD))
def sp_lawawards : FS := fun ds Q E => ∃ ns cs m, ds = [partsD ns cs m, .str "shares"] ∧ PurseOk ns cs m ∧ Q (.tup ((shareOf cs m).map rD))
def sp_are_awards : FS := fun ds Q E => ∃ (ns : List Str) (cs : List Int) (m : Int) (qs : List Rat), ds = [partsD ns cs m, .tup (qs.map rD)] ∧ PurseOk ns cs m ∧ qs.length = ns.length ∧ (∀ q ∈ qs, Bd 100 q) ∧ (∀ (i : Nat) (c : Int) (q : Rat), cs[i]? = some c → qs[i]? = some q → 0 ≤ q ∧ q ≤ (c : Rat)) ∧ qs.sum = (m : Rat) ∧ Q (.bl true)
theorem num_pos' {q : Rat} (h : 0 < q.num) : 0 < q := by
  rw [Rat.lt_iff]
  simpa using h
theorem rangeD_len {lo : Int} {n : Nat} : (rangeD lo n).length = n := by simp [rangeD]
theorem rangeD_mem {lo : Int} {n : Nat} {d : D} (h : d ∈ rangeD lo n) : ∃ i, i < n ∧ d = .int (lo + (i : Int)) := by
  unfold rangeD at h
  obtain ⟨i, hi, e⟩ := List.mem_map.mp h
  exact ⟨i, List.mem_range.mp hi, e.symm⟩
theorem atI_map {α : Type} {f : α → D} {xs : List α} {i : Nat} {x : α} (h : xs[i]? = some x) : atI (xs.map f) (0 + (i : Int)) = some (f x) := by
  have hi := (List.getElem?_eq_some_iff.mp h).1
  unfold atI ixN
  rw [if_pos (by omega), List.length_map, if_pos (by omega)]
  show (xs.map f)[((0 : Int) + (i : Int)).toNat]? = _
  rw [show ((0 : Int) + (i : Int)).toNat = i by omega, List.getElem?_map, h]
  rfl
theorem fmod_lo {a b : Int} (h : 0 < b) : 0 ≤ a.fmod b := by rw [Int.fmod_eq_emod_of_nonneg _ (by omega)]; exact Int.emod_nonneg _ (by omega)
theorem fmod_hi {a b : Int} (h : 0 < b) : a.fmod b < b := by rw [Int.fmod_eq_emod_of_nonneg _ (by omega)]; exact Int.emod_lt_of_pos _ h
theorem eqOk_nil : EqOk (.lst []) (.lst []) := by simp [EqOk, plain, plains, dep, deps]
theorem eqD_nil : eqD (.lst []) (.lst []) = true := by simp [eqD, eqDs]
/-! ### the same -/
/-- a value of texts, numbers, truths and None in tuples, d deep -/
def PT : Nat → D → Prop
  | _, .non => True
  | _, .bl _ => True
  | _, .int _ => True
  | _, .str _ => True
  | d + 1, .tup xs => xs.length ≤ 1000 ∧ ∀ x ∈ xs, PT d x
  | _, _ => False
def sp_same (d : Nat) : FS := fun ds Q E => ∃ x, ds = [x, x] ∧ PT d x ∧ Q (.bl true)
/-- no item of a comprehension passes its condition -/
theorem lcW_none {mg : D → (DEnv → Prop) → DEnv → Prop} {mc : DEnv → M Bool} {me : DEnv → M D} {ρ : DEnv} {Q : List D → Prop} : ∀ (items acc : List D), (∀ d ∈ items, ∀ k : DEnv → Bool → Prop, (∀ ρ', k ρ' false) → mg d (fun ρ' => mc ρ' (k ρ') fun _ => False) ρ) → Q acc →
    lcW mg mc me ρ acc items Q
  | [], acc, _, hq => by simpa [lcW] using hq
  | d :: r, acc, h, hq => by
    have go : lcW mg mc me ρ acc r Q := lcW_none r acc (fun d hd => h d (List.mem_cons_of_mem _ hd)) hq
    unfold lcW
    exact h d List.mem_cons_self (fun ρ' b => if b = true then me ρ' (fun y => lcW mg mc me ρ (acc ++ [y]) r Q) (fun _ => False) else lcW mg mc me ρ acc r Q) fun ρ' => by rw [if_neg (by decide)]; exact go
end DL

/-! DScr: the script, held at an address that nothing changes; the wells that a law makes of it. -/
namespace DL
open PySem PySem.Spec PyProof.Rows L2
structure ScrJ (g : GG) (K : PySem.W.Frag) (a : Addr) (ns : List Int) : Prop where
  at_ : ∀ H, g.J H → SqL K H a (ns.map V.int)
section
variable {X : Cx} {z : Zc} {a : Addr} {ns : List Int}
theorem inv_obj {K : PySem.W.Frag} {U : Addr → Prop} {H : Hp} {v : V} (h : Rep K U H (.obj a) v) : v = .ref a := by simpa only [Rep] using h
abbrev mLenS (a : Addr) (ns : List Int) (d : D) : M D := fun Q _ => d = .obj a ∧ Q (.int ns.length)
theorem rmLenS (S : ScrJ z.g z.K a ns) : RMn z (rLenD z.K) (m1 (mLenS a ns)) := rmn1 fun U H d x Q Qd E gu hU j ra he h k => by
  obtain ⟨rfl, h⟩ := h
  refine .inl ⟨a, _, by rw [inv_obj ra], .inl (S.at_ H j), ?_⟩
  rw [List.length_map]
  exact k _ _ H h (Ext.refl H) j rep_int
abbrev mIxS (a : Addr) (ns : List Int) (x y : D) : M D := fun Q _ => x = .obj a ∧ match y with | .int i => (match atI ns i with | some v => Q (.int v) | none => False) | _ => False
theorem atI_ints {ns : List Int} {i v : Int} (h : atI ns i = some v) : atI (ns.map V.int) i = some (.int v) := by
  unfold atI at *
  rw [List.length_map]
  cases q : ixN ns.length i with
  | none => rw [q] at h; cases h
  | some j =>
    rw [q] at h
    have h : ns[j]? = some v := h
    show (ns.map V.int)[j]? = _
    rw [List.getElem?_map, h]
    rfl
theorem rmIxS (S : ScrJ z.g z.K a ns) : RM2 z (rIx z.K) (mIxS a ns) := fun U H d e x y Q Qd E gu hU j ra rb he h k => by
  obtain ⟨rfl, h⟩ := h
  cases e with
  | int i =>
    have h : (match atI ns i with | some v => Qd (.int v) | none => False) := h
    cases q : atI ns i with
    | none => rw [q] at h; exact h.elim
    | some v =>
      rw [q] at h
      exact .inl ⟨a, _, i, .int v, inv_obj ra, inv_int rb, S.at_ H j, atI_ints q, k _ _ H h (Ext.refl H) j rep_int⟩
  | _ => exact h.elim
variable {e b : Expr} {ta tb : TE} {ma mb : DEnv → M D} {pos p2 : Pos} {el eu : Option Expr} {tl th : TO} {ml mu : DEnv → M (Option Int)}
theorem de_ixS (S : ScrJ z.g z.K a ns) (hK : X.K = z.K) (ha : DE X z e ta ma) (hb : DE X z b tb mb) (hs : PlainIx b := by exact fun _ _ => rfl) : DE X z (.Subscript e b pos) (tOp (rIx z.K) ta tb) (fun ρ => bnd (ma ρ) fun x => bnd (mb ρ) fun y => mIxS a ns x y) :=
  ⟨by rw [← hK]; exact pe_ix ix_seq ha.pe hb.pe hs, tm_op (rmIxS S) ha.tm hb.tm⟩
abbrev mSlS (a : Addr) (ns : List Int) (x : D) (lo hi : Option Int) : M D := fun Q _ => x = .obj a ∧ Q (.lst ((cutD ns lo hi).map D.int))
theorem cut_ints (lo hi : Option Int) : cutV (ns.map V.int) lo hi = (cutD ns lo hi).map V.int := by
  unfold cutV cutD
  rw [List.length_map, List.map_take, List.map_drop]
theorem tm_sliceS (S : ScrJ z.g z.K a ns) (ha : TMe z ta ma) (hl : TMo z tl ml) (hu : TMo z th mu) : TMe z (tSl (rSlD z.K) ta tl th) (fun ρ => bnd (ma ρ) fun x => bnd (ml ρ) fun l => bnd (mu ρ) fun u => mSlS a ns x l u) := fun U σ H ρ Q Qd E w he h k =>
  ha U σ H ρ _ _ E w he h fun d v H1 h1 e1 j1 r1 => hl U σ H1 ρ _ _ E (w.step e1 j1) he h1 fun l H2 h2 e2 j2 => hu U σ H2 ρ _ _ E ((w.step e1 j1).step e2 j2) he h2 fun u H3 h3 e3 j3 => by
    have w3 := ((w.step e1 j1).step e2 j2).step e3 j3
    have r3 := (r1.ext e2 w.gu).ext e3 w.gu
    have e13 := (e1.trans e2).trans e3
    obtain ⟨rfl, h3⟩ := h3
    refine .inr (.inl ⟨a, _, inv_obj r3, S.at_ H3 j3, fun p hp => ?_⟩)
    rw [cut_ints]
    exact k _ _ _ h3 (e13.trans (Ext.new hp)) (z.g.new j3 hp) (rep_lst_new w3.dom hp reps_of_ints)
theorem de_sliceS (S : ScrJ z.g z.K a ns) (hK : X.K = z.K) (ha : DE X z e ta ma) (hl : DO X z el tl ml) (hu : DO X z eu th mu) : DE X z (.Subscript e (.Slice el eu none p2) pos) (tSl (rSlD z.K) ta tl th) (fun ρ => bnd (ma ρ) fun x => bnd (ml ρ) fun l => bnd (mu ρ) fun u => mSlS a ns x l u) :=
  ⟨by rw [← hK]; exact pe_slice slD ha.pe hl.pe hu.pe, tm_sliceS S ha.tm hl.tm hu.tm⟩
end
def sp_well (a : Addr) (ns : List Int) : FS := fun ds Q E => ∃ lap : Int, ds = [.obj a, .int lap] ∧ 0 ≤ lap ∧ lap ≤ 1000 ∧ ∀ x y u : Int, Q (.lst [.int x, .int y, .int u])
def sp_right (Wl : Addr → Prop) : FS := fun ds Q E => ∃ a : Addr, ds = [.obj a] ∧ Wl a ∧ Q (.bl true)
/-! ### many promises of one def -/
theorem fn_any {ι : Type} {P : Program} {w : World} {K : PySem.W.Frag} {mg : Str → Option Value} {base : Heap} {CX : CXT} {k : Nat} {f : Addr} {fd : FuncData} {ps : List Str} {sp : ι → Sp} (F : ∀ i, FnOk P w K mg base CX k f fd ps (sp i)) : FnOk P w K mg base CX k f fd ps (fun vs H Q E => ∃ i, sp i vs H Q E) :=
  ⟨fun vs H Q E ⟨i, h⟩ => (F i).len vs H Q E h, fun A outer s H args us vs Q E hr he hb hv ⟨i, h⟩ => (F i).run A outer s H args us vs Q E hr he hb hv h⟩
/-- a def called by keywords alone -/
theorem _root_.L2.Fun.kwb {K : PySem.W.Frag} {x qual : Str} {st : Stmt} {f : Addr} {fd : FuncData} {ps ks : List Str} {n : Nat} {is : List Nat} (F : Fun K x qual st f fd)
    (h : ∀ (kV doc pm : Value) (an : Option Addr) (cdv ct : Value) (us ws : List Value), us.length = n → ws.length = ks.length → bindArgs (PySem.W.fnOf x qual (defArgs st) (defBody st) (defScope st) .none kV doc pm an cdv ct) ⟨us, ks.zip ws⟩ = pure (ps.zip (us ++ permL is ws))) : KwB K fd ps ks n is := by
  obtain ⟨oc, od, kV, doc, pm, an, cdv, ct, osl, rfl, lk, hcd⟩ := F.ex
  exact fun s us ws _ h1 h2 => .of_eq (h kV doc pm an cdv ct us ws h1 h2)
/-- what holds as long as the script stands -/
def scrG (K : PySem.W.Frag) (H0 : Hp) (a : Addr) (ns : List Int) : GG where
  G := fun b => b = a ∧ Rd H0 a (.lst (ns.map V.int))
  J := fun H => Rd H0 a (.lst (ns.map V.int)) → Rd H a (.lst (ns.map V.int))
  dom := fun H b j ⟨e, r⟩ => by
    subst e
    rcases j r with h | ⟨o, h⟩ <;> rw [h] <;> simp
  st := fun H H' j k _ r => by
    have := k a ⟨rfl, r⟩
    unfold Rd
    rw [this]
    exact j r
theorem scrG_j {K : PySem.W.Frag} {H0 : Hp} {a : Addr} {ns : List Int} : (scrG K H0 a ns).J H0 := fun r => r
theorem scrG_s {K : PySem.W.Frag} {H0 : Hp} {a : Addr} {ns : List Int} (h : SqL K H0 a (ns.map V.int)) : ScrJ (scrG K H0 a ns) K a ns := ⟨fun H j => by
  rcases h with h | h
  · exact .inl (j h)
  · exact .inr h⟩
end DL

/-! DHead: the facts at a law's head: constants as data, classes, properties, the Hook. -/
namespace DL
open PySem PySem.Spec PyProof.Rows L2
/-! ### a module's constant as data -/
mutual
def dB (K : PySem.W.Frag) : D → Value → Bool
  | .non, .none => true
  | .bl b, .bool c => b == c
  | .int i, .int j _ => decide (i = j)
  | .str x, .str y _ => decide (x = y)
  | .tup ds, .ref a => (match K.lookup a with
    | some ⟨.type c, _, .seq its _, _⟩ => decide (c = "tuple") && (decide (its.size ≤ sizeLine) && dsB K ds its.toList)
    | _ => false)
  | _, _ => false
def dsB (K : PySem.W.Frag) : List D → List Value → Bool
  | [], [] => true
  | d :: ds, u :: us => dB K d u && dsB K ds us
  | _, _ => false
end
mutual
theorem dB_ok {K : PySem.W.Frag} : ∀ (d : D) (u : Value), dB K d u = true → ∃ v, RelV v u ∧ ∀ U H, Rep K U H d v
  | .non, u, h => by
    cases u with
    | none => exact ⟨.non, rfl, fun _ _ => rep_non⟩
    | _ => cases h
  | .bl b, u, h => by
    cases u with
    | bool c =>
      have e : b = c := eq_of_beq (show (b == c) = true from h)
      subst e
      exact ⟨.bl b, rfl, fun _ _ => rep_bl⟩
    | _ => cases h
  | .int i, u, h => by
    cases u with
    | int j t =>
      have e : i = j := of_decide_eq_true h
      subst e
      exact ⟨.int i, ⟨t, rfl⟩, fun _ _ => rep_int⟩
    | _ => cases h
  | .str x, u, h => by
    cases u with
    | str y t =>
      have e : x = y := of_decide_eq_true h
      subst e
      exact ⟨.str x, ⟨t, rfl⟩, fun _ _ => rep_str⟩
    | _ => cases h
  | .tup ds, u, h => by
    cases u with
    | ref a =>
      have h : (match K.lookup a with
        | some ⟨.type c, _, .seq its _, _⟩ => decide (c = "tuple") && (decide (its.size ≤ sizeLine) && dsB K ds its.toList)
        | _ => false) = true := h
      cases q : K.lookup a with
      | none => rw [q] at h; cases h
      | some o =>
        obtain ⟨oc, od, dt, osl⟩ := o
        rw [q] at h
        cases oc with
        | type c =>
          cases dt with
          | seq its n =>
            obtain ⟨h1, h2⟩ := He.ba (show (decide (c = "tuple") && (decide (its.size ≤ sizeLine) && dsB K ds its.toList)) = true from h)
            obtain ⟨h3, h4⟩ := He.ba h2
            obtain ⟨vs, rv, rd⟩ := dsB_ok ds its.toList h4
            refine ⟨.ref a, rfl, fun U H => ?_⟩
            simp only [Rep]
            exact ⟨a, vs, rfl, .inr ⟨_, its, n, q, congrArg Value.type (of_decide_eq_true h1), rfl, of_decide_eq_true h3, rv⟩, rd U H⟩
          | _ => cases h
        | _ => cases dt <;> cases h
    | _ => cases h
  | .lst _, u, h => by cases u <;> cases h
  | .ty _, u, h => by cases u <;> cases h
  | .obj _, u, h => by cases u <;> cases h
  | .ins _ _ _, u, h => by cases u <;> cases h
  | .dK _ _, u, h => by cases u <;> cases h
  | .dT _ _, u, h => by cases u <;> cases h
  | .ptup _, u, h => by cases u <;> cases h
  | .err _ _ _ _ _, u, h => by cases u <;> cases h
  | .lsta _ _, u, h => by cases u <;> cases h
theorem dsB_ok {K : PySem.W.Frag} : ∀ (ds : List D) (us : List Value), dsB K ds us = true → ∃ vs, Vals vs us ∧ ∀ U H, Reps K U H ds vs
  | [], [], _ => ⟨[], .nil, fun _ _ => Reps.nil⟩
  | [], _ :: _, h => by cases h
  | _ :: _, [], h => by cases h
  | d :: ds, u :: us, h => by
    obtain ⟨h1, h2⟩ := He.ba (show (dB K d u && dsB K ds us) = true from h)
    obtain ⟨v, r, rd⟩ := dB_ok d u h1
    obtain ⟨vs, rs, rds⟩ := dsB_ok ds us h2
    exact ⟨v :: vs, .cons r rs, fun U H => Reps.cons (rd U H) (rds U H)⟩
end
def gkB (K : PySem.W.Frag) (q : Str × D) : Bool := match PySem.W.nsIn K mainGlobals q.1 with
  | some (some u) => dB K q.2 u
  | _ => false
theorem gkB_ok {K : PySem.W.Frag} {h : Heap} {mg : Str → Option Value} (X : K.In h) (G : h.Ns mainGlobals mg) {x : Str} {d : D} (c : gkB K (x, d) = true) : GK K mg x d := by
  have c : (match PySem.W.nsIn K mainGlobals x with | some (some u) => dB K d u | _ => false) = true := c
  cases e : PySem.W.nsIn K mainGlobals x with
  | none => rw [e] at c; cases c
  | some o =>
    rw [e] at c
    cases o with
    | none => cases c
    | some u =>
      obtain ⟨v, r, rd⟩ := dB_ok d u c
      exact ⟨v, u, PySem.W.mg_of X G e, r, rd⟩
/-- a name of the module that is a built-in function -/
def bfB (K : PySem.W.Frag) (q : Str × String) : Bool := He.eqO (PySem.W.nsIn K mainGlobals q.1) (some (some (.builtin q.2)))
theorem bfB_ok {K : PySem.W.Frag} {h : Heap} {mg : Str → Option Value} (X : K.In h) (G : h.Ns mainGlobals mg) {x : Str} {n : String} (c : bfB K (x, n) = true) : mg x = some (.builtin n) := PySem.W.mg_of X G (He.eqO_ok c)
/-! ### classes whose instances isinstance tells -/
def obB (a : Option Bool) (b : Bool) : Bool := decide (a = some b)
def clsFB (K : PySem.W.Frag) (C : Addr) : Bool := PySem.W.plainGet K C Str.empty && (PySem.W.hasDictIn K C && (PySem.W.plainOver K C && (He.eqO (PySem.W.findIn K (.ref C) "__setattr__") (some (some (.builtin "object.__setattr__"))) &&
  (He.eqO (PySem.W.findIn K (.ref C) "__class__") (some (some (.builtin "object.__class__"))) && (He.eqO (PySem.W.specialIn K (.builtin "object.__class__") "__get__") (some (some (.builtin "getset_descriptor.__get__"))) &&
  (obB (PySem.W.takesIn K (.builtin "object.__class__")) true && obB (PySem.W.mroIn K C (.type "object")) true))))))
theorem clsFB_ok {K : PySem.W.Frag} {C : Addr} (h : clsFB K C = true) : ClsF K C := by
  obtain ⟨h1, h⟩ := He.ba h
  obtain ⟨h2, h⟩ := He.ba h
  obtain ⟨h3, h⟩ := He.ba h
  obtain ⟨h4, h⟩ := He.ba h
  obtain ⟨h5, h⟩ := He.ba h
  obtain ⟨h6, h⟩ := He.ba h
  obtain ⟨h7, h8⟩ := He.ba h
  exact ⟨⟨h1, h2, h3, He.eqO_ok h4⟩, He.eqO_ok h5, He.eqO_ok h6, of_decide_eq_true h7, of_decide_eq_true h8⟩
def csfB (K : PySem.W.Frag) (cs : List Addr) : Bool := cs.all fun C => clsFB K C && ((["bool", "int", "str", "tuple", "list", "dict"].all fun b => obB (PySem.W.kitOne K (.ref C) (.type b)) false) && ((tyNs.all fun a => obB (PySem.W.kitOne K (.type a) (.ref C)) false) && cs.all fun C' => obB (PySem.W.kitOne K (.ref C) (.ref C')) (C == C')))
theorem csfB_ok {K : PySem.W.Frag} {cs : List Addr} (h : csfB K cs = true) : CSF K cs := by
  have key : ∀ C ∈ cs, _ := fun C hC => List.all_eq_true.mp h C hC
  refine ⟨fun C hC => clsFB_ok (He.ba (key C hC)).1, fun C hC b hb => ?_, fun C hC a ha => ?_, fun C hC C' hC' => ?_⟩
  · exact of_decide_eq_true (List.all_eq_true.mp (He.ba (He.ba (key C hC)).2).1 b hb)
  · exact of_decide_eq_true (List.all_eq_true.mp (He.ba (He.ba (He.ba (key C hC)).2).2).1 a ha)
  · exact of_decide_eq_true (List.all_eq_true.mp (He.ba (He.ba (He.ba (key C hC)).2).2).2 C' hC')
/-! ### properties -/
/-- the getter of a class's property -/
def getAd (K : PySem.W.Frag) (C y : Str) : Addr := match PySem.W.recIn K (He.ma K (He.ga K C) y) "property" with
  | some (.ref g :: _) => g
  | _ => 0
def propB (K : PySem.W.Frag) (q : Str × Str) : Bool := He.eqO (PySem.W.findIn K (.ref (He.ga K q.1)) q.2) (some (some (.ref (He.ma K (He.ga K q.1) q.2)))) &&
  (He.eqO (PySem.W.specialIn K (.ref (He.ma K (He.ga K q.1) q.2)) "__get__") (some (some (.builtin "property.__get__"))) && (obB (PySem.W.takesIn K (.ref (He.ma K (He.ga K q.1) q.2))) true &&
  (match PySem.W.recIn K (He.ma K (He.ga K q.1) q.2) "property" with
    | some (.ref _ :: _) => true
    | _ => false)))
theorem propB_ok {K : PySem.W.Frag} {C y : Str} (h : propB K (C, y) = true) : PropOf K (He.ga K C) y (He.ma K (He.ga K C) y) (getAd K C y) := by
  obtain ⟨h1, h⟩ := He.ba h
  obtain ⟨h2, h⟩ := He.ba h
  obtain ⟨h3, h4⟩ := He.ba h
  refine ⟨He.eqO_ok h1, He.eqO_ok h2, of_decide_eq_true h3, ?_⟩
  have h4 : (match PySem.W.recIn K (He.ma K (He.ga K C) y) "property" with | some (.ref _ :: _) => true | _ => false) = true := h4
  unfold getAd
  cases q : PySem.W.recIn K (He.ma K (He.ga K C) y) "property" with
  | none => rw [q] at h4; cases h4
  | some l =>
    rw [q] at h4
    cases l with
    | nil => cases h4
    | cons v r =>
      cases v with
      | ref g => exact ⟨r, rfl⟩
      | _ => cases h4
/-! ### the Hook -/
abbrev KD : Type := List Str × List (Str × Str)
/-- one getter: its class and name, its body, its scope -/
structure GetD where
  cls : Str
  name : Str
  st : Stmt
def GetD.qual (d : GetD) : Str := d.cls ++ "." ++ d.name
def fnWA (K : PySem.W.Frag) (a : Addr) : He.FnW := match K.lookup a with
  | some ⟨_, _, .func fd, _⟩ => some (fd.name, fd.qualname, fd.params, fd.body, fd.scope, fd.globals, fd.closure, fd.builtins)
  | _ => none
def noneB : Value → Bool
  | .none => true
  | _ => false
def fnKB (K : PySem.W.Frag) (a : Addr) (q : Str) : Bool := PySem.W.keepIn K (.ref a) && (match K.lookup a with
  | some ⟨_, _, .func fd, _⟩ => PySem.W.codeIn K fd.code q && noneB fd.defaults
  | _ => false)
theorem fnA_ok {K : PySem.W.Frag} {a : Addr} {x q : Str} {st : Stmt} (e : fnWA K a = some (x, q, defArgs st, .stmts (defBody st), defScope st, mainGlobals, [], builtinsNs)) (c : fnKB K a q = true) : ∃ fd, Fun K x q st a fd := by
  obtain ⟨kp, c2⟩ := He.ba c
  unfold fnWA at e
  cases w : K.lookup a with
  | none => rw [w] at c2; cases c2
  | some o =>
    obtain ⟨oc, od, dt, osl⟩ := o
    rw [w] at c2 e
    cases dt with
    | func fd =>
      obtain ⟨n1, n2, n3, n4, n5, n6, n7, n8, n9, n10, n11, n12, n13, n14, n15⟩ := fd
      have e2 : (some (n1, n2, n3, n4, n5, n6, n7, n15) : He.FnW) = some (x, q, defArgs st, .stmts (defBody st), defScope st, mainGlobals, [], builtinsNs) := e
      simp only [Option.some.injEq, Prod.mk.injEq] at e2
      obtain ⟨h1, h2, h3, h4, h5, h6, h7, h8⟩ := e2
      subst h1 h2 h3 h4 h5 h6 h7 h8
      obtain ⟨k1, k2⟩ := He.ba (show (PySem.W.codeIn K n13 n2 && noneB n8) = true from c2)
      cases n8 with
      | none => exact ⟨_, fun_mk w k1 kp⟩
      | _ => cases k2
    | _ => cases c2
theorem funD_fun {K : PySem.W.Frag} {x q : Str} {st : Stmt} {f : Addr} {fd : FuncData} (F : FunD K x q (defArgs st) (defBody st) (defScope st) [] [] f fd) : Fun K x q st f fd := by
  obtain ⟨oc, od, dV, kV, doc, pm, an, cdv, ct, osl, rfl, lk, hcd, hD, hK⟩ := F.ex
  rcases hD with ⟨_, rfl⟩ | ⟨e, _⟩
  · exact ⟨⟨oc, od, kV, doc, pm, an, cdv, ct, osl, rfl, lk, hcd⟩, F.kp⟩
  · exact absurd rfl e
/-! the addresses looked at: what the chosen names hold, level by level -/
def refsY (o : Obj) : List Addr := match o.data with
  | .seq its _ => its.toList.flatMap He.refV
  | .dict es _ => es.toList.flatMap fun e => He.refV e.val
  | .func fd => He.refV fd.code ++ (He.refV fd.defaults ++ He.refV fd.kwdefaults)
  | .cls cd => [cd.ns]
  | .fields vs => vs.toList.flatMap He.refV
  | _ => []
def nextY (g : Addr → Option Obj) : List Addr → List Addr
  | [] => []
  | a :: r => (match g a with
    | some o => refsY o
    | none => []) ++ nextY g r
def levels (g : Addr → Option Obj) : Nat → List Addr → List Addr
  | 0, as => as
  | n + 1, as => as ++ levels g n (nextY g as)
def rootsY (g : Addr → Option Obj) (names : List Str) : List Addr := match g mainGlobals with
  | some o => names.flatMap fun x => (match PySem.W.nsIn [(mainGlobals, o)] mainGlobals x with
    | some (some v) => He.refV v
    | _ => [])
  | none => []
def asY (g : Addr → Option Obj) (n : Nat) (names : List Str) : List Addr := mainGlobals :: levels g n (rootsY g names)
abbrev AlY : Type := He.AlX × List He.FnW
def GetD.val (d : GetD) : He.FnW := some (d.name, d.qual, defArgs d.st, .stmts (defBody d.st), defScope d.st, mainGlobals, [], builtinsNs)
def obsGet (gs : List GetD) (K : PySem.W.Frag) : List He.FnW := gs.map fun d => fnWA K (getAd K d.cls d.name)
def obsYK (fa : List He.Fa) (fn : List He.DefD) (ts : List He.Tab) (tf : List He.Defn) (ex : PySem.W.Frag → Bool) (gs : List GetD) (g : Addr → Option Obj) (K : PySem.W.Frag) : AlY := ((He.obsT fa fn ts K, ex K && He.tabsB g tf K), obsGet gs K)
def obsY (n : Nat) (names : List Str) (fa : List He.Fa) (fn : List He.DefD) (ts : List He.Tab) (tf : List He.Defn) (ex : PySem.W.Frag → Bool) (gs : List GetD) (g : Addr → Option Obj) : AlY := obsYK fa fn ts tf ex gs g (He.frT g (asY g n names))
structure SaysY (fa : List He.Fa) (fn : List He.DefD) (ts : List He.Tab) (tf : List He.Defn) (ex : PySem.W.Frag → Bool) (gs : List GetD) (w : World) (h : Heap) (K : PySem.W.Frag) : Prop where
  x : He.SaysX fa fn ts tf ex w h K
  get : obsGet gs K = gs.map GetD.val
/-- a maker's table stands empty in the heap -/
theorem tab_one {g : Addr → Option Obj} {a : Addr} {b : Bool} (q : (b && (match g a with
    | some o => He.emptyTab o
    | none => false)) = true) : b = true ∧ ∃ o, g a = some o ∧ He.emptyTab o = true := by
  refine ⟨(He.ba q).1, ?_⟩
  have z := (He.ba q).2
  cases e : g a with
  | none => simp [e] at z
  | some o => exact ⟨o, rfl, by simpa [e] using z⟩
theorem saysY_of {fa : List He.Fa} {fn : List He.DefD} {ts : List He.Tab} {tf : List He.Defn} {ex : PySem.W.Frag → Bool} {gs : List GetD} {w : World} {h : Heap} {as : List Addr} (e : obsYK fa fn ts tf ex gs h.get? (He.frT h.get? as) = (He.valX fn ts w, gs.map GetD.val)) : SaysY fa fn ts tf ex gs w h (He.frT h.get? as) := by
  obtain ⟨ee, e3⟩ := Prod.mk.inj e
  obtain ⟨e1, e2⟩ := Prod.mk.inj ee
  have one := fun p (hp : p ∈ tf) => tab_one (List.all_eq_true.mp (He.ba e2).2 p hp)
  refine ⟨⟨e1, (He.ba e2).1, fun p hp => (one p hp).1, fun p hp => ?_, fun p hp => ?_⟩, e3⟩
  · obtain ⟨o, ho, hz⟩ := (one p hp).2
    exact He.frT_none ho hz
  · obtain ⟨o, ho, hz⟩ := (one p hp).2
    rw [ho, He.emptyTab_eq hz]
def hookY (n : Nat) (names : List Str) (fa : List He.Fa) (fn : List He.DefD) (ts : List He.Tab) (tf : List He.Defn) (ex : PySem.W.Frag → Bool) (gs : List GetD) : PySem.W.Hook where
  α := AlY
  obs := fun s => obsY n names fa fn ts tf ex gs s.heap.get?
  val := fun w => (He.valX fn ts w, gs.map GetD.val)
  says := fun w h => ∃ K : PySem.W.Frag, K.In h ∧ SaysY fa fn ts tf ex gs w h K
  of := fun _ _ e => ⟨_, He.frT_in, saysY_of e⟩
  keeps := fun _ _ _ ⟨K, hK, c⟩ k => ⟨K, PySem.W.Frag.In.keeps hK k, ⟨c.x.t, c.x.more, c.x.hd, c.x.out, fun p hp => k _ _ (c.x.empty p hp)⟩, c.get⟩
theorem obsY_eq {n : Nat} {names : List Str} {fa : List He.Fa} {fn : List He.DefD} {ts : List He.Tab} {tf : List He.Defn} {ex : PySem.W.Frag → Bool} {gs : List GetD} {g : Addr → Option Obj} {s : Shared} (h : ∀ a, g a = s.heap.get? a) : obsY n names fa fn ts tf ex gs g = (hookY n names fa fn ts tf ex gs).obs s := by
  rw [show g = s.heap.get? from funext h] <;> rfl
theorem SaysY.getter {fa : List He.Fa} {fn : List He.DefD} {ts : List He.Tab} {tf : List He.Defn} {ex : PySem.W.Frag → Bool} {gs : List GetD} {w : World} {h : Heap} {K : PySem.W.Frag} (c : SaysY fa fn ts tf ex gs w h K) {d : GetD} (hd : d ∈ gs) (k : fnKB K (getAd K d.cls d.name) d.qual = true) : ∃ fd, Fun K d.name d.qual d.st (getAd K d.cls d.name) fd := by
  have e : fnWA K (getAd K d.cls d.name) = d.val := by
    obtain ⟨i, hi, e⟩ := List.getElem_of_mem hd
    have q := congrArg (fun l : List He.FnW => l[i]?) c.get
    unfold obsGet at q
    rw [List.getElem?_map, List.getElem?_map, List.getElem?_eq_getElem hi, e] at q
    exact Option.some.inj q
  exact fnA_ok e k
/-- a table's entry that is a def -/
theorem kdct_of {K : PySem.W.Frag} {w : World} {a f : Addr} {es : Array DictEntry} {n : Nat} {kvs : List (Str × He.Dv)} {x : Str} {v : He.Dv} (D : KDict K w a es n) (h : He.valsB K a kvs = true) (hx : (x, v) ∈ kvs) (hv : v.v K = .ref f) : KDct K w a x (.ref f) := by
  obtain ⟨u, e, r⟩ := He.valsB_ok h hx
  exact ⟨es, n, u, D.at_, D.lit, e, by rw [← hv]; exact r⟩
end DL

/-! DExc0: an error's own __init__: super().__init__(), then one attribute. -/
namespace DL
open PySem PySem.Spec PyProof.Rows L2

/-- what the written part says of an own error class over ValueError, and of its __init__ -/
structure ErrI (P : Program) (K : PySem.W.Frag) (mg : Str → Option Value) (C : Addr) (scope : Scope) (cda cc : Addr) : Prop where
  ox : OexC K C
  cell : ∃ cl cld csl, K.lookup cc = some ⟨cl, cld, .cell (some (.ref C)), csl⟩
  code : ∃ ccl cdd vs ccs file tf, K.lookup cda = some ⟨ccl, cdd, .fields vs, ccs⟩ ∧ vs[2]? = some (.str file tf) ∧ ((P.main.file : Str) == file) = true
  sup : mg "super" = none
  self : PySem.W.mroIn K C (.ref C) = some true
  ve : PySem.W.subIn K (.ref C) (.type "ValueError") = some true
  al : PySem.W.ks_superIn K C C "__init__" = some (some (.builtin "ValueError.__init__"))
  third : PySem.W.nsIn K cStatics "thirdparty.any" = some none
  top : (P.main.scope.names.lookup ("super" : Str)).isSome = false
  kind : scope.kind = .function
  co : scope.isCoroutine = false
  gen : scope.isGenerator = false
  ns : scope.names.lookup ("super" : Str) = some .globalImplicit
  nc : scope.names.lookup ("__class__" : Str) = some .free
  ncell : ∀ x ∈ scope.names, x.2 ≠ .cell
  nfree : ∀ x ∈ scope.names, x.2 = .free → x.1 = "__class__"
  nself : scope.names.lookup ("self" : Str) = some .local

section
variable {P : Program} {w : World} {A : Around} {E : Value → Shared → Prop} {s : Shared}
/-- a bound built-in __init__ of an exception is called -/
theorem call_mw {h : Heap} {g : Array GenState} {d : Drawn} {t : Nat} {os : OsState} {u e C N t0 : Addr} {nm q : Str} {bs bm : List Value} {hdct : Bool} {sn : List Str} {sub : List Value} {ab : Bool} {col : Option Bool} {dd : Option Addr} {k0 k1 k2 k3 k5 : Option Value} {dv : Option Addr} {Q : Value → Shared → Prop}
    (hC : h.get? C = some (excClassObj nm q C N bs bm hdct sn sub ab col dd k0 k1 k2 k3 k5 "ValueError.__new__")) (he : h.get? e = some ({ cls := .ref C, dict := dv, data := .fields #[.ref t0, .none, .none, .none, .bool false, .none] } : Obj)) (hu : h.get? u = some (PySem.W.kxs_mw "ValueError.__init__" e))
    (hq : ∀ h' t1, (∀ b o, b ≠ e → h.get? b = some o → h'.get? b = some o) → h'.get? e = some ({ cls := .ref C, dict := dv, data := .fields #[.ref t1, .none, .none, .none, .bool false, .none] } : Obj) → Q .none ⟨h', g, d, t, os⟩) :
    wpAny (model P w) A (call (.ref u) []) Q E ⟨h, g, d, t, os⟩ := by
  refine wpAny_call (codeAny_of_tree ?_)
  show wpAny _ A.in1 (callAny (.ref u) ⟨[], []⟩) _ _ _
  simp only [callAny]
  refine wpAny_bind (wpAny_load hu ?_)
  simp only [PySem.W.kxs_mw, show (Value.type "method-wrapper" == Value.type "method" || Value.type "method-wrapper" == Value.type "builtin_function_or_method" || Value.type "method-wrapper" == Value.type "method-wrapper") = true by decide, if_true]
  refine PySem.W.KFB.if_so (by decide) ?_
  refine wpAny_bind (PySem.W.check_bound_init F.excBase_ValueError.toExcCallFacts hC he rfl ?_)
  refine wpAny_bind (wpAny_pure (wpAny_pure ?_))
  refine ⟨plainId_quiet F.excBase_ValueError.init.plain _, codeAny_builtin F.excBase_ValueError.initEntry ?_⟩
  exact PySem.W.exc_init_tree (cls := .ref C) (t0 := t0) (dv := dv) (c2 := .none) (c3 := .none) (b4 := .bool false) he (Nat.zero_le _) fun h' k x _ => hq h' _ k x
/-- super().__init__() -/
theorem super_init {X : Cx} {pins : List (Addr × Obj)} {σ : L2.St} {H : Hp} {s : Shared} {a C cda cc fI L : Addr} {qual : Str} {scope : Scope} {fd : FuncData} {oc : Value} {od : Option Addr} {osl : Array (Option Value)} {ar : Arg} {body : List Stmt} {p0 p1 p2 p3 : Pos} {pl : Sem Bool} {Q E : Value → Shared → Prop}
    (hc : eval (.Call (.Attribute (.Call (.Name "super" p0) [] [] p1) "__init__" p2) [] [] p3) X.env = (do
      let ov ← attributeBase (.Call (.Name "super" p0) [] [] p1) "__init__" X.env (eval (.Call (.Name "super" p0) [] [] p1) X.env)
      standAt p2.atName
      let (f, first) ← holding [ov] (getMethod ov "__init__" pl)
      callWith p3 f first (backTo p3 (starEach [] X.env)) []))
    (T : ErrI X.prog X.K X.mg C scope cda cc) (I : Inv X pins σ H s) (henv : X.env = PySem.W.ksEnv qual scope L fI (.ref cda) cc) (hf : X.K.lookup fI = some ⟨oc, od, .func fd, osl⟩) (hp : (fd.params.posonlyargs ++ fd.params.args).head? = some ar) (har : ar.arg = "self")
    (hN : X.N[0]? = some ("self" : Str)) (h0 : σ[0]? = some (some (.ref a))) (ha : H a = some (exo a C none)) (hq : ∀ s', Inv X pins σ H s' → Q .none s') :
    _root_.PySem.wpAt (model X.prog X.w) X.A (.func body X.env) (eval (.Call (.Attribute (.Call (.Name "super" p0) [] [] p1) "__init__" p2) [] [] p3) X.env) Q E s := by
  obtain ⟨nm, q, N, bs, bm, sn, sub, ab, col, dd, k0, k1, k2, k3, k5, hC, hbm⟩ := T.ox.cls
  obtain ⟨cl, cld, csl, hcell⟩ := T.cell
  obtain ⟨ccl, cdd, vs, ccs, file, tf, hcode, hvs, hfile⟩ := T.code
  obtain ⟨t1, ho⟩ := exo_at I.hok ha
  have KX := I.kIn
  obtain ⟨m, hns, look⟩ := I.loc
  obtain ⟨u, ru, lu⟩ := look 0 "self" (.ref a) hN h0 (.inl (by rw [henv]; exact T.nself))
  obtain rfl : u = Value.ref a := ru
  have hm : m "self" = some (.ref a) := by
    rcases lu with ⟨_, e⟩ | ⟨k, _⟩
    · exact e
    · have e2 : X.env.kindOf "self" = some .local := by rw [henv]; exact T.nself
      rcases k with k | k <;> rw [e2] at k <;> cases k
  have kg : X.env.kindOf "super" = some .globalImplicit := by rw [henv]; exact T.ns
  have kc : X.env.kindOf "__class__" = some .free := by rw [henv]; exact T.nc
  have ks : X.env.kindOf "self" = some .local := by rw [henv]; exact T.nself
  have hcells : X.env.cells.lookup ("__class__" : Str) = some cc := by rw [henv]; rfl
  have hmro : PySem.W.Looks (model X.prog X.w) s.heap (isSubtype (.ref C) (.ref C)) true := PySem.W.looks_mroIn KX T.self
  have hK : X.env.scope.kind = .function := I.ok.kind
  have hboot : bootBuiltins "super" = some (.type "super") := by decide +kernel
  obtain ⟨mb, hb1, hb2⟩ := I.mod.blt
  have hD : s.heap.get? C = some (excClassObj nm q C N bs bm true sn sub ab col dd k0 k1 k2 k3 k5 "ValueError.__new__") := KX _ _ hC
  have hcl : PySem.W.clsIn X.K C = some { name := nm, bases := bs, mro := .ref C :: bm, ns := N, qualname := q, hasDict := true, slotNames := sn, subclasses := sub, abstract := ab, collection := col, hasDel := false } := by unfold PySem.W.clsIn; rw [hC] <;> rfl
  refine PySem.ks_wpAt_MethodCall (pl := pl) ?_ hc
  refine PySem.ks_wpAt_super_base kg kc rfl (by rw [henv]) (KX _ _ hf) rfl hp (by rw [henv]) (KX _ _ hcode) rfl hvs hfile T.top ?_
  refine PySem.W.ks_loadName_global hK kg (Calls.loadGlobal_builtin (by rw [I.ok.glob]; exact I.mod.glob.keeps I.bk) T.sup (by rw [I.ok.blt]; exact hb1.keeps I.bk) ((hb2 _ (by decide)).trans hboot) ⟨rfl, ?_⟩)
  refine wpAny_loadName_free hK kc hcells ⟨_, KX _ _ hcell, rfl⟩ ?_
  rw [har]
  refine wpAny_loadName_local hK ks hns hm ?_
  obtain ⟨hp0, g, d, t, os⟩ := s
  refine PySem.ks_wpAny_isType_cls hD rfl ⟨rfl, ?_⟩
  refine PySem.ks_wpAny_call_super hD rfl ho rfl (fun c e => by cases e) hmro (fun h1 e1 k1' => ?_)
  have I1 : Inv X pins σ H ⟨h1, g, d, t, os⟩ := I.kept (t' := t) k1'
  have ho1 := k1' _ _ ho
  have inst : PySem.W.InstAt h1 a { cls := .ref C, dict := none, data := .fields #[.ref t1, .none, .none, .none, .bool false, .none] } C none := ⟨ho1, rfl, rfl, trivial⟩
  have hal : PySem.W.alongIn X.K "__init__" (((Value.ref C :: bm).dropWhile (· != .ref C)).drop 1) = some (some (.builtin "ValueError.__init__")) := by
    have := T.al
    unfold PySem.W.ks_superIn at this
    rw [hcl] at this
    exact this
  refine PySem.W.kxs_getMethod PySem.W.kxs_ValueError e1 (PySem.W.looks_opaque I1.kIn T.third) (l₀ := .ref C :: bm) ?_ rfl I1.kIn hal (inst.type.andThen (PySem.W.looks_subIn I1.kIn T.ve)) (PySem.W.ks_ne I1.kIn inst hcl) rfl ?_
  · exact fun A Q E s k q => wpAny_bind ((PySem.W.looks_clsIn I1.kIn hcl) A _ E s k (wpAny_pure q))
  have k2' : ∀ b o, h1.get? b = some o → (h1.push (PySem.W.kxs_mw "ValueError.__init__" a)).get? b = some o := fun b o e => Heap.get?_push_of_some _ e
  have I2 : Inv X pins σ H ⟨h1.push (PySem.W.kxs_mw "ValueError.__init__" a), g, d, t + 1, os⟩ := I1.kept (t' := t + 1) k2'
  have hu : (h1.push (PySem.W.kxs_mw "ValueError.__init__" a)).get? h1.objs.size = some (PySem.W.kxs_mw "ValueError.__init__" a) := Heap.get?_push_size _ rfl
  refine PySem.W.kxs_callWith (i := "ValueError.__init__") (x := a) rfl (PyProof.Rows.evalArgs_empty ⟨hu, ?_⟩)
  refine call_mw (I2.kIn _ _ hC) (k2' _ _ ho1) hu fun h3 t2 k3' hx => hq _ ?_
  have J := I2.write (t' := t + 1) (x := a) (e := a) (o := exo a C none) (by rw [ha]; exact True.intro) (.inl rfl) k3' ⟨_, hx⟩ (exo_ok hx)
  have eu : upd H a (exo a C none) = H := by
    funext b
    by_cases hb : b = a
    · rw [hb, upd_same, ha]
    · rw [upd_ne hb]
  rw [eu] at J
  exact J
/-- what an error's __init__ keeps -/
def spErr (C : Addr) (attr : Str) : Sp := fun vs H Q _ => ∃ (a : Addr) (v : V), vs = [.ref a, v] ∧ H a = some (exo a C none) ∧ ∀ dx, H dx = none → dx ≠ a → Q .non (upd (upd H dx (exd dx [(attr, v)])) a (exo a C (some dx)))
/-- the context of its body -/
def cxErr (CX : CXT) (P : Program) (w : World) (K : PySem.W.Frag) (mg : Str → Option Value) (base : Heap) (N : List Str) (qual : Str) (scope : Scope) (f cda cc : Addr) (A : Around) (outer : List Env) (s : Shared) (H : Hp) (E : XK) : Cx where
  prog := P
  w := w
  K := K
  mg := mg
  base := base
  A := A.deeper (PySem.W.ksEnv qual scope s.heap.objs.size f (.ref cda) cc)
  N := N
  s_0 := s
  H_0 := H
  env := PySem.W.ksEnv qual scope s.heap.objs.size f (.ref cda) cc
  outer := outer
  stack := PySem.W.ksEnv qual scope s.heap.objs.size f (.ref cda) cc :: outer
  ex := []
  calm := true
  fn := fun _ => false
  pn := []
  xe := fun e s' => wpAny (model P w) (A.deeper (PySem.W.ksEnv qual scope s.heap.objs.size f (.ref cda) cc)) (leaving (PySem.W.ksEnv qual scope s.heap.objs.size f (.ref cda) cc) e) (fun _ s'' => CX outer H s E e s'') (fun e' s'' => CX outer H s E e' s'') s'
variable {K : PySem.W.Frag} {mg : Str → Option Value} {base : Heap}
theorem inv_err {CX : CXT} {qual : Str} {scope : Scope} {f C cda cc : Addr} {outer : List Env} {H : Hp} {EK : XK} {attr : Str} {a : Addr} {v : V} {u1 : Value} {h1 : Heap} {tk : Nat} (T : ErrI P K mg C scope cda cc) (hattr : scope.names.lookup attr = some .local) (hne : attr ≠ "self") (hd : A.handled = none)
    (e0 : Env0 P w K mg base A outer s H) (r1 : RelV v u1) (hns : h1.Ns s.heap.objs.size (fun x => ([(("self" : Str), Value.ref a), (attr, u1)] : List (Str × Value)).reverse.lookup x)) (hk : ∀ b o, s.heap.get? b = some o → h1.get? b = some o) :
    Inv (cxErr CX P w K mg base ["self", attr] qual scope f cda cc A outer s H EK) [] [some (.ref a), some v] H { s with heap := h1, toks := tk } := by
  have KX : K.In s.heap := e0.mod.kin.keeps fun b o e => (e0.bs b o e).1
  obtain ⟨cl, cld, csl, hcell⟩ := T.cell
  have hcc : ∀ x c, (cxErr CX P w K mg base ["self", attr] qual scope f cda cc A outer s H EK).env.cells.lookup x = some c → x = "__class__" ∧ c = cc := fun x c h => by
    have h : ([(("__class__" : Str), cc)] : List (Str × Addr)).lookup x = some c := h
    by_cases e : x = "__class__"
    · subst e
      rw [List.lookup_cons, show (("__class__" : Str) == ("__class__" : Str)) = true by decide] at h
      exact ⟨rfl, (Option.some.inj h).symm⟩
    · rw [List.lookup_cons, show (x == ("__class__" : Str)) = false by simpa using e] at h
      cases h
  have noA : ∀ b : Addr, b ∉ (cxErr CX P w K mg base ["self", attr] qual scope f cda cc A outer s H EK).ex := fun b z => absurd (show b ∈ ([] : List Addr) from z) (by simp)
  refine ⟨⟨e0.mod, T.kind, rfl, rfl, Nat.le_refl _, fun x y c h1 h2 => (hcc x c h1).1.trans (hcc y c h2).1.symm, fun y hy => ?_, fun y c h _ => absurd (show false = true from h) (by decide), fun _ => hd, Around.frames_deeper e0.frames, .inr ⟨rfl, rfl⟩, fun b z => absurd z (noA b), e0.bs, e0.bsz, fun b _ _ => noA b, fun b z => absurd z (noA b), e0.funs, e0.frf⟩,
    rfl, e0.bare, Un.kept hk, ⟨_, hns, fun i y v' h1 h2 h3 => ?_⟩, fun y c h => ?_, e0.hok.fresh (Nat.le_refl _), fun y c h => ?_, fun p hp => absurd (show p ∈ ([] : List (Addr × Obj)) from hp) (by simp), e0.hok.kept hk, rfl⟩
  · have hy : scope.names.lookup y = some .cell ∨ scope.names.lookup y = some .free := hy
    rcases hy with hy | hy
    · exact absurd rfl (T.ncell _ (PySem.mem_of_lookup hy))
    · have := T.nfree _ (PySem.mem_of_lookup hy) rfl
      exact ⟨cc, by rw [show y = "__class__" from this]; rfl⟩
  · match i, h1, h2 with
    | 0, h1, h2 =>
      cases h1
      cases h2
      refine ⟨.ref a, rfl, .inl ⟨T.nself, ?_⟩⟩
      show List.lookup ("self" : Str) [(attr, u1), (("self" : Str), Value.ref a)] = some (.ref a)
      rw [List.lookup_cons, show (("self" : Str) == attr) = false by simpa using Ne.symm hne]
      rfl
    | 1, h1, h2 =>
      cases h1
      cases h2
      refine ⟨u1, r1, .inl ⟨hattr, ?_⟩⟩
      show List.lookup attr [(attr, u1), (("self" : Str), Value.ref a)] = some u1
      rw [List.lookup_cons, beq_self_eq_true]
    | i + 2, h1, h2 => simp at h2
  · obtain ⟨_, rfl⟩ := hcc y c h
    exact ⟨_, _, hk _ _ (KX _ _ hcell), rfl⟩
  · obtain ⟨_, rfl⟩ := hcc y c h
    exact (e0.bs _ _ (e0.mod.kin _ _ hcell)).2
abbrev errBody (attr : Str) (p0 p1 p2 p3 p4 p5 p6 p7 p8 : Pos) : List Stmt := [.Expr (.Call (.Attribute (.Call (.Name "super" p0) [] [] p1) "__init__" p2) [] [] p3) p4, .Assign [.Attribute (.Name "self" p5) attr p6] (.Name attr p7) p8]
theorem errInit_ok {attr name qual : Str} {params : Arguments} {scope : Scope} {dV kV doc pm ct oc : Value} {an od : Option Addr} {osl : Array (Option Value)} {fI C cda cc : Addr} {ar : Arg} {p0 p1 p2 p3 p4 p5 p6 p7 p8 : Pos} {pl : Sem Bool} (T : ErrI P K mg C scope cda cc)
    (lk : K.lookup fI = some ⟨oc, od, .func (PySem.W.ksFn name qual params (errBody attr p0 p1 p2 p3 p4 p5 p6 p7 p8) scope dV kV doc pm an (.ref cda) ct cc), osl⟩)
    (hcd : PySem.W.codeIn K (.ref cda) qual = true) (hp : (params.posonlyargs ++ params.args).head? = some ar) (har : ar.arg = "self") (hattr : scope.names.lookup attr = some .local) (hne : attr ≠ "self") (hno : PySem.W.findIn K (.ref C) attr = some none)
    (ha1 : (attr == ("__debug__" : Str)) = false) (ha2 : (attr == ("__classdict__" : Str)) = false)
    (hc : ∀ L : Addr, eval (.Call (.Attribute (.Call (.Name "super" p0) [] [] p1) "__init__" p2) [] [] p3) (PySem.W.ksEnv qual scope L fI (.ref cda) cc) = (do
      let ov ← attributeBase (.Call (.Name "super" p0) [] [] p1) "__init__" (PySem.W.ksEnv qual scope L fI (.ref cda) cc) (eval (.Call (.Name "super" p0) [] [] p1) (PySem.W.ksEnv qual scope L fI (.ref cda) cc))
      standAt p2.atName
      let (f, first) ← holding [ov] (getMethod ov "__init__" pl)
      callWith p3 f first (backTo p3 (starEach [] (PySem.W.ksEnv qual scope L fI (.ref cda) cc))) []))
    (h1 : ∀ L : Addr, interactive (PySem.W.ksEnv qual scope L fI (.ref cda) cc) = false) (h2 : ∀ L : Addr, swapsWith (.Call (.Attribute (.Call (.Name "super" p0) [] [] p1) "__init__" p2) [] [] p3) none p4.line (PySem.W.ksEnv qual scope L fI (.ref cda) cc) = pure false)
    (h3 : ∀ L : Addr, swapsWith (.Name attr p7) (some (.Attribute (.Name "self" p5) attr p6)) p8.line (PySem.W.ksEnv qual scope L fI (.ref cda) cc) = pure false) :
    FnOk P w K mg base (L2.CX P w) 1 fI (PySem.W.ksFn name qual params (errBody attr p0 p1 p2 p3 p4 p5 p6 p7 p8) scope dV kV doc pm an (.ref cda) ct cc) ["self", attr] (spErr C attr) := by
  refine ⟨fun vs H Q E h => by obtain ⟨a, v, rfl, _⟩ := h; rfl, fun A outer s H args us vs Q E hr e0 hb r hsp => ?_⟩
  obtain ⟨a, v, rfl, ha, hq⟩ := hsp
  obtain ⟨u0, u1, rfl, r0, r1⟩ := Vals.two r
  obtain rfl : u0 = Value.ref a := r0
  have KX : K.In s.heap := e0.mod.kin.keeps fun b o e => (e0.bs b o e).1
  have lim : s.heap.NoLimit := e0.mod.nolimit.keeps fun b o e => (e0.bs b o e).1
  refine PySem.ks_codeAny_call_defAt hr.depth (KX _ _ lk) rfl lim (PySem.W.codeRec_of KX hcd) rfl hb T.ncell (fun y hy => ?_) (fun h1' hns hk => ?_) T.co T.gen T.kind
  · have hy : y ∈ [(("self" : Str), Value.ref a), (attr, u1)] := hy
    simp only [List.mem_cons, List.not_mem_nil, or_false] at hy
    rcases hy with rfl | rfl
    · exact T.nself
    · exact hattr
  have I := inv_err (CX := L2.CX P w) (qual := qual) (f := fI) (EK := E) (tk := s.toks + 2) T hattr hne hr.hd e0 r1 hns hk
  generalize hX : cxErr (L2.CX P w) P w K mg base ["self", attr] qual scope fI cda cc A outer s H E = X at I
  have eenv : X.env = PySem.W.ksEnv qual scope s.heap.objs.size fI (.ref cda) cc := by rw [← hX]; rfl
  have goal : _root_.PySem.wpAt (model X.prog X.w) X.A (.func (errBody attr p0 p1 p2 p3 p4 p5 p6 p7 p8) X.env) (execs (errBody attr p0 p1 p2 p3 p4 p5 p6 p7 p8) X.env)
      (fun f s' => CR (L2.CX P w) outer P w H s Q E (.ok (.ret (match f with | .ret v => v | _ => .none))) s') X.xe { s with heap := h1', toks := s.toks + 2 } := by
    refine PySem.ks_wpAt_execs_cons (PySem.ks_wpAt_Expr_any (super_init (fI := fI) (C := C) (cda := cda) (cc := cc) (a := a) (ar := ar) (pl := pl) (fd := PySem.W.ksFn name qual params (errBody attr p0 p1 p2 p3 p4 p5 p6 p7 p8) scope dV kV doc pm an (.ref cda) ct cc) (by rw [eenv]; exact hc _) (by rw [← hX]; exact T) I eenv (by rw [← hX]; exact lk) hp har (by rw [← hX]; rfl) rfl ha fun s' J => ?_) (by rw [eenv]; exact h1 _) (by rw [eenv]; exact h2 _))
    have hns0 : X.env.scope.names.lookup ("self" : Str) = some .local := by rw [eenv]; exact T.nself
    have hns1 : X.env.scope.names.lookup attr = some .local := by rw [eenv]; exact hattr
    have pst : PSs X [.Assign [.Attribute (.Name "self" p5) attr p6] (.Name attr p7) p8] (tOst X.K attr (tVar 0) (tVar 1)) := pss_one (ps_ost (pe_var (i := 0) (by rw [← hX]; rfl) (.inl hns0) (by decide) (by decide)) (pe_var (i := 1) (by rw [← hX]; rfl) (.inl hns1) ha1 ha2) (by rw [eenv]; exact h3 _))
    refine wpAt_of_wpAny (wpAny_mono (pst.run [] s' [some (.ref a), some v] H { nx := fun _ H' => Q .non H', rt := Q } J ⟨v, rfl, .ref a, rfl, a, C, rfl, by rw [← hX]; exact T.ox, by rw [← hX]; exact hno, .inl ⟨ha, hq⟩⟩) (fun fl s2 hs => ?_) fun e s2 hs => hs)
    have os2 : ∀ {σ' : L2.St} {H' : Hp}, Inv X [] σ' H' s2 → s2.os = s.os ∧ AllBare s2.gens ∧ Un (frs outer) [] H H' s.heap s2.heap ∧ HOk P w H' s2.heap := fun {σ' H'} J2 => by
      have b := J2.base
      have o := J2.os
      have k := J2.hok
      rw [← hX] at b o k
      exact ⟨o, J2.bare, b, k⟩
    cases fl with
    | next =>
      obtain ⟨σ', H', J2, q⟩ := hs
      obtain ⟨e1, e2, e3, e4⟩ := os2 J2
      exact ⟨.non, H', e1, e2, e3, e4, rfl, q⟩
    | ret u =>
      obtain ⟨v', σ', H', J2, rv, q⟩ := hs
      obtain ⟨e1, e2, e3, e4⟩ := os2 J2
      exact ⟨v', H', e1, e2, e3, e4, rv, q⟩
    | brk =>
      obtain ⟨_, _, _, q⟩ := hs
      exact False.elim q
    | cont =>
      obtain ⟨_, _, _, q⟩ := hs
      exact False.elim q
  rw [← hX] at goal
  exact goal
end
end DL

/-! DExc1: errors over data: raise, closures without parameters that may raise, try .. except .. as e, what is asked of e. -/
namespace DL
open PySem PySem.Spec PyProof.Rows L2 LamX NdefX
/-- an own error class of one attribute -/
def GErr (P : Program) (w : World) (K : PySem.W.Frag) (mg : Str → Option Value) (base : Heap) (x : Str) (C : Addr) (attr : Str) : Prop :=
  mg x = some (.ref C) ∧ OexC K C ∧ ∃ fI fd, PySem.W.findIn K (.ref C) "__init__" = some (some (.ref fI)) ∧ PySem.W.typeIn K (.ref fI) = some (.type "function") ∧ FnOk P w K mg base (L2.CX P w) 1 fI fd ["self", attr] (spErr C attr) ∧ Binds K fd ["self", attr] []
section
variable {X : Cx} {z : Zc} {O : List Nat} {e : Expr} {te : TE} {me : DEnv → M D} {x attr : Str} {C : Addr} {k' : Nat} {p pos pos' : Pos}
/-- raise x(e) -/
theorem ds_raise (F : GErr X.prog X.w X.K X.mg X.base x C attr) (hr : Room k' X.A) (hk : 2 ≤ k') (tk : Takes X (fun c d _ H => z.EK c d H)) (hK : X.K = z.K) (he : DE X z e te me) (calm : X.calm = true := by rfl) (hg : Gl X x := by rfl) (hdb : (x == ("__debug__" : Str)) = false := by decide)
    (hs : starEach [e] X.env = (false, eval e X.env) :: starEach [] X.env := by rfl) (hpl : (backTo pos (starEach [] X.env)).any (·.1) = false := by rfl) :
    DS X z O (.Raise (some (.Call (.Name x p) [e] [] pos)) none pos') (fun _ σ H => tMkO C (spErr C attr) [] (tCons te tNil) σ H fun cls d H' => z.EK cls d H') (fun κ E ρ => me ρ (fun d => E ⟨C, [attr], [d]⟩) E) := by
  obtain ⟨hm, T, fI, fd, iC, tI, F1, hb⟩ := F
  refine ⟨ps_raise (W := fun c d _ H => z.EK c d H) calm tk (pmk_oex T iC tI F1 (hr.mono hk) hb .nil (passes_call tk fun _ _ _ _ h => h.elim) hg hm (pa_cons he.pe pa_nil hs) hdb hs hpl), fun kp oa σ H ρ Dn κ E s hE ko hm => ?_⟩
  refine (he.tm.keep kp) z.U0 σ H ρ _ _ E s.full hE hm fun d v H1 h1 e1 j1 r1 => ?_
  refine ⟨by simp, fun a ha => ⟨a, v, rfl, upd_same, fun dx hdx hne => ?_⟩⟩
  have hda : H1 dx = none := by rwa [upd_ne hne] at hdx
  have w1 := s.full.step e1 j1
  refine ⟨rfl, dx, [(attr, v)], upd_same, by rw [upd_ne hne, upd_same], hda, ?_⟩
  have same : ∀ b, b ≠ a → b ≠ dx → upd (del (upd (upd (upd H1 a (exo a C none)) dx (exd dx [(attr, v)])) a (exo a C (some dx))) a) dx (.xd [(attr, v)]) b = H1 b := fun b h1 h2 => by
    rw [upd_ne h2, del_ne h1, upd_ne h1, upd_ne h2, upd_ne h1]
  have nn : ∀ b o, H1 b = some o → b ≠ a ∧ b ≠ dx := fun b o h => ⟨fun q => by (rw [q, ha] at h; cases h), fun q => by (rw [q, hda] at h; cases h)⟩
  have ext2 : Ext z.g.G H1 (upd (del (upd (upd (upd H1 a (exo a C none)) dx (exd dx [(attr, v)])) a (exo a C (some dx))) a) dx (.xd [(attr, v)])) := fun b o h _ => by
    obtain ⟨q1, q2⟩ := nn b o h
    rw [same b q1 q2]
    exact h
  have j2 : z.g.J (upd (del (upd (upd (upd H1 a (exo a C none)) dx (exd dx [(attr, v)])) a (exo a C (some dx))) a) dx (.xd [(attr, v)])) := z.g.st H1 _ j1 (fun b hb => by
    cases q : H1 b with
    | none => exact absurd q (z.g.dom H1 b j1 hb)
    | some o =>
      obtain ⟨q1, q2⟩ := nn b o q
      rw [same b q1 q2, q]) fun b φ h => by
    obtain ⟨q1, q2⟩ := nn b _ h
    rw [same b q1 q2]
    exact h
  refine s.ok.ek ⟨C, [attr], [d]⟩ (.ref C) (some dx) _ (hE _ h1) (w1.ext.trans ext2) j2 ⟨rfl, dx, [(attr, v)], rfl, upd_same, fun q => w1.dom dx q hda, rfl, ?_⟩
  exact Reps.cons (r1.ext ext2 s.ok.gu) Reps.nil
end
/-! ### closures without parameters, called later -/
/-- what a call without arguments promises: its end, its errors -/
abbrev MU := Prop → (DX → Prop) → Prop
def CloU (P : Program) (w : World) (K : PySem.W.Frag) (mg : Str → Option Value) (base : Heap) (g : GG) (U0 : Addr → Prop) (o0 : List Env) (s0 : Shared) (H0 : Hp) (f : Addr) (k : Nat) (m : MU) : Prop :=
  ∀ (A : Around) (o : List Env) (s : Shared) (H : Hp) (U : Addr → Prop), Later g.G o0 s0 H0 o s H → g.J H → Room k A → Env0 P w K mg base A o s H → (∀ a, g.G a → U a) → (∀ a, U a → H a ≠ none) → (∀ a, U a → U0 a ∨ H0 a = none) →
    PySem.W.FnAt f s.heap ∧ ∀ (Qk : Prop) (Ed : DX → Prop) (Q : VK) (E : XK), m Qk Ed → (∀ v H', Qk → Ext g.G H H' → g.J H' → Q v H') → (∀ x cls dp H', Ed x → Ext g.G H H' → g.J H' → RepX K U H' cls dp x → E cls dp H') →
      codeAny (model P w) A (.call (.ref f) ⟨[], []⟩) (CR (L2.CX P w) o P w H s Q E) s
def tCloU (K : PySem.W.Frag) (g : GG) (U0 : Addr → Prop) (H0 : Hp) (i : Nat) (f : Addr) (m : MU) (W : WX) : TE := fun σ H Q => σ[i]? = some (some (.ref f)) ∧ ∃ (U : Addr → Prop) (Qk : Prop) (Ed : DX → Prop), (∀ a, g.G a → U a) ∧ (∀ a, U a → H a ≠ none) ∧ (∀ a, U a → U0 a ∨ H0 a = none) ∧
  Ext g.G H0 H ∧ g.J H ∧ m Qk Ed ∧ (∀ v H', Qk → Ext g.G H H' → g.J H' → Q v H') ∧ ∀ x cls dp H', Ed x → Ext g.G H H' → g.J H' → RepX K U H' cls dp x → W cls dp σ H'
section
variable {X : Cx} {f : Addr} {k k' i : Nat} {m : MU} {g : GG} {U0 : Addr → Prop} {W : WX} {x : Str} {pp pos : Pos}
theorem metAt {pins : List (Addr × Obj)} {σ : L2.St} {H : Hp} {s : Shared} {Q : VK} {E : XK} {us : List Value} {f : Addr} (hx : PassesAt (L2.CX X.prog X.w) X σ E) (I : Inv X pins σ H s)
    (h : codeAny (model X.prog X.w) X.A (.call (.ref f) ⟨us, []⟩) (CR (L2.CX X.prog X.w) X.stack X.prog X.w H s Q E) s) : wpAny (model X.prog X.w) X.A (call (.ref f) us) (EP X pins σ Q) X.xe s := by
  refine wpAny_call (codeAny_mono h fun res s2 hq => ?_)
  match res, hq with
  | .error e, hq => exact hx pins H s e s2 I hq
  | .ok (.ret u), hq => exact I.after hq
  | .ok .next, hq => exact False.elim hq
  | .ok .brk, hq => exact False.elim hq
  | .ok .cont, hq => exact False.elim hq
theorem pe_cloU (hC : CloU X.prog X.w X.K X.mg X.base g U0 X.outer X.s_0 X.H_0 f k m) (hx : X.ex = []) (hr : Room k' X.A) (hk : k ≤ k') (tk : Takes X W)
    (hN : X.N[i]? = some x) (hv : Vis X.env.scope x) (hd : (x == ("__debug__" : Str)) = false) (hcd : (x == ("__classdict__" : Str)) = false) : PE X (.Call (.Name x pp) [] [] pos) (tCloU X.K g U0 X.H_0 i f m W) := by
  refine ⟨fun pins s σ H Q I h => ?_⟩
  obtain ⟨hs, U, Qk, Ed, hG, hU, hU0, e0, j0, hm, hQ, hE⟩ := h
  refine wpAny_Call_Name_kw (thn ((pe_var (pos := pp) (i := i) hN hv hd hcd).run pins s σ H (fun v H1 => v = .ref f ∧ H1 = H) I ⟨.ref f, hs, rfl, rfl⟩) fun u s1 hu => ?_)
  obtain ⟨v, H1, I1, r1, rfl, rfl⟩ := hu
  obtain rfl : u = Value.ref f := r1
  obtain ⟨q1, q2⟩ := hC X.A X.stack s1 _ U (Later.of I1 hx e0) j0 (hr.mono hk) I1.env0 hG hU hU0
  refine PySem.W.callWith_of rfl PySem.W.keeps_F (PyProof.Rows.evalArgs_empty ?_)
  exact ⟨q1, metAt (passAt tk σ) I1 (q2 Qk Ed Q (WE W σ) hm hQ hE)⟩
end
/-! ### try: act() / except c as e: suite -/
section
variable {z : Zc} {O : List Nat} {oa : Nat → Addr} {σ : L2.St} {H : Hp} {ρ : DEnv}
theorem SO.noxd (s : SO z O oa σ H ρ) : SO z.nox O oa σ H ρ := ⟨s.ok.nox, s.ext, s.j, s.d0, s.len, s.env, s.own, s.inj, s.kp⟩
theorem SO.unnox (ok : z.Ok) (s : SO z.nox O oa σ H ρ) : SO z O oa σ H ρ := ⟨ok, s.ext, s.j, s.d0, s.len, s.env, s.own, s.inj, s.kp⟩
theorem Uo_unset {i : Nat} (hi : i ∉ O) : Uo z O oa (ρ.set i none) = Uo z O oa ρ := by
  funext a
  apply propext
  unfold Uo
  constructor
  · rintro (h | ⟨k, hk, ⟨d', h⟩, e⟩)
    · exact .inl h
    · have hne : i ≠ k := fun q => hi (q ▸ hk)
      rw [List.getElem?_set_ne hne] at h
      exact .inr ⟨k, hk, ⟨d', h⟩, e⟩
  · rintro (h | ⟨k, hk, ⟨d', h⟩, e⟩)
    · exact .inl h
    · have hne : i ≠ k := fun q => hi (q ▸ hk)
      exact .inr ⟨k, hk, ⟨d', by rw [List.getElem?_set_ne hne]; exact h⟩, e⟩
theorem SO.unset (s : SO z O oa σ H ρ) {j : Nat} (hj : j ∉ O) : SO z O oa (σ.set j none) H (ρ.set j none) := by
  have nj : ∀ {i : Nat} {d : D}, (ρ.set j none)[i]? = some (some d) → i ≠ j ∧ ρ[i]? = some (some d) := fun {i d} h => by
    by_cases e : j = i
    · subst e
      by_cases hl : j < ρ.length
      · rw [List.getElem?_set_self hl] at h
        cases h
      · rw [List.getElem?_eq_none (by simpa using hl)] at h
        cases h
    · rw [List.getElem?_set_ne e] at h
      exact ⟨fun q => e q.symm, h⟩
  refine ⟨s.ok, s.ext, s.j, s.d0, by rw [List.length_set, List.length_set]; exact s.len, fun i d hi h => ?_, fun i d hi h => ?_, fun i k hi hk hd1 hd2 => ?_, fun p hp => by rw [Uo_unset hj]; exact s.kp p hp⟩
  · obtain ⟨hne, h⟩ := nj h
    obtain ⟨v, h1, h2⟩ := s.env i d hi h
    exact ⟨v, by rw [List.getElem?_set_ne (fun q => hne q.symm)]; exact h1, by rw [Uo_unset hj]; exact h2⟩
  · obtain ⟨hne, h⟩ := nj h
    obtain ⟨h1, h2, u, h3, h4, h5⟩ := s.own i d hi h
    exact ⟨h1, h2, u, by rw [Uo_unset hj]; exact h3, by rw [List.getElem?_set_ne (fun q => hne q.symm)]; exact h4, h5⟩
  · obtain ⟨d1, q1⟩ := hd1
    obtain ⟨d2, q2⟩ := hd2
    exact s.inj i k hi hk ⟨d1, (nj q1).2⟩ ⟨d2, (nj q2).2⟩
end
section
variable {X : Cx} {z : Zc} {O : List Nat} {f CE : Addr} {k k' i j : Nat} {m : MU} {xa n cn : Str} {ES : List Addr} {b₀ : Stmt} {suite : List Stmt} {ts : Addr → Addr → Addr → TS} {msu : Addr → Addr → Addr → MS} {p1 p2 p3 np pos' pos : Pos}
/-- the suite's reading: only for own errors with a dict -/
def tSu (ES : List Addr) (ts : Addr → Addr → Addr → TS) : Addr → Value → Option Addr → TS := fun a cls d D σ H => ∃ C dd : Addr, cls = .ref C ∧ d = some dd ∧ C ∈ ES ∧ ts a dd C D σ H
abbrev objE (C dd : Addr) : Obj := { cls := .ref C, dict := some dd, data := .fields #[], slots := #[] }
theorem ds_tryU (hC : CloU X.prog X.w X.K X.mg X.base z.g z.U0 X.outer X.s_0 X.H_0 f k m) (hx : X.ex = []) (h0 : z.H0 = X.H_0) (hK : X.K = z.K) (hr : Room k' X.A) (hk : k ≤ k') (tk : Takes X (fun c d _ H => z.EK c d H)) (hN : X.N.Nodup) (hjO : j ∉ O) (hc : Names X cn (.ref CE)) (hES : ∀ C ∈ ES, PySem.W.exmOne X.K (.ref C) (.ref CE) = some true)
    (hsu : ∀ (a : Addr) (oe : Obj) (C dd : Addr) (pn : List (Addr × Obj)), C ∈ ES → L2.Zc (.ref C) (some dd) oe → (∃ vs, oe.data = .fields vs) → DSs (X.suite a ((a, oe) :: pn)) z.nox O (b₀ :: suite) (ts a dd C) (msu a dd C))
    (hi : X.N[i]? = some xa := by rfl) (hv : Vis X.env.scope xa := by first | exact Or.inl rfl | exact Or.inr (Or.inl rfl) | exact Or.inr (Or.inr rfl)) (hd : (xa == ("__debug__" : Str)) = false := by decide) (hcd : (xa == ("__classdict__" : Str)) = false := by decide)
    (hj : X.N[j]? = some n := by rfl) (hln : X.env.kindOf n = some .local := by rfl) (hs : X.stack = X.env :: X.outer := by rfl) (hf : X.env.frame = some X.env.locals := by rfl) (hsw : swapsWith (.Call (.Name xa p1) [] [] p2) none p3.line X.env = pure false := by rfl) :
    DS X z O (.Try [.Expr (.Call (.Name xa p1) [] [] p2) p3] [.ExceptHandler (some (.Name cn np)) (some n) (b₀ :: suite) pos'] [] [] pos)
      (fun D σ H => tDrop (tCloU X.K z.g z.U0 X.H_0 i f m (wAs X.K (.ref CE) j (tSu ES ts) (fun c d _ H => z.EK c d H) D)) D σ H)
      (fun κ E ρ => gv ρ i (fun d => d = .obj f ∧ m (κ.nx ρ) (fun x => x.C ∈ ES ∧ ∀ a dd, msu a dd x.C { nx := fun ρ' => κ.nx (ρ'.set j none), rt := κ.rt, bk := fun ρ' => κ.bk (ρ'.set j none), ct := fun ρ' => κ.ct (ρ'.set j none) } (fun _ => False) (ρ.set j (some (.err a dd x.C x.ks x.ds))))) E) := by
  refine ⟨ps_try_as (tb := fun W => tDrop (tCloU X.K z.g z.U0 X.H_0 i f m W)) hs hf hN hj hln hc tk (fun W pn xe tk' _ => pss_one (ps_expr (pe_cloU (X := X.tr pn xe) hC hx hr hk tk' hi hv hd hcd) hsw)) (fun a oe cls d pn hz hfl => ⟨fun pins s σ H D I h => ?_⟩), fun kp oa σ H ρ Dn κ E s hE ko hm => ?_⟩
  · obtain ⟨C, dd, rfl, rfl, hCE, h⟩ := h
    exact (hsu a oe C dd pn hCE hz hfl).ps.run pins s σ H D I h
  · simp only [gv] at hm
    cases q : ρ.getD i none with
    | none => rw [q] at hm; exact hm.elim
    | some d =>
      rw [q] at hm
      obtain ⟨rfl, hm⟩ := hm
      have q' : ρ[i]? = some (some (.obj f)) := by
        rw [List.getD_eq_getElem?_getD] at q
        cases e : ρ[i]? with
        | none => rw [e] at q; simp at q
        | some o => rw [e] at q; simp at q; rw [q]
      obtain ⟨v, h1, h2⟩ := s.full.env.2 i _ q'
      simp only [Rep] at h2
      subst h2
      refine ⟨h1, Uo (z.keep kp) O oa ρ, κ.nx ρ, _, s.gu, s.dom, fun a ha => ?_, by rw [← h0]; exact s.ext, s.j, hm, fun v H' q1 e1 j1 => ko.nx oa σ H' ρ (s.step e1 j1) q1, fun x cls dp H' q1 e1 j1 rx => ?_⟩
      · rcases ha with ha | ⟨i', hi', ⟨d', hd'⟩, rfl⟩
        · exact .inl ha
        · exact .inr (by rw [← h0]; exact (s.own i' d' hi' hd').1)
      · obtain ⟨hCE, q1⟩ := q1
        obtain ⟨rfl, dd, fs, rfl, hdd, nU, hks, rs⟩ := rx
        refine ⟨true, hES _ hCE, fun _ a ha => ⟨x.C, dd, rfl, rfl, hCE, ?_⟩, fun q => Bool.noConfusion q⟩
        have tm := (hsu a (objE x.C dd) x.C dd [] hCE ⟨rfl, rfl⟩ ⟨_, rfl⟩).tm
        have s1 := (s.step e1 j1).set hjO (v := .ref a) (d := .err a dd x.C x.ks x.ds) (by
          simp only [Rep]
          rw [hK] at rs
          exact ⟨trivial, fs, ⟨hdd, nU, hks⟩, rs⟩)
        refine tm kp oa _ H' _ _ { nx := fun ρ' => κ.nx (ρ'.set j none), rt := κ.rt, bk := fun ρ' => κ.bk (ρ'.set j none), ct := fun ρ' => κ.ct (ρ'.set j none) } (fun _ => False) s1.noxd (fun _ h => h) ⟨fun oa' σ' H2 ρ' s2 q2 => ?_, fun d v H2 q2 e2 j2 r2 => ko.rt d v H2 q2 e2 j2 r2, fun oa' σ' H2 ρ' s2 q2 => ?_, fun oa' σ' H2 ρ' s2 q2 => ?_⟩ (q1 a dd)
        · exact ko.nx oa' _ H2 _ ((SO.unnox s.ok s2).unset hjO) q2
        · exact ko.bk oa' _ H2 _ ((SO.unnox s.ok s2).unset hjO) q2
        · exact ko.ct oa' _ H2 _ ((SO.unnox s.ok s2).unset hjO) q2
end
end DL

/-! DExc2: lambdas without parameters that hold data, handed to a def that calls them. -/
namespace DL
open PySem PySem.Spec PyProof.Rows L2 LamX NdefX
/-- the names' data at the entry of such a lambda -/
def startU (N : List Str) (ρc : DEnv) : DEnv := ρc ++ List.replicate (N.length - ρc.length) none
section
variable {X : Cx} {pins : List (Addr × Obj)} {σ : L2.St} {H : Hp} {s : Shared} {params : Arguments} {body : Expr} {scope : Scope} {f c' : Addr} {N fr : List Str} {g : GG} {k : Nat} {mb : DEnv → M D} {U0 : Addr → Prop}
theorem clo_ofU {ws : List (Option V)} {ρc : DEnv} (I : Inv X pins σ H s) (j : g.J H) (hx : ∀ H a φ, g.J H → g.G a → H a ≠ some (.ext φ)) (hG0 : ∀ a, g.G a → U0 a) (mk : MadeL X params body scope s H f c') (S : NScope N [] fr scope)
    (hbind : ∀ (q : Str) (cl : List (Str × Addr)) (pm cv ctv : Value), bindArgs (PySem.W.kla_fn "<lambda>" q params body scope cl pm cv ctv) ⟨[], []⟩ = pure [])
    (C : CellsAt (cloFrom X.env.cells scope.names []) fr ws s.heap H) (hcf : ∀ y a, (cloFrom X.env.cells scope.names []).lookup y = some a → a ∉ frs X.stack) (hlen : ρc.length = ws.length)
    (hcap : ∀ (i : Nat) (d : D), ρc[i]? = some (some d) → ∃ v, ws[i]? = some (some v) ∧ Rep X.K U0 H d v)
    (hb : ∀ (A : Around) (o : List Env) (s' : Shared) (H' : Hp) (E : XK) (U : Addr → Prop) (Ed : DX → Prop), Later g.G X.stack s H o s' H' → Room k (A.deeper (envF (lamNF X params scope c') f s'.heap.objs.size)) →
      ∃ te, DE (lCx X params scope N f c' A o s' H' E) (bZ X.K g U H' Ed E) body te mb) : CloU X.prog X.w X.K X.mg X.base g U0 X.stack s H f (k + 1) (fun Qk Ed => mb (startU N ρc) (fun _ => Qk) Ed) := by
  intro A o s' H' U l j' hr e0 hG hU hU0
  obtain ⟨⟨pm, ctv, hf⟩, f0, ff, co⟩ := mk
  have hf' := l.keep f _ hf f0 ff
  have co' : H' c' = some (CodeO c' (lamQ X)) := l.ext c' _ co fun q => hx H c' _ j q co
  refine ⟨⟨_, _, _, _, hf'⟩, fun Qk Ed Q E hm hQ hE => ?_⟩
  have lim : s'.heap.NoLimit := e0.mod.nolimit.keeps fun b u e => (e0.bs b u e).1
  have Cn : CellsAt (cloFrom X.env.cells scope.names []) fr ws s'.heap H' := by
    have kp : ∀ y a, (cloFrom X.env.cells scope.names []).lookup y = some a → ∀ v, s.heap.IsCell a v → s'.heap.IsCell a v := fun y a e v ⟨u, hu, hd⟩ => ⟨u, l.keep a u hu (C.all y a e).1 (hcf y a e), hd⟩
    refine ⟨C.len, fun y a e => ?_, C.inj, fun i y e => ?_⟩
    · obtain ⟨n0, v, q⟩ := C.all y a e
      obtain ⟨u, hu, _⟩ := id q
      exact ⟨l.free a u hu n0, v, kp y a e v q⟩
    · obtain ⟨a, ha, hv⟩ := C.has i y e
      refine ⟨a, ha, fun v ev => ?_⟩
      obtain ⟨u, ru, q⟩ := hv v ev
      exact ⟨u, ru, kp y a ha _ q⟩
  refine PySem.W.kla_callFunE hr.depth hf' rfl S.co S.gen rfl (codeO_at e0.hok co') ?_
  rw [hbind]
  refine wpAny_pure (wpAny_newFunctionEnv (fun y hy => S.nocell y hy) (fun y hy => absurd hy (by simp)) (fun h₁ hns hsb => And.intro (lim.fresh _ hsb) ?_) S.kind)
  obtain ⟨te, d⟩ := hb A o s' H' E U Ed l (hr.deeper _)
  have kp : ∀ b u, s'.heap.get? b = some u → h₁.get? b = some u := fun b u e => hsb.extBut b u (Nat.ne_of_lt (Heap.lt_size e)) (Heap.get?_push_of_some _ e)
  have J : Inv (lCx X params scope N f c' A o s' H' E) [] (startF N [] ws) H' { s' with heap := h₁, toks := s'.toks + 0 } := inv_startN (F := lamNF X params scope c') (ps := []) (us := []) S hr.hd e0 rfl .nil Cn hns kp
  have env : EnvRep X.K U H' (startF N [] ws) (startU N ρc) := by
    unfold startF startU
    refine ⟨by simp [hlen], fun i d hi => ?_⟩
    simp only [List.map_nil, List.nil_append, List.length_nil, Nat.sub_zero]
    by_cases h2 : i < ρc.length
    · rw [List.getElem?_append_left h2] at hi
      obtain ⟨v, e1, e2⟩ := hcap i d hi
      exact ⟨v, by rw [List.getElem?_append_left (by rw [← hlen]; exact h2)]; exact e1, Rep.mono' (fun a o h n => ⟨l.ext a o h fun q => n (hG0 a q), fun q => (hU0 a q).elim n fun z => by rw [z] at h; cases h⟩) d v e2⟩
    · rw [List.getElem?_append_right (Nat.le_of_not_lt h2), List.getElem?_replicate] at hi
      split at hi <;> cases hi
  have ok : (bZ X.K g U H' Ed E).Ok := ⟨hG, fun x cls dp H2 q e2 j2 r2 => hE x cls dp H2 q e2 j2 r2⟩
  have w : WR (bZ X.K g U H' Ed E) U (startF N [] ws) H' (startU N ρc) := ⟨ok, fun _ q => q, hU, Ext.refl _, j', env⟩
  have tm := d.tm U _ H' _ Q (fun _ => Qk) Ed w (fun _ q => q) hm fun d v H2 q e2 j2 _ => hQ v H2 q e2 j2
  refine PySem.W.kla_codeExpr (wpAny_mono (d.pe.run [] _ _ H' Q J tm) (fun v s3 q => ?_) fun _ _ q => q)
  obtain ⟨v', H3, J3, rv, q3⟩ := q
  exact ⟨v', H3, J3.os, J3.bare, J3.base, J3.hok, rv, q3⟩
end
/-! ### a def whose one argument is such a closure -/
def spOfU (K : PySem.W.Frag) (g : GG) (U : Addr → Prop) (n : Nat) (f : FS) : Sp := fun vs H Q E => vs.length = n ∧ ∃ (ds : List D) (Qd : D → Prop) (Ed : DX → Prop), (∀ a, g.G a → U a) ∧ (∀ a, U a → H a ≠ none) ∧ g.J H ∧ Reps K U H ds vs ∧
  f ds Qd Ed ∧ (∀ d v H', Qd d → Ext g.G H H' → g.J H' → Rep K U H' d v → Q v H') ∧ ∀ x cls dp H', Ed x → Ext g.G H H' → g.J H' → RepX K U H' cls dp x → E cls dp H'
def GFLU (P : Program) (w : World) (K : PySem.W.Frag) (mg : Str → Option Value) (base : Heap) (g : GG) (x : Str) (k kL : Nat) (sp : Addr → MU → FS) : Prop :=
  ∃ f, mg x = some (.ref f) ∧ PySem.W.keepIn K (.ref f) = true ∧ ∀ (A : Around) (o : List Env) (s : Shared) (H : Hp) (us : List Value) (vs : List V) (Q : VK) (E : XK) (fL : Addr) (U : Addr → Prop) (m : MU), Room k A → Env0 P w K mg base A o s H → Vals vs us →
    CloU P w K mg base g U o s H fL kL m → spOfU K g U 1 (fun ds Qd Ed => ds = [.obj fL] ∧ sp fL m ds Qd Ed) vs H Q E → codeAny (model P w) A (.call (.ref f) ⟨us, []⟩) (CR (L2.CX P w) o P w H s Q E) s
section
variable {P : Program} {w : World} {K : PySem.W.Frag} {mg : Str → Option Value} {base : Heap}
theorem gflu_of {x qual : Str} {st : Stmt} {f : Addr} {fd : FuncData} {N ps : List Str} {k kL : Nat} {g : GG} {sp : Addr → MU → FS} (F : Fun K x qual st f fd) (hmg : mg x = some (.ref f)) (b : Binds K fd ps []) (S : FnScope N ps (defScope st)) (hn : ps.length = 1) (O : List Nat) (hO : ∀ i, i ∈ O → 1 ≤ i)
    (hb : ∀ (fL : Addr) (m : MU), ∃ ms : MS, (∀ (cdv : Value) (A : Around) (o : List Env) (s : Shared) (H : Hp) (E : XK) (U : Addr → Prop) (Ed : DX → Prop), Room k (A.deeper (envOfC qual (defScope st) s.heap.objs.size f cdv)) → CloU P w K mg base g U o s H fL kL m →
      ∃ ts, DSs (bCx P w K mg base N qual st f cdv A o s H E) (bZ K g U H Ed E) O (defBody st) ts ms) ∧ ∀ ds Q E, ds = [.obj fL] → sp fL m ds Q E → ms (κOf Q) E (startD N ds)) : GFLU P w K mg base g x (k + 1) kL sp := by
  refine ⟨f, hmg, F.kp, fun A o s H us vs Q E fL U m hr e0 r c hsp => ?_⟩
  obtain ⟨oc, od, kV, doc, pm, an, cdv, ct, osl, rfl, lk, hcd⟩ := F.ex
  obtain ⟨hl, ds, Qd, Ed, hG, hU, j, rd, ⟨hf0, hf⟩, hQ, hE⟩ := hsp
  have KX : K.In s.heap := e0.mod.kin.keeps fun b o e => (e0.bs b o e).1
  have hb2 := b s us KX (by rw [List.append_nil, ← r.length, hl, hn])
  rw [List.append_nil] at hb2
  refine run_ofS (N := N) (ps := ps) (us := us) (vs := vs) lk hcd S hr e0 hb2 r (hl.trans hn.symm) fun hr' => ?_
  obtain ⟨ms, hb1, h⟩ := hb fL m
  obtain ⟨ts, d⟩ := hb1 cdv A o s H E U Ed hr' c
  have hds : ds.length = 1 := rd.length.symm.trans hl
  have ok : (bZ K g U H Ed E).Ok := ⟨hG, hE⟩
  exact ⟨ts, d.ps, d.tm [] _ _ _ _ _ (κOf Qd) Ed (so_start (z := bZ K g U H Ed E) (N := N) ok hU j rd (fun i hi => by rw [hds]; exact hO i hi) rfl) (fun _ h => h) ⟨fun oa σ H' ρ s' q => hQ .non .non H' q s'.ext s'.j (by simp only [Rep]), fun d v H' q e j' r' => hQ d v H' q e j' r', fun _ _ _ _ _ q => q.elim, fun _ _ _ _ _ q => q.elim⟩ (h ds Qd Ed hf0 hf)⟩
end
/-! ### its call with such a lambda -/
def tCallU (K : PySem.W.Frag) (g : GG) (H0 : Hp) (js : List Nat) (spA : Addr → MU → FS) (mm : DEnv → MU) (E : XK) (tl : TL) : TE := fun σ H Q => tl σ H fun vs f H1 => ∃ (U : Addr → Prop) (ρc : DEnv), ρc.length = js.length ∧ (∀ a, g.G a → U a) ∧ (∀ (i : Nat) (d : D), ρc[i]? = some (some d) → ∃ v, (js.map (slotAt σ))[i]? = some (some v) ∧ Rep K U H1 d v) ∧
  Ext g.G H0 H1 ∧ g.J H1 ∧ spOfU K g U 1 (fun ds Qd Ed => ds = [.obj f] ∧ spA f (mm ρc) ds Qd Ed) vs H1 Q E
section
variable {X : Cx} {z : Zc} {params : Arguments} {body e : Expr} {scope : Scope} {tl : TL} {x : Str} {k k' kL : Nat} {sp : Addr → MU → FS} {N fr : List Str} {js : List Nat} {mb : DEnv → M D} {pp pos : Pos}
theorem de_lamU (F : GFLU X.prog X.w X.K X.mg X.base z.g x k (kL + 1) sp) (hK : X.K = z.K) (hx : X.ex = []) (h0 : z.H0 = X.H_0) (hr : Room k' X.A) (hk : k ≤ k') (tk : Takes X (fun c d _ H => z.EK c d H))
    (hGx : ∀ H a φ, z.g.J H → z.g.G a → H a ≠ some (.ext φ)) (ha : DL X z params body scope [e] tl (fun _ => ret [])) (S : NScope N [] fr scope)
    (hbind : ∀ (q : Str) (cl : List (Str × Addr)) (pm cv ctv : Value), bindArgs (PySem.W.kla_fn "<lambda>" q params body scope cl pm cv ctv) ⟨[], []⟩ = pure [])
    (cp : X.Ok → Caps X (cloFrom X.env.cells scope.names []) fr js) (hfn : ∀ y a, (cloFrom X.env.cells scope.names []).lookup y = some a → X.fn y = true)
    (hb : ∀ (f c' : Addr) (A : Around) (o : List Env) (s' : Shared) (H' : Hp) (E : XK) (U : Addr → Prop) (Ed : DX → Prop), Later z.g.G X.outer X.s_0 X.H_0 o s' H' → Room kL (A.deeper (envF (lamNF X params scope c') f s'.heap.objs.size)) →
      ∃ te, DE (lCx X params scope N f c' A o s' H' E) (bZ X.K z.g U H' Ed E) body te mb)
    (hg : Gl X x := by rfl) (hdb : (x == ("__debug__" : Str)) = false := by decide) (he : starEach [e] X.env = (false, eval e X.env) :: starEach [] X.env := by rfl) (hpl : (backTo pos (starEach [] X.env)).any (·.1) = false := by rfl) :
    DE X z (.Call (.Name x pp) [e] [] pos) (tCallU X.K z.g X.H_0 js sp (fun ρc Qk Ed => mb (startU N ρc) (fun _ => Qk) Ed) z.EK tl) (fun ρ => fun Q E => ∀ f, sp f (fun Qk Ed => mb (startU N (js.map fun j => ρ.getD j none)) (fun _ => Qk) Ed) [.obj f] Q E) := by
  obtain ⟨g, h1, h2, h3⟩ := F
  refine ⟨⟨fun pins s σ H Q I hh => ?_⟩, fun U σ H ρ Q Qd E w hE hm k2 => ?_⟩
  · refine wpAny_Call_Name_kw (ld_glob I hg h1 ?_ hdb)
    refine PySem.W.callWith_K (h₀ := X.base) I.ok.mod.kin h2 (thn (ha.pl.run pos pins s σ H _ I hh) fun us s1 hu => ?_) he hpl
    obtain ⟨vs, f, c', H1, I1, r, mk, U, ρc, hlen, hGU, hcap, e1, j1, q⟩ := hu
    refine ⟨I1.kIn, met (passes_call tk fun _ _ _ _ h => h) I1 (h3 X.A X.stack s1 H1 us vs Q z.EK f U _ (hr.mono hk) I1.env0 r ?_ q)⟩
    have C := cells_of I1 (cp I1.ok)
    refine clo_ofU I1 j1 hGx hGU mk S hbind C (fun y a hy hs => ?_) (by rw [hlen, List.length_map]) hcap (fun A o s' H' E U Ed l rr => hb f c' A o s' H' E U Ed ((Later.of I1 hx e1).trans l) rr)
    have hy' := (cp I1.ok).sub y a hy
    rcases List.mem_cons.mp (I1.stkSub a hs) with q | q
    · obtain ⟨_, v, u, hu, hd⟩ := C.all y a hy
      obtain ⟨m, ⟨u2, es2, ep, hu2, hd2, _⟩, _⟩ := I1.loc
      rw [← q, hu] at hu2
      cases hu2
      rw [hd] at hd2
      cases hd2
    · have ca := I1.ok.cab y a (hfn y a hy) hy'
      obtain ⟨_, u, hu, _⟩ := I1.ok.funs.mem q
      exact absurd (Nat.lt_of_lt_of_le (Heap.lt_size hu) ca) (Nat.lt_irrefl _)
  · refine ha.tm U σ H ρ _ (fun ds => ds = []) E w hE rfl fun ds vs f H1 hh e1 j1 r1 => ?_
    subst hh
    have w1 := w.step e1 j1
    rw [hK]
    refine ⟨U, js.map fun j => ρ.getD j none, List.length_map _, w.gu, fun i d hi => ?_, by rw [← h0]; exact w1.ext, j1, r1.length, [.obj f], Qd, E, w.gu, w1.dom, j1, r1, ⟨rfl, hm f⟩, fun d v H' q e2 j2 r2 => k2 d v H' q (e1.trans e2) j2 r2, fun x cls dp H' q e2 j2 r2 => w.ok.ek x cls dp H' (hE x q) (w1.ext.trans e2) j2 (r2.less w.u)⟩
    rw [List.getElem?_map] at hi
    cases ej : js[i]? with
    | none => rw [ej] at hi; cases hi
    | some j =>
      rw [ej] at hi
      have hi : ρ.getD j none = some d := Option.some.inj hi
      have q' : ρ[j]? = some (some d) := by
        rw [List.getD_eq_getElem?_getD] at hi
        cases e : ρ[j]? with
        | none => rw [e] at hi; simp at hi
        | some o => rw [e] at hi; simp at hi; rw [hi]
      obtain ⟨v, h1, h2⟩ := w1.env.2 j d q'
      exact ⟨v, by rw [List.getElem?_map, ej]; exact congrArg some (slotAt_of h1), h2⟩
end
end DL

/-! DExc3: what is asked of a caught error: isinstance, its attributes. -/
namespace DL
open PySem PySem.Spec PyProof.Rows L2
/-- the own error classes ES, all right under CE -/
structure ErrTab (K : PySem.W.Frag) (ES : List Addr) (CE : Addr) : Prop where
  xc : ∀ C ∈ ES, ExcC K C
  xf : ∀ C ∈ ES, XfC K C
  exm : ∀ C ∈ ES, PySem.W.exmOne K (.ref C) (.ref CE) = some true
  kit : ∀ C ∈ ES, ∀ C' ∈ ES, PySem.W.kitOne K (.ref C) (.ref C') = some (C == C')
  kb : ∀ C ∈ ES, PySem.W.kitOne K (.ref C) (.ref CE) = some true
  ve : ∀ C ∈ ES, PySem.W.kitOne K (.ref C) (.type "ValueError") = some true
  le : ∀ C ∈ ES, PySem.W.kitOne K (.ref C) (.type "LookupError") = some false
  no : ∀ C ∈ ES, ∀ f ∈ (["given", "index"] : List Str), PySem.W.findIn K (.ref C) f = some none
section
variable {X : Cx} {z : Zc} {a C dd : Addr} {oe : Obj} {pn : List (Addr × Obj)} {ES : List Addr} {CE : Addr}
abbrev rErrIs (K : PySem.W.Frag) (a C dd : Addr) : List V → Hp → VK → Prop := fun xs H Q => ∃ (c : V) (cv : Value) (b : Bool) (fs : List (Str × V)), xs = [.ref a, c] ∧ H dd = some (.xd fs) ∧ (∀ u, RelV c u → u = cv) ∧ PySem.W.kitOne K (.ref C) cv = some b ∧ Q (.bl b) H
theorem call_errIs (T : ExcC X.K C) (hz : L2.Zc (.ref C) (some dd) oe) (hf : ∃ vs, oe.data = .fields vs) : CallR (X.suite a ((a, oe) :: pn)) (.builtin "isinstance") (rErrIs X.K a C dd) := by
  intro pins s σ H xs us Q I r h
  obtain ⟨c, cv, b, fs, rfl, hdd, hcv, e, q⟩ := h
  obtain ⟨u0, u1, rfl, r0, r1⟩ := Vals.two r
  obtain rfl : u0 = Value.ref a := r0
  obtain rfl := hcv _ r1
  obtain ⟨hget, _⟩ := I.pin (a, oe) (List.mem_append_left _ List.mem_cons_self)
  obtain ⟨vs, hv⟩ := hf
  have hx : ObjOk X.prog X.w H s.heap dd (.xd fs) := I.hok dd _ hdd
  obtain ⟨mA, hns, _⟩ := hx
  obtain ⟨od, ho, _⟩ := lookIn_ns hns
  have J : PySem.W.InstAt s.heap a oe C (some od) := ⟨hget, hz.1, by unfold PySem.W.notCls; rw [hv] <;> rfl, by rw [hz.2]; exact ho⟩
  have hcl : (PySem.W.clsIn X.K C).isSome = true := by
    obtain ⟨cd, hc, _⟩ := PySem.W.any_some T.hd
    rw [hc]
    rfl
  exact PySem.W.kia_one (PySem.W.kitx_exc hcl T.hg T.hk T.hs T.ha T.hn T.ht T.hm) I.kIn J e (fun z => nomatch z) fun tk => ⟨.bl b, H, I.kept (t' := tk) fun _ _ z => z, rfl, q⟩
/-- isinstance(e, c), e the caught error -/
abbrev mErrIs (a C dd : Addr) (ES : List Addr) (CE : Addr) (d c : D) : M D := fun Q _ => match d with
  | .err a' dd' C' _ _ => (a' = a ∧ dd' = dd ∧ C' = C) ∧ match c with
    | .obj C2 => (C2 = CE ∧ Q (.bl true)) ∨ (C2 ∈ ES ∧ Q (.bl (C == C2)))
    | .ty t => (t = "ValueError" ∧ Q (.bl true)) ∨ (t = "LookupError" ∧ Q (.bl false))
    | _ => False
  | _ => False
theorem rmErrIs (T : ErrTab z.K ES CE) (hC : C ∈ ES) : RMn z (rErrIs z.K a C dd) (m2 (mErrIs a C dd ES CE)) := rmn2 fun U H d c x y Q Qd E gu hU j r1 r2 he h k => by
  cases d with
  | err a' dd' C' ks ds =>
    obtain ⟨⟨rfl, rfl, rfl⟩, h⟩ := h
    simp only [Rep] at r1
    obtain ⟨rfl, fs, ⟨hdd, _, _⟩, _⟩ := r1
    cases c with
    | obj C2 =>
      simp only [Rep] at r2
      subst r2
      rcases h with ⟨rfl, h⟩ | ⟨h2, h⟩
      · exact ⟨_, _, _, fs, rfl, hdd, fun u q => q, T.kb _ hC, k _ _ H h (Ext.refl H) j (by simp only [Rep])⟩
      · exact ⟨_, _, _, fs, rfl, hdd, fun u q => q, T.kit _ hC _ h2, k _ _ H h (Ext.refl H) j (by simp only [Rep])⟩
    | ty t =>
      simp only [Rep] at r2
      subst r2
      rcases h with ⟨rfl, h⟩ | ⟨rfl, h⟩
      · exact ⟨_, _, _, fs, rfl, hdd, fun u q => q, T.ve _ hC, k _ _ H h (Ext.refl H) j (by simp only [Rep])⟩
      · exact ⟨_, _, _, fs, rfl, hdd, fun u q => q, T.le _ hC, k _ _ H h (Ext.refl H) j (by simp only [Rep])⟩
    | _ => exact h.elim
  | _ => exact h.elim
variable {e1 e2 : Expr} {es : List Expr} {te : TE} {me : DEnv → M D} {tr : TA} {mr : DEnv → M (List D)} {pp pos : Pos} {f : Str}
theorem de_errIs (T : ErrTab z.K ES CE) (hC : C ∈ ES) (hz : L2.Zc (.ref C) (some dd) oe) (hf : ∃ vs, oe.data = .fields vs) (hK : X.K = z.K) (hm : X.mg "isinstance" = none) (ha : DA (X.suite a ((a, oe) :: pn)) z (e1 :: es) tr mr) (hg : Gl (X.suite a ((a, oe) :: pn)) "isinstance" := by rfl)
    (he : starEach (e1 :: es) X.env = (false, eval e1 X.env) :: starEach es X.env := by rfl) (hpl : (backTo pos (starEach es X.env)).any (·.1) = false := by rfl) :
    DE (X.suite a ((a, oe) :: pn)) z (.Call (.Name "isinstance" pp) (e1 :: es) [] pos) (tCB (rErrIs z.K a C dd) tr) (fun ρ => bnd (mr ρ) (m2 (mErrIs a C dd ES CE))) :=
  de_cb (X := X.suite a ((a, oe) :: pn)) (hK ▸ call_errIs (hK ▸ T.xc C hC) hz hf) (rmErrIs T hC) hm rfl ha hg (by decide) (by decide) he hpl
/-- e.f, e the caught error -/
abbrev mErrFld (a C dd : Addr) (f : Str) (d : D) : M D := fun Q _ => match d with
  | .err a' dd' C' ks ds => (a' = a ∧ dd' = dd ∧ C' = C) ∧ (match getA f ks ds with | some v => Q v | none => False)
  | _ => False
theorem de_errFld (T : ErrTab z.K ES CE) (hC : C ∈ ES) (hf : f ∈ (["given", "index"] : List Str)) (hz : L2.Zc (.ref C) (some dd) oe) (hfl : ∃ vs, oe.data = .fields vs) (hK : X.K = z.K) (he : DE (X.suite a ((a, oe) :: pn)) z e1 te me)
    (hb : attributeBase e1 f X.env (eval e1 X.env) = eval e1 X.env := by rfl) :
    DE (X.suite a ((a, oe) :: pn)) z (.Attribute e1 f pos) (tXf a (.ref C) (some dd) C f te) (fun ρ => bnd (me ρ) (mErrFld a C dd f)) :=
  ⟨pe_xf (hK ▸ T.xf C hC) (hK ▸ T.no C hC f hf) hz hfl he.pe hb, fun U σ H ρ Q Qd E w hE h k => he.tm U σ H ρ _ _ E w hE h fun d v H1 h1 e1 j1 r1 => by
    cases d with
    | err a' dd' C' ks ds =>
      obtain ⟨⟨rfl, rfl, rfl⟩, h1⟩ := h1
      simp only [Rep] at r1
      obtain ⟨rfl, fs, ⟨q, nu, rfl⟩, rs⟩ := r1
      cases hg : getA f (fs.map (·.1)) ds with
      | none => rw [hg] at h1; exact h1.elim
      | some d =>
        rw [hg] at h1
        obtain ⟨w', l, r⟩ := getA_of rs hg
        exact ⟨rfl, rfl, _, fs, w', rfl, q, l, k d w' H1 h1 e1 j1 r⟩
    | _ => exact h1.elim⟩
end
end DL

/-! DExc4: the head's facts of own errors. -/
namespace DL
open PySem PySem.Spec PyProof.Rows L2
/-- an own error class: its name, its attribute, its __init__ -/
structure ErrD where
  cls : Str
  attr : Str
  st : Stmt
abbrev ErW : Type := Option (Str × Str × Arguments × FuncBody × Scope × Addr × Addr)
def eW (K : PySem.W.Frag) (a : Addr) : ErW := match K.lookup a with
  | some ⟨_, _, .func fd, _⟩ => some (fd.name, fd.qualname, fd.params, fd.body, fd.scope, fd.globals, fd.builtins)
  | _ => none
def ErrD.fI (K : PySem.W.Frag) (d : ErrD) : Addr := He.ma K (He.ga K d.cls) "__init__"
def ErrD.qual (d : ErrD) : Str := d.cls ++ ".__init__"
def ErrD.val (d : ErrD) : ErW := some ("__init__", d.qual, defArgs d.st, .stmts (defBody d.st), defScope d.st, mainGlobals, builtinsNs)
def obsErr (es : List ErrD) (K : PySem.W.Frag) : List ErW := es.map fun d => eW K (d.fI K)
/-! ### what is looked at in K -/
def oexB (K : PySem.W.Frag) (C : Addr) : Bool := (match K.lookup C with
  | some ⟨.type t, _, .cls cd, sl⟩ => decide (t = "type") && (match cd.mro, sl.toList with
    | .ref C' :: bm, [_, _, _, _, some (.builtin n), _] => decide (C' = C) && (decide (n = "ValueError.__new__") && (!cd.hasDel && (cd.hasDict && PySem.HandSPX.refsVE bm)))
    | _, _ => false)
  | _ => false) && (He.eqO (PySem.W.findIn K (.ref C) "__setattr__") (some (some (.builtin "object.__setattr__"))) && (obB (PySem.W.subIn K (.ref C) (.type "BaseException")) true && (decide (PySem.W.typeIn K (.ref C) = some (.type "type")) && PySem.W.keepIn K (.ref C))))
theorem oexB_ok {K : PySem.W.Frag} {C : Addr} (h : oexB K C = true) : OexC K C := by
  obtain ⟨h1, h⟩ := He.ba h
  obtain ⟨h2, h⟩ := He.ba h
  obtain ⟨h3, h⟩ := He.ba h
  obtain ⟨h4, h5⟩ := He.ba h
  refine ⟨?_, He.eqO_ok h2, of_decide_eq_true h3, of_decide_eq_true h4, h5⟩
  split at h1
  · rename_i t dd cd sl ho
    obtain ⟨et, hm1⟩ := He.ba h1
    have et := of_decide_eq_true et
    clear h1
    subst et
    split at hm1
    · rename_i C' bm k0 k1 k2 k3 n k5 hm hs
      obtain ⟨e1, hm1⟩ := He.ba hm1
      obtain ⟨e2, hm1⟩ := He.ba hm1
      obtain ⟨e3, hm1⟩ := He.ba hm1
      obtain ⟨e4, e5⟩ := He.ba hm1
      obtain rfl := of_decide_eq_true e1
      obtain rfl := of_decide_eq_true e2
      obtain ⟨nm, bs, mro, ns, qn, hd, sn, sub, ab, col, del⟩ := cd
      dsimp only at hm e3 e4
      subst hm
      obtain rfl : del = false := by cases del <;> first | rfl | cases e3
      obtain rfl : hd = true := e4
      have hsl : sl = #[k0, k1, k2, k3, some (.builtin "ValueError.__new__"), k5] := by
        obtain ⟨l⟩ := sl
        simp only at hs
        rw [hs]
      subst hsl
      exact ⟨nm, qn, ns, bs, bm, sn, sub, ab, col, dd, k0, k1, k2, k3, k5, ho, e5⟩
    · cases hm1
  · cases h1
def cellB (K : PySem.W.Frag) (cc C : Addr) : Bool := match K.lookup cc with
  | some ⟨_, _, .cell (some (.ref C')), _⟩ => decide (C' = C)
  | _ => false
def codeFB (K : PySem.W.Frag) (cda : Addr) (file : Str) : Bool := match K.lookup cda with
  | some ⟨_, _, .fields vs, _⟩ => (match (vs[2]? : Option Value) with
    | some (Value.str f _) => decide (f = file)
    | _ => false)
  | _ => false
def fnEB (K : PySem.W.Frag) (file : Str) (C f : Addr) (qual : Str) : Bool := match K.lookup f with
  | some ⟨_, _, .func fd, _⟩ => noneB fd.defaults && (PySem.W.codeIn K fd.code qual && (match fd.closure, fd.code with
    | [(y, cc)], .ref cda => decide (y = ("__class__" : Str)) && (cellB K cc C && codeFB K cda file)
    | _, _ => false))
  | _ => false
def errB0 (K : PySem.W.Frag) (file : Str) (C f : Addr) (qual attr : Str) : Bool := oexB K C && (He.eqO (PySem.W.findIn K (.ref C) "__init__") (some (some (.ref f))) && (decide (PySem.W.typeIn K (.ref f) = some (.type "function")) && (fnEB K file C f qual &&
  (obB (PySem.W.mroIn K C (.ref C)) true && (obB (PySem.W.subIn K (.ref C) (.type "ValueError")) true && (He.eqO (PySem.W.ks_superIn K C C "__init__") (some (some (.builtin "ValueError.__init__"))) && (He.eqO (PySem.W.nsIn K cStatics "thirdparty.any") (some none) && He.eqO (PySem.W.findIn K (.ref C) attr) (some none))))))))
def errB (K : PySem.W.Frag) (file : Str) (d : ErrD) : Bool := errB0 K file (He.ga K d.cls) (d.fI K) d.qual d.attr
/-- what its text says -/
structure ErrT (d : ErrD) : Prop where
  kind : (defScope d.st).kind = .function
  co : (defScope d.st).isCoroutine = false
  gen : (defScope d.st).isGenerator = false
  ns : (defScope d.st).names.lookup ("super" : Str) = some .globalImplicit
  nc : (defScope d.st).names.lookup ("__class__" : Str) = some .free
  ncell : ∀ x ∈ (defScope d.st).names, x.2 ≠ .cell
  nfree : ∀ x ∈ (defScope d.st).names, x.2 = .free → x.1 = "__class__"
  nself : (defScope d.st).names.lookup ("self" : Str) = some .local
  nattr : (defScope d.st).names.lookup d.attr = some .local
  ne : d.attr ≠ "self"
  a1 : (d.attr == ("__debug__" : Str)) = false
  a2 : (d.attr == ("__classdict__" : Str)) = false
  ps : ∃ ar, ((defArgs d.st).posonlyargs ++ (defArgs d.st).args).head? = some ar ∧ ar.arg = "self"
  bd : ∀ (kV doc pm : Value) (an : Option Addr) (cdv ct : Value) (cc : Addr) (us : List Value), us.length = 2 → bindArgs (PySem.W.ksFn "__init__" d.qual (defArgs d.st) (defBody d.st) (defScope d.st) .none kV doc pm an cdv ct cc) ⟨us, []⟩ = pure ([("self" : Str), d.attr].zip us)
  body : ∃ (p0 p1 p2 p3 p4 p5 p6 p7 p8 : Pos) (pl : Sem Bool), defBody d.st = errBody d.attr p0 p1 p2 p3 p4 p5 p6 p7 p8 ∧
    (∀ L fI cda cc : Addr, eval (.Call (.Attribute (.Call (.Name "super" p0) [] [] p1) "__init__" p2) [] [] p3) (PySem.W.ksEnv d.qual (defScope d.st) L fI (.ref cda) cc) = (do
      let ov ← attributeBase (.Call (.Name "super" p0) [] [] p1) "__init__" (PySem.W.ksEnv d.qual (defScope d.st) L fI (.ref cda) cc) (eval (.Call (.Name "super" p0) [] [] p1) (PySem.W.ksEnv d.qual (defScope d.st) L fI (.ref cda) cc))
      standAt p2.atName
      let (f, first) ← holding [ov] (getMethod ov "__init__" pl)
      callWith p3 f first (backTo p3 (starEach [] (PySem.W.ksEnv d.qual (defScope d.st) L fI (.ref cda) cc))) [])) ∧
    (∀ L fI cda cc : Addr, interactive (PySem.W.ksEnv d.qual (defScope d.st) L fI (.ref cda) cc) = false) ∧
    (∀ L fI cda cc : Addr, swapsWith (.Call (.Attribute (.Call (.Name "super" p0) [] [] p1) "__init__" p2) [] [] p3) none p4.line (PySem.W.ksEnv d.qual (defScope d.st) L fI (.ref cda) cc) = pure false) ∧
    (∀ L fI cda cc : Addr, swapsWith (.Name d.attr p7) (some (.Attribute (.Name "self" p5) d.attr p6)) p8.line (PySem.W.ksEnv d.qual (defScope d.st) L fI (.ref cda) cc) = pure false)
theorem gerr_of {P : Program} {w : World} {K : PySem.W.Frag} {mg : Str → Option Value} {base : Heap} {d : ErrD} {file : Str} (T : ErrT d) (c : errB K file d = true) (e : eW K (d.fI K) = d.val) (hg : mg d.cls = some (.ref (He.ga K d.cls))) (hP : ((P.main.file : Str) == file) = true) (sup : mg "super" = none)
    (top : (P.main.scope.names.lookup ("super" : Str)).isSome = false) : GErr P w K mg base d.cls (He.ga K d.cls) d.attr := by
  obtain ⟨c1, c⟩ := He.ba c
  obtain ⟨c2, c⟩ := He.ba c
  obtain ⟨c3, c⟩ := He.ba c
  obtain ⟨c4, c⟩ := He.ba c
  obtain ⟨c5, c⟩ := He.ba c
  obtain ⟨c6, c⟩ := He.ba c
  obtain ⟨c7, c⟩ := He.ba c
  obtain ⟨c8, c9⟩ := He.ba c
  have ox := oexB_ok c1
  unfold eW at e
  unfold fnEB at c4
  cases w0 : K.lookup (d.fI K) with
  | none => rw [w0] at c4; cases c4
  | some o =>
    obtain ⟨oc, od, dt, osl⟩ := o
    rw [w0] at c4 e
    cases dt with
    | func fd =>
      obtain ⟨n1, n2, n3, n4, n5, n6, n7, n8, n9, n10, n11, n12, n13, n14, n15⟩ := fd
      have e2 : (some (n1, n2, n3, n4, n5, n6, n15) : ErW) = (some ("__init__", d.qual, defArgs d.st, .stmts (defBody d.st), defScope d.st, mainGlobals, builtinsNs) : ErW) := e
      simp only [Option.some.injEq, Prod.mk.injEq] at e2
      obtain ⟨g1, g2, g3, g4, g5, g6, g8⟩ := e2
      subst g1 g2 g3 g4 g5 g6 g8
      clear e
      dsimp only at c4
      obtain ⟨k1, k2⟩ := He.ba c4
      obtain ⟨k3, k4⟩ := He.ba k2
      obtain rfl : n8 = .none := by cases n8 <;> first | rfl | cases k1
      split at k4
      · rename_i y cc cda
        obtain ⟨q1, q2⟩ := He.ba k4
        obtain ⟨q2, q3⟩ := He.ba q2
        obtain rfl := of_decide_eq_true q1
        have hcell : ∃ cl cld csl, K.lookup cc = some ⟨cl, cld, .cell (some (.ref (He.ga K d.cls))), csl⟩ := by
          unfold cellB at q2
          split at q2
          · rename_i a1 a2 C' a3 ho
            obtain rfl := of_decide_eq_true q2
            exact ⟨_, _, _, ho⟩
          · cases q2
        have hcode : ∃ ccl cdd vs ccs file' tf, K.lookup cda = some ⟨ccl, cdd, .fields vs, ccs⟩ ∧ vs[2]? = some (.str file' tf) ∧ ((P.main.file : Str) == file') = true := by
          unfold codeFB at q3
          split at q3
          · rename_i a1 a2 vs a3 ho
            split at q3
            · rename_i f' tf hv
              obtain rfl := of_decide_eq_true q3
              exact ⟨_, _, _, _, _, _, ho, hv, hP⟩
            · cases q3
          · cases q3
        have TI : ErrI P K mg (He.ga K d.cls) (defScope d.st) cda cc := ⟨ox, hcell, hcode, sup, of_decide_eq_true c5, of_decide_eq_true c6, He.eqO_ok c7, He.eqO_ok c8, top, T.kind, T.co, T.gen, T.ns, T.nc, T.ncell, T.nfree, T.nself⟩
        obtain ⟨ar, hp, har⟩ := T.ps
        obtain ⟨p0, p1, p2, p3, p4, p5, p6, p7, p8, pl, hb, x1, x2, x3, x4⟩ := T.body
        have lk : K.lookup (d.fI K) = some ⟨oc, od, .func (PySem.W.ksFn "__init__" d.qual (defArgs d.st) (errBody d.attr p0 p1 p2 p3 p4 p5 p6 p7 p8) (defScope d.st) .none n9 n10 n11 n12 (.ref cda) n14 cc), osl⟩ := by
          rw [w0, hb]
        refine ⟨hg, ox, d.fI K, _, He.eqO_ok c2, of_decide_eq_true c3, errInit_ok TI lk k3 hp har T.nattr T.ne (He.eqO_ok c9) T.a1 T.a2 (fun L => x1 L _ _ _) (fun L => x2 L _ _ _) (fun L => x3 L _ _ _) (fun L => x4 L _ _ _), Binds.all fun us hl => ?_⟩
        rw [← hb]
        exact T.bd _ _ _ _ _ _ _ us hl
      · cases k4
    | _ => cases c4
/-! ### isinstance of errors -/
def excB (K : PySem.W.Frag) (C : Addr) : Bool := He.eqO (PySem.W.findIn K (.ref C) "__getattribute__") (some (some (.builtin "BaseException.__getattribute__"))) && (He.eqO (PySem.W.findIn K (.ref C) "__getattr__") (some none) && (obB (PySem.W.subIn K (.ref C) (.type "BaseException")) true && (PySem.W.hasDictIn K C &&
  (He.eqO (PySem.W.findIn K (.ref C) "__class__") (some (some (.builtin "object.__class__"))) && (He.eqO (PySem.W.specialIn K (.builtin "object.__class__") "__get__") (some (some (.builtin "getset_descriptor.__get__"))) && (obB (PySem.W.takesIn K (.builtin "object.__class__")) true && obB (PySem.W.mroIn K C (.type "object")) true))))))
theorem excB_ok {K : PySem.W.Frag} {C : Addr} (h : excB K C = true) : ExcC K C ∧ XfC K C := by
  obtain ⟨h1, h⟩ := He.ba h
  obtain ⟨h2, h⟩ := He.ba h
  obtain ⟨h3, h⟩ := He.ba h
  obtain ⟨h4, h⟩ := He.ba h
  obtain ⟨h5, h⟩ := He.ba h
  obtain ⟨h6, h⟩ := He.ba h
  obtain ⟨h7, h8⟩ := He.ba h
  exact ⟨⟨He.eqO_ok h1, He.eqO_ok h2, of_decide_eq_true h3, h4, He.eqO_ok h5, He.eqO_ok h6, of_decide_eq_true h7, of_decide_eq_true h8⟩, ⟨He.eqO_ok h1, He.eqO_ok h2, of_decide_eq_true h3, h4⟩⟩
def errTabB (K : PySem.W.Frag) (ES : List Addr) (CE : Addr) : Bool := ES.all fun C => excB K C && (obB (PySem.W.exmOne K (.ref C) (.ref CE)) true && ((ES.all fun C' => obB (PySem.W.kitOne K (.ref C) (.ref C')) (C == C')) && (obB (PySem.W.kitOne K (.ref C) (.ref CE)) true && (obB (PySem.W.kitOne K (.ref C) (.type "ValueError")) true && (obB (PySem.W.kitOne K (.ref C) (.type "LookupError")) false &&
  (["given", "index"] : List Str).all fun f => He.eqO (PySem.W.findIn K (.ref C) f) (some none))))))
theorem errTabB_ok {K : PySem.W.Frag} {ES : List Addr} {CE : Addr} (h : errTabB K ES CE = true) : ErrTab K ES CE := by
  have key : ∀ C ∈ ES, _ := fun C hC => List.all_eq_true.mp h C hC
  refine ⟨fun C hC => (excB_ok (He.ba (key C hC)).1).1, fun C hC => (excB_ok (He.ba (key C hC)).1).2, fun C hC => of_decide_eq_true (He.ba (He.ba (key C hC)).2).1, fun C hC C' hC' => ?_, fun C hC => ?_, fun C hC => ?_, fun C hC => ?_, fun C hC f hf => ?_⟩
  · exact of_decide_eq_true (List.all_eq_true.mp (He.ba (He.ba (He.ba (key C hC)).2).2).1 C' hC')
  · exact of_decide_eq_true (He.ba (He.ba (He.ba (He.ba (key C hC)).2).2).2).1
  · exact of_decide_eq_true (He.ba (He.ba (He.ba (He.ba (He.ba (key C hC)).2).2).2).2).1
  · exact of_decide_eq_true (He.ba (He.ba (He.ba (He.ba (He.ba (He.ba (key C hC)).2).2).2).2).2).1
  · exact He.eqO_ok (List.all_eq_true.mp (He.ba (He.ba (He.ba (He.ba (He.ba (He.ba (key C hC)).2).2).2).2).2).2 f hf)
/-! ### the Hook -/
def refsZ (o : Obj) : List Addr := refsY o ++ (match o.data with
  | .func fd => fd.closure.map (·.2)
  | _ => [])
def nextZ (g : Addr → Option Obj) : List Addr → List Addr
  | [] => []
  | a :: r => (match g a with
    | some o => refsZ o
    | none => []) ++ nextZ g r
def levelsZ (g : Addr → Option Obj) : Nat → List Addr → List Addr
  | 0, as => as
  | n + 1, as => as ++ levelsZ g n (nextZ g as)
def asZ (g : Addr → Option Obj) (n : Nat) (names : List Str) : List Addr := cStatics :: mainGlobals :: levelsZ g n (rootsY g names)
abbrev AlZ : Type := AlY × List ErW
def obsZK (fa : List He.Fa) (fn : List He.DefD) (ts : List He.Tab) (tf : List He.Defn) (ex : PySem.W.Frag → Bool) (gs : List GetD) (es : List ErrD) (g : Addr → Option Obj) (K : PySem.W.Frag) : AlZ := (obsYK fa fn ts tf ex gs g K, obsErr es K)
def obsZ (n : Nat) (names : List Str) (fa : List He.Fa) (fn : List He.DefD) (ts : List He.Tab) (tf : List He.Defn) (ex : PySem.W.Frag → Bool) (gs : List GetD) (es : List ErrD) (g : Addr → Option Obj) : AlZ := obsZK fa fn ts tf ex gs es g (He.frT g (asZ g n names))
structure SaysZ (fa : List He.Fa) (fn : List He.DefD) (ts : List He.Tab) (tf : List He.Defn) (ex : PySem.W.Frag → Bool) (gs : List GetD) (es : List ErrD) (w : World) (h : Heap) (K : PySem.W.Frag) : Prop where
  y : SaysY fa fn ts tf ex gs w h K
  err : obsErr es K = es.map ErrD.val
theorem SaysZ.x {fa : List He.Fa} {fn : List He.DefD} {ts : List He.Tab} {tf : List He.Defn} {ex : PySem.W.Frag → Bool} {gs : List GetD} {es : List ErrD} {w : World} {h : Heap} {K : PySem.W.Frag} (c : SaysZ fa fn ts tf ex gs es w h K) : He.SaysX fa fn ts tf ex w h K := c.y.x
theorem SaysZ.getter {fa : List He.Fa} {fn : List He.DefD} {ts : List He.Tab} {tf : List He.Defn} {ex : PySem.W.Frag → Bool} {gs : List GetD} {es : List ErrD} {w : World} {h : Heap} {K : PySem.W.Frag} (c : SaysZ fa fn ts tf ex gs es w h K) {d : GetD} (hd : d ∈ gs) (k : fnKB K (getAd K d.cls d.name) d.qual = true) : ∃ fd, Fun K d.name d.qual d.st (getAd K d.cls d.name) fd := c.y.getter hd k
theorem SaysZ.one {fa : List He.Fa} {fn : List He.DefD} {ts : List He.Tab} {tf : List He.Defn} {ex : PySem.W.Frag → Bool} {gs : List GetD} {es : List ErrD} {w : World} {h : Heap} {K : PySem.W.Frag} (c : SaysZ fa fn ts tf ex gs es w h K) {i : Nat} {d : ErrD} (hd : es[i]? = some d) : eW K (d.fI K) = d.val := by
  have q := congrArg (fun l : List ErW => l[i]?) c.err
  unfold obsErr at q
  rw [List.getElem?_map, List.getElem?_map, hd] at q
  exact Option.some.inj q
def hookZ (n : Nat) (names : List Str) (fa : List He.Fa) (fn : List He.DefD) (ts : List He.Tab) (tf : List He.Defn) (ex : PySem.W.Frag → Bool) (gs : List GetD) (es : List ErrD) : PySem.W.Hook where
  α := AlZ
  obs := fun s => obsZ n names fa fn ts tf ex gs es s.heap.get?
  val := fun w => ((He.valX fn ts w, gs.map GetD.val), es.map ErrD.val)
  says := fun w h => ∃ K : PySem.W.Frag, K.In h ∧ SaysZ fa fn ts tf ex gs es w h K
  of := fun _ _ e => ⟨_, He.frT_in, saysY_of (Prod.mk.inj e).1, (Prod.mk.inj e).2⟩
  keeps := fun _ _ _ ⟨K, hK, c⟩ k => ⟨K, PySem.W.Frag.In.keeps hK k, ⟨⟨c.x.t, c.x.more, c.x.hd, c.x.out, fun p hp => k _ _ (c.x.empty p hp)⟩, c.y.get⟩, c.err⟩
theorem obsZ_eq {n : Nat} {names : List Str} {fa : List He.Fa} {fn : List He.DefD} {ts : List He.Tab} {tf : List He.Defn} {ex : PySem.W.Frag → Bool} {gs : List GetD} {es : List ErrD} {g : Addr → Option Obj} {s : Shared} (h : ∀ a, g a = s.heap.get? a) : obsZ n names fa fn ts tf ex gs es g = (hookZ n names fa fn ts tf ex gs es).obs s := by
  rw [show g = s.heap.get? from funext h] <;> rfl
end DL

set_option exponentiation.threshold 100
namespace T1
open PySem PySem.Spec PyProof.Rows L2 DL LamX NdefX
def top (i : Nat) : Stmt := PySem.Challenge.pw_claimpurse_k02_purses_refused.main.body.getD i (.Pass ⟨0, 0, 0, 0⟩)
def dD (x : Str) (st : Stmt) : He.DefD := ⟨(x, none), x, x, defArgs st, defBody st, defScope st, [], []⟩
def dM (C x : Str) (st : Stmt) : He.DefD := ⟨(C, some x), x, C ++ "." ++ x, defArgs st, defBody st, defScope st, [], []⟩
def fn : List He.DefD := [dD "is_whole" (top 9), dD "is_between" (top 10), dD "is_up_to" (top 11), dD "is_word" (top 12), dD "is_name" (top 13), dD "are_below" (top 17), dD "is_tuple_of" (top 14), dD "wrong_in" (top 15), dD "wrong_in_all" (top 16), dD "wrong_in_people" (top 21), dD "wrong_in_claims" (top 22), dD "check_number" (top 24), dD "_law_draw" (top 28), dD "_law_of" (top 29), dD "_law_words" (top 31), dD "_law_own" (top 32), dD "_law_names" (top 33), dD "_law_purse" (top 34), dD "_law_same" (top 30), dD "_law_kept_by" (top 35), dD "_law_by_all" (top 36), dD "_law_well" (top 27), dD "_law_right" (top 37), dD "law" (top 38), dM "Purse" "__init__" (inClass (top 25) 0)]
def gl0 : List Str := ["is_whole", "is_between", "is_up_to", "is_word", "is_name", "are_below", "is_tuple_of", "wrong_in", "wrong_in_all", "wrong_in_people", "wrong_in_claims", "check_number", "_law_draw", "_law_of", "_law_words", "_law_own", "_law_names", "_law_purse", "_law_same", "_law_kept_by", "_law_by_all", "_law_well", "_law_right", "law", "Purse", "ClaimError", "InvalidPeople", "InvalidClaims", "InvalidNumber"]
def gls : List Str := gl0
def nms : List Str := gls ++ (["LETTERS", "MOST_CLAIM", "MOST_LETTERS", "MOST_PEOPLE", "WORDS"] : List Str)
def frs : List Str := ["ValueError", "abs", "all", "bool", "dict", "divmod", "enumerate", "int", "isinstance", "len", "list", "max", "min", "range", "sorted", "str", "sum", "super", "tuple"]
def fas : List He.Fa := [.mkr "Purse", .noat "Purse" "all_told"] ++ (gls.map He.Fa.glo ++ frs.map He.Fa.free)
def tss : List He.Tab := []
def vals : List (Str × He.Dv) := []
def tfs : List He.Defn := [("wrong_in_people", none), ("wrong_in_claims", none), ("wrong_in_all", none), ("_law_by_all", none)]
def consts : List (Str × D) := [("LETTERS", .str LET), ("MOST_CLAIM", .int 99), ("MOST_LETTERS", .int 8), ("MOST_PEOPLE", .int 6), ("WORDS", .tup wordsD)]
def bfs : List (Str × Value) := []
def bvB (K : PySem.W.Frag) (q : Str × Value) : Bool := He.eqO (PySem.W.nsIn K mainGlobals q.1) (some (some q.2))
theorem bvB_ok {K : PySem.W.Frag} {h : Heap} {mg : Str → Option Value} (X : K.In h) (G : h.Ns mainGlobals mg) {x : Str} {v : Value} (c : bvB K (x, v) = true) : mg x = some v := PySem.W.mg_of X G (He.eqO_ok c)
def prs : List (Str × Str) := []
def gss : List GetD := []
def ers : List ErrD := [⟨"InvalidPeople", "index", inClass (top 3) 0⟩, ⟨"InvalidClaims", "index", inClass (top 4) 0⟩, ⟨"InvalidNumber", "given", inClass (top 2) 0⟩]
abbrev errFile : Str := PySem.Challenge.pw_claimpurse_k02_purses_refused.main.file
def exs (K : PySem.W.Frag) : Bool := (ers.all (errB K errFile) && (errTabB K [He.ga K "InvalidPeople", He.ga K "InvalidClaims", He.ga K "InvalidNumber"] (He.ga K "ClaimError") && ([(He.ga K "InvalidPeople", He.ga K "InvalidClaims"), (He.ga K "InvalidPeople", He.ga K "InvalidNumber"), (He.ga K "InvalidClaims", He.ga K "InvalidPeople"), (He.ga K "InvalidClaims", He.ga K "InvalidNumber"), (He.ga K "InvalidNumber", He.ga K "InvalidPeople"), (He.ga K "InvalidNumber", He.ga K "InvalidClaims")] : List (Addr × Addr)).all fun q => !(q.1 == q.2))) && (consts.all (gkB K) && (bfs.all (bvB K) && (csfB K [He.ga K "Purse"] && (He.valsB K (He.ga K "AWARDS") vals && (prs.all (propB K) && (gss.all (fun d => fnKB K (getAd K d.cls d.name) d.qual) && tfs.all fun p => tfs.all fun q => decide (p = q) || !decide ((He.cT K p).2 = (He.cT K q).2)))))))
def lo0 : List Str := ["ClaimError", "InvalidNumber", "InvalidPeople", "InvalidClaims", "LETTERS", "MOST_LETTERS", "WORDS", "is_whole", "is_between", "is_up_to", "is_word", "is_name", "is_tuple_of", "wrong_in", "wrong_in_all", "are_below", "MOST_PEOPLE", "MOST_CLAIM", "wrong_in_people", "wrong_in_claims", "check_number", "Purse", "_law_well", "_law_draw", "_law_of", "_law_same", "_law_words", "_law_own", "_law_names", "_law_purse"]
def lo1 : List Str := ["_law_kept_by", "_law_by_all", "_law_right"]
def loose : List Str := lo0 ++ (lo1)
abbrev R : PySem.W.OpenRow := PySem.W.OpenLaw.row PySem.Challenge.rw_claimpurse_k02_purses_refused
abbrev hk : PySem.W.Hook := hookZ 6 nms fas fn tss tfs exs gss ers
def ob (s : PySem.W.SharedT) : AlZ := obsZ 6 nms fas fn tss tfs exs gss ers (HandSHeadRun.getT s)
theorem ob_eq (s : PySem.W.SharedT) : ob s = hk.obs s.abs := obsZ_eq (HandSHeadRun.getT_eq s)
theorem run_f (w : World) : HandSHeadRun.RunEqI R (PySem.W.view R.prog [38]) hk ob 8000 loose (w.withFollow "special-get-raises" false) := by
  unfold HandSHeadRun.RunEqI
  kernel_rfl
theorem run_t (w : World) : HandSHeadRun.RunEqI R (PySem.W.view R.prog [38]) hk ob 8000 loose (w.withFollow "special-get-raises" true) := by
  unfold HandSHeadRun.RunEqI
  kernel_rfl
theorem run (w : World) : HandSHeadRun.RunEqI R (PySem.W.view R.prog [38]) hk ob 8000 loose w := PySem.W.byRow2 "special-get-raises" run_f run_t w
end T1
/-! DTop: the law itself: the wells made, then the law's parts over them. -/
namespace DL
open PySem PySem.Spec PyProof.Rows L2 LamX
/-- what the law's parts may change: the wells at A, the makers' tables T -/
def wellG (T : List (Addr × Str)) (A : List Addr) : GG where
  G := fun b => b ∈ A ∨ ∃ p ∈ T, p.1 = b
  J := fun H => (∀ a ∈ A, ∃ x y u : Int, H a = some (.lst [.int x, .int y, .int u])) ∧ Tabs T H
  dom := fun H b j h => by
    rcases h with h | ⟨p, hp, rfl⟩
    · obtain ⟨x, y, u, e⟩ := j.1 b h
      rw [e]; simp
    · obtain ⟨ps, e, _⟩ := j.2 p hp
      rw [e]; simp
  st := fun H H' j k ke => ⟨fun a ha => by rw [k a (.inl ha)]; exact j.1 a ha, fun p hp => by
    obtain ⟨ps, e, h1, h2⟩ := j.2 p hp
    refine ⟨ps, by rw [k p.1 (.inr ⟨p, hp, rfl⟩)]; exact e, h1, fun pos cv hc => ?_⟩
    obtain ⟨c, e1, e2⟩ := h2 pos cv hc
    exact ⟨c, e1, ke _ _ e2⟩⟩
section
variable {T : List (Addr × Str)} {A : List Addr}
theorem wellG_j {p : Addr × Str} (hp : p ∈ T) {H H1 : Hp} (j : (wellG T A).J H) (e : ExtP p.1 H H1) (t : Tabs T H1) : (wellG T A).J H1 := ⟨fun a ha => by
  obtain ⟨x, y, u, h⟩ := j.1 a ha
  obtain ⟨ps, h2, _⟩ := j.2 p hp
  exact ⟨x, y, u, e a _ h (ne_of h h2 (by intro z; cases z))⟩, t⟩
theorem wellG_x {H : Hp} {a : Addr} {φ} (j : (wellG T A).J H) (h : (wellG T A).G a) : H a ≠ some (.ext φ) := by
  rcases h with h | ⟨p, hp, rfl⟩
  · obtain ⟨x, y, u, e⟩ := j.1 a h
    rw [e]; intro z; cases z
  · obtain ⟨ps, e, _⟩ := j.2 p hp
    rw [e]; intro z; cases z
theorem wellG_w : WellJ (wellG T A) (· ∈ A) := ⟨fun H a j h => j.1 a h, fun a h => .inl h, fun H a x y u j h => ⟨fun b hb => by
  by_cases e : b = a
  · subst e; exact ⟨x, y, u, upd_same⟩
  · rw [upd_ne e]; exact j.1 b hb, fun p hp => by
  obtain ⟨x', y', u', ha⟩ := j.1 a h
  obtain ⟨ps, e, h1, h2⟩ := j.2 p hp
  refine ⟨ps, by rw [upd_ne (ne_of e ha (by intro z; cases z))]; exact e, h1, fun pos cv hc => ?_⟩
  obtain ⟨c, e1, e2⟩ := h2 pos cv hc
  exact ⟨c, e1, by rw [upd_ne (ne_of e2 ha (by intro z; cases z))]; exact e2⟩⟩⟩
theorem tabs_new {H : Hp} (h : ∀ p ∈ T, H p.1 = some (.tbl #[])) : Tabs T H := fun p hp => ⟨#[], h p hp, trivial, fun pos cv hc => by
  have z : codeAmong pos [] = some cv := hc
  simp [codeAmong] at z⟩
end
abbrev rMin2 : List V → Hp → VK → Prop := fun xs H Q => ∃ i j, xs = [.int i, .int j] ∧ Q (.int (if j < i then j else i)) H
abbrev rMax2 : List V → Hp → VK → Prop := fun xs H Q => ∃ i j, xs = [.int i, .int j] ∧ Q (.int (if j > i then j else i)) H
/-- the wells -/
def tWells (K : PySem.W.Frag) (spW : Sp) : TE := tLc (iRng1 (tCons (tCB rMax2 (tCons (tC (.int 1)) (tCons (tCB rMin2 (tCons (tCB (rLenD K) (tCons (tVar 0) tNil)) (tCons (tC (.int 3)) tNil))) tNil))) tNil)) (gName 2) tYes (tCall spW [] E0 (tCons (tVar 0) (tCons (tVar 2) tNil))) [2]
/-- the law's parts -/
def tRights (K : PySem.W.Frag) (spR : Sp) (n : Int) : TE := tLc (iRng1 (tCons (tC (.int n)) tNil)) (gName 2) tYes (tCall spR [] E0 (tCons (tOp (rIxL K) (tVar 1) (tOp (rI (fun _ j => j ≠ 0) fun i j => .int (i.fmod j)) (tCB rIntD (tCons (tVar 2) tNil)) (tCB (rLenD K) (tCons (tVar 1) tNil)))) tNil)) [2]
/-- the wells made -/
theorem wells_read {K : PySem.W.Frag} {spW : Sp} {T : List (Addr × Str)} {H0 : Hp} {a : Addr} {ns : List Int} {Q : VK} {o1 o2 : Option V} (hS : SqL K H0 a (ns.map V.int)) (hl : ns.length ≤ 63)
    (hW : ∀ vs H Q E, spOf K (scrG K H0 a ns) 2 (sp_well a ns) vs H Q E → spW vs H Q E) (hT : ∀ p ∈ T, H0 p.1 = some (.tbl #[]))
    (k : ∀ (D : Addr) (A : List Addr) (H : Hp), 1 ≤ A.length → A.length ≤ 3 → H D = some (.lst (A.map V.ref)) → D ∉ A → (∀ b ∈ A, ∃ x y u : Int, H b = some (.lst [.int x, .int y, .int u])) → (∀ p ∈ T, H p.1 = some (.tbl #[])) → Q (.ref D) H) : tWells K spW [some (.ref a), o1, o2] H0 Q := by
  refine ⟨.ref a, rfl, .inl ⟨a, _, rfl, .inl hS, _, _, rfl, _, _, rfl, _, rfl, ?_, ?_, fun D hD => ?_⟩⟩
  · rw [List.length_map]; split <;> split at * <;> omega
  · rw [List.length_map]; split <;> split at * <;> omega
  · rw [List.length_map]
    have hm : ∃ m : Nat, Int.toNat (if (if (3 : Int) < (ns.length : Int) then 3 else (ns.length : Int)) > 1 then (if (3 : Int) < (ns.length : Int) then 3 else (ns.length : Int)) else 1) = m ∧ 1 ≤ m ∧ m ≤ 3 := ⟨_, rfl, by split <;> split at * <;> omega, by split <;> split at * <;> omega⟩
    obtain ⟨m, em, m1, m3⟩ := hm
    rw [em]
    have key : ∀ (i : Nat) (H : Hp), True := fun _ _ => trivial
    refine lc_range (lo := 0) (n := m) (fun i H => ∃ A : List Addr, A.length = i ∧ H D = some (.lst (A.map V.ref)) ∧ D ∉ A ∧ (∀ b ∈ A, ¬ (scrG K H0 a ns).G b ∧ ∃ x y u : Int, H b = some (.lst [.int x, .int y, .int u])) ∧ (∀ p ∈ T, H p.1 = some (.tbl #[])) ∧ (scrG K H0 a ns).J H) ⟨[], rfl, upd_same, by simp, fun _ h => by simp at h, fun p hp => ?_, (scrG K H0 a ns).new scrG_j hD⟩ (fun i H hi hP => ?_) fun H hP => ?_
    · rw [upd_ne (ne_of_none (hT p hp) hD)]; exact hT p hp
    · obtain ⟨A, hA, hDA, nD, hw, hTH, hJ⟩ := hP
      refine ⟨rfl, .ref a, rfl, .int (0 + (i : Int)), rfl, ?_⟩
      have nDG : ¬ (scrG K H0 a ns).G D := fun ⟨e, r⟩ => by
        rw [← e] at r
        rcases r with r | ⟨o, r⟩ <;> rw [hD] at r <;> cases r
      refine hW _ _ _ _ ⟨rfl, (scrG K H0 a ns).G, [.obj a, .int (0 + (i : Int))], fun d => ∃ x y u : Int, d = .lst [.int x, .int y, .int u], fun _ => False, fun _ h => h, fun b hb => (scrG K H0 a ns).dom H b hJ hb, hJ, Reps.cons (by simp only [Rep]) (Reps.cons rep_int Reps.nil), ⟨0 + (i : Int), rfl, by omega, by omega, fun x y u => ⟨x, y, u, rfl⟩⟩, fun d v H' hd e j r => ?_, fun _ _ _ _ h => h.elim⟩
      obtain ⟨x, y, u, rfl⟩ := hd
      obtain ⟨p, xs, rfl, ⟨hp, nU⟩, r⟩ := rep_lst_inv r
      have r : xs = [V.int x, V.int y, V.int u] := reps_ints (ns := [x, y, u]) r
      subst r
      have hD' := e D _ hDA nDG
      have hpD : p ≠ D := fun q => by
        rw [q, hD'] at hp
        cases A with
        | nil => cases hp
        | cons b r => cases hp
      refine ⟨_, hD', by rw [List.length_map, sizeLine_eq]; omega, A ++ [p], by simp [hA], by rw [upd_same, List.map_append]; rfl, ?_, fun b hb => ?_, fun q hq => ?_, ?_⟩
      · intro h
        rcases List.mem_append.mp h with h | h
        · exact nD h
        · exact hpD (List.mem_singleton.mp h).symm
      · rcases List.mem_append.mp hb with h | h
        · obtain ⟨n, x, y, u, hb⟩ := hw b h
          refine ⟨n, x, y, u, ?_⟩
          rw [upd_ne fun q => nD (by rw [← q]; exact h)]
          exact e _ _ hb n
        · rw [List.mem_singleton.mp h]
          refine ⟨nU, x, y, u, ?_⟩
          rw [upd_ne hpD]
          exact hp
      · have hq' : H' q.1 = some (.tbl #[]) := e _ _ (hTH q hq) fun ⟨e, r⟩ => by
          rw [← e] at r
          rcases r with r | ⟨o, r⟩ <;> rw [hT q hq] at r <;> cases r
        rw [upd_ne (ne_of hq' hD' (by intro z; cases z))]
        exact hq'
      · refine (scrG K H0 a ns).st _ _ j (fun b hb => upd_ne fun q => nDG (by rw [← q]; exact hb)) fun b φ hb => ?_
        rw [upd_ne (ne_of hb hD' (by intro z; cases z))]
        exact hb
    · obtain ⟨A, hA, hDA, nD, hw, hTH, hJ⟩ := hP
      exact k D A H (by omega) (by omega) hDA nD (fun b hb => (hw b hb).2) hTH
/-- all parts hold -/
theorem rights_read {K : PySem.W.Frag} {spR : Sp} {T : List (Addr × Str)} {A : List Addr} {H0 : Hp} {D : Addr} {n : Int} {Q : VK} {o0 o2 : Option V} (n0 : 0 ≤ n) (n1 : n ≤ 1000) (h1 : 1 ≤ A.length) (hD : H0 D = some (.lst (A.map V.ref))) (nD : D ∉ A)
    (hw : ∀ b ∈ A, ∃ x y u : Int, H0 b = some (.lst [.int x, .int y, .int u])) (hT : ∀ p ∈ T, H0 p.1 = some (.tbl #[])) (hl : A.length ≤ 3)
    (hR : ∀ vs H Q E, spOf K (wellG T A) 1 (sp_right (· ∈ A)) vs H Q E → spR vs H Q E)
    (k : ∀ (L : Addr) (H : Hp), H L = some (.lst ((List.replicate n.toNat true).map V.bl)) → Q (.ref L) H) : tRights K spR n [o0, some (.ref D), o2] H0 Q := by
  refine ⟨_, rfl, by omega, by omega, fun L hL => ?_⟩
  have nG : ¬ (wellG T A).G D := fun h => by
    rcases h with h | ⟨p, hp, e⟩
    · exact nD h
    · have := hT p hp
      rw [e, hD] at this
      cases this
  have jj : (wellG T A).J H0 := ⟨hw, tabs_new hT⟩
  have nL : ¬ (wellG T A).G L := fun h => (wellG T A).dom H0 L jj h hL
  refine lc_range (lo := 0) (n := n.toNat) (fun i H => H L = some (.lst ((List.replicate i true).map V.bl)) ∧ H D = some (.lst (A.map V.ref)) ∧ (wellG T A).J H) ⟨upd_same, ?_, (wellG T A).new jj hL⟩ (fun i H hi hP => ?_) fun H hP => ?_
  · rw [upd_ne (ne_of_none hD hL)]; exact hD
  · obtain ⟨hH, hHD, hJ⟩ := hP
    refine ⟨rfl, ?_⟩
    have hj : ((0 : Int) + (i : Int)).fmod (A.length : Int) = ((i % A.length : Nat) : Int) := by
      rw [Int.zero_add, Int.fmod_eq_emod_of_nonneg _ (by omega)]
      rfl
    have hlt : i % A.length < A.length := Nat.mod_lt _ (by omega)
    refine ⟨.ref D, rfl, .int (0 + (i : Int)), rfl, .inl ⟨_, rfl, .ref D, rfl, .inl ⟨D, _, rfl, .inl (SqL.of hHD), _, _, rfl, rfl, ?_, D, _, _, .ref A[i % A.length], rfl, rfl, SqL.of hHD, ?_, ?_⟩⟩⟩
    · rw [List.length_map]; omega
    · rw [List.length_map, hj]
      unfold atI ixN
      rw [if_pos (by omega), List.length_map, if_pos (by omega)]
      show (A.map V.ref)[((i % A.length : Nat) : Int).toNat]? = _
      rw [Int.toNat_natCast, List.getElem?_map, List.getElem?_eq_getElem hlt]
      rfl
    · refine hR _ _ _ _ ⟨rfl, (wellG T A).G, [.obj A[i % A.length]], fun d => d = .bl true, fun _ => False, fun _ h => h, fun b hb => (wellG T A).dom H b hJ hb, hJ, Reps.cons (by simp only [Rep]) Reps.nil, ⟨_, rfl, List.getElem_mem hlt, rfl⟩, fun d v H' hd e j r => ?_, fun _ _ _ _ h => h.elim⟩
      subst hd
      have r := inv_bl r
      subst r
      have hL' := e L _ hH nL
      have hD' := e D _ hHD nG
      refine ⟨_, hL', by rw [List.length_map, List.length_replicate, sizeLine_eq]; omega, ?_, ?_, ?_⟩
      · rw [upd_same, List.replicate_succ', List.map_append]
        rfl
      · rw [upd_ne fun q => ?_]
        · exact hD'
        · rw [q, hL'] at hD'
          cases i with
          | zero => cases A with
            | nil => simp at h1
            | cons b r => cases hD'
          | succ i => cases A with
            | nil => cases hD'
            | cons b r => cases hD'
      · refine (wellG T A).st _ _ j (fun b hb => upd_ne fun q => nL (by rw [← q]; exact hb)) fun b φ hb => ?_
        rw [upd_ne (ne_of hb hL' (by intro z; cases z))]
        exact hb
  · exact k L H hP.1
/-- the law -/
def tLaw (K : PySem.W.Frag) (spW spR : Sp) (n : Int) : TS := tSeq (tAsg (tWells K spW) (gName 1)) (tRet (tCB (rAll K) (tCons (tRights K spR n) tNil)))
theorem law_read {K : PySem.W.Frag} {spW spR : Sp} {T : List (Addr × Str)} {H0 : Hp} {a : Addr} {ns : List Int} {n : Int} {κ : Ends} (hS : SqL K H0 a (ns.map V.int)) (hl : ns.length ≤ 63) (n0 : 0 ≤ n) (n1 : n ≤ 1000)
    (hW : ∀ vs H Q E, spOf K (scrG K H0 a ns) 2 (sp_well a ns) vs H Q E → spW vs H Q E) (hT : ∀ p ∈ T, H0 p.1 = some (.tbl #[]))
    (hR : ∀ A vs H Q E, spOf K (wellG T A) 1 (sp_right (· ∈ A)) vs H Q E → spR vs H Q E) (hk : ∀ H, κ.rt (.bl true) H) : tLaw K spW spR n κ (start ["script", "wells", "lap"] [.ref a]) H0 := by
  refine (wells_read (o1 := none) (o2 := none) hS hl hW hT fun D A H h1 h3 hD nD hw hTH => ?_ : tWells K spW [some (.ref a), none, none] H0 fun x H1 => (tRet (tCB (rAll K) (tCons (tRights K spR n) tNil))) κ [some (.ref a), some x, none] H1)
  refine (rights_read (o0 := some (.ref a)) (o2 := none) n0 n1 h1 hD nD hw hTH h3 (hR A) fun L H hL => ⟨L, _, rfl, SqL.of hL, ?_⟩ : tRights K spR n [some (.ref a), some (.ref D), none] H fun x H1 => rAll K [x] H1 κ.rt)
  have e : (List.replicate n.toNat true).all id = true := by
    rw [List.all_eq_true]
    intro b hb
    exact (List.mem_replicate.mp hb).2
  rw [e]
  exact hk H
end DL

/-! DMut: own lists that are taken from, own dicts that are asked with a default, stores beside names. -/
namespace DL
open PySem PySem.Spec PyProof.Rows L2
theorem Uo_put {z : Zc} {O : List Nat} {oa : Nat → Addr} {ρ : DEnv} {i : Nat} {d0 d : D} (hi : i ∈ O) (h : ρ[i]? = some (some d0)) : Uo z O oa (ρ.set i (some d)) = Uo z O oa ρ := by
  have hlt : i < ρ.length := (List.getElem?_eq_some_iff.mp h).1
  funext a
  apply propext
  constructor
  · rintro (q | ⟨k, hk, ⟨d', h'⟩, e⟩)
    · exact .inl q
    · rcases set_some h' with ⟨q, _, _⟩ | ⟨_, h'⟩
      · exact .inr ⟨k, hk, ⟨d0, by rw [q]; exact h⟩, e⟩
      · exact .inr ⟨k, hk, ⟨d', h'⟩, e⟩
  · rintro (q | ⟨k, hk, ⟨d', h'⟩, e⟩)
    · exact .inl q
    · by_cases q : k = i
      · exact .inr ⟨k, hk, ⟨d, by rw [q, List.getElem?_set_self hlt]⟩, e⟩
      · exact .inr ⟨k, hk, ⟨d', by rw [List.getElem?_set_ne (Ne.symm q)]; exact h'⟩, e⟩
theorem Reps.erase {K : PySem.W.Frag} {U : Addr → Prop} {H : Hp} : ∀ {ds : List D} {xs : List V} (n : Nat), Reps K U H ds xs → Reps K U H (ds.eraseIdx n) (xs.eraseIdx n)
  | [], xs, n, h => by
    simp only [Reps] at h
    subst h
    simpa using Reps.nil
  | d :: ds, xs, n, h => by
    simp only [Reps] at h
    obtain ⟨x, t, rfl, r1, r2⟩ := h
    cases n with
    | zero => simpa using r2
    | succ n => simpa using Reps.cons r1 (Reps.erase n r2)
section
variable {X : Cx} {z : Zc} {O : List Nat} {a b o i e f : Expr} {ta tb to ti te tf : TE} {ma mb mo mi me mf : DEnv → M D} {pos pos' ppos ipos apos cpos bpos dpos jpos : Pos} {k' : Nat} {x y w : Str}
/-- x.append(y.pop(e)), both the def's own -/
theorem tms_appPop0 {i j : Nat} (ha : TMe z ta ma) (hi : i ∈ O) (hj : j ∈ O) (hij : i ≠ j) : TMs0 z O (tApp z.K i (tBM z.K "list" rPopAt (tVar j) (tCons ta tNil))) (fun κ E ρ => mOwn i ρ fun ds => mOwn j ρ fun es => ma ρ (fun d => ∃ (n : Nat) (u : D), d = .int n ∧ n < 1000000 ∧ es[n]? = some u ∧ ds.length < sizeLine ∧ κ.nx ((ρ.set j (some (.lst (es.eraseIdx n)))).set i (some (.lst (ds ++ [u]))))) E) := fun oa σ H ρ Dn κ E s hE ko hm => by
  obtain ⟨ds, hρi, hm⟩ := mOwn_inv hm
  obtain ⟨es, hρj, hm⟩ := mOwn_inv hm
  obtain ⟨_, xs, e1, e2, r⟩ := s.ownL hi hρi
  obtain ⟨_, ys, f1, f2, q⟩ := s.ownL hj hρj
  refine ⟨_, e1, .inl ⟨rfl, _, SqL.of e2⟩, _, f1, .inl ⟨rfl, _, SqL.of f2⟩, ha _ σ H _ _ _ E s.full hE hm fun d v H1 h1 g1 j1 r1 => ?_⟩
  obtain ⟨n, u, rfl, hn, hu, hz, hk⟩ := h1
  have s1 := s.step g1 j1
  obtain ⟨nui, xs1, e1', e2', r'⟩ := s1.ownL hi hρi
  obtain ⟨nuj, ys1, f1', f2', q'⟩ := s1.ownL hj hρj
  obtain ⟨vu, hvu, ru⟩ := q'.getD hu
  have hlt := (List.getElem?_eq_some_iff.mp hvu).1
  refine ⟨oa j, ys1, (n : Int), n, vu, rfl, by rw [inv_int r1], f2', by omega, by omega, PySem.StrLaws.seqIndex_nonneg (by omega) (by omega), hvu, ?_⟩
  have inU : Uo z O oa ρ (oa j) := .inr ⟨j, hj, ⟨_, hρj⟩, rfl⟩
  have ne : oa i ≠ oa j := fun q => hij (s1.inj i j hi hj ⟨_, hρi⟩ ⟨_, hρj⟩ q)
  have s2 := s1.put hj hρj (q'.erase n)
  have hρi2 : (ρ.set j (some (.lst (es.eraseIdx n))))[i]? = some (some (.lst ds)) := by rw [List.getElem?_set_ne (Ne.symm hij)]; exact hρi
  have mv : ∀ {d : D} {v : V}, Rep z.K (Uo z O oa ρ) H1 d v → Rep z.K (Uo z O oa (ρ.set j (some (.lst (es.eraseIdx n))))) (upd H1 (oa j) (.lst (ys1.eraseIdx n))) d v := fun {d v} r => by
    rw [Uo_put hj hρj]
    exact Rep.mono' (fun b o hb nb => ⟨by rw [upd_ne fun q => nb (by rw [q]; exact inU)]; exact hb, nb⟩) d v r
  have mvs : ∀ {d : List D} {v : List V}, Reps z.K (Uo z O oa ρ) H1 d v → Reps z.K (Uo z O oa (ρ.set j (some (.lst (es.eraseIdx n))))) (upd H1 (oa j) (.lst (ys1.eraseIdx n))) d v := fun {d v} r => by
    rw [Uo_put hj hρj]
    exact Reps.mono' (fun b o hb nb => ⟨by rw [upd_ne fun q => nb (by rw [q]; exact inU)]; exact hb, nb⟩) d v r
  refine ⟨oa i, xs1, vu, rfl, rfl, by rw [upd_ne ne]; exact e2', by rw [r'.length]; exact hz, ko.nx oa _ _ _ (s2.put hi hρi2 ((mvs r').append (Reps.cons (mv ru) Reps.nil))) hk⟩
theorem ds_appPop (i j : Nat) (hK : X.K = z.K) (ha : DE X z a ta ma) (hi : i ∈ O := by decide) (hj : j ∈ O := by decide) (hij : i ≠ j := by decide) (hN : X.N[i]? = some x := by rfl) (hNj : X.N[j]? = some y := by rfl) (hv : Vis X.env.scope x := by first | exact Or.inl rfl | exact Or.inr (Or.inl rfl) | exact Or.inr (Or.inr rfl)) (hvj : Vis X.env.scope y := by first | exact Or.inl rfl | exact Or.inr (Or.inl rfl) | exact Or.inr (Or.inr rfl))
    (hd : (x == ("__debug__" : Str)) = false := by decide) (hcd : (x == ("__classdict__" : Str)) = false := by decide) (hdj : (y == ("__debug__" : Str)) = false := by decide) (hcdj : (y == ("__classdict__" : Str)) = false := by decide)
    (hbase2 : attributeBase (.Name y jpos) "pop" X.env (eval (.Name y jpos) X.env) = eval (.Name y jpos) X.env := by rfl)
    (hfew2 : ((backTo dpos (starEach [a] X.env)).all (fun x => !x.1) && (backToKw dpos (keywordEach [] X.env)).all (fun x => x.1.isSome)
      && decide ([a].length + ([] : List Keyword).length + (if ([] : List Keyword).isEmpty then 0 else 1) < 30)) = true := by rfl)
    (hline2 : (bpos.endLine == dpos.line) = true := by rfl) (hs2 : starEach [a] X.env = (false, eval a X.env) :: starEach [] X.env := by rfl) (hplain2 : (backTo dpos (starEach [] X.env)).any (·.1) = false := by rfl)
    (hbase : attributeBase (.Name x ipos) "append" X.env (eval (.Name x ipos) X.env) = eval (.Name x ipos) X.env := by rfl)
    (hfew : ((backTo cpos (starEach [.Call (.Attribute (.Name y jpos) "pop" bpos) [a] [] dpos] X.env)).all (fun x => !x.1) && (backToKw cpos (keywordEach [] X.env)).all (fun x => x.1.isSome)
      && decide ([Expr.Call (.Attribute (.Name y jpos) "pop" bpos) [a] [] dpos].length + ([] : List Keyword).length + (if ([] : List Keyword).isEmpty then 0 else 1) < 30)) = true := by rfl)
    (hline : (apos.endLine == cpos.line) = true := by rfl) (hs : starEach [.Call (.Attribute (.Name y jpos) "pop" bpos) [a] [] dpos] X.env = (false, eval (.Call (.Attribute (.Name y jpos) "pop" bpos) [a] [] dpos) X.env) :: starEach [] X.env := by rfl) (hplain : (backTo cpos (starEach [] X.env)).any (·.1) = false := by rfl)
    (hsw : swapsWith (.Call (.Attribute (.Name x ipos) "append" apos) [.Call (.Attribute (.Name y jpos) "pop" bpos) [a] [] dpos] [] cpos) none pos.line X.env = pure false := by rfl) :
    DS X z O (.Expr (.Call (.Attribute (.Name x ipos) "append" apos) [.Call (.Attribute (.Name y jpos) "pop" bpos) [a] [] dpos] [] cpos) pos) (tApp z.K i (tBM z.K "list" rPopAt (tVar j) (tCons ta tNil))) (fun κ E ρ => mOwn i ρ fun ds => mOwn j ρ fun es => ma ρ (fun d => ∃ (n : Nat) (u : D), d = .int n ∧ n < 1000000 ∧ es[n]? = some u ∧ ds.length < sizeLine ∧ κ.nx ((ρ.set j (some (.lst (es.eraseIdx n)))).set i (some (.lst (ds ++ [u]))))) E) :=
  ⟨by
    rw [← hK]
    exact ps_expr (pe_bm PySem.F.plainAttrs_list PySem.F.slot_list_append PySem.F.type_list_append mt_append (pv i hN hv hd hcd) (pa_cons (pe_bm PySem.F.plainAttrs_list PySem.F.slot_list_pop PySem.F.type_list_pop mt_popAt (pv j hNj hvj hdj hcdj) (pa_cons ha.pe pa_nil hs2) hbase2 hfew2 hline2 hs2 hplain2) pa_nil hs) hbase hfew hline hs hplain) hsw, tms_of fun kp => tms_appPop0 (ha.tm.keep kp) hi hj hij⟩
/-! ### a walk over range(..) of the def's own things -/
theorem ds_forRF {tg : Expr} {body : List Stmt} {g : TG} {mg : D → (DEnv → Prop) → DEnv → Prop} {tb : TS} {mb : MS} {rp : Pos} (hp : PassesOwn (model X.prog X.w) X.A X.env X.xe) (hc : X.calm = true) (hm : X.mg "range" = none) (ha : DE X z a ta ma) (hg : DG X z O tg g mg) (hb : DSs X z O body tb mb) (hs : ∀ x, foldedSetIterable (.Call (.Name "range" rp) [a] [] ppos) X.env x = pure x)
    (hgl : Gl X "range" := by rfl) (hst : starEach [a] X.env = [(false, eval a X.env)] := by rfl) :
    DS X z O (.For tg (.Call (.Name "range" rp) [a] [] ppos) body [] pos) (tFor (iRng1 (tCons ta tNil)) g tb) (fun κ E ρ => ma ρ (fun d => asRange1 [d] (fun items => forW mg mb κ E items ρ) E) E) := ⟨ps_for hp hc (pi_range1 hgl hm (pa_cons ha.pe pa_nil hst) hst) hg.pg hb.ps hs, fun kp oa σ H ρ Dn κ E s hE ko hq => by
  refine (ha.tm.keep kp) _ σ H _ _ _ E s.full hE hq fun d v H1 hd e1 j1 r1 => ?_
  cases d with
  | int n =>
    obtain ⟨hn, hf0⟩ := hd
    have s1 : SO (z.keep kp) O oa σ H1 ρ := s.step e1 j1
    refine ⟨n, by rw [inv_int r1], hn.1, hn.2, fun i m σ' H' => ∃ oa' ρ', i ≤ n.toNat ∧ m = n.toNat - i ∧ SO (z.keep kp) O oa' σ' H' ρ' ∧ forW mg mb κ E ((rangeD 0 n.toNat).drop i) ρ', ⟨_, oa, ρ, Nat.zero_le _, rfl, s1, by rw [List.drop_zero]; exact hf0⟩, ?_⟩
    rintro i m σ' H' ⟨oa', ρ', hil, rfl, s', hf⟩
    have hrl : (rangeD 0 n.toNat).length = n.toNat := by simp [rangeD]
    by_cases hlt : i < n.toNat
    · have hlt' : i < (rangeD 0 n.toNat).length := by rw [hrl]; exact hlt
      have hit : (rangeD 0 n.toNat)[i] = .int (0 + (i : Int)) := by simp [rangeD]
      rw [List.drop_eq_getElem_cons hlt', hit] at hf
      refine .inr ⟨hlt, fun σ2 H2 => ∃ oa2 ρ2, SO (z.keep kp) O oa2 σ2 H2 ρ2 ∧ forW mg mb κ E ((rangeD 0 n.toNat).drop (i + 1)) ρ2, fun σ2 H2 ⟨oa2, ρ2, s2, h2⟩ => ⟨n.toNat - (i + 1), by omega, oa2, ρ2, hlt, rfl, s2, h2⟩, fun x H2 hy => ?_⟩
      obtain ⟨rfl, rfl⟩ := hy
      refine hg.tm kp oa' σ' _ ρ' _ _ _ _ s' rep_int hf fun oa3 σ3 H3 ρ3 s3 h3 => ?_
      exact hb.tm kp oa3 σ3 H3 ρ3 _ { nx := forW mg mb κ E ((rangeD 0 n.toNat).drop (i + 1)), rt := κ.rt, bk := κ.nx, ct := forW mg mb κ E ((rangeD 0 n.toNat).drop (i + 1)) } E s3 hE ⟨fun oa σ H ρ s q => ⟨oa, ρ, s, q⟩, ko.rt, fun oa σ H ρ s q => ko.nx oa σ H ρ s q, fun oa σ H ρ s q => ⟨oa, ρ, s, q⟩⟩ h3
    · have e : i = n.toNat := by omega
      subst e
      rw [List.drop_eq_nil_of_le (by rw [hrl]; exact Nat.le_refl _)] at hf
      exact .inl ⟨Nat.le_refl _, ko.nx oa' σ' H' ρ' s' hf⟩
  | _ => exact hd.elim⟩
/-! ### asked with a default -/
abbrev asDK (d : D) : M Unit := fun Q _ => match d with | .dK _ _ => Q () | _ => False
theorem tm_dget2 (ho : TMe z to mo) (hi : TMe z ti mi) (hf : TMe z tf mf) : TMe z (tDGet2 to ti tf) (fun ρ => bnd (mo ρ) fun x => bnd (asDK x) fun _ => bnd (mi ρ) fun y => bnd (mf ρ) fun u => mGet2 x y u) := fun U σ H ρ Q Qd E w he h k =>
  ho U σ H ρ _ _ E w he h fun d v H1 h1 e1 j1 r1 => by
    have w1 := w.step e1 j1
    -- the dict is told when all is asked
    have isd : ∀ ks ds, d = .dK ks ds → ∃ a kvs, v = .ref a ∧ H1 a = some (.dK kvs) := fun ks ds e => by
      subst e
      obtain ⟨a, kvs, rfl, ⟨ha, _, _⟩, _⟩ := rep_dict_inv r1
      exact ⟨a, kvs, rfl, ha⟩
    cases d with
    | dK ks ds =>
      obtain ⟨a, kvs0, rfl, ha0⟩ := isd ks ds rfl
      refine ⟨a, rfl, .inl ⟨kvs0, .inl ha0⟩, hi U σ H1 ρ _ _ E w1 he h1 fun d2 v2 H2 h2 e2 j2 r2 => hf U σ H2 ρ _ _ E (w1.step e2 j2) he h2 fun d3 v3 H3 h3 e3 j3 r3 => ?_⟩
      obtain ⟨a', kvs, ea, ⟨ha, na, rfl⟩, r⟩ := rep_dict_inv ((r1.ext e2 w.gu).ext e3 w.gu)
      cases ea
      have h3 : (match keyD d2 with | some k => Qd ((getP ((kvs.map (·.1)).zip ds) k).getD d3) | none => False) := h3
      cases hk : keyD d2 with
      | none => rw [hk] at h3; exact h3.elim
      | some key =>
        simp only [hk] at h3
        have g := getV_rel (k := key) r
        rw [key_rep hk r2]
        refine ⟨_, DGet.k ha, ?_⟩
        cases hg : getP ((kvs.map (·.1)).zip ds) key with
        | none =>
          rw [hg] at g h3
          rw [g]
          exact k _ _ H3 h3 ((e1.trans e2).trans e3) j3 r3
        | some dv =>
          rw [hg] at g h3
          obtain ⟨v, hv, rv⟩ := g
          rw [hv]
          exact k _ _ H3 h3 ((e1.trans e2).trans e3) j3 rv
    | _ => exact h1.elim
theorem de_dget2 (hr : Room k' X.A) (ho : DE X z o to mo) (hi : DE X z e ti mi) (hf : DE X z f tf mf) (m : M2 X o "get" apos e f cpos) : DE X z (.Call (.Attribute o "get" apos) [e, f] [] cpos) (tDGet2 to ti tf) (fun ρ => bnd (mo ρ) fun x => bnd (asDK x) fun _ => bnd (mi ρ) fun y => bnd (mf ρ) fun u => mGet2 x y u) := ⟨pe_dget2 (hu_of hr) ho.pe hi.pe hf.pe m, tm_dget2 ho.tm hi.tm hf.tm⟩
/-! ### three names by a tuple -/
variable {c : Expr} {tc : TE} {mc : DEnv → M D} {fl : List Bool} {tr : TA} {mr : DEnv → M (List D)} {px py pw pt : Pos} {kt k2 : Nat} {pt2 : Pos}
theorem three_small : 3 ≤ sizeLine := by rw [sizeLine_eq]; decide
theorem tms_tup30 {i j l : Nat} (ha : TMr z fl tr mr) (hO : RowOk O fl [i, j, l]) : TMs0 z O (tAsg (tTup tr) (gTup z.K 3 (gCons (gName i) (gCons (gName j) (gCons (gName l) gNil))))) (fun κ E ρ => mr (hide O ρ) (fun ds => κ.nx (setAll [i, j, l] ds ρ)) E) := fun oa σ H ρ Dn κ E s hE ko hm => by
  refine ha _ σ H _ _ _ E s.vis hE hm fun ds vs As H' q e jj hA nd hr => ?_
  have hlen := (rowRep_length hr).1
  rw [rowOk_len hO] at hlen
  match vs, hlen, hr with
  | [u, v, w], _, hr =>
    refine ⟨three_small, fun p hp => ⟨p, [u, v, w], rfl, .inl (.inl upd_same), rfl, u, [v, w], rfl, v, [w], rfl, w, [], rfl, rfl, ?_⟩⟩
    have old : ∀ b o, H' b = some o → upd H' p (.tup [u, v, w]) b = some o := fun b o hb => by rw [upd_ne (ne_of_none hb hp)]; exact hb
    have e' : Ext z.g.G H (upd H' p (.tup [u, v, w])) := e.trans (Ext.new hp)
    have j' : z.g.J (upd H' p (.tup [u, v, w])) := z.g.new jj hp
    have s1 : SO (z.with As) O oa σ (upd H' p (.tup [u, v, w])) ρ := s.with e' j' fun a h => ⟨(hA a h).1, by
      cases q : H' a with
      | none => exact absurd q (hA a h).2
      | some o => rw [old a o q]; simp⟩
    have hr' := hr.mono (U' := fun b => Uo z O oa ρ b ∨ b ∈ As) (fun b o hb n => ⟨old b o hb, n⟩) fun b o _ hb => old b o hb
    rw [show (fun b => Uo z O oa ρ b ∨ b ∈ As) = Uo (z.with As) O oa ρ from funext fun b => propext (uo_with b).symm] at hr'
    obtain ⟨oa', s2⟩ := SO.setRow s.ok (s.step e' j').d0 fl [i, j, l] As ds [u, v, w] oa σ ρ s1 nd (fun a h => ⟨fun q => s.d0 a q (hA a h).1, by
      cases q : z.H0 a with
      | none => rfl
      | some o =>
        have := s.ext a o q fun g => z.g.dom H a s.j g (hA a h).1
        rw [(hA a h).1] at this
        cases this⟩) hO hr'
    exact ko.nx oa' _ _ _ s2 q
theorem ds_tup3 (i j l : Nat) (hc : X.calm = true) (hK : X.K = z.K) (hN : X.N.Nodup) (ha : DRow X z fl [a, b, c] tr mr) (hO : RowOk O fl [i, j, l] := by simp [RowOk]) (hi : X.N[i]? = some x := by rfl) (hj : X.N[j]? = some y := by rfl) (hl : X.N[l]? = some w := by rfl)
    (hx : Loc X.env.scope x := by first | exact .inl rfl | exact .inr rfl) (hy : Loc X.env.scope y := by first | exact .inl rfl | exact .inr rfl) (hw : Loc X.env.scope w := by first | exact .inl rfl | exact .inr rfl)
    (hfx : X.fn x = true ∨ X.env.scope.names.lookup x = some .local := by first | exact .inl rfl | exact .inr rfl) (hfy : X.fn y = true ∨ X.env.scope.names.lookup y = some .local := by first | exact .inl rfl | exact .inr rfl) (hfw : X.fn w = true ∨ X.env.scope.names.lookup w = some .local := by first | exact .inl rfl | exact .inr rfl)
    (hs : swapsWithSole [.Tuple [.Name x px, .Name y py, .Name w pw] kt pt] (.Tuple [a, b, c] k2 pt2) pos.line X.env = pure false := by rfl) (hsw : swappedStores [.Tuple [.Name x px, .Name y py, .Name w pw] kt pt] (.Tuple [a, b, c] k2 pt2) X.env = pure none := by rfl)
    (h1 : (assignEach [.Tuple [.Name x px, .Name y py, .Name w pw] kt pt] X.env).map (·.2) = [assign (.Tuple [.Name x px, .Name y py, .Name w pw] kt pt) X.env] := by rfl)
    (hs1 : (assignEach [.Name x px, .Name y py, .Name w pw] X.env).map (·.2) = assign (.Name x px) X.env :: (assignEach [.Name y py, .Name w pw] X.env).map (·.2) := by rfl)
    (hs2 : (assignEach [.Name y py, .Name w pw] X.env).map (·.2) = assign (.Name y py) X.env :: (assignEach [.Name w pw] X.env).map (·.2) := by rfl)
    (hs3 : (assignEach [.Name w pw] X.env).map (·.2) = assign (.Name w pw) X.env :: (assignEach [] X.env).map (·.2) := by rfl)
    (hn : (assignEach [.Name x px, .Name y py, .Name w pw] X.env).length = 3 := by rfl) (hst : (assignEach [.Name x px, .Name y py, .Name w pw] X.env).findIdx? (·.1) = none := by rfl) :
    DS X z O (.Assign [.Tuple [.Name x px, .Name y py, .Name w pw] kt pt] (.Tuple [a, b, c] k2 pt2) pos) (tAsg (tTup tr) (gTup z.K 3 (gCons (gName i) (gCons (gName j) (gCons (gName l) gNil))))) (fun κ E ρ => mr (hide O ρ) (fun ds => κ.nx (setAll [i, j, l] ds ρ)) E) :=
  ⟨ps_asg (pe_tup ha.pe) (by rw [← hK]; exact pg_tup hc (pgs_cons (pg_name hN hi hx hfx) (pgs_cons (pg_name hN hj hy hfy) (pgs_cons (pg_name hN hl hw hfw) pgs_nil hs3) hs2) hs1) hn hst) hs hsw h1, tms_of fun kp => tms_tup30 (ha.tm.keep kp) hO⟩
/-! ### a store into an own dict beside a name -/
theorem tms_putPair0 {i j : Nat} (ha : TMe z ta ma) (hb : TMe z tb mb) (hk : TMe z ti mi) (hj : j ∈ O) (hi : i ∉ O) : TMs0 z O (tAsg (tTup (tCons ta (tCons tb tNil))) (gTup z.K 2 (gCons (gSub (tVar j) ti rSetD) (gCons (gName i) gNil)))) (fun κ E ρ => ma (hide O ρ) (fun d1 => mb (hide O ρ) (fun d2 => mOwnK j ρ fun kvs => mi (hide O ρ) (fun q => match keyD q with
    | some k => kvs.length < sizeLine ∧ κ.nx ((ρ.set j (some (dictD (putP kvs k d1)))).set i (some d2))
    | none => False) E) E) E) := fun oa σ H ρ Dn κ E s hE ko hm =>
  ha _ σ H _ _ _ E s.vis hE hm fun d1 v1 H1 h1 e1 j1 r1 => hb _ σ H1 _ _ _ E (s.step e1 j1).vis hE h1 fun d2 v2 H2 h2 e2 j2 r2 => by
    have s2 := (s.step e1 j1).step e2 j2
    refine ⟨two_small, fun p hp => ⟨p, [v1, v2], rfl, .inl (.inl upd_same), rfl, v1, [v2], rfl, ?_⟩⟩
    have s3 := s2.step (Ext.new (o := .tup [v1, v2]) hp) (z.g.new j2 hp)
    obtain ⟨ks, ds, hρ, h2⟩ := mOwnK_inv h2
    obtain ⟨_, kvs0, hσ, _, _, _⟩ := s3.ownK hj hρ
    refine ⟨_, hσ, hk _ σ _ _ _ _ E s3.vis hE h2 fun d3 v3 H3 h3 e3 j3 r3 => ?_⟩
    have s4 := s3.step e3 j3
    cases q : keyD d3 with
    | none => simp only [q] at h3
    | some key =>
      simp only [q] at h3
      have ex : Ext z.g.G H1 H3 := (e2.trans (Ext.new hp)).trans e3
      obtain ⟨kvs, f3, f4, f5, s5⟩ := s4.putKey (k := key) hj hρ (r1.ext ex s.gu)
      rw [key_rep q r3]
      refine ⟨oa j, _, rfl, DPut.k f4 (by rw [f5]; exact h3.1), v2, [], rfl, rfl, ?_⟩
      refine ko.nx oa _ _ _ (s5.set hi ?_) h3.2
      rw [Uo_put hj hρ]
      have r2' := r2.ext ((Ext.new (o := .tup [v1, v2]) hp).trans e3) s.gu
      have inU : Uo z O oa ρ (oa j) := .inr ⟨j, hj, ⟨_, hρ⟩, rfl⟩
      exact Rep.mono' (fun b o hb n => ⟨by rw [upd_ne fun q => n (by rw [q]; exact inU)]; exact hb, n⟩) _ _ r2'
theorem ds_putPair (j i : Nat) (hr : Room k' X.A) (hc : X.calm = true) (hK : X.K = z.K) (hNd : X.N.Nodup) (ha : DE X z a ta ma) (hb : DE X z b tb mb) (hk : DE X z e ti mi) (hj : j ∈ O := by decide) (hi : i ∉ O := by decide) (hNj : X.N[j]? = some x := by rfl) (hNi : X.N[i]? = some y := by rfl)
    (hv : Vis X.env.scope x := by first | exact Or.inl rfl | exact Or.inr (Or.inl rfl) | exact Or.inr (Or.inr rfl)) (hd : (x == ("__debug__" : Str)) = false := by decide) (hcd : (x == ("__classdict__" : Str)) = false := by decide)
    (hy : Loc X.env.scope y := by first | exact .inl rfl | exact .inr rfl) (hfy : X.fn y = true ∨ X.env.scope.names.lookup y = some .local := by first | exact .inl rfl | exact .inr rfl)
    (hst0 : ∀ v, assign (.Subscript (.Name x ppos) e pos') X.env v = (do
      let ov ← holding [v] (eval (.Name x ppos) X.env)
      let iv ← holding [v, ov] (eval e X.env)
      standAt pos'
      holding [v, ov, iv] (setItem ov iv v)
      release [v, ov, iv] []) := by intro _; rfl)
    (hs : swapsWithSole [.Tuple [.Subscript (.Name x ppos) e pos', .Name y py] kt pt] (.Tuple [a, b] k2 pt2) pos.line X.env = pure false := by rfl) (hsw : swappedStores [.Tuple [.Subscript (.Name x ppos) e pos', .Name y py] kt pt] (.Tuple [a, b] k2 pt2) X.env = pure none := by rfl)
    (h1 : (assignEach [.Tuple [.Subscript (.Name x ppos) e pos', .Name y py] kt pt] X.env).map (·.2) = [assign (.Tuple [.Subscript (.Name x ppos) e pos', .Name y py] kt pt) X.env] := by rfl)
    (hs1 : (assignEach [.Subscript (.Name x ppos) e pos', .Name y py] X.env).map (·.2) = assign (.Subscript (.Name x ppos) e pos') X.env :: (assignEach [.Name y py] X.env).map (·.2) := by rfl)
    (hs2 : (assignEach [.Name y py] X.env).map (·.2) = assign (.Name y py) X.env :: (assignEach [] X.env).map (·.2) := by rfl)
    (hn : (assignEach [.Subscript (.Name x ppos) e pos', .Name y py] X.env).length = 2 := by rfl) (hst : (assignEach [.Subscript (.Name x ppos) e pos', .Name y py] X.env).findIdx? (·.1) = none := by rfl)
    (hp1 : starEach [a, b] X.env = (false, eval a X.env) :: starEach [b] X.env := by rfl) (hp2 : starEach [b] X.env = (false, eval b X.env) :: starEach [] X.env := by rfl) :
    DS X z O (.Assign [.Tuple [.Subscript (.Name x ppos) e pos', .Name y py] kt pt] (.Tuple [a, b] k2 pt2) pos) (tAsg (tTup (tCons ta (tCons tb tNil))) (gTup z.K 2 (gCons (gSub (tVar j) ti rSetD) (gCons (gName i) gNil)))) (fun κ E ρ => ma (hide O ρ) (fun d1 => mb (hide O ρ) (fun d2 => mOwnK j ρ fun kvs => mi (hide O ρ) (fun q => match keyD q with
      | some k => kvs.length < sizeLine ∧ κ.nx ((ρ.set j (some (dictD (putP kvs k d1)))).set i (some d2))
      | none => False) E) E) E) :=
  ⟨ps_asg (pe_tup (pa_cons ha.pe (pa_cons hb.pe pa_nil hp2) hp1)) (by rw [← hK]; exact pg_tup hc (pgs_cons (pg_sub (pv j hNj hv hd hcd) hk.pe (set_dict (hu_of hr)) hst0) (pgs_cons (pg_name hNd hNi hy hfy) pgs_nil hs2) hs1) hn hst) hs hsw h1, tms_of fun kp => tms_putPair0 (ha.tm.keep kp) (hb.tm.keep kp) (hk.tm.keep kp) hj hi⟩
end
end DL

/-! DPerm: all orders of a list, as `permutations` hands them out. -/
namespace DL
open PySem PySem.Spec PyProof.Rows L2
open Sem (wp)

/-! ### the kind -/
abbrev pn : String := "itertools.permutations"
theorem pm_mro : mroOf (.type pn) = pure [.type pn, .type "object"] := by rw [mroOf_type]; kernel_rfl
theorem pm_look : typeLookup (.type pn) "__new__" = pure (some (.builtin "itertools.permutations.__new__")) := by rw [typeLookup_type, builtinLookup_eq_fast]; kernel_rfl
theorem pm_init : Slot pn "__init__" "object.__init__" :=
  .of (owner := "object") (n := "__init__") (by rw [typeLookup_type, builtinLookup_eq_fast]; kernel_rfl) (by decide +kernel) (by decide +kernel) (by decide +kernel)
    (by first | exact .inl (by decide +kernel) | exact .inr (by decide +kernel)) (by rw [isSubtype_type]; kernel_rfl)
theorem pm_sub : isSubtype (.type pn) (.type pn) = pure true := by rw [isSubtype_type]; kernel_rfl
theorem pm_called : TypeCalled pn "itertools.permutations.__new__" "object.__init__" :=
  ⟨by decide +kernel, by decide +kernel, ⟨_, _, pm_mro⟩, madeBy_type pm_mro pm_look (by decide +kernel), by decide +kernel, pm_sub, pm_init⟩
theorem pm_call2 (a b : Value) : checkTypeCall pn ⟨[a, b], []⟩ = pure () := by kernel_rfl
theorem pm_new2 (a b : Value) : checkBuiltinCall "itertools.permutations.__new__" ⟨[.type pn, a, b], []⟩ = pure () := by kernel_rfl
theorem pm_entryN : entryFor table "itertools.permutations.__new__" = some Builtin.«itertools.permutations.__new__» := entryFor_of_tree (by kernel_rfl)
theorem pm_iter : Slot pn "__iter__" "itertools.permutations.__iter__" :=
  .of (owner := pn) (n := "__iter__") (by rw [typeLookup_type, builtinLookup_eq_fast]; kernel_rfl) (by decide +kernel) (by decide +kernel) (by decide +kernel)
    (by first | exact .inl (by decide +kernel) | exact .inr (by decide +kernel)) pm_sub
theorem pm_next : Slot pn "__next__" "itertools.permutations.__next__" :=
  .of (owner := pn) (n := "__next__") (by rw [typeLookup_type, builtinLookup_eq_fast]; kernel_rfl) (by decide +kernel) (by decide +kernel) (by decide +kernel)
    (by first | exact .inl (by decide +kernel) | exact .inr (by decide +kernel)) pm_sub
theorem pm_entryI : entryFor table "itertools.permutations.__iter__" = some Builtin.«dict_keyiterator.__iter__» :=
  entryFor_alias (id' := "dict_keyiterator.__iter__") (by kernel_rfl) (by first | rfl | decide +kernel | (unfold String.splitOn; simp +decide [String.splitOnAux])) (by decide +kernel) (by kernel_rfl)
theorem pm_entryX : entryFor table "itertools.permutations.__next__" = some Builtin.«itertools.permutations.__next__» := entryFor_of_tree (by kernel_rfl)
abbrev pnR : List Char := ['s', 'n', 'o', 'i', 't', 'a', 't', 'u', 'm', 'r', 'e', 'p', '.', 's', 'l', 'o', 'o', 't', 'r', 'e', 't', 'i']
theorem pm_owner : Manifest.owners.lookup (String.ofList pnR.reverse) = some Manifest.sig_itertools_permutations := by kernel_rfl
theorem pm_argsI (a : Value) : argsOk "itertools.permutations.__iter__" ⟨[a], []⟩ := by
  unfold argsOk; rw [signature?_of (id := "itertools.permutations.__iter__") (n := ['_', '_', 'r', 'e', 't', 'i', '_', '_']) (o := pnR) (by kernel_rfl) pm_owner]; kernel_rfl
theorem pm_argsX (a : Value) : argsOk "itertools.permutations.__next__" ⟨[a], []⟩ := by
  unfold argsOk; rw [signature?_of (id := "itertools.permutations.__next__") (n := ['_', '_', 't', 'x', 'e', 'n', '_', '_']) (o := pnR) (by kernel_rfl) pm_owner]; kernel_rfl
theorem pm_noDict : typeHasDict (.type pn) = false := by decide +kernel

/-! ### the next order -/
/-- one step of the wheel: i places still to look at -/
def turnW (n : Nat) : Nat → List Nat × List Nat → Option (List Nat × List Nat)
  | 0, _ => none
  | i + 1, p => match p.2.getD i 0 - 1 with
    | 0 => turnW n i (p.1.take i ++ p.1.drop (i + 1) ++ [p.1.getD i 0], p.2.set i (n - i))
    | c + 1 => some ((p.1.set i (p.1.getD (n - (c + 1)) 0)).set (n - (c + 1)) (p.1.getD i 0), p.2.set i (c + 1))
theorem turnW_eq (f : Nat → Nat → List Nat → List Nat → Option (List Nat × List Nat)) (h0 : ∀ n a c, f n 0 a c = none)
    (h1 : ∀ n i a c, f n (i + 1) a c = if (c.getD i 0 - 1 == 0) = true then f n i (a.take i ++ a.drop (i + 1) ++ [a.getD i 0]) (c.set i (n - i)) else some ((a.set i (a.getD (n - (c.getD i 0 - 1)) 0)).set (n - (c.getD i 0 - 1)) (a.getD i 0), c.set i (c.getD i 0 - 1))) :
    ∀ n i a c, f n i a c = turnW n i (a, c) := by
  intro n i
  induction i with
  | zero => intro a c; rw [h0]; rfl
  | succ i ih =>
    intro a c
    rw [h1]
    show _ = match c.getD i 0 - 1 with
      | 0 => _
      | c' + 1 => _
    cases e : c.getD i 0 - 1 with
    | zero => exact ih _ _
    | succ k => rfl
/-- the state behind i handed-out orders -/
def wheel (n r : Nat) : Nat → Option (List Nat × List Nat)
  | 0 => some (List.range n, (List.range r).map fun i => n - i)
  | i + 1 => match wheel n r i with
    | some p => turnW n r p
    | none => none
theorem turnW_len (n r : Nat) (hr : r ≤ n) : ∀ (i : Nat) (p q : List Nat × List Nat), i ≤ r → p.1.length = n → p.2.length = r → turnW n i p = some q → q.1.length = n ∧ q.2.length = r := by
  intro i
  induction i with
  | zero => intro p q _ _ _ h; cases h
  | succ i ih =>
    intro p q hi h1 h2 h
    unfold turnW at h
    split at h
    · refine ih _ _ (by omega) ?_ (by simpa using h2) h
      simp only [List.length_append, List.length_take, List.length_drop, List.length_cons, List.length_nil]
      omega
    · cases h
      exact ⟨by simpa using h1, by simpa using h2⟩
theorem wheel_len (n r : Nat) (hr : r ≤ n) : ∀ (i : Nat) (p : List Nat × List Nat), wheel n r i = some p → p.1.length = n ∧ p.2.length = r
  | 0, p, h => by cases h; exact ⟨by simp, by simp⟩
  | i + 1, p, h => by
    unfold wheel at h
    split at h
    · rename_i q e
      have := wheel_len n r hr i q e
      exact turnW_len n r hr r q p (Nat.le_refl _) this.1 this.2 h
    · cases h

/-! ### the object -/
def numsV (l : List Nat) : List Value := l.map fun (k : Nat) => rawInt (k : Int)
/-- the record: pool, state, places, the last tuple handed out, and the wheel -/
abbrev PmO (T : Addr) (st r : Int) (pv : Value) (l : List Nat) : Obj := { cls := .type pn, dict := none, data := .fields (Value.ref T :: rawInt st :: rawInt r :: pv :: numsV l).toArray, slots := #[] }
theorem numsV_back (l : List Nat) : (numsV l).map (fun | .int n _ => n.toNat | _ => 0) = l := by
  unfold numsV
  rw [List.map_map]
  conv => rhs; rw [← List.map_id l]
  exact List.map_congr_left fun a _ => rfl
theorem wheel0_nums (n r : Nat) (hr : r ≤ n) : (List.range n).map (fun (i : Nat) => rawInt (i : Int)) ++ (List.range r).map (fun (i : Nat) => rawInt ((n : Int) - (i : Int))) = numsV (List.range n ++ (List.range r).map fun i => n - i) := by
  unfold numsV
  rw [List.map_append, List.map_map]
  congr 1
  refine List.map_congr_left fun a ha => ?_
  have : a < r := List.mem_range.mp ha
  show rawInt _ = rawInt _
  congr 1
  show (n : Int) - (a : Int) = ((n - a : Nat) : Int)
  omega

end DL

/-! DPermB: walking all orders. -/
namespace DL
open PySem PySem.Spec PyProof.Rows L2
open Sem (wp)
theorem pm_stop : isSubtype (.type "StopIteration") (.type "StopIteration") = pure true := by rw [isSubtype_type]; kernel_rfl
section
variable {prog : Program} {w : World} {A : Around} {E : Value → Shared → Prop} {s : Shared}
theorem pm_pool {T : Addr} {items : Array Value} {Q : Array Value → Shared → Prop} (hp : s.heap.IsTuple T items) (h : Q items s) : wpAny (model prog w) A (Builtin.Itertools.itPoolItems (.ref T)) Q E s := by
  obtain ⟨o, ho, hc, n, hd⟩ := hp
  unfold Builtin.Itertools.itPoolItems
  exact wpAny_bind (wpAny_seqItems ho hd (wpAny_pure h))
theorem pm_intf {it : Addr} {o : Obj} {vs : Array Value} {i : Nat} {n : Int} {t : Tok} {Q : Int → Shared → Prop} (ho : s.heap.get? it = some o) (hd : o.data = .fields vs) (hv : vs[i]? = some (.int n t)) (h : Q n s) : wpAny (model prog w) A (Builtin.Itertools.itIntField (.ref it) i) Q E s := by
  unfold Builtin.Itertools.itIntField
  exact wpAny_bind (wpAny_field ho hd hv (wpAny_pure h))
theorem pm_nums {it T : Addr} {st r : Int} {pv : Value} {l : List Nat} {Q : List Nat → Shared → Prop} (hit : s.heap.get? it = some (PmO T st r pv l)) (h : Q l s) : wpAny (model prog w) A (Builtin.Itertools.itNumbersFrom (.ref it) 4) Q E s := by
  unfold Builtin.Itertools.itNumbersFrom
  refine wpAny_bind (wpAny_load hit ?_)
  refine wpAny_pure ?_
  exact Eq.mp (congrArg (fun z => Q z s) (numsV_back l).symm) h
theorem pm_setNums {it T : Addr} {st r : Int} {pv : Value} {l l' : List Nat} {Q : Unit → Shared → Prop} (hit : s.heap.get? it = some (PmO T st r pv l)) (hsz : l'.length + 4 ≤ sizeLine)
    (h : ∀ h', h'.get? it = some (PmO T st r pv l') → Heap.SameBut it s.heap h' → Q () { s with heap := h' }) : wpAny (model prog w) A (Builtin.Itertools.itSetNumbersFrom (.ref it) 4 l') Q E s := by
  unfold Builtin.Itertools.itSetNumbersFrom
  refine wpAny_updateFields hit rfl (h _ ?_ (Heap.SameBut.update ..)) ?_
  · rw [Heap.get?_update_self _ hit rfl]
    congr 1
    show ({ cls := .type pn, dict := none, data := .fields _, slots := #[] } : Obj) = PmO T st r pv l'
    congr 2
    simp [numsV]
  · simp
    omega
theorem pm_setField {it T : Addr} {st r st' : Int} {pv pv' : Value} {l : List Nat} {Q : Unit → Shared → Prop} {i : Nat} {x : Value} (hit : s.heap.get? it = some (PmO T st r pv l)) (hi : i < 4)
    (hx : (Value.ref T :: rawInt st :: rawInt r :: pv :: numsV l).set i x = Value.ref T :: rawInt st' :: rawInt r :: pv' :: numsV l)
    (h : ∀ h', h'.get? it = some (PmO T st' r pv' l) → Heap.SameBut it s.heap h' → Q () { s with heap := h' }) : wpAny (model prog w) A (setField (.ref it) i x) Q E s := by
  refine wpAny_setField hit rfl (by simp; omega) (h _ ?_ (Heap.SameBut.update ..))
  rw [Heap.get?_update_self _ hit rfl]
  congr 1
  show ({ cls := .type pn, dict := none, data := .fields ((Value.ref T :: rawInt st :: rawInt r :: pv :: numsV l).toArray.setIfInBounds i x), slots := #[] } : Obj) = PmO T st' r pv' l
  congr 2
  rw [← hx]
  simp
theorem perm_self {it T : Addr} {st r : Int} {pv : Value} {l : List Nat} {Q : Value → Shared → Prop} (hit : s.heap.get? it = some (PmO T st r pv l)) (h : Q (.ref it) s) : wpAny (model prog w) A (pyIter (.ref it)) Q E s := by
  have hT : s.TypeIs (.ref it) pn := ⟨_, hit, rfl⟩
  refine wpAny_pyIter_slot hT pm_iter (wpAny_call_entry pm_iter hT pm_entryI ?_ (pm_argsI _))
  show wpAny _ _ (PySem.ret (.ref it)) _ _ s
  exact wpAny_pure ⟨_, rfl, pn, _, hT, pm_next.lookup, h⟩
/-- the tail of a step: the new tuple is laid, kept and handed out -/
theorem pm_hand {it T : Addr} {items : Array Value} {r : Nat} {st : Int} {pv : Value} {l ix : List Nat} {Q : PySem.Fin → Shared → Prop} (hit : s.heap.get? it = some (PmO T st r pv l)) (hsz : ix.length ≤ sizeLine)
    (h : ∀ h', h'.get? it = some (PmO T st r (.ref s.heap.objs.size) l) → h'.IsTuple s.heap.objs.size (ix.map fun i => items.getD i .none).toArray → (∀ b o, b ≠ it → s.heap.get? b = some o → h'.get? b = some o) → Q (.done (.ret (.ref s.heap.objs.size))) { s with heap := h' }) :
    wpAny (model prog w) A (do
      let t ← newTuple (ix.map fun i => items.getD i .none)
      let old ← field (.ref it) 3
      setField (.ref it) 3 t
      letGo [old] [t]
      PySem.ret t) Q E s := by
  refine wpAny_bind (wpAny_newTuple ?_ (by simpa using hsz))
  have h1 := Heap.get?_push_of_some { cls := .type "tuple", data := .seq (ix.map fun i => items.getD i .none).toArray } hit
  refine wpAny_bind (wpAny_field h1 rfl (x := pv) rfl ?_)
  refine wpAny_bind (pm_setField (pv' := .ref s.heap.objs.size) h1 (by decide) rfl fun h' h2 sb => ?_)
  refine wpAny_bind (wpAny_letGo ?_)
  have hne : s.heap.objs.size ≠ it := Nat.ne_of_gt (Heap.lt_size hit)
  exact wpAny_pure (h h' h2 ⟨_, (sb.2 _ hne).trans (Heap.get?_push_size _ rfl), rfl, _, rfl⟩ fun b o hb e => (sb.2 b hb).trans (Heap.get?_push_of_some _ e))
theorem perm_item0 {it T : Addr} {items : Array Value} {r : Nat} {pv : Value} {l : List Nat} {Q : Option Value → Shared → Prop} (hit : s.heap.get? it = some (PmO T 0 (r : Nat) pv l)) (hp : s.heap.IsTuple T items) (hsz : l.length ≤ sizeLine)
    (hQ : ∀ h', h'.get? it = some (PmO T 1 (r : Nat) (.ref s.heap.objs.size) l) → h'.IsTuple s.heap.objs.size ((l.take r).map fun i => items.getD i .none).toArray → (∀ b o, b ≠ it → s.heap.get? b = some o → h'.get? b = some o) → Q (some (.ref s.heap.objs.size)) { s with heap := h' }) :
    wpAny (model prog w) A (pyNext (.ref it)) Q E s := by
  have hT : s.TypeIs (.ref it) pn := ⟨_, hit, rfl⟩
  unfold pyNext
  refine wpAny_bind (wpAny_attempt (wpAny_callSpecial?_slot (name := Str.ofString "__next__") hT pm_next
    (wpAny_call_entry pm_next hT pm_entryX ?_ (pm_argsX _))))
  show wpAny _ _ (field (.ref it) 0 >>= _) _ _ s
  refine wpAny_bind (wpAny_field hit rfl (x := .ref T) rfl ?_)
  refine wpAny_bind (pm_pool hp ?_)
  refine wpAny_bind (pm_intf hit rfl (n := (r : Int)) (t := 0) rfl ?_)
  refine wpAny_bind (pm_nums hit ?_)
  refine wpAny_bind (pm_intf hit rfl (n := 0) (t := 0) rfl ?_)
  refine wpAny_bind (pm_setField (st' := 1) hit (by decide) rfl fun h' h2 sb => ?_)
  have hz : h'.objs.size = s.heap.objs.size := sb.1
  refine pm_hand h2 (by rw [List.length_take]; omega) fun h3 a b c => ?_
  have e : h'.objs.size = s.heap.objs.size := hz
  rw [show ({ s with heap := h' } : Shared).heap.objs.size = s.heap.objs.size from hz] at a b ⊢
  exact ⟨_, rfl, wpAny_pure (hQ h3 a b fun b o hb q => c b o hb ((sb.2 b hb).trans q))⟩
theorem perm_itemS {it T : Addr} {items : Array Value} {n r : Nat} {pv : Value} {ix cy ix' cy' : List Nat} {Q : Option Value → Shared → Prop} (hit : s.heap.get? it = some (PmO T 1 (r : Nat) pv (ix ++ cy))) (hp : s.heap.IsTuple T items) (hn : items.size = n) (hl : ix.length = n)
    (ht : turnW n r (ix, cy) = some (ix', cy')) (hsz : ix'.length + cy'.length + 4 ≤ sizeLine)
    (hQ : ∀ h', h'.get? it = some (PmO T 1 (r : Nat) (.ref s.heap.objs.size) (ix' ++ cy')) → h'.IsTuple s.heap.objs.size ((ix'.take r).map fun i => items.getD i .none).toArray → (∀ b o, b ≠ it → s.heap.get? b = some o → h'.get? b = some o) → Q (some (.ref s.heap.objs.size)) { s with heap := h' }) :
    wpAny (model prog w) A (pyNext (.ref it)) Q E s := by
  have hT : s.TypeIs (.ref it) pn := ⟨_, hit, rfl⟩
  unfold pyNext
  refine wpAny_bind (wpAny_attempt (wpAny_callSpecial?_slot (name := Str.ofString "__next__") hT pm_next
    (wpAny_call_entry pm_next hT pm_entryX ?_ (pm_argsX _))))
  show wpAny _ _ (field (.ref it) 0 >>= _) _ _ s
  refine wpAny_bind (wpAny_field hit rfl (x := .ref T) rfl ?_)
  refine wpAny_bind (pm_pool hp ?_)
  refine wpAny_bind (pm_intf hit rfl (n := (r : Int)) (t := 0) rfl ?_)
  refine wpAny_bind (pm_nums hit ?_)
  refine wpAny_bind (pm_intf hit rfl (n := 1) (t := 0) rfl ?_)
  subst hn
  have e1 : (ix ++ cy).take items.size = ix := by rw [← hl]; simp
  have e2 : (ix ++ cy).drop items.size = cy := by rw [← hl]; simp
  rw [e1, e2]
  dsimp only
  split
  · rename_i h
    exact absurd h (by decide)
  · split
    · rename_i a b heq
      have e := (turnW_eq _ (fun _ _ _ => rfl) (fun _ _ _ _ => rfl) items.size r ix cy).symm.trans heq
      rw [ht] at e
      cases e
      refine wpAny_bind (pm_setNums hit (by simpa using hsz) fun h' h2 sb => ?_)
      have hz : h'.objs.size = s.heap.objs.size := sb.1
      refine pm_hand (r := r) h2 (by rw [List.length_take]; omega) fun h3 a b c => ?_
      rw [show ({ s with heap := h' } : Shared).heap.objs.size = s.heap.objs.size from hz] at a b ⊢
      exact ⟨_, rfl, wpAny_pure (hQ h3 a b fun b o hb q => c b o hb ((sb.2 b hb).trans q))⟩
    · rename_i heq
      have e := (turnW_eq _ (fun _ _ _ => rfl) (fun _ _ _ _ => rfl) items.size r ix cy).symm.trans heq
      rw [ht] at e
      cases e
  · rename_i h0 h1
    exact absurd rfl h1
theorem perm_end {it T : Addr} {items : Array Value} {n r : Nat} {pv : Value} {ix cy : List Nat} {Q : Option Value → Shared → Prop} (hh : A.handled = none) (hit : s.heap.get? it = some (PmO T 1 (r : Nat) pv (ix ++ cy))) (hp : s.heap.IsTuple T items) (hn : items.size = n) (hl : ix.length = n)
    (ht : turnW n r (ix, cy) = none) (hQ : ∀ h', (∀ b o, b ≠ it → s.heap.get? b = some o → h'.get? b = some o) → Q none { s with heap := h' }) :
    wpAny (model prog w) A (pyNext (.ref it)) Q E s := by
  have hT : s.TypeIs (.ref it) pn := ⟨_, hit, rfl⟩
  unfold pyNext
  refine wpAny_bind (wpAny_attempt (wpAny_callSpecial?_slot (name := Str.ofString "__next__") hT pm_next
    (wpAny_call_entry pm_next hT pm_entryX ?_ (pm_argsX _))))
  show wpAny _ _ (field (.ref it) 0 >>= _) _ _ s
  refine wpAny_bind (wpAny_field hit rfl (x := .ref T) rfl ?_)
  refine wpAny_bind (pm_pool hp ?_)
  refine wpAny_bind (pm_intf hit rfl (n := (r : Int)) (t := 0) rfl ?_)
  refine wpAny_bind (pm_nums hit ?_)
  refine wpAny_bind (pm_intf hit rfl (n := 1) (t := 0) rfl ?_)
  subst hn
  have e1 : (ix ++ cy).take items.size = ix := by rw [← hl]; simp
  have e2 : (ix ++ cy).drop items.size = cy := by rw [← hl]; simp
  rw [e1, e2]
  dsimp only
  split
  · rename_i h
    exact absurd h (by decide)
  · split
    · rename_i a b heq
      have e := (turnW_eq _ (fun _ _ _ => rfl) (fun _ _ _ _ => rfl) items.size r ix cy).symm.trans heq
      rw [ht] at e
      cases e
    · refine wpAny_bind (pm_setField (st' := 2) (pv' := pv) hit (by decide) rfl fun h' h2 sb => ?_)
      refine wpAny_bind ?_
      show wpAny _ _ (newExc (.type "StopIteration") [] >>= _) _ _ _
      refine wpAny_bind ?_
      simp only [newExc, newTuple]
      refine wpAny_bind (wpAny_newObj_type ?_ (by size_fits))
      refine wpAny_bind (m := firstArgMember _ _) (wpAny_of_eq (a := Value.none) (by first | rfl | (simp only [firstArgMember]; rfl)) ?_)
      refine wpAny_newObj_type ?_ (by size_fits)
      refine wpAny_pure ?_
      simp only [raiseNew]
      refine wpAny_bind (wpAny_handled ?_)
      first | rw [show A.in1.handled = none from hh] | rw [hh]
      refine wpAny_bind (wpAny_pure (wpAny_throw ?_))
      refine wpAny_bind (wpAny_isInstance (T := "StopIteration") (b := true) ⟨_, Heap.get?_push_size _ rfl, rfl⟩ pm_stop ?_)
      exact wpAny_pure (hQ _ fun b o hb q => Heap.get?_push_of_some _ (Heap.get?_push_of_some _ ((sb.2 b hb).trans q)))
  · rename_i h0 h1
    exact absurd rfl h1
theorem perm_new {a : Addr} {T0 : String} {ob : Obj} {items : Array Value} {k n : Nat} {t : Tok} {Q : Value → Shared → Prop} (hT : T0 = "list" ∨ T0 = "tuple") (ho : s.heap.get? a = some ob) (hc : ob.cls = .type T0) (hd : ob.data = .seq items k) (hn : n ≤ items.size) (hsz : items.size < 2 ^ 20) (hln : items.size + n + 4 ≤ sizeLine)
    (h : ∀ h', h'.get? (h'.objs.size - 1) = some (PmO (h'.objs.size - 2) 0 (n : Nat) .none (List.range items.size ++ (List.range n).map fun i => items.size - i)) → h'.IsTuple (h'.objs.size - 2) items → (∃ h2 : Heap, (∀ b o, s.heap.get? b = some o → h2.get? b = some o) ∧ h'.objs.size = h2.objs.size + 2 ∧ ∀ b o, h2.get? b = some o → h'.get? b = some o) → Q (.ref (h'.objs.size - 1)) { s with heap := h' }) :
    wpAny (model prog w) A (call (.type pn) [.ref a, .int (n : Nat) t]) Q E s := by
  have g : Meets (Builtin.«itertools.permutations.__new__» ⟨[.type pn, .ref a, .int (n : Nat) t], []⟩) (fun _ R s1 => s1 = s ∧ ∀ h', h'.get? (h'.objs.size - 1) = some (PmO (h'.objs.size - 2) 0 (n : Nat) .none (List.range items.size ++ (List.range n).map fun i => items.size - i)) → h'.IsTuple (h'.objs.size - 2) items → (∃ h2 : Heap, (∀ b o, s.heap.get? b = some o → h2.get? b = some o) ∧ h'.objs.size = h2.objs.size + 2 ∧ ∀ b o, h2.get? b = some o → h'.get? b = some o) → R (.ok (.ret (.ref (h'.objs.size - 1)))) { s with heap := h' }) :=
    .of_wp fun prog w A R s h => by
      obtain ⟨hp, g, dd, tk, os⟩ := s; obtain ⟨h1, h⟩ := h
      subst h1
      have hsub : isSubtype (.type pn) (.type ("itertools." ++ "permutations")) = pure true := by
        rw [show ("itertools." ++ "permutations" : String) = pn from by decide]
        exact pm_sub
      have hneg : ¬ ((n : Int) < 0) := by omega
      have hz0 : items.toList.length ≤ sizeLine := by simp; omega
      have hbig : ¬ ((decide ((n : Int) < -2 ^ 63) || decide ((n : Int) ≥ 2 ^ 63)) = true) := by
        have a : ¬ ((n : Int) < -2 ^ 63) := by omega
        have b : ¬ ((n : Int) ≥ 2 ^ 63) := by omega
        rw [decide_eq_false a, decide_eq_false b]
        decide
      have hmany : ¬ (Builtin.Itertools.itTooMany (n : Int) = true) := by
        unfold Builtin.Itertools.itTooMany
        simp
        omega
      have hd' := pm_noDict
      have q1 : ∀ {A' : Around} {E : Value → Shared → Prop} {Q : List Value → Shared → Prop}, (∀ h', (∀ b o', hp.get? b = some o' → h'.get? b = some o') → Q items.toList ⟨h', g, dd, tk, os⟩) → wpAny (model prog w) A' (collect (.ref a)) Q E ⟨hp, g, dd, tk, os⟩ :=
        fun q => wpAny_collect_seq a hT ho hc hd q (by omega)
      repeat (first
        | (with_reducible refine q1 fun h2 k2 => ?_)
        | (with_reducible refine wpAny_newTuple ?_ hz0)
        | (with_reducible refine wpAny_newObj_type ?_ ?_)
        | (rw [if_neg hbig])
        | (rw [if_neg hmany])
        | (rw [if_neg hneg])
        | wp_step
        | simp only [List.head?_cons, Option.some_or, List.getElem?_cons_succ, List.getElem?_cons_zero, List.length_cons, List.length_nil, List.forIn_nil])
      · have e0 : ((n : Nat) : Int).toNat = n := Int.toNat_natCast n
        have e1 : items.toList.length = items.size := by simp
        rw [e0, e1, if_neg (by omega)]
        have e2 := wheel0_nums items.size n hn
        rw [List.append_assoc, e2]
        have hz2 : ((h2.push { cls := .type "tuple", data := .seq items.toList.toArray }).push (PmO h2.objs.size 0 (n : Nat) .none (List.range items.size ++ (List.range n).map fun i => items.size - i))).objs.size = h2.objs.size + 2 := by rw [Heap.size_push, Heap.size_push]
        have hz1 : (h2.push { cls := .type "tuple", data := .seq items.toList.toArray }).objs.size = h2.objs.size + 1 := by rw [Heap.size_push]
        refine ⟨_, rfl, ?_⟩
        have g1 := Heap.get?_push_size (h2.push { cls := .type "tuple", data := .seq items.toList.toArray }) (o := PmO h2.objs.size 0 (n : Nat) .none (List.range items.size ++ (List.range n).map fun i => items.size - i)) rfl
        have g2 := Heap.get?_push_of_some (PmO h2.objs.size 0 (n : Nat) .none (List.range items.size ++ (List.range n).map fun i => items.size - i)) (Heap.get?_push_size h2 (o := { cls := .type "tuple", data := .seq items.toList.toArray }) rfl)
        have k := h ((h2.push { cls := .type "tuple", data := .seq items.toList.toArray }).push (PmO h2.objs.size 0 (n : Nat) .none (List.range items.size ++ (List.range n).map fun i => items.size - i)))
        rw [hz2] at k
        rw [hz1] at g1 ⊢
        exact k g1 ⟨_, g2, rfl, 0, by simp⟩ ⟨h2, k2, rfl, fun b o e => Heap.get?_push_of_some _ (Heap.get?_push_of_some _ e)⟩
      · show Array.size _ ≤ sizeLine + 2
        simp
        omega
  refine callType_new pm_called (by decide +kernel) (pm_call2 _ _) (pm_new2 _ _) (fun obj => F.args_object_init_3 obj _ _) pm_entryN g ⟨rfl, fun h' h1 h2 h3 => ?_⟩
  exact ⟨⟨_, h1, rfl⟩, h h' h1 h2 h3⟩
end

/-! ### the turn -/
/-- what stands for the k-th order of vs -/
def pickV (vs : List V) (ix : List Nat) : List V := ix.map fun i => vs.getD i .non
/-- all orders of vs, in new tuples -/
def ItP (vs : List V) (r : Nat) : It :=
  ⟨fun i _ => ∃ p, wheel vs.length r i = some p, fun i H v H' => ∃ T p, v = .ref T ∧ wheel vs.length r i = some p ∧ H T = none ∧ H' = upd H T (.tup (pickV vs (p.1.take r))), fun i _ => 0 < i ∧ wheel vs.length r i = none⟩
theorem vals_getD {xs : List V} {its : List Value} (h : Vals xs its) (i : Nat) : RelV (xs.getD i .non) (its.toArray.getD i .none) := by
  by_cases hi : i < xs.length
  · obtain ⟨u, hu, ru⟩ := h.get (List.getElem?_eq_getElem hi)
    have e1 : xs.getD i .non = xs[i] := by simp [List.getD, List.getElem?_eq_getElem hi]
    have hi2 : i < its.length := by rw [← h.length]; exact hi
    have e2 : its.toArray.getD i .none = u := by
      rw [List.getElem?_eq_getElem hi2] at hu
      cases hu
      simp [Array.getD, hi2]
    rw [e1, e2]
    exact ru
  · have hi2 : ¬ i < its.length := by rw [← h.length]; exact hi
    have e1 : xs.getD i .non = .non := by simp [List.getD, List.getElem?_eq_none (Nat.le_of_not_lt hi)]
    have e2 : its.toArray.getD i .none = .none := by simp [Array.getD, hi2]
    rw [e1, e2]
    rfl
theorem vals_pick {xs : List V} {its : List Value} (h : Vals xs its) : ∀ ix : List Nat, Vals (pickV xs ix) (ix.map fun i => its.toArray.getD i .none)
  | [] => .nil
  | i :: r => .cons (vals_getD h i) (vals_pick h r)
theorem turn_perm {P : Program} {w : World} {K : PySem.W.Frag} {tg : Expr} {it T : Addr} {vs : List V} {its : List Value} {r : Nat} (hv : Vals vs its) (hr : r ≤ vs.length) (hsz : vs.length + r + 4 ≤ sizeLine) (hne : T ≠ it) :
    Turn P w K tg (ItP vs r) [it, T] it (fun i h => h.IsTuple T its.toArray ∧ match i with
      | 0 => h.get? it = some (PmO T 0 (r : Nat) .none (List.range vs.length ++ (List.range r).map fun i => vs.length - i))
      | i + 1 => ∃ p pv, wheel vs.length r i = some p ∧ h.get? it = some (PmO T 1 (r : Nat) pv (p.1 ++ p.2))) where
  mem := by simp
  obj := fun i h st b hb => by
    obtain ⟨⟨o, ho, hc, n, hd⟩, st⟩ := st
    have e' : b = it ∨ b = T := by simpa using hb
    rcases e' with z | z
    · rw [z]
      cases i with
      | zero => exact ⟨_, st, fun v q => nomatch q⟩
      | succ i => obtain ⟨p, pv, _, st⟩ := st; exact ⟨_, st, fun v q => nomatch q⟩
    · rw [z]; exact ⟨_, ho, fun v q => by rw [hd] at q; cases q⟩
  keep := fun i h h' st kp => by
    obtain ⟨ht, st⟩ := st
    refine ⟨ht.at fun o e => kp T (by simp) o e, ?_⟩
    cases i with
    | zero => exact kp it (by simp) _ st
    | succ i => obtain ⟨p, pv, e, st⟩ := st; exact ⟨p, pv, e, kp it (by simp) _ st⟩
  item := by
    intro X hP hw hK hc i pins s σ H E I hf st hg
    subst hP hw hK
    obtain ⟨ht, st⟩ := st
    obtain ⟨p, hp⟩ := hg
    have hln := hv.length
    have hlen := wheel_len vs.length r hr i p hp
    have fin : ∀ (h' : Heap), h'.get? it = some (PmO T 1 (r : Nat) (.ref s.heap.objs.size) (p.1 ++ p.2)) → h'.IsTuple s.heap.objs.size ((p.1.take r).map fun i => its.toArray.getD i .none).toArray → (∀ b o, b ≠ it → s.heap.get? b = some o → h'.get? b = some o) →
        ∃ u, some (Value.ref s.heap.objs.size) = some u ∧ wpAny (model X.prog X.w) X.A (letOwnedTupleGo tg (.ref it) u) (fun _ s2 => ∃ x H', Inv X pins σ H' s2 ∧ RelV x u ∧ (ItP vs r).yld i H x H' ∧ (s2.heap.IsTuple T its.toArray ∧ ∃ p pv, wheel vs.length r i = some p ∧ s2.heap.get? it = some (PmO T 1 (r : Nat) pv (p.1 ++ p.2))) ∧ ∀ b ∈ [it, T], H' b = none) E { s with heap := h' } := by
      intro h' h1 h2 h3
      have hH : H s.heap.objs.size = none := I.hok.fresh (Nat.le_refl _)
      have hpk : ∀ b ∈ [it, T], b ≠ s.heap.objs.size := fun b hb q => by
        have e' : b = it ∨ b = T := by simpa using hb
        obtain ⟨o, ho⟩ : ∃ o, s.heap.get? b = some o := by
          rcases e' with z | z
          · rw [z]
            cases i with
            | zero => exact ⟨_, st⟩
            | succ i => obtain ⟨p, pv, _, st⟩ := st; exact ⟨_, st⟩
          · rw [z]; obtain ⟨o, ho, _⟩ := ht; exact ⟨o, ho⟩
        exact absurd (Heap.lt_size ho) (by rw [q]; exact Nat.lt_irrefl _)
      have new : ObjOk X.prog X.w (upd H s.heap.objs.size (.tup (pickV vs (p.1.take r)))) h' s.heap.objs.size (.tup (pickV vs (p.1.take r))) :=
        ⟨by show (pickV vs (p.1.take r)).length ≤ sizeLine; simp [pickV]; omega, _, vals_pick hv _, h2⟩
      have I1 : Inv X pins σ (upd H s.heap.objs.size (.tup (pickV vs (p.1.take r)))) { s with heap := h' } := I.turnedNew (t' := s.toks) (ch := [it]) (fun b o hb q => h3 b o (by simpa using hb) q) (fun b hb => hf b (by rw [List.mem_singleton.mp hb]; simp)) (Nat.le_refl _) new
      refine ⟨_, rfl, go_of (s := { s with heap := h' }) (n := pn) h1 rfl rfl (by decide) ⟨.ref s.heap.objs.size, _, I1, rfl, ⟨_, p, rfl, hp, hH, rfl⟩, ⟨ht.at fun o e => h3 T o hne e, p, _, hp, h1⟩, fun b hb => ?_⟩⟩
      rw [upd_ne (hpk b hb)]
      exact (hf b hb).1
    cases i with
    | zero =>
      cases hp
      refine perm_item0 st ht (by simp; omega) fun h' h1 h2 h3 => ?_
      rw [List.take_append_of_le_length (by simpa using hr)] at h2
      exact fin h' h1 h2 h3
    | succ i =>
      obtain ⟨p0, pv, e0, st⟩ := st
      have hl0 := wheel_len vs.length r hr i p0 e0
      have ht2 : turnW vs.length r (p0.1, p0.2) = some (p.1, p.2) := by
        have := hp
        unfold wheel at this
        rw [e0] at this
        exact this
      exact perm_itemS (n := vs.length) st ht (by simpa using hln.symm) hl0.1 ht2 (by omega) fun h' h1 h2 h3 => fin h' h1 h2 h3
  done := by
    intro X hP hw hK hc i pins s σ H E I hf st hg
    subst hP hw hK
    obtain ⟨ht, st⟩ := st
    obtain ⟨h0, hp⟩ := hg
    have hln := hv.length
    cases i with
    | zero => exact absurd h0 (Nat.lt_irrefl _)
    | succ i =>
      obtain ⟨p0, pv, e0, st⟩ := st
      have hl0 := wheel_len vs.length r hr i p0 e0
      have ht2 : turnW vs.length r (p0.1, p0.2) = none := by
        have := hp
        unfold wheel at this
        rw [e0] at this
        exact this
      obtain ⟨f0, f1, f2, f3, f4, f5⟩ := hf it (by simp)
      exact perm_end (n := vs.length) (I.ok.hd hc) st ht (by simpa using hln.symm) hl0.1 ht2 fun h' eb => ⟨rfl, I.turned (t' := s.toks) (fun b o hb e => eb b o hb e) f0 f1 f3 f4 f5⟩
  self := fun A i s Q E st h => by
    obtain ⟨_, st⟩ := st
    cases i with
    | zero => exact perm_self st h
    | succ i => obtain ⟨p, pv, _, st⟩ := st; exact perm_self st h
def iPm (K : PySem.W.Frag) (ta : TA) : TI := fun σ H R => ta σ H fun vs H1 => ∃ (k : Sk) (a : Addr) (xs : List V) (n : Nat), vs = [.ref a, .int (n : Nat)] ∧ k.Sq K H1 a xs ∧ n ≤ xs.length ∧ xs.length < 2 ^ 10 ∧ R (ItP xs n) H1
theorem pi_perm {X : Cx} {tg e1 e2 : Expr} {ta : TA} {p pos : Pos} {nm : Str} (hg : Gl X nm) (hm : X.mg nm = some (.type pn)) (ha : PA X [e1, e2] ta)
    (hs : starEach [e1, e2] X.env = (false, eval e1 X.env) :: starEach [e2] X.env := by rfl) (hpl : (backTo pos (starEach [e2] X.env)).any (·.1) = false := by rfl) (hdb : (nm == ("__debug__" : Str)) = false := by rfl) :
    PI X tg (.Call (.Name nm p) [e1, e2] [] pos) (iPm X.K ta) := by
  refine ⟨fun pins s σ H R I h => ?_⟩
  refine Call_ (ld_glob (hd := hdb) I hg hm (PyProof.Rows.callWith_type1 (thn (ha.run pos pins s σ H _ I h) fun us s1 ⟨vs, H1, I1, r1, q1⟩ => ?_) hs hpl))
  obtain ⟨k, a, xs, n, ex, hq, hn, hz, q⟩ := q1
  subst ex
  cases r1 with
  | cons r rr =>
    cases rr with
    | cons r' rr =>
      cases rr
      cases r
      obtain ⟨t, rfl⟩ := r'
      obtain ⟨its, rv, hI, hz2⟩ := Sk.inv I1 hq
      have hln := rv.length
      obtain ⟨T0, ob, kk, hT0, ho, hc, hd⟩ : ∃ (T0 : String) (ob : Obj) (kk : Nat), (T0 = "list" ∨ T0 = "tuple") ∧ s1.heap.get? a = some ob ∧ ob.cls = .type T0 ∧ ob.data = .seq its.toArray kk := by
        cases k with
        | l => obtain ⟨o, ho, hc, n, hd⟩ := hI; exact ⟨_, o, n, .inl rfl, ho, hc, hd⟩
        | t => obtain ⟨o, ho, hc, n, hd⟩ := hI; exact ⟨_, o, n, .inr rfl, ho, hc, hd⟩
      have hsl : (2 : Nat) ^ 12 ≤ sizeLine := by decide
      have et : its.toArray.size = xs.length := by simp [hln]
      have hsz : xs.length + n + 4 ≤ sizeLine := Nat.le_trans (by omega) hsl
      refine perm_new hT0 ho hc hd (by rw [et]; exact hn) (by rw [et]; omega) (by rw [et]; exact hsz) fun h' h1 h2 ⟨h3, k3, z3, k4⟩ => ?_
      have I2 : Inv X pins σ H1 { s1 with heap := h3 } := I1.kept (t' := s1.toks) k3
      have I3 : Inv X pins σ H1 { s1 with heap := h' } := I2.kept (t' := s1.toks) k4
      rw [et] at h1
      have hne2 : h'.objs.size - 2 ≠ h'.objs.size - 1 := by omega
      refine perm_self (s := { s1 with heap := h' }) h1 ?_
      refine ⟨h'.objs.size - 1, [h'.objs.size - 1, h'.objs.size - 2], _, _, H1, rfl, I3, turn_perm rv hn hsz hne2, ⟨h2, h1⟩, fun b hb => ?_, q⟩
      have e' : b = h'.objs.size - 1 ∨ b = h'.objs.size - 2 := by simpa using hb
      have hle : h3.objs.size ≤ b := by
        have z4 : h'.objs.size = h3.objs.size + 2 := z3
        rcases e' with z | z
        · rw [z]
          show h3.objs.size ≤ h'.objs.size - 1
          omega
        · rw [z]
          show h3.objs.size ≤ h'.objs.size - 2
          omega
      exact I2.fpOk hle (I2.hok.fresh hle)
end DL

/-! DSet: stores into own lists, new lists by repeating, walks over all orders. -/
namespace DL
open PySem PySem.Spec PyProof.Rows L2
theorem ixN_nat {n m : Nat} (h : n < m) : ixN m (n : Int) = some n := by
  unfold ixN
  rw [if_pos (Int.natCast_nonneg n), if_pos (by omega), Int.toNat_natCast]
section
variable {X : Cx} {z : Zc} {O : List Nat} {a b e : Expr} {ta tb te ti : TE} {ma mb me mi : DEnv → M D} {pos pos' ppos lp : Pos} {x y : Str}
theorem tms_lput0 {j : Nat} (he : TMe z te me) (hk : TMe z ti mi) (ho : j ∈ O) : TMs0 z O (tAsg te (gSub (tVar j) ti rSetL)) (fun κ E ρ => me ρ (fun d => flat d = true ∧ mOwn j ρ fun ds => mi ρ (fun y => ∃ n : Nat, y = .int n ∧ n < ds.length ∧ κ.nx (ρ.set j (some (.lst (ds.set n d))))) E) E) := fun oa σ H ρ Dn κ E s hE ko hm =>
  he _ σ H _ _ _ E s.full hE hm fun d v H1 h1 e1 j1 r1 => by
    have s1 := s.step e1 j1
    obtain ⟨hf, h1⟩ := h1
    obtain ⟨ds, hρ, h1⟩ := mOwn_inv h1
    obtain ⟨_, xs0, hσ, _, _⟩ := s1.ownL ho hρ
    refine ⟨_, hσ, hk _ σ H1 _ _ _ E s1.full hE h1 fun d2 v2 H2 h2 e2 j2 r2 => ?_⟩
    have s2 := s1.step e2 j2
    obtain ⟨n, rfl, hn, hκ⟩ := h2
    obtain ⟨_, xs, _, hH, rs⟩ := s2.ownL ho hρ
    have r1' := s2.flat hf (r1.ext e2 s.ok.gu)
    exact ⟨oa j, xs, n, n, rfl, inv_int r2, hH, ixN_nat (by rw [rs.length]; exact hn), ko.nx oa _ _ _ (s2.put ho hρ (rs.set r1' n)) hκ⟩
/-- x[i] = e, x the def's own list -/
theorem ds_lput (j : Nat) (he : DE X z e te me) (hk : DE X z a ti mi) (ho : j ∈ O := by decide) (hN : X.N[j]? = some x := by rfl) (hv : Vis X.env.scope x := by first | exact Or.inl rfl | exact Or.inr (Or.inl rfl) | exact Or.inr (Or.inr rfl)) (hd : (x == ("__debug__" : Str)) = false := by decide) (hcd : (x == ("__classdict__" : Str)) = false := by decide)
    (hs : swapsWithSole [.Subscript (.Name x ppos) a pos'] e pos.line X.env = pure false := by rfl) (hw : swappedStores [.Subscript (.Name x ppos) a pos'] e X.env = pure none := by rfl)
    (h1 : (assignEach [.Subscript (.Name x ppos) a pos'] X.env).map (·.2) = [assign (.Subscript (.Name x ppos) a pos') X.env] := by rfl)
    (ha : ∀ v, assign (.Subscript (.Name x ppos) a pos') X.env v = (do
      let ov ← holding [v] (eval (.Name x ppos) X.env)
      let iv ← holding [v, ov] (eval a X.env)
      standAt pos'
      holding [v, ov, iv] (setItem ov iv v)
      release [v, ov, iv] []) := by intro _; rfl) :
    DS X z O (.Assign [.Subscript (.Name x ppos) a pos'] e pos) (tAsg te (gSub (tVar j) ti rSetL)) (fun κ E ρ => me ρ (fun d => flat d = true ∧ mOwn j ρ fun ds => mi ρ (fun y => ∃ n : Nat, y = .int n ∧ n < ds.length ∧ κ.nx (ρ.set j (some (.lst (ds.set n d))))) E) E) :=
  ⟨ps_asg he.pe (pg_sub (pv j hN hv hd hcd) hk.pe set_list ha) hs hw h1, tms_of fun kp => tms_lput0 (he.tm.keep kp) (hk.tm.keep kp) ho⟩
theorem tms_putSnd0 {i j : Nat} (ha : TMe z ta ma) (hb : TMe z tb mb) (hk : TMe z ti mi) (hi : i ∉ O) (hj : j ∈ O) : TMs0 z O (tAsg (tTup (tCons ta (tCons tb tNil))) (gTup z.K 2 (gCons (gName i) (gCons (gSub (tVar j) ti rSetL) gNil)))) (fun κ E ρ => ma ρ (fun d1 => flat d1 = true ∧ mb ρ (fun d2 => flat d2 = true ∧ mOwn j ρ fun ds => mi (ρ.set i (some d1)) (fun q => ∃ n : Nat, q = .int n ∧ n < ds.length ∧ κ.nx ((ρ.set i (some d1)).set j (some (.lst (ds.set n d2))))) E) E) E) := fun oa σ H ρ Dn κ E s hE ko hm =>
  ha _ σ H _ _ _ E s.full hE hm fun d1 v1 H1 h1 e1 j1 r1 => hb _ σ H1 _ _ _ E (s.step e1 j1).full hE h1.2 fun d2 v2 H2 h2 e2 j2 r2 => by
    have s2 := (s.step e1 j1).step e2 j2
    obtain ⟨hf2, h2⟩ := h2
    obtain ⟨ds, hρ, h2⟩ := mOwn_inv h2
    refine ⟨two_small, fun p hp => ⟨p, [v1, v2], rfl, .inl (.inl upd_same), rfl, v1, [v2], rfl, v2, [], rfl, ?_⟩⟩
    have s3 := s2.step (Ext.new (o := .tup [v1, v2]) hp) (z.g.new j2 hp)
    have ex2 : Ext z.g.G H2 (upd H2 p (.tup [v1, v2])) := Ext.new hp
    have s4 := s3.set hi (s3.flat h1.1 (r1.ext (e2.trans ex2) s.ok.gu))
    have hne : i ≠ j := fun q => hi (q ▸ hj)
    have hρ' : (ρ.set i (some d1))[j]? = some (some (.lst ds)) := by rw [List.getElem?_set_ne hne]; exact hρ
    obtain ⟨_, xs0, hσ, _, _⟩ := s4.ownL hj hρ'
    refine ⟨_, hσ, hk _ _ _ _ _ _ E s4.full hE h2 fun d3 v3 H3 h3 e3 j3 r3 => ?_⟩
    have s5 := s4.step e3 j3
    obtain ⟨n, rfl, hn, hκ⟩ := h3
    obtain ⟨_, xs, _, hH, rs⟩ := s5.ownL hj hρ'
    have r2' := s5.flat hf2 (r2.ext (ex2.trans e3) s.ok.gu)
    exact ⟨oa j, xs, n, n, rfl, inv_int r3, hH, ixN_nat (by rw [rs.length]; exact hn), rfl, ko.nx oa _ _ _ (s5.put hj hρ' (rs.set r2' n)) hκ⟩
/-- y, x[i] = e1, e2, x the def's own list -/
theorem ds_putSnd (i j : Nat) (hc : X.calm = true) (hK : X.K = z.K) (hNd : X.N.Nodup) (ha : DE X z a ta ma) (hb : DE X z b tb mb) (hk : DE X z e ti mi) (hi : i ∉ O := by decide) (hj : j ∈ O := by decide) (hNi : X.N[i]? = some y := by rfl) (hNj : X.N[j]? = some x := by rfl)
    (hv : Vis X.env.scope x := by first | exact Or.inl rfl | exact Or.inr (Or.inl rfl) | exact Or.inr (Or.inr rfl)) (hd : (x == ("__debug__" : Str)) = false := by decide) (hcd : (x == ("__classdict__" : Str)) = false := by decide)
    (hy : Loc X.env.scope y := by first | exact .inl rfl | exact .inr rfl) (hfy : X.fn y = true ∨ X.env.scope.names.lookup y = some .local := by first | exact .inl rfl | exact .inr rfl) {py pt : Pos} {kt k2 : Nat} {pt2 : Pos}
    (hst0 : ∀ v, assign (.Subscript (.Name x ppos) e pos') X.env v = (do
      let ov ← holding [v] (eval (.Name x ppos) X.env)
      let iv ← holding [v, ov] (eval e X.env)
      standAt pos'
      holding [v, ov, iv] (setItem ov iv v)
      release [v, ov, iv] []) := by intro _; rfl)
    (hs : swapsWithSole [.Tuple [.Name y py, .Subscript (.Name x ppos) e pos'] kt pt] (.Tuple [a, b] k2 pt2) pos.line X.env = pure false := by rfl) (hsw : swappedStores [.Tuple [.Name y py, .Subscript (.Name x ppos) e pos'] kt pt] (.Tuple [a, b] k2 pt2) X.env = pure none := by rfl)
    (h1 : (assignEach [.Tuple [.Name y py, .Subscript (.Name x ppos) e pos'] kt pt] X.env).map (·.2) = [assign (.Tuple [.Name y py, .Subscript (.Name x ppos) e pos'] kt pt) X.env] := by rfl)
    (hs1 : (assignEach [.Name y py, .Subscript (.Name x ppos) e pos'] X.env).map (·.2) = assign (.Name y py) X.env :: (assignEach [.Subscript (.Name x ppos) e pos'] X.env).map (·.2) := by rfl)
    (hs2 : (assignEach [.Subscript (.Name x ppos) e pos'] X.env).map (·.2) = assign (.Subscript (.Name x ppos) e pos') X.env :: (assignEach [] X.env).map (·.2) := by rfl)
    (hn : (assignEach [.Name y py, .Subscript (.Name x ppos) e pos'] X.env).length = 2 := by rfl) (hst : (assignEach [.Name y py, .Subscript (.Name x ppos) e pos'] X.env).findIdx? (·.1) = none := by rfl)
    (hp1 : starEach [a, b] X.env = (false, eval a X.env) :: starEach [b] X.env := by rfl) (hp2 : starEach [b] X.env = (false, eval b X.env) :: starEach [] X.env := by rfl) :
    DS X z O (.Assign [.Tuple [.Name y py, .Subscript (.Name x ppos) e pos'] kt pt] (.Tuple [a, b] k2 pt2) pos) (tAsg (tTup (tCons ta (tCons tb tNil))) (gTup z.K 2 (gCons (gName i) (gCons (gSub (tVar j) ti rSetL) gNil)))) (fun κ E ρ => ma ρ (fun d1 => flat d1 = true ∧ mb ρ (fun d2 => flat d2 = true ∧ mOwn j ρ fun ds => mi (ρ.set i (some d1)) (fun q => ∃ n : Nat, q = .int n ∧ n < ds.length ∧ κ.nx ((ρ.set i (some d1)).set j (some (.lst (ds.set n d2))))) E) E) E) :=
  ⟨ps_asg (pe_tup (pa_cons ha.pe (pa_cons hb.pe pa_nil hp2) hp1)) (by rw [← hK]; exact pg_tup hc (pgs_cons (pg_name hNd hNi hy hfy) (pgs_cons (pg_sub (pv j hNj hv hd hcd) hk.pe set_list hst0) pgs_nil hs2) hs1) hn hst) hs hsw h1, tms_of fun kp => tms_putSnd0 (ha.tm.keep kp) (hb.tm.keep kp) (hk.tm.keep kp) hi hj⟩
/-- x[i], y = e1, e2, x the def's own list -/
theorem tms_putFst0 {i j : Nat} (ha : TMe z ta ma) (hb : TMe z tb mb) (hk : TMe z ti mi) (hi : i ∉ O) (hj : j ∈ O) : TMs0 z O (tAsg (tTup (tCons ta (tCons tb tNil))) (gTup z.K 2 (gCons (gSub (tVar j) ti rSetL) (gCons (gName i) gNil)))) (fun κ E ρ => ma ρ (fun d1 => flat d1 = true ∧ mb ρ (fun d2 => flat d2 = true ∧ mOwn j ρ fun ds => mi ρ (fun q => ∃ n : Nat, q = .int n ∧ n < ds.length ∧ κ.nx ((ρ.set j (some (.lst (ds.set n d1)))).set i (some d2))) E) E) E) := fun oa σ H ρ Dn κ E s hE ko hm =>
  ha _ σ H _ _ _ E s.full hE hm fun d1 v1 H1 h1 e1 j1 r1 => hb _ σ H1 _ _ _ E (s.step e1 j1).full hE h1.2 fun d2 v2 H2 h2 e2 j2 r2 => by
    have s2 := (s.step e1 j1).step e2 j2
    obtain ⟨hf2, h2⟩ := h2
    obtain ⟨ds, hρ, h2⟩ := mOwn_inv h2
    refine ⟨two_small, fun p hp => ⟨p, [v1, v2], rfl, .inl (.inl upd_same), rfl, v1, [v2], rfl, ?_⟩⟩
    have s3 := s2.step (Ext.new (o := .tup [v1, v2]) hp) (z.g.new j2 hp)
    have ex2 : Ext z.g.G H2 (upd H2 p (.tup [v1, v2])) := Ext.new hp
    obtain ⟨_, xs0, hσ, _, _⟩ := s3.ownL hj hρ
    refine ⟨_, hσ, hk _ _ _ _ _ _ E s3.full hE h2 fun d3 v3 H3 h3 e3 j3 r3 => ?_⟩
    have s5 := s3.step e3 j3
    obtain ⟨n, rfl, hn, hκ⟩ := h3
    obtain ⟨_, xs, _, hH, rs⟩ := s5.ownL hj hρ
    have r1' := s5.flat h1.1 (r1.ext ((e2.trans ex2).trans e3) s.ok.gu)
    have s6 := s5.put hj hρ (rs.set r1' n)
    have r2' := s5.flat hf2 (r2.ext (ex2.trans e3) s.ok.gu)
    have inU : Uo z O oa ρ (oa j) := .inr ⟨j, hj, ⟨_, hρ⟩, rfl⟩
    refine ⟨oa j, xs, n, n, rfl, inv_int r3, hH, ixN_nat (by rw [rs.length]; exact hn), v2, [], rfl, rfl, ko.nx oa _ _ _ (s6.set hi ?_) hκ⟩
    rw [Uo_put hj hρ]
    exact Rep.mono' (fun b o hb nb => ⟨by rw [upd_ne fun q => nb (by rw [q]; exact inU)]; exact hb, nb⟩) _ _ r2'
theorem ds_putFst (j i : Nat) (hc : X.calm = true) (hK : X.K = z.K) (hNd : X.N.Nodup) (ha : DE X z a ta ma) (hb : DE X z b tb mb) (hk : DE X z e ti mi) (hi : i ∉ O := by decide) (hj : j ∈ O := by decide) (hNi : X.N[i]? = some y := by rfl) (hNj : X.N[j]? = some x := by rfl)
    (hv : Vis X.env.scope x := by first | exact Or.inl rfl | exact Or.inr (Or.inl rfl) | exact Or.inr (Or.inr rfl)) (hd : (x == ("__debug__" : Str)) = false := by decide) (hcd : (x == ("__classdict__" : Str)) = false := by decide)
    (hy : Loc X.env.scope y := by first | exact .inl rfl | exact .inr rfl) (hfy : X.fn y = true ∨ X.env.scope.names.lookup y = some .local := by first | exact .inl rfl | exact .inr rfl) {py pt : Pos} {kt k2 : Nat} {pt2 : Pos}
    (hst0 : ∀ v, assign (.Subscript (.Name x ppos) e pos') X.env v = (do
      let ov ← holding [v] (eval (.Name x ppos) X.env)
      let iv ← holding [v, ov] (eval e X.env)
      standAt pos'
      holding [v, ov, iv] (setItem ov iv v)
      release [v, ov, iv] []) := by intro _; rfl)
    (hs : swapsWithSole [.Tuple [.Subscript (.Name x ppos) e pos', .Name y py] kt pt] (.Tuple [a, b] k2 pt2) pos.line X.env = pure false := by rfl) (hsw : swappedStores [.Tuple [.Subscript (.Name x ppos) e pos', .Name y py] kt pt] (.Tuple [a, b] k2 pt2) X.env = pure none := by rfl)
    (h1 : (assignEach [.Tuple [.Subscript (.Name x ppos) e pos', .Name y py] kt pt] X.env).map (·.2) = [assign (.Tuple [.Subscript (.Name x ppos) e pos', .Name y py] kt pt) X.env] := by rfl)
    (hs1 : (assignEach [.Subscript (.Name x ppos) e pos', .Name y py] X.env).map (·.2) = assign (.Subscript (.Name x ppos) e pos') X.env :: (assignEach [.Name y py] X.env).map (·.2) := by rfl)
    (hs2 : (assignEach [.Name y py] X.env).map (·.2) = assign (.Name y py) X.env :: (assignEach [] X.env).map (·.2) := by rfl)
    (hn : (assignEach [.Subscript (.Name x ppos) e pos', .Name y py] X.env).length = 2 := by rfl) (hst : (assignEach [.Subscript (.Name x ppos) e pos', .Name y py] X.env).findIdx? (·.1) = none := by rfl)
    (hp1 : starEach [a, b] X.env = (false, eval a X.env) :: starEach [b] X.env := by rfl) (hp2 : starEach [b] X.env = (false, eval b X.env) :: starEach [] X.env := by rfl) :
    DS X z O (.Assign [.Tuple [.Subscript (.Name x ppos) e pos', .Name y py] kt pt] (.Tuple [a, b] k2 pt2) pos) (tAsg (tTup (tCons ta (tCons tb tNil))) (gTup z.K 2 (gCons (gSub (tVar j) ti rSetL) (gCons (gName i) gNil)))) (fun κ E ρ => ma ρ (fun d1 => flat d1 = true ∧ mb ρ (fun d2 => flat d2 = true ∧ mOwn j ρ fun ds => mi ρ (fun q => ∃ n : Nat, q = .int n ∧ n < ds.length ∧ κ.nx ((ρ.set j (some (.lst (ds.set n d1)))).set i (some d2))) E) E) E) :=
  ⟨ps_asg (pe_tup (pa_cons ha.pe (pa_cons hb.pe pa_nil hp2) hp1)) (by rw [← hK]; exact pg_tup hc (pgs_cons (pg_sub (pv j hNj hv hd hcd) hk.pe set_list hst0) (pgs_cons (pg_name hNd hNi hy hfy) pgs_nil hs2) hs1) hn hst) hs hsw h1, tms_of fun kp => tms_putFst0 (ha.tm.keep kp) (hb.tm.keep kp) (hk.tm.keep kp) hi hj⟩
/-- [..] * n, a new list -/
abbrev mMulL (a b : D) : M D := fun Q _ => match a, b with
  | .lst ds, .int k => 0 ≤ k ∧ k < 2 ^ 31 ∧ ds.length * k.toNat ≤ sizeLine ∧ Q (.lst (List.replicate k.toNat ds).flatten)
  | _, _ => False
theorem df_mulL (ha : DE X z a ta ma) (hb : DE X z b tb mb) : DF X z (.BinOp a .Mult b pos) (tOp (rMulD X.K) ta tb) (fun ρ => bnd (ma ρ) fun x => bnd (mb ρ) fun y => mMulL x y) :=
  ⟨pe_op opMulD ha.pe hb.pe, fun U σ H ρ Q Qd E w he h k => ha.tm U σ H ρ _ _ E w he h fun d1 v1 H1 h1 e1 j1 r1 => hb.tm U σ H1 ρ _ _ E (w.step e1 j1) he h1 fun d2 v2 H2 h2 e2 j2 r2 => by
    match d1, d2, h2 with
    | .lst ds, .int l, h2 =>
      obtain ⟨p, xs, rfl, hp, r⟩ := rep_lst_inv (r1.ext e2 w.gu)
      refine .inr (.inr (.inl ⟨p, l, xs, rfl, inv_int r2, hp.1, by omega, by omega, by rw [r.length]; exact h2.2.2.1, fun q hq => ?_⟩))
      exact k (.lst _) q _ _ h2.2.2.2 (none_back (G := z.g.G) j2 (e1.trans e2) hq) ((e1.trans e2).trans (Ext.new hq)) (z.g.new j2 hq) upd_same (.inl ⟨_, _, rfl, rfl, reps_new hq (reps_rep r _)⟩)⟩
/-! ### all orders -/
/-- m orders are handed out -/
def PermOk (N n m : Nat) : Prop := 0 < m ∧ (∀ i, i < m → ∃ p, wheel N n i = some p) ∧ wheel N n m = none
def pickD (es : List D) (ix : List Nat) : List D := ix.map fun i => es.getD i .non
def permD (es : List D) (n m : Nat) : List D := (List.range m).map fun i => .tup (pickD es (((wheel es.length n i).getD ([], [])).1.take n))
theorem reps_pick {K : PySem.W.Frag} {U : Addr → Prop} {H : Hp} {es : List D} {xs : List V} (r : Reps K U H es xs) : ∀ ix : List Nat, Reps K U H (pickD es ix) (pickV xs ix)
  | [] => Reps.nil
  | i :: t => by
    refine Reps.cons ?_ (reps_pick r t)
    show Rep K U H (es.getD i .non) (xs.getD i .non)
    rw [List.getD_eq_getElem?_getD, List.getD_eq_getElem?_getD]
    cases e : es[i]? with
    | none =>
      rw [List.getElem?_eq_none (by rw [r.length]; exact List.getElem?_eq_none_iff.mp e)]
      simp only [Rep, Option.getD]
    | some d =>
      obtain ⟨x, hx, rx⟩ := r.getD e
      rw [hx]
      exact rx
theorem reps_zip {K : PySem.W.Frag} {U : Addr → Prop} {H : Hp} : ∀ {es : List D} {xs : List V}, es.length = xs.length → (∀ p ∈ es.zip xs, Rep K U H p.1 p.2) → Reps K U H es xs
  | [], [], _, _ => Reps.nil
  | d :: es, x :: xs, hl, h => Reps.cons (h (d, x) (by simp)) (reps_zip (by simpa using hl) fun p hp => h p (by rw [List.zip_cons_cons]; exact List.mem_cons_of_mem _ hp))
  | [], _ :: _, hl, _ => by simp at hl
  | _ :: _, [], hl, _ => by simp at hl
theorem zip_reps {K : PySem.W.Frag} {U : Addr → Prop} {H : Hp} : ∀ {es : List D} {xs : List V}, Reps K U H es xs → ∀ p ∈ es.zip xs, Rep K U H p.1 p.2
  | [], xs, _, p, hp => by simp at hp
  | d :: es, xs, h, p, hp => by
    simp only [Reps] at h
    obtain ⟨x, r, rfl, h1, h2⟩ := h
    rw [List.zip_cons_cons] at hp
    rcases List.mem_cons.mp hp with rfl | hp
    · exact h1
    · exact zip_reps h2 p hp
theorem wk_perm {K : PySem.W.Frag} {g : GG} {es : List D} {xs : List V} {n m : Nat} (hl : es.length = xs.length) (hm : PermOk es.length n m) : Wk K g (ItP xs n) (es.zip xs) (permD es n m) := fun U H gu hU j hs => by
  have rs := reps_zip hl hs
  have hlen : (permD es n m).length = m := by simp [permD]
  refine ⟨fun i hi => ?_, by rw [hlen]; exact hm.1, by rw [hlen, ← hl]; exact hm.2.2⟩
  rw [hlen] at hi
  obtain ⟨p, hp⟩ := hm.2.1 i hi
  rw [hl] at hp
  refine ⟨⟨p, hp⟩, fun y H' q => ?_⟩
  obtain ⟨T, p', rfl, hp', hT, rfl⟩ := q
  rw [hp] at hp'
  cases hp'
  refine ⟨Ext.new hT, g.new j hT, .tup (pickD es (p.1.take n)), ?_, rep_tup_new hU hT (reps_pick rs _)⟩
  unfold permD
  rw [List.getElem?_map, List.getElem?_range hi, hl, Option.map_some, hp]
  rfl
abbrev asPerm (ds : List D) : M (List D) := fun Q _ => match ds with
  | [.lst es, .int k] => ∃ n m : Nat, k = n ∧ n ≤ es.length ∧ es.length < 2 ^ 10 ∧ PermOk es.length n m ∧ Q (permD es n m)
  | [.tup es, .int k] => ∃ n m : Nat, k = n ∧ n ≤ es.length ∧ es.length < 2 ^ 10 ∧ PermOk es.length n m ∧ Q (permD es n m)
  | _ => False
variable {tg : Expr} {tr : TA} {mr : DEnv → M (List D)} {p : Pos} {nm : Str}
theorem di_perm (hK : X.K = z.K) (hm : X.mg nm = some (.type pn)) (ha : DA X z [a, b] tr mr) (hg : Gl X nm := by rfl) (hs : starEach [a, b] X.env = (false, eval a X.env) :: starEach [b] X.env := by rfl) (hpl : (backTo pos (starEach [b] X.env)).any (·.1) = false := by rfl) (hdb : (nm == ("__debug__" : Str)) = false := by rfl) :
    DI X z tg (.Call (.Name nm p) [a, b] [] pos) (iPm z.K tr) (fun ρ => bnd (mr ρ) asPerm) := ⟨by rw [← hK]; exact pi_perm hg hm ha.pe hs hpl hdb, fun U σ H ρ R Qd E w he h k => ha.tm U σ H ρ _ _ E w he h fun ds vs H1 h1 e1 j1 r1 => by
  have go : ∀ (sk : Sk) (es : List D) (kk : Int), ds = [srcOf sk es, .int kk] → (∃ n m : Nat, kk = n ∧ n ≤ es.length ∧ es.length < 2 ^ 10 ∧ PermOk es.length n m ∧ Qd (permD es n m)) → ∃ (k : Sk) (a : Addr) (xs : List V) (n : Nat), vs = [.ref a, .int (n : Nat)] ∧ k.Sq z.K H1 a xs ∧ n ≤ xs.length ∧ xs.length < 2 ^ 10 ∧ R (ItP xs n) H1 := fun sk es kk e q => by
    subst e
    simp only [Reps] at r1
    obtain ⟨x, t, rfl, rx, y, u, rfl, ry, rfl⟩ := r1
    obtain ⟨q0, xs, rfl, hp, r⟩ := src_inv rx
    obtain ⟨n, m, rfl, h1, h2, h3, h4⟩ := q
    have hl := r.length
    exact ⟨sk, q0, xs, n, by rw [inv_int ry], hp, by omega, by omega, k _ _ H1 (es.zip xs) h4 e1 j1 (zip_reps r) (wk_perm hl.symm h3)⟩
  match ds, h1, go with
  | [.lst es, .int kk], h1, go => exact go .l es kk rfl h1
  | [.tup es, .int kk], h1, go => exact go .t es kk rfl h1⟩
end
end DL

/-! DEvn: even awards by a level, of fractions. -/
namespace DL
open PySem PySem.Spec PyProof.Rows L2
/-- the less of a level and a claim -/
def cap (l c : Rat) : Rat := if l < c then l else c
theorem cap_le (l c : Rat) : cap l c ≤ l ∧ cap l c ≤ c := by unfold cap; split <;> grind
theorem cap_lo {l c : Rat} (h : c ≤ l) : cap l c = c := by unfold cap; split <;> grind
theorem cap_hi {l c : Rat} (h : l ≤ c) : cap l c = l := by unfold cap; split <;> grind
theorem cap_mono {l l' : Rat} (h : l ≤ l') (c : Rat) : cap l c ≤ cap l' c := by unfold cap; split <;> split <;> grind
theorem cap_nn {l c : Rat} (h : 0 ≤ l) (hc : 0 ≤ c) : 0 ≤ cap l c := by unfold cap; split <;> assumption
/-- sums of maps -/
theorem sum_le {α : Type} {f g : α → Rat} : ∀ {l : List α}, (∀ x ∈ l, f x ≤ g x) → (l.map f).sum ≤ (l.map g).sum
  | [], _ => by simp
  | x :: r, h => by
    have h1 := h x List.mem_cons_self
    have h2 := sum_le (l := r) fun y hy => h y (List.mem_cons_of_mem _ hy)
    rw [List.map_cons, List.map_cons, List.sum_cons, List.sum_cons]
    grind
theorem sum_eq {α : Type} {f g : α → Rat} : ∀ {l : List α}, (∀ x ∈ l, f x ≤ g x) → (l.map f).sum = (l.map g).sum → ∀ x ∈ l, f x = g x
  | [], _, _, x, hx => (List.not_mem_nil hx).elim
  | y :: r, h, e, x, hx => by
    have h1 := h y List.mem_cons_self
    have h2 := sum_le (l := r) fun y hy => h y (List.mem_cons_of_mem _ hy)
    rw [List.map_cons, List.map_cons, List.sum_cons, List.sum_cons] at e
    have e1 : f y = g y := by grind
    rcases List.mem_cons.mp hx with rfl | hm
    · exact e1
    · exact sum_eq (fun y hy => h y (List.mem_cons_of_mem _ hy)) (by grind) x hm
theorem sum_const {α : Type} {f : α → Rat} {k : Rat} : ∀ {l : List α}, (∀ x ∈ l, f x = k) → (l.map f).sum = (l.length : Int) * k
  | [], _ => by simp
  | x :: r, h => by
    rw [List.map_cons, List.sum_cons, sum_const fun y hy => h y (List.mem_cons_of_mem _ hy), h x List.mem_cons_self, List.length_cons]
    have : (((r.length + 1 : Nat) : Int) : Rat) = ((r.length : Int) : Rat) + 1 := by
      rw [show ((r.length + 1 : Nat) : Int) = (r.length : Int) + 1 by omega, Rat.intCast_add]; rfl
    rw [this]
    grind
theorem perm_sum {l l' : List Rat} (h : l.Perm l') : l.sum = l'.sum := by
  induction h with
  | nil => rfl
  | cons x _ ih => rw [List.sum_cons, List.sum_cons, ih]
  | swap x y l => simp only [List.sum_cons]; grind
  | trans _ _ h1 h2 => rw [h1, h2]
/-- even awards: by one level, the money together -/
def Even (cs : List Rat) (m : Rat) (qs : List Rat) : Prop := ∃ l, qs = cs.map (cap l) ∧ qs.sum = m
theorem Even.le {cs : List Rat} {l l' : Rat} (h : (cs.map (cap l)).sum ≤ (cs.map (cap l')).sum) : ∀ c ∈ cs, cap l c ≤ cap l' c := fun c hc => by
  by_cases e : l ≤ l'
  · exact cap_mono e c
  · have e' : l' ≤ l := by grind
    have h2 := sum_le (l := cs) fun c _ => cap_mono e' c
    have := sum_eq (l := cs) (fun c _ => cap_mono e' c) (by grind) c hc
    grind
theorem Even.uniq {cs : List Rat} {m : Rat} {qs qs' : List Rat} (h : Even cs m qs) (h' : Even cs m qs') : qs = qs' := by
  obtain ⟨l, rfl, e⟩ := h
  obtain ⟨l', rfl, e'⟩ := h'
  refine List.map_congr_left fun c hc => ?_
  have h1 := Even.le (l := l) (l' := l') (by grind) c hc
  have h2 := Even.le (l := l') (l' := l) (by grind) c hc
  grind
theorem Even.len {cs : List Rat} {m : Rat} {qs : List Rat} (h : Even cs m qs) : qs.length = cs.length := by
  obtain ⟨l, rfl, _⟩ := h
  exact List.length_map _
theorem Even.get {cs : List Rat} {m : Rat} {qs : List Rat} (h : Even cs m qs) {i : Nat} {c q : Rat} (e1 : cs[i]? = some c) (e2 : qs[i]? = some q) : q ≤ c := by
  obtain ⟨l, rfl, _⟩ := h
  rw [List.getElem?_map, e1] at e2
  cases e2
  exact (cap_le l c).2
/-! ### by levels: sorted whole numbers -/
theorem cast_sum : ∀ l : List Int, (l.map fun (x : Int) => (x : Rat)).sum = ((l.sum : Int) : Rat)
  | [] => rfl
  | x :: r => by rw [List.map_cons, List.sum_cons, List.sum_cons, cast_sum r, Rat.intCast_add]
theorem cast_le {a b : Int} : (a : Rat) ≤ (b : Rat) ↔ a ≤ b := Rat.intCast_le_intCast
/-- the level that is told in a turn of the loop -/
theorem level_ok {rows : List Int} {i : Nat} {r L Z : Int} (hr : rows[i]? = some r) (hs : rows.Pairwise fun x y => x ≤ y) (hlo : ∀ x ∈ rows.take i, x ≤ L) (hL : L ≤ r) (hZ : 0 ≤ Z) (hm : Z ≤ ((rows.length : Int) - i) * (r - L)) {l : Rat} (hl : l * (((rows.length : Int) - i : Int) : Rat) = ((L * ((rows.length : Int) - i) + Z : Int) : Rat)) :
    (rows.map fun (x : Int) => cap l (x : Rat)).sum = (((rows.take i).sum + ((rows.length : Int) - i) * L + Z : Int) : Rat) := by
  have hi := (List.getElem?_eq_some_iff.mp hr).1
  have hn : 0 < (rows.length : Int) - i := by omega
  generalize hn' : (rows.length : Int) - i = n at *
  have hnq : (0 : Rat) < (n : Rat) := by rw [show (0 : Rat) = ((0 : Int) : Rat) from rfl, Rat.intCast_lt_intCast]; exact hn
  have h1 : (L : Rat) ≤ l := by
    refine Rat.not_lt.mp fun h => ?_
    have := Rat.mul_lt_mul_of_pos_right h hnq
    rw [hl, ← Rat.intCast_mul, Rat.intCast_lt_intCast] at this
    omega
  have h2 : l ≤ (r : Rat) := by
    refine Rat.not_lt.mp fun h => ?_
    have := Rat.mul_lt_mul_of_pos_right h hnq
    rw [hl, ← Rat.intCast_mul, Rat.intCast_lt_intCast] at this
    have e : n * (r - L) = r * n - L * n := by rw [Int.mul_sub, Int.mul_comm n r, Int.mul_comm n L]
    omega
  have sp : rows = rows.take i ++ rows.drop i := (List.take_append_drop i rows).symm
  have e1 : (rows.map fun (x : Int) => cap l (x : Rat)).sum = ((rows.take i).map fun (x : Int) => cap l (x : Rat)).sum + ((rows.drop i).map fun (x : Int) => cap l (x : Rat)).sum := by
    conv => lhs; rw [sp]
    rw [List.map_append, List.sum_append]
  have e2 : ((rows.take i).map fun (x : Int) => cap l (x : Rat)).sum = (((rows.take i).sum : Int) : Rat) := by
    rw [← cast_sum]
    refine congrArg _ (List.map_congr_left fun x hx => ?_)
    have := cast_le.mpr (hlo x hx)
    exact cap_lo (by grind)
  have e3 : ((rows.drop i).map fun (x : Int) => cap l (x : Rat)).sum = (((rows.drop i).length : Nat) : Int) * l := sum_const fun x hx => by
    obtain ⟨k, hk, e⟩ := List.getElem_of_mem hx
    rw [List.getElem_drop] at e
    have hk2 : i + k < rows.length := by rw [List.length_drop] at hk; omega
    have er : rows[i] = r := by rw [List.getElem?_eq_getElem hi] at hr; exact Option.some.inj hr
    have : r ≤ x := by
      rw [← e, ← er]
      by_cases h0 : k = 0
      · subst h0; simp
      · exact List.pairwise_iff_getElem.mp hs i (i + k) hi hk2 (by omega)
    have := cast_le.mpr this
    exact cap_hi (by grind)
  rw [e1, e2, e3, List.length_drop, show ((rows.length - i : Nat) : Int) = n by omega, Rat.mul_comm, hl]
  rw [← Rat.intCast_add]
  congr 1
  rw [Int.mul_comm L n]
  omega
/-! ### the law's own way: who claims least first -/
/-- N times q is whole -/
def On (N : Nat) (q : Rat) : Prop := ∃ x : Int, q * ((N : Int) : Rat) = (x : Rat)
theorem On.sub {N : Nat} {p q : Rat} (hp : On N p) (hq : On N q) : On N (p - q) := by
  obtain ⟨x, hx⟩ := hp
  obtain ⟨y, hy⟩ := hq
  exact ⟨x - y, by rw [Rat.intCast_sub]; grind⟩
theorem On.add {N : Nat} {p q : Rat} (hp : On N p) (hq : On N q) : On N (p + q) := by
  obtain ⟨x, hx⟩ := hp
  obtain ⟨y, hy⟩ := hq
  exact ⟨x + y, by rw [Rat.intCast_add]; grind⟩
theorem natI_mul (a b : Nat) : (((a * b : Nat) : Int) : Rat) = ((a : Int) : Rat) * ((b : Int) : Rat) := by rw [Int.natCast_mul, Rat.intCast_mul]
theorem On.mul_nat {N : Nat} {q : Rat} (h : On N q) (n : Nat) : On (N * n) q := by
  obtain ⟨x, hx⟩ := h
  exact ⟨x * n, by rw [natI_mul, ← Rat.mul_assoc, hx, Rat.intCast_mul]⟩
theorem On.dvd {N M : Nat} {q : Rat} (h : On N q) (hd : N ∣ M) : On M q := by
  obtain ⟨n, rfl⟩ := hd
  exact h.mul_nat n
theorem On.part {N n : Nat} {p q : Rat} (h : On N p) (e : q * ((n : Int) : Rat) = p) : On (N * n) q := by
  obtain ⟨x, hx⟩ := h
  exact ⟨x, by rw [natI_mul, ← hx, ← e]; grind⟩
theorem On.times {N M : Nat} {p q : Rat} (hp : On N p) (hq : On M q) : On (N * M) (p * q) := by
  obtain ⟨x, hx⟩ := hp
  obtain ⟨y, hy⟩ := hq
  exact ⟨x * y, by rw [natI_mul, Rat.intCast_mul, ← hx, ← hy]; grind⟩
theorem On.int (N : Nat) (i : Int) : On N (i : Rat) := ⟨i * N, by rw [Rat.intCast_mul]⟩
theorem On.sum {N : Nat} : ∀ {qs : List Rat}, (∀ q ∈ qs, On N q) → On N qs.sum
  | [], _ => by simpa using On.int N 0
  | q :: r, h => by
    rw [List.sum_cons]
    exact (h q List.mem_cons_self).add (On.sum fun x hx => h x (List.mem_cons_of_mem _ hx))
theorem range_map (cs : List Rat) : (List.range cs.length).map (fun k => cs.getD k 0) = cs := by
  refine List.ext_getElem (by simp) fun i h1 h2 => ?_
  rw [List.getElem_map, List.getElem_range, List.getD_eq_getElem?_getD, List.getElem?_eq_getElem h2]
  rfl
theorem take_out {R : List Nat} {a : Nat} (hn : R.Nodup) (ha : a ∈ R) : R.Perm (a :: R.filter fun k => decide (k ≠ a)) := by
  have e : (R.filter fun k => decide (k ≠ a)) = R.erase a := by
    rw [hn.erase_eq_filter]
    refine List.filter_congr fun x _ => ?_
    by_cases h : x = a <;> simp [h]
  rw [e]
  exact List.perm_cons_erase ha
structure LE (N : Nat) (cs : List Rat) (m : Rat) (Pd R : List Nat) (L μ : Rat) : Prop where
  pm : (Pd ++ R).Perm (List.range cs.length)
  ord : ∀ k ∈ Pd, ∀ j ∈ R, cs.getD k 0 ≤ cs.getD j 0
  sum : L + (Pd.map fun k => cap μ (cs.getD k 0)).sum = m
  l0 : 0 ≤ L
  l1 : L ≤ (R.map fun k => cs.getD k 0).sum
  m0 : 0 ≤ μ
  mu : R ≠ [] → μ * ((R.length : Int) : Rat) = L
  sh : R ≠ [] → On N L ∨ ∀ j ∈ R, μ ≤ cs.getD j 0
  fr : ∃ n : Nat, 1 ≤ n ∧ n ≤ cs.length ∧ On (N * n) μ
  ub : μ ≤ m
theorem LE.start {N : Nat} {cs : List Rat} {m : Rat} (h : 1 ≤ cs.length) (h0 : 0 ≤ m) (h1 : m ≤ cs.sum) (hm : On N m) : LE N cs m [] (List.range cs.length) m (m / ((cs.length : Int) : Rat)) := by
  have hq : (0 : Rat) < ((cs.length : Int) : Rat) := by rw [show (0 : Rat) = ((0 : Int) : Rat) from rfl, Rat.intCast_lt_intCast]; omega
  have hd : m / ((cs.length : Int) : Rat) * ((cs.length : Int) : Rat) = m := Rat.div_mul_cancel (Rat.ne_of_gt hq)
  refine ⟨by simp, fun k hk => (List.not_mem_nil hk).elim, by simp; grind, h0, by rw [range_map]; exact h1, ?_, fun _ => by rw [List.length_range]; exact hd, fun _ => .inl hm, ⟨cs.length, h, Nat.le_refl _, hm.part hd⟩, ?_⟩
  · refine Rat.not_lt.mp fun hn => ?_
    have := Rat.mul_lt_mul_of_pos_right hn hq
    rw [hd, Rat.zero_mul] at this
    grind
  · have h1q : (1 : Rat) ≤ ((cs.length : Int) : Rat) := by rw [show (1 : Rat) = ((1 : Int) : Rat) from rfl, Rat.intCast_le_intCast]; omega
    have h0q : 0 ≤ m / ((cs.length : Int) : Rat) := by
      refine Rat.not_lt.mp fun hn => ?_
      have := Rat.mul_lt_mul_of_pos_right hn hq
      rw [hd, Rat.zero_mul] at this
      grind
    have := Rat.mul_le_mul_of_nonneg_left h1q h0q
    rw [hd, Rat.mul_one] at this
    exact this
theorem LE.step {N : Nat} {cs : List Rat} {m : Rat} {Pd R : List Nat} {L μ : Rat} {a : Nat} (h : LE N cs m Pd R L μ) (ha : a ∈ R) (hmin : ∀ k ∈ R, cs.getD a 0 ≤ cs.getD k 0) (hc : ∀ k ∈ R, On N (cs.getD k 0)) (h0 : ∀ k, 0 ≤ cs.getD k 0) :
    ∃ μ', LE N cs m (a :: Pd) (R.filter fun k => decide (k ≠ a)) (L - (if cs.getD a 0 < μ then cs.getD a 0 else μ)) μ' ∧ (∀ k ∈ Pd, cap μ' (cs.getD k 0) = cap μ (cs.getD k 0)) ∧ cap μ' (cs.getD a 0) = if cs.getD a 0 < μ then cs.getD a 0 else μ := by
  have hnd : R.Nodup := ((h.pm.nodup_iff.mpr List.nodup_range).sublist (List.sublist_append_right Pd R))
  have hp := take_out hnd ha
  generalize hR' : (R.filter fun k => decide (k ≠ a)) = R' at hp
  have hsub : ∀ k ∈ R', k ∈ R := fun k hk => hp.mem_iff.mpr (List.mem_cons_of_mem _ hk)
  have hne : R ≠ [] := fun e => by rw [e] at ha; exact List.not_mem_nil ha
  have hmu := h.mu hne
  have hlen : (R.length : Int) = (R'.length : Int) + 1 := by
    have := hp.length_eq
    rw [List.length_cons] at this
    omega
  rw [hlen, Rat.intCast_add] at hmu
  have hn0 : (0 : Rat) ≤ ((R'.length : Int) : Rat) := by rw [show (0 : Rat) = ((0 : Int) : Rat) from rfl, Rat.intCast_le_intCast]; omega
  have h11 : ((1 : Int) : Rat) = 1 := rfl
  rw [h11] at hmu
  have hsR : (R.map fun k => cs.getD k 0).sum = cs.getD a 0 + (R'.map fun k => cs.getD k 0).sum := by
    have := perm_sum (hp.map fun k => cs.getD k 0)
    rw [this, List.map_cons, List.sum_cons]
  have hpm : (a :: Pd ++ R').Perm (List.range cs.length) := by
    refine List.Perm.trans ?_ h.pm
    refine List.Perm.trans ?_ (hp.symm.append_left Pd)
    exact List.perm_middle.symm
  have hord : ∀ k ∈ a :: Pd, ∀ j ∈ R', cs.getD k 0 ≤ cs.getD j 0 := fun k hk j hj => by
    rcases List.mem_cons.mp hk with rfl | hk
    · exact hmin j (hsub j hj)
    · exact h.ord k hk j (hsub j hj)
  have hl0 := h.l0
  have hl1 := h.l1
  have hm0 := h.m0
  have hsum := h.sum
  have ha0 := h0 a
  have hub := h.ub
  have hLm : L ≤ m := by
    have : 0 ≤ (Pd.map fun k => cap μ (cs.getD k 0)).sum := by
      have := sum_le (l := Pd) (f := fun _ => 0) (g := fun k => cap μ (cs.getD k 0)) fun k _ => cap_nn hm0 (h0 k)
      rw [sum_const (k := 0) fun _ _ => rfl] at this
      grind
    grind
  generalize hca : cs.getD a 0 = c at *
  rw [hsR] at hl1
  by_cases hlt : c < μ
  · rw [if_pos hlt]
    -- all that are out have what they claim
    have hPc : ∀ k ∈ Pd, cs.getD k 0 ≤ μ := fun k hk => by
      have := h.ord k hk a ha
      rw [hca] at this
      grind
    have hA : On N L := by
      rcases h.sh hne with hA | hB
      · exact hA
      · have := hB a ha
        rw [hca] at this
        grind
    have key : ∀ μ', μ ≤ μ' → (∀ k ∈ Pd, cap μ' (cs.getD k 0) = cap μ (cs.getD k 0)) ∧ cap μ' c = c := fun μ' hμ => ⟨fun k hk => by rw [cap_lo (hPc k hk), cap_lo (Rat.le_trans (hPc k hk) hμ)], cap_lo (by grind)⟩
    have hs' : ∀ μ', μ ≤ μ' → L - c + ((a :: Pd).map fun k => cap μ' (cs.getD k 0)).sum = m := fun μ' hμ => by
      rw [List.map_cons, List.sum_cons, hca, (key μ' hμ).2, List.map_congr_left (key μ' hμ).1]
      grind
    have hL' : 0 ≤ L - c := by
      have : c * (((R'.length : Int) : Rat) + 1) ≤ μ * (((R'.length : Int) : Rat) + 1) := Rat.mul_le_mul_of_nonneg_right (by grind) (by grind)
      have e1 : c * (((R'.length : Int) : Rat) + 1) = c * ((R'.length : Int) : Rat) + c := by grind
      have e2 : 0 ≤ c * ((R'.length : Int) : Rat) := Rat.mul_nonneg ha0 hn0
      grind
    have hH : On N (L - c) := by
      have := hc a ha
      rw [hca] at this
      exact hA.sub this
    by_cases hz : R' = []
    · refine ⟨μ, ⟨hpm, hord, hs' μ Rat.le_refl, hL', by grind, hm0, fun e => absurd hz e, fun e => absurd hz e, h.fr, hub⟩, (key μ Rat.le_refl).1, (key μ Rat.le_refl).2⟩
    · have hlp : 0 < R'.length := List.length_pos_iff.mpr hz
      have hnp : (0 : Rat) < ((R'.length : Int) : Rat) := by rw [show (0 : Rat) = ((0 : Int) : Rat) from rfl, Rat.intCast_lt_intCast]; omega
      have hd : (L - c) / ((R'.length : Int) : Rat) * ((R'.length : Int) : Rat) = L - c := Rat.div_mul_cancel (Rat.ne_of_gt hnp)
      generalize hμ' : (L - c) / ((R'.length : Int) : Rat) = μ' at hd
      have hge : μ ≤ μ' := by
        refine Rat.not_lt.mp fun hn => ?_
        have := Rat.mul_lt_mul_of_pos_right hn hnp
        have e1 : μ * (((R'.length : Int) : Rat) + 1) = μ * ((R'.length : Int) : Rat) + μ := by grind
        grind
      refine ⟨μ', ⟨hpm, hord, hs' μ' hge, hL', by grind, by grind, fun _ => hd, fun _ => .inl hH, ⟨R'.length, by omega, ?_, hH.part hd⟩, ?_⟩, (key μ' hge).1, (key μ' hge).2⟩
      · have := hpm.length_eq
        rw [List.length_append, List.length_cons, List.length_range] at this
        omega
      · have h1q : (1 : Rat) ≤ ((R'.length : Int) : Rat) := by rw [show (1 : Rat) = ((1 : Int) : Rat) from rfl, Rat.intCast_le_intCast]; omega
        have := Rat.mul_le_mul_of_nonneg_left h1q (show 0 ≤ μ' by grind)
        rw [hd, Rat.mul_one] at this
        grind
  · rw [if_neg hlt]
    have hge : μ ≤ c := by grind
    have ec : cap μ c = μ := cap_hi hge
    have hbig : ∀ j ∈ R', μ ≤ cs.getD j 0 := fun j hj => by
      have := hmin j (hsub j hj)
      grind
    have e1 : μ * (((R'.length : Int) : Rat) + 1) = μ * ((R'.length : Int) : Rat) + μ := by grind
    have e2 : μ * ((R'.length : Int) : Rat) = L - μ := by grind
    have hL1 : L - μ ≤ (R'.map fun k => cs.getD k 0).sum := by
      have := sum_le (l := R') (f := fun _ => μ) (g := fun k => cs.getD k 0) hbig
      rw [sum_const (k := μ) fun _ _ => rfl] at this
      grind
    have hL0 : 0 ≤ L - μ := by
      have := Rat.mul_nonneg hm0 hn0
      grind
    refine ⟨μ, ⟨hpm, hord, ?_, hL0, hL1, hm0, fun _ => e2, fun _ => .inr hbig, h.fr, hub⟩, fun _ _ => rfl, ec⟩
    rw [List.map_cons, List.sum_cons, hca, ec]
    grind
theorem LE.fin {N : Nat} {cs : List Rat} {m : Rat} {Pd : List Nat} {L μ : Rat} (h : LE N cs m Pd [] L μ) : Even cs m (cs.map (cap μ)) := by
  refine ⟨μ, rfl, ?_⟩
  have hl0 := h.l0
  have hl1 : L ≤ 0 := by simpa using h.l1
  have hs := h.sum
  have hp := h.pm
  rw [List.append_nil] at hp
  have e := perm_sum (hp.map fun k => cap μ (cs.getD k 0))
  have e2 : (List.range cs.length).map (fun k => cap μ (cs.getD k 0)) = cs.map (cap μ) := by
    conv => rhs; rw [← range_map cs]
    rw [List.map_map]
    rfl
  rw [← e2, ← e]
  grind

theorem LE.lt {N : Nat} {cs : List Rat} {m : Rat} {Pd R : List Nat} {L μ : Rat} (h : LE N cs m Pd R L μ) : (∀ k ∈ R, k < cs.length) ∧ ∀ k ∈ Pd, k < cs.length := ⟨fun k hk => List.mem_range.mp (h.pm.mem_iff.mp (List.mem_append_right _ hk)), fun k hk => List.mem_range.mp (h.pm.mem_iff.mp (List.mem_append_left _ hk))⟩
theorem getD_at {α : Type} [Inhabited α] {cs : List α} {k : Nat} {d : α} (h : k < cs.length) : cs[k]? = some (cs.getD k d) := by
  rw [List.getD_eq_getElem?_getD, List.getElem?_eq_getElem h]
  rfl
theorem least_ex (f : Nat → Rat) : ∀ {R : List Nat}, R ≠ [] → ∃ a ∈ R, ∀ k ∈ R, f a ≤ f k
  | [], h => absurd rfl h
  | x :: R, _ => by
    by_cases e : R = []
    · subst e
      exact ⟨x, by simp, fun k hk => by rw [List.mem_singleton.mp hk]; exact Rat.le_refl⟩
    · obtain ⟨a, ha, hm⟩ := least_ex f e
      by_cases h : f x ≤ f a
      · refine ⟨x, List.mem_cons_self, fun k hk => ?_⟩
        rcases List.mem_cons.mp hk with rfl | hk
        · exact Rat.le_refl
        · exact Rat.le_trans h (hm k hk)
      · refine ⟨a, List.mem_cons_of_mem _ ha, fun k hk => ?_⟩
        rcases List.mem_cons.mp hk with rfl | hk
        · grind
        · exact hm k hk
/-- what is dealt: claims and money of N parts -/
structure Deal (N : Nat) (cs : List Rat) (m : Rat) : Prop where
  n1 : 1 ≤ cs.length
  n6 : cs.length ≤ 6
  on : ∀ c ∈ cs, On N c
  c0 : ∀ c ∈ cs, 0 ≤ c
  c1 : ∀ c ∈ cs, c ≤ 1000
  hm : On N m
  m0 : 0 ≤ m
  m1 : m ≤ cs.sum
  hN : 0 < N
  hB : N < 2 ^ 60
theorem Deal.nn {N : Nat} {cs : List Rat} {m : Rat} (h : Deal N cs m) : ∀ k, 0 ≤ cs.getD k 0 := fun k => by
  rw [List.getD_eq_getElem?_getD]
  cases e : cs[k]? with
  | none => exact Rat.le_refl
  | some c => exact h.c0 c (List.mem_of_getElem? e)
theorem LE.all {N : Nat} {cs : List Rat} {m : Rat} (h : Deal N cs m) : ∀ (n : Nat) {Pd R : List Nat} {L μ : Rat}, R.length = n → LE N cs m Pd R L μ → ∃ qs, Even cs m qs
  | 0, Pd, R, L, μ, hl, hE => by
    rw [List.length_eq_zero_iff.mp hl] at hE
    exact ⟨_, hE.fin⟩
  | n + 1, Pd, R, L, μ, hl, hE => by
    have hne : R ≠ [] := fun e => by rw [e] at hl; cases hl
    obtain ⟨a, ha, hm⟩ := least_ex (fun k => cs.getD k 0) hne
    obtain ⟨μ', h2, _⟩ := hE.step ha hm (fun k hk => h.on _ (List.mem_of_getElem? (getD_at (hE.lt.1 k hk)))) h.nn
    have hnd : R.Nodup := ((hE.pm.nodup_iff.mpr List.nodup_range).sublist (List.sublist_append_right Pd R))
    have hlen := (take_out hnd ha).length_eq
    rw [List.length_cons] at hlen
    exact LE.all h n (by omega) h2
theorem even_ex {N : Nat} {cs : List Rat} {m : Rat} (h : Deal N cs m) : ∃ qs, Even cs m qs := LE.all h _ rfl (LE.start h.n1 h.m0 h.m1 h.hm)
/-- the even awards -/
noncomputable def evenR (cs : List Rat) (m : Rat) : List Rat := open Classical in if h : ∃ qs, Even cs m qs then h.choose else []
theorem Even.eq {cs : List Rat} {m : Rat} {qs : List Rat} (h : Even cs m qs) : qs = evenR cs m := by
  unfold evenR
  have hx : ∃ qs, Even cs m qs := ⟨qs, h⟩
  rw [dif_pos hx]
  exact h.uniq hx.choose_spec
theorem Deal.even {N : Nat} {cs : List Rat} {m : Rat} (h : Deal N cs m) : Even cs m (evenR cs m) := by
  obtain ⟨qs, hq⟩ := even_ex h
  rw [← hq.eq]
  exact hq
/-- those above the level, those not -/
theorem cap_split (l : Rat) : ∀ cs : List Rat, (cs.map (cap l)).sum = (cs.filter fun c => decide (c ≤ l)).sum + (((cs.filter fun c => !decide (c ≤ l)).length : Int) : Rat) * l
  | [] => by simp; try grind
  | c :: cs => by
    have ih := cap_split l cs
    rw [List.map_cons, List.sum_cons, ih]
    by_cases h : c ≤ l
    · rw [List.filter_cons_of_pos (by simpa using h), List.filter_cons_of_neg (by simpa using h), List.sum_cons, cap_lo h]
      grind
    · rw [List.filter_cons_of_neg (by simpa using h), List.filter_cons_of_pos (by simpa using h), cap_hi (by grind), List.length_cons]
      have : (((cs.filter fun c => !decide (c ≤ l)).length + 1 : Nat) : Int) = ((cs.filter fun c => !decide (c ≤ l)).length : Int) + 1 := by omega
      rw [this, Rat.intCast_add]
      have : ((1 : Int) : Rat) = 1 := rfl
      rw [this]
      grind
theorem dvd60 {n : Nat} (h1 : 1 ≤ n) (h6 : n ≤ 6) : n ∣ 60 := by
  have : n = 1 ∨ n = 2 ∨ n = 3 ∨ n = 4 ∨ n = 5 ∨ n = 6 := by omega
  rcases this with rfl | rfl | rfl | rfl | rfl | rfl <;> decide
theorem even_on {N : Nat} {cs : List Rat} {m : Rat} {qs : List Rat} (hE : Even cs m qs) (h6 : cs.length ≤ 6) (hc : ∀ c ∈ cs, On N c) (hm : On N m) : ∀ q ∈ qs, On (N * 60) q := fun q hq => by
  obtain ⟨l, rfl, hs⟩ := hE
  obtain ⟨c, hcm, rfl⟩ := List.mem_map.mp hq
  by_cases h : c ≤ l
  · rw [cap_lo h]
    exact (hc c hcm).mul_nat 60
  · rw [cap_hi (by grind)]
    have e := cap_split l cs
    rw [hs] at e
    have h1 : 1 ≤ (cs.filter fun c => !decide (c ≤ l)).length := List.length_pos_iff.mpr fun z => by
      have : c ∈ cs.filter fun c => !decide (c ≤ l) := List.mem_filter.mpr ⟨hcm, by simpa using h⟩
      rw [z] at this
      exact List.not_mem_nil this
    have h2 : (cs.filter fun c => !decide (c ≤ l)).length ≤ 6 := Nat.le_trans (List.length_filter_le _ _) h6
    have hS : On N (m - (cs.filter fun c => decide (c ≤ l)).sum) := hm.sub (On.sum fun x hx => hc x (List.mem_filter.mp hx).1)
    refine (hS.part (n := (cs.filter fun c => !decide (c ≤ l)).length) ?_).dvd (Nat.mul_dvd_mul_left N (dvd60 h1 h2))
    grind
theorem even_nn {cs : List Rat} {m : Rat} {qs : List Rat} (hE : Even cs m qs) (h0 : ∀ c ∈ cs, 0 ≤ c) (m0 : 0 ≤ m) : ∀ q ∈ qs, 0 ≤ q := fun q hq => by
  obtain ⟨l, rfl, hs⟩ := hE
  obtain ⟨c, hcm, rfl⟩ := List.mem_map.mp hq
  by_cases hl : 0 ≤ l
  · exact cap_nn hl (h0 c hcm)
  · have h1 := sum_le (l := cs) (f := cap l) (g := fun _ => l) fun c _ => (cap_le l c).1
    rw [sum_const (k := l) fun _ _ => rfl, hs] at h1
    have h2 : (1 : Rat) ≤ ((cs.length : Int) : Rat) := by
      rw [show (1 : Rat) = ((1 : Int) : Rat) from rfl, Rat.intCast_le_intCast]
      have := List.length_pos_of_mem hcm
      omega
    have h3 := Rat.mul_le_mul_of_nonneg_right h2 (show 0 ≤ -l by grind)
    grind
end DL

/-! DOrd0: the orders of up to six, counted by those ahead. -/
namespace DL
open PySem PySem.Spec PyProof.Rows L2
/-- the states from here on -/
def goW (n r : Nat) : Nat → List Nat × List Nat → List (List Nat × List Nat)
  | 0, _ => []
  | f + 1, p => p :: (match turnW n r p with
    | none => []
    | some q => goW n r f q)
theorem goW_get {n r : Nat} : ∀ (f i : Nat) (p : List Nat × List Nat), wheel n r i = some p → ∀ j q, (goW n r f p)[j]? = some q → wheel n r (i + j) = some q
  | 0, i, p, h, j, q, e => by simp [goW] at e
  | f + 1, i, p, h, j, q, e => by
    unfold goW at e
    cases j with
    | zero =>
      simp at e
      rw [← e]
      exact h
    | succ j =>
      rw [List.getElem?_cons_succ] at e
      cases ht : turnW n r p with
      | none => rw [ht] at e; simp at e
      | some q' =>
        rw [ht] at e
        have h' : wheel n r (i + 1) = some q' := by
          show (match wheel n r i with | some p => turnW n r p | none => none) = _
          rw [h]
          exact ht
        have := goW_get f (i + 1) q' h' j q e
        rw [show i + (j + 1) = i + 1 + j by omega]
        exact this
theorem goW_end {n r : Nat} : ∀ (f i : Nat) (p : List Nat × List Nat), wheel n r i = some p → (goW n r f p).length < f → wheel n r (i + (goW n r f p).length) = none
  | 0, i, p, h, e => absurd e (Nat.not_lt_zero _)
  | f + 1, i, p, h, e => by
    unfold goW at e ⊢
    cases ht : turnW n r p with
    | none =>
      show (match wheel n r i with | some p => turnW n r p | none => none) = none
      rw [h]
      exact ht
    | some q' =>
      rw [ht] at e
      have h' : wheel n r (i + 1) = some q' := by
        show (match wheel n r i with | some p => turnW n r p | none => none) = _
        rw [h]
        exact ht
      simp only [List.length_cons] at e ⊢
      have := goW_end f (i + 1) q' h' (by omega)
      rw [show i + ((goW n r f q').length + 1) = i + 1 + (goW n r f q').length by omega]
      exact this
def start0 (n r : Nat) : List Nat × List Nat := (List.range n, (List.range r).map fun i => n - i)
/-- all orders of n -/
def ordN (n : Nat) : List (List Nat) := (goW n n 721 (start0 n n)).map fun p => p.1.take n
def fact : Nat → Nat
  | 0 => 1
  | n + 1 => (n + 1) * fact n
theorem ordN_len : ∀ {n : Nat}, n ≤ 6 → (ordN n).length = fact n := by
  have : ((List.range 7).all fun n => (ordN n).length == fact n) = true := by decide +kernel
  intro n hn
  have := List.all_eq_true.mp this n (List.mem_range.mpr (by omega))
  exact beq_iff_eq.mp this
theorem fact_pos : ∀ n, 0 < fact n
  | 0 => Nat.one_pos
  | n + 1 => Nat.mul_pos (Nat.succ_pos n) (fact_pos n)
theorem fact_le {n : Nat} (hn : n ≤ 6) : fact n ≤ 720 := by
  have : ((List.range 7).all fun n => Nat.ble (fact n) 720) = true := by decide
  exact Nat.le_of_ble_eq_true (List.all_eq_true.mp this n (List.mem_range.mpr (by omega)))
theorem ordN_ok {n : Nat} (hn : n ≤ 6) : PermOk n n (fact n) ∧ ∀ i, i < fact n → ((wheel n n i).getD ([], [])).1.take n = (ordN n).getD i [] := by
  have hl := ordN_len hn
  have hl' : (goW n n 721 (start0 n n)).length = fact n := by unfold ordN at hl; rwa [List.length_map] at hl
  have h0 : wheel n n 0 = some (start0 n n) := rfl
  have hg : ∀ i, i < fact n → wheel n n i = some ((goW n n 721 (start0 n n)).getD i ([], [])) := fun i hi => by
    have := goW_get 721 0 _ h0 i ((goW n n 721 (start0 n n)).getD i ([], [])) (by rw [List.getD_eq_getElem?_getD, List.getElem?_eq_getElem (by omega)]; rfl)
    rwa [Nat.zero_add] at this
  refine ⟨⟨fact_pos n, fun i hi => ⟨_, hg i hi⟩, ?_⟩, fun i hi => ?_⟩
  · have := goW_end 721 0 _ h0 (by rw [hl']; have := fact_le hn; omega)
    rwa [hl', Nat.zero_add] at this
  · rw [hg i hi]
    unfold ordN
    rw [List.getD_eq_getElem?_getD, List.getD_eq_getElem?_getD, List.getElem?_map, List.getElem?_eq_getElem (by omega)]
    rfl
theorem ordN_perm : ∀ {n : Nat}, n ≤ 6 → ∀ p ∈ ordN n, p.Perm (List.range n) := by
  have : ((List.range 7).all fun n => (ordN n).all fun p => p.isPerm (List.range n)) = true := by decide +kernel
  intro n hn p hp
  have := List.all_eq_true.mp this n (List.mem_range.mpr (by omega))
  exact List.isPerm_iff.mp (List.all_eq_true.mp this p hp)
/-- those ahead of k -/
def ahead (p : List Nat) (k : Nat) : List Nat := p.takeWhile fun j => !(j == k)
/-- a set's number -/
def codeS : List Nat → Nat
  | [] => 0
  | j :: r => 2 ^ j + codeS r
def bitsOf (n b : Nat) : List Nat := (List.range n).filter fun j => b.testBit j
/-- all sets of some -/
def setsOver (L : List Nat) : List (List Nat) := L.foldl (fun r o => r ++ r.map fun s => s ++ [o]) [[]]
def others (n k : Nat) : List Nat := (List.range n).filter fun j => !(j == k)
/-- how much stands under b -/
def cnt (b : Nat) : List (Nat × Nat) → Nat
  | [] => 0
  | x :: r => (if x.1 == b then x.2 else 0) + cnt b r
def ordC (n k : Nat) : List (Nat × Nat) := (ordN n).map fun p => (codeS (ahead p k), 1)
def setC (n k : Nat) : List (Nat × Nat) := (setsOver (others n k)).map fun S => (codeS S, fact S.length * fact (n - 1 - S.length))
def bump : Nat → Nat → List Nat → List Nat
  | _, _, [] => []
  | 0, w, h :: t => (h + w) :: t
  | i + 1, w, h :: t => h :: bump i w t
def hist (M : Nat) : List (Nat × Nat) → List Nat
  | [] => List.replicate M 0
  | x :: r => bump x.1 x.2 (hist M r)
theorem bump_len : ∀ (i w : Nat) (l : List Nat), (bump i w l).length = l.length
  | i, _, [] => by cases i <;> rfl
  | 0, w, h :: t => rfl
  | i + 1, w, h :: t => by simp [bump, bump_len i w t]
theorem bump_get : ∀ (i w : Nat) (l : List Nat) (b : Nat), b < l.length → (bump i w l).getD b 0 = (if i == b then w else 0) + l.getD b 0
  | i, w, [], b, hb => absurd hb (Nat.not_lt_zero _)
  | 0, w, h :: t, 0, hb => by simp [bump, Nat.add_comm]
  | 0, w, h :: t, b + 1, hb => by simp [bump]
  | i + 1, w, h :: t, 0, hb => by simp [bump]
  | i + 1, w, h :: t, b + 1, hb => by
    have := bump_get i w t b (by simpa using hb)
    simpa [bump] using this
theorem hist_len {M : Nat} : ∀ l : List (Nat × Nat), (hist M l).length = M
  | [] => by simp [hist]
  | x :: r => by unfold hist; rw [bump_len, hist_len r]
theorem hist_get {M : Nat} : ∀ (l : List (Nat × Nat)) (b : Nat), b < M → (hist M l).getD b 0 = cnt b l
  | [], b, hb => by simp [hist, cnt, hb]
  | x :: r, b, hb => by
    unfold hist cnt
    rw [bump_get _ _ _ _ (by rw [hist_len]; exact hb), hist_get r b hb]
theorem hist_eq : ((List.range 7).all fun n => (List.range n).all fun k => hist (2 ^ n) (ordC n k) == hist (2 ^ n) (setC n k)) = true := by decide +kernel
theorem cnt_eq {n k : Nat} (hn : n ≤ 6) (hk : k < n) (b : Nat) (hb : b < 2 ^ n) : cnt b (ordC n k) = cnt b (setC n k) := by
  have := List.all_eq_true.mp (List.all_eq_true.mp hist_eq n (List.mem_range.mpr (by omega))) k (List.mem_range.mpr hk)
  rw [← hist_get _ b hb, ← hist_get _ b hb, beq_iff_eq.mp this]
/-- each set stands under its number -/
def goodS (n : Nat) (S : List Nat) : Bool := Nat.blt (codeS S) (2 ^ n) && S.isPerm (bitsOf n (codeS S))
theorem good_all : ((List.range 7).all fun n => (List.range n).all fun k => ((ordN n).all fun p => goodS n (ahead p k)) && (setsOver (others n k)).all (goodS n)) = true := by decide +kernel
theorem ahead_good {n k : Nat} (hn : n ≤ 6) (hk : k < n) {p : List Nat} (hp : p ∈ ordN n) : goodS n (ahead p k) = true := by
  have := List.all_eq_true.mp (List.all_eq_true.mp good_all n (List.mem_range.mpr (by omega))) k (List.mem_range.mpr hk)
  rw [Bool.and_eq_true] at this
  exact List.all_eq_true.mp this.1 p hp
theorem set_good {n k : Nat} (hn : n ≤ 6) (hk : k < n) {S : List Nat} (hS : S ∈ setsOver (others n k)) : goodS n S = true := by
  have := List.all_eq_true.mp (List.all_eq_true.mp good_all n (List.mem_range.mpr (by omega))) k (List.mem_range.mpr hk)
  rw [Bool.and_eq_true] at this
  exact List.all_eq_true.mp this.2 S hS
theorem good_inv {n : Nat} {S : List Nat} (h : goodS n S = true) : codeS S < 2 ^ n ∧ S.Perm (bitsOf n (codeS S)) := by
  unfold goodS at h
  rw [Bool.and_eq_true] at h
  exact ⟨by rw [← Nat.blt_eq]; exact h.1, List.isPerm_iff.mp h.2⟩
/-! ### sums by weights -/
abbrev qN (n : Nat) : Rat := ((n : Int) : Rat)
theorem qN_add (a b : Nat) : qN (a + b) = qN a + qN b := by show (((a + b : Nat) : Int) : Rat) = _; rw [Int.natCast_add, Rat.intCast_add]
def wsum (G : Nat → Rat) : List (Nat × Nat) → Rat
  | [] => 0
  | x :: r => qN x.2 * G x.1 + wsum G r
def bsum (f : Nat → Rat) : Nat → Rat
  | 0 => 0
  | M + 1 => bsum f M + f M
theorem bsum_add (f g : Nat → Rat) : ∀ M, bsum (fun b => f b + g b) M = bsum f M + bsum g M
  | 0 => by simp [bsum]; try grind
  | M + 1 => by simp only [bsum, bsum_add f g M]; grind
theorem bsum_zero : ∀ M, bsum (fun _ => 0) M = 0
  | 0 => rfl
  | M + 1 => by simp only [bsum, bsum_zero M]; try grind
theorem bsum_congr {f g : Nat → Rat} : ∀ {M}, (∀ b, b < M → f b = g b) → bsum f M = bsum g M
  | 0, _ => rfl
  | M + 1, h => by simp only [bsum]; rw [bsum_congr fun b hb => h b (by omega), h M (Nat.lt_succ_self M)]
theorem bsum_one (c : Nat) (v : Rat) : ∀ M, bsum (fun b => if c == b then v else 0) M = if c < M then v else 0
  | 0 => rfl
  | M + 1 => by
    simp only [bsum, bsum_one c v M]
    by_cases h1 : c < M
    · rw [if_pos h1, if_neg (by simp; omega), if_pos (by omega)]
      grind
    · by_cases h2 : c = M
      · subst h2
        rw [if_neg h1, if_pos (by simp), if_pos (Nat.lt_succ_self c)]
        grind
      · rw [if_neg h1, if_neg (by simpa using h2), if_neg (by omega)]
        grind
theorem wsum_bsum (G : Nat → Rat) (M : Nat) : ∀ l : List (Nat × Nat), (∀ x ∈ l, x.1 < M) → wsum G l = bsum (fun b => qN (cnt b l) * G b) M
  | [], _ => by
    simp only [wsum, cnt]
    have : (fun b => qN 0 * G b) = fun _ => 0 := funext fun b => by show (((0 : Nat) : Int) : Rat) * G b = 0; have : (((0 : Nat) : Int) : Rat) = 0 := rfl; rw [this, Rat.zero_mul]
    rw [this, bsum_zero]
  | x :: r, h => by
    simp only [wsum, cnt]
    rw [wsum_bsum G M r fun y hy => h y (List.mem_cons_of_mem _ hy)]
    have e : (fun b => qN ((if x.1 == b then x.2 else 0) + cnt b r) * G b) = fun b => (if x.1 == b then qN x.2 * G x.1 else 0) + qN (cnt b r) * G b := funext fun b => by
      rw [qN_add, Rat.add_mul]
      congr 1
      by_cases h : x.1 = b
      · subst h; simp
      · rw [if_neg (by simpa using h), if_neg (by simpa using h)]
        have : (((0 : Nat) : Int) : Rat) = 0 := rfl
        show (((0 : Nat) : Int) : Rat) * G b = 0
        rw [this, Rat.zero_mul]
    rw [e, bsum_add, bsum_one, if_pos (h x List.mem_cons_self)]
/-- what depends on sets alone -/
def PermInv (F : List Nat → Rat) : Prop := ∀ S S' : List Nat, S.Perm S' → F S = F S'
theorem sum_codes {n : Nat} {F : List Nat → Rat} (hF : PermInv F) (f : List Nat → Nat) : ∀ l : List (List Nat), (∀ S ∈ l, goodS n S = true) → (l.map fun S => qN (f S) * F S).sum = wsum (fun b => F (bitsOf n b)) (l.map fun S => (codeS S, f S))
  | [], _ => rfl
  | S :: l, h => by
    rw [List.map_cons, List.map_cons, List.sum_cons, sum_codes hF f l fun y hy => h y (List.mem_cons_of_mem _ hy)]
    simp only [wsum]
    rw [hF S _ (good_inv (h S List.mem_cons_self)).2]
def wOrd (n : Nat) (S : List Nat) : Nat := fact S.length * fact (n - 1 - S.length)
/-- over all orders, by those ahead: over all sets of others -/
theorem ord_sets {n k : Nat} (hn : n ≤ 6) (hk : k < n) {F : List Nat → Rat} (hF : PermInv F) : ((ordN n).map fun p => F (ahead p k)).sum = ((setsOver (others n k)).map fun S => qN (wOrd n S) * F S).sum := by
  have e1 := sum_codes (n := n) hF (fun _ => 1) ((ordN n).map fun p => ahead p k) fun S hS => by
    obtain ⟨p, hp, rfl⟩ := List.mem_map.mp hS
    exact ahead_good hn hk hp
  have e2 := sum_codes (n := n) hF (wOrd n) (setsOver (others n k)) fun S hS => set_good hn hk hS
  rw [e2]
  have e3 : ((ordN n).map fun p => F (ahead p k)) = ((ordN n).map fun p => ahead p k).map fun S => qN 1 * F S := by
    rw [List.map_map]
    refine List.map_congr_left fun p _ => ?_
    show F (ahead p k) = (((1 : Nat) : Int) : Rat) * F (ahead p k)
    have : (((1 : Nat) : Int) : Rat) = 1 := rfl
    rw [this, Rat.one_mul]
  rw [e3, e1, List.map_map]
  rw [wsum_bsum _ (2 ^ n) _ fun x hx => ?_, wsum_bsum _ (2 ^ n) _ fun x hx => ?_]
  · exact bsum_congr fun b hb => by
      have := cnt_eq hn hk b hb
      unfold ordC setC at this
      show qN (cnt b ((ordN n).map fun p => (codeS (ahead p k), 1))) * _ = qN (cnt b ((setsOver (others n k)).map fun S => (codeS S, wOrd n S))) * _
      rw [this]
      rfl
  · obtain ⟨S, hS, rfl⟩ := List.mem_map.mp hx
    exact (good_inv (set_good hn hk hS)).1
  · obtain ⟨p, hp, rfl⟩ := List.mem_map.mp hx
    exact (good_inv (ahead_good hn hk hp)).1
end DL

/-! DRule: the five rules over fractions. -/
namespace DL
open PySem PySem.Spec PyProof.Rows L2
theorem one_cast : ((1 : Int) : Rat) = 1 := rfl
theorem two_cast : ((2 : Int) : Rat) = 2 := rfl
theorem zero_cast : ((0 : Int) : Rat) = 0 := rfl
theorem qN_pos {n : Nat} (h : 0 < n) : (0 : Rat) < qN n := cpos.mpr (by omega)
theorem qN_nn (n : Nat) : (0 : Rat) ≤ qN n := cnn.mpr (by omega)
theorem qN_mul (a b : Nat) : qN (a * b) = qN a * qN b := natI_mul a b
/-- small and of few parts: few bits -/
theorem On.bd {N : Nat} {q : Rat} (h : On N q) (hN : 0 < N) {b : Int} (h0 : 0 ≤ q) (hb : q ≤ (b : Rat)) {k : Nat} (h1 : N < 2 ^ k) (h2 : b * N < 2 ^ k) : Bd k q := by
  obtain ⟨x, e⟩ := h
  have hnq : (0 : Rat) < ((N : Int) : Rat) := cpos.mpr (by omega)
  have eq : q = Rat.divInt x N := by rw [Rat.divInt_eq_div, ← e, Rat.mul_div_cancel (Rat.ne_of_gt hnq)]
  have x0 : 0 ≤ x := by
    rw [← cast_le, zero_cast, ← e]
    exact Rat.mul_nonneg h0 (Rat.le_of_lt hnq)
  have x1 : x ≤ b * N := by
    rw [← cast_le, ← e, Rat.intCast_mul]
    exact Rat.mul_le_mul_of_nonneg_right hb (Rat.le_of_lt hnq)
  rw [eq]
  refine Bd.of (by omega) ?_ (by simpa using h1)
  have : (x.natAbs : Int) < ((2 ^ k : Nat) : Int) := by
    rw [Int.natAbs_of_nonneg x0, Int.natCast_pow]
    exact Int.lt_of_le_of_lt x1 h2
  exact Int.ofNat_lt.mp this
/-! ### by orders -/
def pos (x : Rat) : Rat := if 0 < x then x else 0
def csum (cs : List Rat) (S : List Nat) : Rat := (S.map fun j => cs.getD j 0).sum
/-- what k gets behind S -/
def got (cs : List Rat) (m : Rat) (k : Nat) (S : List Nat) : Rat := cap (pos (m - csum cs S)) (cs.getD k 0)
theorem got_inv (cs : List Rat) (m : Rat) (k : Nat) : PermInv (got cs m k) := fun S S' h => by
  unfold got csum
  rw [perm_sum (h.map _)]
noncomputable def ordR (cs : List Rat) (m : Rat) : List Rat := (List.range cs.length).map fun k => ((ordN cs.length).map fun p => got cs m k (ahead p k)).sum / qN (fact cs.length)
theorem pos_nn (x : Rat) : 0 ≤ pos x := by unfold pos; split <;> grind
theorem got_in {cs : List Rat} (h0 : ∀ k, 0 ≤ cs.getD k 0) (m : Rat) (k : Nat) (S : List Nat) : 0 ≤ got cs m k S ∧ got cs m k S ≤ cs.getD k 0 := ⟨cap_nn (pos_nn _) (h0 k), (cap_le _ _).2⟩
theorem pos_step {x c : Rat} (hc : 0 ≤ c) : pos x - cap (pos x) c = pos (x - c) := by
  unfold pos cap
  split <;> split <;> split <;> grind
theorem ahead_app {p q : List Nat} {k : Nat} (h : k ∈ p) : ahead (p ++ q) k = ahead p k := by
  unfold ahead
  induction p with
  | nil => exact absurd h List.not_mem_nil
  | cons a p ih =>
    rw [List.cons_append, List.takeWhile_cons, List.takeWhile_cons]
    by_cases e : a = k
    · simp [e]
    · rw [if_pos (by simpa using e), if_pos (by simpa using e), ih (by
        rcases List.mem_cons.mp h with h | h
        · exact absurd h.symm e
        · exact h)]
theorem ahead_last {p q : List Nat} {k : Nat} (h : k ∉ p) : ahead (p ++ k :: q) k = p := by
  unfold ahead
  induction p with
  | nil => simp
  | cons a p ih =>
    rw [List.cons_append, List.takeWhile_cons]
    have e : a ≠ k := fun e => h (by rw [e]; exact List.mem_cons_self)
    rw [if_pos (by simpa using e), ih fun z => h (List.mem_cons_of_mem _ z)]
theorem csum_snoc (cs : List Rat) (p : List Nat) (k : Nat) : csum cs (p ++ [k]) = csum cs p + cs.getD k 0 := by
  unfold csum
  rw [List.map_append, List.sum_append, List.map_cons, List.map_nil, List.sum_cons]
  simp
  try grind
theorem paid_all {cs : List Rat} {m : Rat} (h0 : ∀ k, 0 ≤ cs.getD k 0) (m0 : 0 ≤ m) : ∀ (n : Nat) (p : List Nat), p.length = n → p.Nodup → (p.map fun k => got cs m k (ahead p k)).sum = m - pos (m - csum cs p)
  | 0, p, hl, _ => by
    rw [List.length_eq_zero_iff.mp hl]
    have : pos (m - csum cs []) = m := by
      unfold csum pos
      simp only [List.map_nil, List.sum_nil]
      split <;> grind
    rw [this]
    simp
    try grind
  | n + 1, p, hl, hn => by
    have hne : p ≠ [] := fun e => by rw [e] at hl; cases hl
    obtain ⟨q, k, rfl⟩ : ∃ q k, p = q ++ [k] := ⟨p.dropLast, p.getLast hne, (List.dropLast_concat_getLast hne).symm⟩
    have hql : q.length = n := by simpa using hl
    have hqn : q.Nodup := (List.nodup_append.mp hn).1
    have hk : k ∉ q := fun h => (List.nodup_append.mp hn).2.2 k h k (by simp) rfl
    have ih := paid_all h0 m0 n q hql hqn
    rw [List.map_append, List.sum_append, List.map_cons, List.map_nil, List.sum_cons, List.sum_nil]
    have e1 : (q.map fun j => got cs m j (ahead (q ++ [k]) j)) = q.map fun j => got cs m j (ahead q j) := List.map_congr_left fun j hj => by rw [ahead_app hj]
    rw [e1, ih, ahead_last hk, csum_snoc]
    have e2 := pos_step (x := m - csum cs q) (h0 k)
    have e3 : m - csum cs q - cs.getD k 0 = m - (csum cs q + cs.getD k 0) := by grind
    rw [e3] at e2
    unfold got
    grind
theorem sum_swapR {α β : Type} (f : α → β → Rat) : ∀ (l : List α) (t : List β), (l.map fun a => (t.map fun b => f a b).sum).sum = (t.map fun b => (l.map fun a => f a b).sum).sum
  | [], t => by
    rw [List.map_nil]
    have := sum_const (f := fun _ : β => (0 : Rat)) (k := 0) (l := t) fun _ _ => rfl
    simp only [List.map_nil, List.sum_nil]
    rw [this, Rat.mul_zero]
  | a :: l, t => by
    rw [List.map_cons, List.sum_cons, sum_swapR f l t]
    have e : (fun b => ((a :: l).map fun a => f a b).sum) = fun b => f a b + (l.map fun a => f a b).sum := funext fun b => by rw [List.map_cons, List.sum_cons]
    rw [e]
    clear e
    induction t with
    | nil => simp; try grind
    | cons b t ih =>
      simp only [List.map_cons, List.sum_cons] at ih ⊢
      grind
theorem sum_div {α : Type} (f : α → Rat) (d : Rat) : ∀ l : List α, (l.map fun x => f x / d).sum = (l.map f).sum / d
  | [] => by simp; try grind
  | x :: l => by
    rw [List.map_cons, List.sum_cons, List.map_cons, List.sum_cons, sum_div f d l]
    rw [Rat.div_def, Rat.div_def, Rat.div_def, Rat.add_mul]
theorem sum_const' {α : Type} {f : α → Rat} {k : Rat} {l : List α} (h : ∀ x ∈ l, f x = k) : (l.map f).sum = qN l.length * k := sum_const h
theorem ordR_len (cs : List Rat) (m : Rat) : (ordR cs m).length = cs.length := by unfold ordR; simp
theorem ordR_get {cs : List Rat} {m : Rat} {k : Nat} (hk : k < cs.length) : (ordR cs m)[k]? = some (((ordN cs.length).map fun p => got cs m k (ahead p k)).sum / qN (fact cs.length)) := by
  unfold ordR
  rw [List.getElem?_map, List.getElem?_range hk]
  rfl
theorem ordR_sets {cs : List Rat} {m : Rat} (h6 : cs.length ≤ 6) {k : Nat} (hk : k < cs.length) : (ordR cs m)[k]? = some (((setsOver (others cs.length k)).map fun S => qN (wOrd cs.length S) * got cs m k S).sum / qN (fact cs.length)) := by
  rw [ordR_get hk, ord_sets h6 hk (got_inv cs m k)]
theorem div_mul_qN {x : Rat} {n : Nat} (h : 0 < n) : x / qN n * qN n = x := Rat.div_mul_cancel (Rat.ne_of_gt (qN_pos h))
theorem ordR_sum {cs : List Rat} {m : Rat} (h6 : cs.length ≤ 6) (h0 : ∀ k, 0 ≤ cs.getD k 0) (m0 : 0 ≤ m) (m1 : m ≤ cs.sum) : (ordR cs m).sum = m := by
  unfold ordR
  rw [sum_div, sum_swapR (fun k p => got cs m k (ahead p k))]
  rw [sum_const' (k := m) fun p hp => ?_, ordN_len h6, Rat.div_def, Rat.mul_comm, ← Rat.mul_assoc, Rat.inv_mul_cancel _ (Rat.ne_of_gt (qN_pos (fact_pos _))), Rat.one_mul]
  have hp' := ordN_perm h6 p hp
  have hn : p.Nodup := hp'.nodup_iff.mpr List.nodup_range
  rw [← perm_sum (hp'.map fun k => got cs m k (ahead p k)), paid_all h0 m0 _ p rfl hn]
  have e : csum cs p = cs.sum := by
    unfold csum
    rw [perm_sum (hp'.map fun j => cs.getD j 0), range_map]
  rw [e]
  unfold pos
  split <;> grind
theorem sum_nnR : ∀ {l : List Rat}, (∀ x ∈ l, 0 ≤ x) → 0 ≤ l.sum
  | [], _ => by simp
  | x :: r, h => by
    have h1 := h x List.mem_cons_self
    have h2 := sum_nnR fun y hy => h y (List.mem_cons_of_mem _ hy)
    rw [List.sum_cons]
    grind
theorem div_nn {x : Rat} {n : Nat} (h : 0 < n) (hx : 0 ≤ x) : 0 ≤ x / qN n := by
  refine Rat.not_lt.mp fun hn => ?_
  have := Rat.mul_lt_mul_of_pos_right hn (qN_pos h)
  rw [div_mul_qN h, Rat.zero_mul] at this
  grind
theorem div_leN {x c : Rat} {n : Nat} (h : 0 < n) (hx : x ≤ qN n * c) : x / qN n ≤ c := by
  refine Rat.not_lt.mp fun hn => ?_
  have := Rat.mul_lt_mul_of_pos_right hn (qN_pos h)
  rw [div_mul_qN h] at this
  grind
theorem ordR_in {cs : List Rat} {m : Rat} (h6 : cs.length ≤ 6) (h0 : ∀ k, 0 ≤ cs.getD k 0) {k : Nat} {q : Rat} (e : (ordR cs m)[k]? = some q) : 0 ≤ q ∧ q ≤ cs.getD k 0 := by
  have hk : k < cs.length := by have := (List.getElem?_eq_some_iff.mp e).1; rwa [ordR_len] at this
  rw [ordR_get hk] at e
  cases e
  refine ⟨div_nn (fact_pos _) (sum_nnR fun x hx => ?_), div_leN (fact_pos _) ?_⟩
  · obtain ⟨p, hp, rfl⟩ := List.mem_map.mp hx
    exact (got_in h0 m k _).1
  · have := sum_le (l := ordN cs.length) (f := fun p => got cs m k (ahead p k)) (g := fun _ => cs.getD k 0) fun p _ => (got_in h0 m k _).2
    rw [sum_const' (k := cs.getD k 0) fun _ _ => rfl, ordN_len h6] at this
    exact this
theorem pos_on {N : Nat} {x : Rat} (h : On N x) : On N (pos x) := by
  unfold pos
  split
  · exact h
  · exact On.int N 0
theorem csum_on {N : Nat} {cs : List Rat} (hc : ∀ c ∈ cs, On N c) (S : List Nat) : On N (csum cs S) := On.sum fun x hx => by
  obtain ⟨j, _, rfl⟩ := List.mem_map.mp hx
  rw [List.getD_eq_getElem?_getD]
  cases e : cs[j]? with
  | none => exact On.int N 0
  | some c => exact hc c (List.mem_of_getElem? e)
theorem got_on {N : Nat} {cs : List Rat} {m : Rat} (hc : ∀ c ∈ cs, On N c) (hm : On N m) (k : Nat) (S : List Nat) : On N (got cs m k S) := by
  unfold got cap
  split
  · exact pos_on (hm.sub (csum_on hc S))
  · have := csum_on hc [k]
    unfold csum at this
    simp only [List.map_cons, List.map_nil, List.sum_cons, List.sum_nil] at this
    rwa [Rat.add_zero] at this
theorem dvd720 {n : Nat} (h : n ≤ 6) : fact n ∣ 720 := by
  have : n = 0 ∨ n = 1 ∨ n = 2 ∨ n = 3 ∨ n = 4 ∨ n = 5 ∨ n = 6 := by omega
  rcases this with rfl | rfl | rfl | rfl | rfl | rfl | rfl <;> decide
theorem ordR_on {N : Nat} {cs : List Rat} {m : Rat} (h6 : cs.length ≤ 6) (hc : ∀ c ∈ cs, On N c) (hm : On N m) : ∀ q ∈ ordR cs m, On (N * 720) q := fun q hq => by
  obtain ⟨k, hk, rfl⟩ := List.mem_map.mp hq
  refine (On.part (N := N) (n := fact cs.length) (On.sum fun x hx => ?_) (div_mul_qN (fact_pos _))).dvd (Nat.mul_dvd_mul_left N (dvd720 h6))
  obtain ⟨p, _, rfl⟩ := List.mem_map.mp hx
  exact got_on hc hm k _
/-! ### losses, shares, halves -/
abbrev lessL (cs qs : List Rat) : List Rat := List.zipWith (fun c q => c - q) cs qs
theorem lessL_sum : ∀ {cs qs : List Rat}, cs.length = qs.length → (lessL cs qs).sum = cs.sum - qs.sum
  | [], [], _ => by simp [lessL]; grind
  | c :: cs, q :: qs, h => by
    have ih := lessL_sum (cs := cs) (qs := qs) (by simpa using h)
    simp only [lessL, List.zipWith_cons_cons, List.sum_cons] at ih ⊢
    rw [ih]
    grind
  | [], _ :: _, h => by simp at h
  | _ :: _, [], h => by simp at h
theorem lessL_get {cs ls : List Rat} {i : Nat} {c q : Rat} (h : cs[i]? = some c) (e : (lessL cs ls)[i]? = some q) : ∃ l, ls[i]? = some l ∧ q = c - l := by
  rw [List.getElem?_zipWith, h] at e
  cases hl : ls[i]? with
  | none => rw [hl] at e; cases e
  | some l => rw [hl] at e; exact ⟨l, rfl, (Option.some.inj e).symm⟩
theorem lessL_mem {cs ls : List Rat} {q : Rat} (h : q ∈ lessL cs ls) : ∃ (i : Nat) (c l : Rat), cs[i]? = some c ∧ ls[i]? = some l ∧ q = c - l := by
  obtain ⟨i, hi, e⟩ := List.getElem_of_mem h
  have hl : i < cs.length ∧ i < ls.length := by
    rw [List.length_zipWith] at hi
    omega
  refine ⟨i, cs[i], ls[i], List.getElem?_eq_getElem hl.1, List.getElem?_eq_getElem hl.2, ?_⟩
  rw [← e, List.getElem_zipWith]
theorem lessL_len {cs ls : List Rat} (h : ls.length = cs.length) : (lessL cs ls).length = cs.length := by rw [List.length_zipWith]; omega
noncomputable def lossesR (cs : List Rat) (m : Rat) : List Rat := lessL cs (evenR cs (cs.sum - m))
noncomputable def sharesR (cs : List Rat) (m : Rat) : List Rat := cs.map fun c => c * (if cs.sum = 0 then 0 else m / cs.sum)
abbrev halvL (cs : List Rat) : List Rat := cs.map fun c => c / 2
noncomputable def halvesR (cs : List Rat) (m : Rat) : List Rat := if (halvL cs).sum < m then lessL cs (evenR (halvL cs) (cs.sum - m)) else evenR (halvL cs) m
noncomputable def awR (r : Str) (cs : List Rat) (m : Rat) : List Rat :=
  if r = "even" then evenR cs m else if r = "losses" then lossesR cs m else if r = "shares" then sharesR cs m else if r = "halves" then halvesR cs m else ordR cs m
theorem awR_even (cs : List Rat) (m : Rat) : awR "even" cs m = evenR cs m := if_pos rfl
theorem awR_losses (cs : List Rat) (m : Rat) : awR "losses" cs m = lossesR cs m := by unfold awR; rw [if_neg (by decide +kernel)]; exact if_pos rfl
theorem awR_shares (cs : List Rat) (m : Rat) : awR "shares" cs m = sharesR cs m := by unfold awR; rw [if_neg (by decide +kernel), if_neg (by decide +kernel)]; exact if_pos rfl
theorem awR_halves (cs : List Rat) (m : Rat) : awR "halves" cs m = halvesR cs m := by unfold awR; rw [if_neg (by decide +kernel), if_neg (by decide +kernel), if_neg (by decide +kernel)]; exact if_pos rfl
theorem awR_orders (cs : List Rat) (m : Rat) : awR "orders" cs m = ordR cs m := by unfold awR; rw [if_neg (by decide +kernel), if_neg (by decide +kernel), if_neg (by decide +kernel), if_neg (by decide +kernel)]
abbrev RULES : List Str := ["even", "losses", "shares", "halves", "orders"]
theorem rule_cases {r : Str} (h : r ∈ RULES) : r = "even" ∨ r = "losses" ∨ r = "shares" ∨ r = "halves" ∨ r = "orders" := by
  simpa using h
/-- awards: within the claims, the money together -/
structure AwG (cs : List Rat) (m : Rat) (qs : List Rat) : Prop where
  len : qs.length = cs.length
  lo : ∀ q ∈ qs, 0 ≤ q
  hi : ∀ (i : Nat) (c q : Rat), cs[i]? = some c → qs[i]? = some q → q ≤ c
  sum : qs.sum = m
theorem even_aw {cs : List Rat} {m : Rat} {qs : List Rat} (h : Even cs m qs) (h0 : ∀ c ∈ cs, 0 ≤ c) (m0 : 0 ≤ m) : AwG cs m qs := ⟨h.len, even_nn h h0 m0, fun i c q e1 e2 => h.get e1 e2, by obtain ⟨_, _, hs⟩ := h; exact hs⟩
theorem aw_lessL {cs hs ls : List Rat} {k : Rat} (hl : hs.length = cs.length) (hle : ∀ (i : Nat) (c b : Rat), cs[i]? = some c → hs[i]? = some b → b ≤ c) (h : AwG hs k ls) : AwG cs (cs.sum - k) (lessL cs ls) := by
  have el := h.len
  refine ⟨lessL_len (by omega), fun q hq => ?_, fun i c q e1 e2 => ?_, by rw [lessL_sum (by omega), h.sum]⟩
  · obtain ⟨i, c, l, e1, e2, rfl⟩ := lessL_mem hq
    have hi := (List.getElem?_eq_some_iff.mp e1).1
    have e4 : hs[i]? = some hs[i] := List.getElem?_eq_getElem (by omega)
    have := h.hi i _ _ e4 e2
    have := hle i c _ e1 e4
    grind
  · obtain ⟨l, e3, rfl⟩ := lessL_get e1 e2
    have := h.lo l (List.mem_of_getElem? e3)
    grind
theorem sub_sub_self (a b : Rat) : a - (a - b) = b := by grind
theorem sum_div2 : ∀ cs : List Rat, (halvL cs).sum = cs.sum / 2
  | [] => by simp [halvL]; grind
  | c :: r => by
    have ih := sum_div2 r
    simp only [halvL, List.map_cons, List.sum_cons] at ih ⊢
    rw [ih]
    grind
theorem Deal.lack {N : Nat} {cs : List Rat} {m : Rat} (h : Deal N cs m) : Deal N cs (cs.sum - m) := ⟨h.n1, h.n6, h.on, h.c0, h.c1, (On.sum h.on).sub h.hm, by have := h.m1; grind, by have := h.m0; grind, h.hN, h.hB⟩
/-- the same of halves of claims; N may grow -/
structure DealH (N : Nat) (cs : List Rat) (m : Rat) : Prop where
  d : Deal N cs m
  h2 : N * 2 < 2 ^ 60
theorem half_mem {cs : List Rat} {q : Rat} (h : q ∈ halvL cs) : ∃ c ∈ cs, q = c / 2 := by
  obtain ⟨c, hc, rfl⟩ := List.mem_map.mp h
  exact ⟨c, hc, rfl⟩
theorem half_on {N : Nat} {c : Rat} (h : On N c) : On (N * 2) (c / 2) := On.part (n := 2) h (by show c / 2 * ((2 : Int) : Rat) = c; rw [two_cast]; grind)
theorem DealH.half1 {N : Nat} {cs : List Rat} {m : Rat} (h : DealH N cs m) (hs : ¬ (halvL cs).sum < m) : Deal (N * 2) (halvL cs) m :=
  ⟨by rw [List.length_map]; exact h.d.n1, by rw [List.length_map]; exact h.d.n6, fun q hq => by obtain ⟨c, hc, rfl⟩ := half_mem hq; exact half_on (h.d.on c hc), fun q hq => by obtain ⟨c, hc, rfl⟩ := half_mem hq; have := h.d.c0 c hc; grind,
    fun q hq => by obtain ⟨c, hc, rfl⟩ := half_mem hq; have := h.d.c1 c hc; have := h.d.c0 c hc; grind, h.d.hm.mul_nat 2, h.d.m0, Rat.not_lt.mp hs, by have := h.d.hN; omega, h.h2⟩
theorem DealH.half2 {N : Nat} {cs : List Rat} {m : Rat} (h : DealH N cs m) (hs : (halvL cs).sum < m) : Deal (N * 2) (halvL cs) (cs.sum - m) := by
  have hl : DealH N cs (cs.sum - m) := ⟨h.d.lack, h.h2⟩
  refine hl.half1 fun z => ?_
  rw [sum_div2] at hs z
  grind
theorem half_le {cs : List Rat} (h0 : ∀ c ∈ cs, 0 ≤ c) (i : Nat) (c b : Rat) (e1 : cs[i]? = some c) (e2 : (halvL cs)[i]? = some b) : b ≤ c := by
  rw [List.getElem?_map, e1] at e2
  cases e2
  have := h0 c (List.mem_of_getElem? e1)
  grind
theorem aw_up {cs hs qs : List Rat} {m : Rat} (hl : hs.length = cs.length) (hle : ∀ (i : Nat) (c b : Rat), cs[i]? = some c → hs[i]? = some b → b ≤ c) (h : AwG hs m qs) : AwG cs m qs := ⟨h.len.trans hl, h.lo, fun i c q e1 e2 => by
  have hi := (List.getElem?_eq_some_iff.mp e1).1
  have e4 : hs[i]? = some hs[i] := List.getElem?_eq_getElem (by omega)
  exact Rat.le_trans (h.hi i _ _ e4 e2) (hle i c _ e1 e4), h.sum⟩
theorem sum_zeroR : ∀ {cs : List Rat}, (∀ c ∈ cs, 0 ≤ c) → cs.sum = 0 → ∀ c ∈ cs, c = 0
  | [], _, _, c, hc => (List.not_mem_nil hc).elim
  | c :: r, h, hs, x, hx => by
    have h1 := sum_nnR fun x hx => h x (List.mem_cons_of_mem _ hx)
    have h2 := h c List.mem_cons_self
    rw [List.sum_cons] at hs
    rcases List.mem_cons.mp hx with rfl | hm
    · grind
    · exact sum_zeroR (fun x hx => h x (List.mem_cons_of_mem _ hx)) (by grind) x hm
theorem share_part {cs : List Rat} {m : Rat} (h0 : ∀ c ∈ cs, 0 ≤ c) (m0 : 0 ≤ m) (m1 : m ≤ cs.sum) : 0 ≤ (if cs.sum = 0 then 0 else m / cs.sum) ∧ (if cs.sum = 0 then 0 else m / cs.sum) ≤ 1 ∧ cs.sum * (if cs.sum = 0 then 0 else m / cs.sum) = m := by
  have hs := sum_nnR h0
  by_cases h : cs.sum = 0
  · rw [if_pos h, h]
    refine ⟨Rat.le_refl, by decide, ?_⟩
    grind
  · rw [if_neg h]
    have hp : 0 < cs.sum := by grind
    have e : m / cs.sum * cs.sum = m := Rat.div_mul_cancel h
    refine ⟨?_, ?_, by rw [Rat.mul_comm]; exact e⟩
    · refine Rat.not_lt.mp fun hn => ?_
      have := Rat.mul_lt_mul_of_pos_right hn hp
      rw [e, Rat.zero_mul] at this
      grind
    · refine Rat.not_lt.mp fun hn => ?_
      have := Rat.mul_lt_mul_of_pos_right hn hp
      rw [e, Rat.one_mul] at this
      grind
theorem shares_aw {cs : List Rat} {m : Rat} (h0 : ∀ c ∈ cs, 0 ≤ c) (m0 : 0 ≤ m) (m1 : m ≤ cs.sum) : AwG cs m (sharesR cs m) := by
  obtain ⟨p0, p1, ps⟩ := share_part h0 m0 m1
  unfold sharesR
  generalize (if cs.sum = 0 then 0 else m / cs.sum) = k at *
  refine ⟨List.length_map _, fun q hq => ?_, fun i c q e1 e2 => ?_, by rw [sum_mulR k (l := cs), ps]⟩
  · obtain ⟨c, hc, rfl⟩ := List.mem_map.mp hq
    exact Rat.mul_nonneg (h0 c hc) p0
  · rw [List.getElem?_map, e1] at e2
    cases e2
    have := Rat.mul_le_mul_of_nonneg_left p1 (h0 c (List.mem_of_getElem? e1))
    rwa [Rat.mul_one] at this
theorem DealH.aw {N : Nat} {cs : List Rat} {m : Rat} (h : DealH N cs m) {r : Str} (hr : r ∈ RULES) : AwG cs m (awR r cs m) := by
  rcases rule_cases hr with rfl | rfl | rfl | rfl | rfl
  · rw [awR_even]
    exact even_aw h.d.even h.d.c0 h.d.m0
  · rw [awR_losses]
    have := aw_lessL (cs := cs) rfl (fun i c b e1 e2 => by rw [e1] at e2; cases e2; exact Rat.le_refl) (even_aw h.d.lack.even h.d.c0 h.d.lack.m0)
    rwa [sub_sub_self] at this
  · rw [awR_shares]
    exact shares_aw h.d.c0 h.d.m0 h.d.m1
  · rw [awR_halves]
    unfold halvesR
    split
    · rename_i hs
      have h2 := h.half2 hs
      have := aw_lessL (cs := cs) (by rw [List.length_map]) (half_le h.d.c0) (even_aw h2.even h2.c0 h2.m0)
      rwa [sub_sub_self] at this
    · rename_i hs
      have h2 := h.half1 hs
      exact aw_up (by rw [List.length_map]) (half_le h.d.c0) (even_aw h2.even h2.c0 h2.m0)
  · rw [awR_orders]
    refine ⟨ordR_len cs m, fun q hq => ?_, fun i c q e1 e2 => ?_, ordR_sum h.d.n6 h.d.nn h.d.m0 h.d.m1⟩
    · obtain ⟨i, hi, e⟩ := List.getElem_of_mem hq
      exact (ordR_in h.d.n6 h.d.nn (by rw [List.getElem?_eq_getElem hi, e])).1
    · have := (ordR_in h.d.n6 h.d.nn e2).2
      rwa [List.getD_eq_getElem?_getD, e1] at this
theorem lessL_on {N M : Nat} {cs ls : List Rat} (hc : ∀ c ∈ cs, On N c) (hl : ∀ l ∈ ls, On M l) (hd : N ∣ M) : ∀ q ∈ lessL cs ls, On M q := fun q hq => by
  obtain ⟨i, c, l, e1, e2, rfl⟩ := lessL_mem hq
  exact ((hc c (List.mem_of_getElem? e1)).dvd hd).sub (hl l (List.mem_of_getElem? e2))
theorem dvdN {N a : Nat} : N ∣ N * a := ⟨a, rfl⟩
theorem sum_1000 : ∀ {cs : List Rat}, (∀ c ∈ cs, c ≤ 1000) → cs.sum ≤ qN cs.length * 1000
  | [], _ => by show (0 : Rat) ≤ qN 0 * 1000; decide +kernel
  | c :: r, h => by
    have h1 := h c List.mem_cons_self
    have h2 := sum_1000 (cs := r) fun x hx => h x (List.mem_cons_of_mem _ hx)
    rw [List.sum_cons, List.length_cons, qN_add]
    have : qN 1 = 1 := rfl
    rw [this]
    grind
theorem qN_le {a b : Nat} (h : a ≤ b) : qN a ≤ qN b := cast_le.mpr (by omega)
theorem Deal.s6 {N : Nat} {cs : List Rat} {m : Rat} (h : Deal N cs m) : cs.sum ≤ 6000 := by
  have h1 := sum_1000 h.c1
  have h2 := Rat.mul_le_mul_of_nonneg_right (qN_le h.n6) (show (0 : Rat) ≤ 1000 by decide)
  have : qN 6 * 1000 = 6000 := by decide +kernel
  grind
/-- of how many parts what a rule gives is -/
theorem DealH.on {N : Nat} {cs : List Rat} {m : Rat} (h : DealH N cs m) {r : Str} (hr : r ∈ RULES) : ∃ M, N ∣ M ∧ 0 < M ∧ M ≤ N * (720 + 6000 * N) ∧ ∀ q ∈ awR r cs m, On M q := by
  have hN := h.d.hN
  rcases rule_cases hr with rfl | rfl | rfl | rfl | rfl
  · rw [awR_even]
    exact ⟨N * 60, dvdN, by omega, Nat.mul_le_mul_left N (by omega), even_on h.d.even h.d.n6 h.d.on h.d.hm⟩
  · rw [awR_losses]
    exact ⟨N * 60, dvdN, by omega, Nat.mul_le_mul_left N (by omega), lessL_on h.d.on (even_on h.d.lack.even h.d.n6 h.d.on h.d.lack.hm) dvdN⟩
  · rw [awR_shares]
    unfold sharesR
    by_cases hs : cs.sum = 0
    · refine ⟨N * 1, dvdN, by omega, Nat.mul_le_mul_left N (by omega), fun q hq => ?_⟩
      obtain ⟨c, hc, rfl⟩ := List.mem_map.mp hq
      rw [if_pos hs, Rat.mul_zero]
      exact On.int _ 0
    · obtain ⟨z, hz⟩ := On.sum h.d.on
      have hs0 := sum_nnR h.d.c0
      have hp : 0 < cs.sum := by grind
      have hz0 : 0 < z := by
        rw [← cpos, ← hz]
        exact Rat.mul_pos hp (cpos.mpr (by omega))
      have hz1 : z ≤ 6000 * N := by
        rw [← cast_le, ← hz, Rat.intCast_mul]
        exact Rat.mul_le_mul_of_nonneg_right (h.d.s6) (qN_nn N)
      have hzn : (z.toNat : Int) = z := Int.toNat_of_nonneg (by omega)
      refine ⟨N * z.toNat, dvdN, Nat.mul_pos hN (by omega), Nat.mul_le_mul_left N (by omega), fun q hq => ?_⟩
      obtain ⟨c, hc, rfl⟩ := List.mem_map.mp hq
      rw [if_neg hs]
      obtain ⟨x, hx⟩ := h.d.on c hc
      obtain ⟨y, hy⟩ := h.d.hm
      refine ⟨x * y, ?_⟩
      rw [natI_mul, hzn, ← hz, Rat.intCast_mul, ← hx, ← hy]
      have e : m / cs.sum * cs.sum = m := Rat.div_mul_cancel hs
      grind
  · rw [awR_halves]
    unfold halvesR
    have e : N * 120 = N * 2 * 60 := by omega
    split
    · rename_i hs
      have h2 := h.half2 hs
      exact ⟨N * 120, dvdN, by omega, Nat.mul_le_mul_left N (by omega), lessL_on h.d.on (by rw [e]; exact even_on h2.even h2.n6 h2.on h2.hm) dvdN⟩
    · rename_i hs
      have h2 := h.half1 hs
      exact ⟨N * 120, dvdN, by omega, Nat.mul_le_mul_left N (by omega), by rw [e]; exact even_on h2.even h2.n6 h2.on h2.hm⟩
  · rw [awR_orders]
    exact ⟨N * 720, dvdN, by omega, Nat.mul_le_mul_left N (by omega), ordR_on h.d.n6 h.d.on h.d.hm⟩
theorem AwG.le_1000 {cs qs : List Rat} {m : Rat} (h : AwG cs m qs) (hc : ∀ c ∈ cs, c ≤ 1000) : ∀ q ∈ qs, q ≤ 1000 := fun q hq => by
  obtain ⟨i, hi, e⟩ := List.getElem_of_mem hq
  have hl := h.len
  have e1 : cs[i]? = some cs[i] := List.getElem?_eq_getElem (by omega)
  exact Rat.le_trans (h.hi i _ _ e1 (by rw [List.getElem?_eq_getElem hi, e])) (hc _ (List.mem_of_getElem? e1))
theorem DealH.bd {N : Nat} {cs : List Rat} {m : Rat} (h : DealH N cs m) {r : Str} (hr : r ∈ RULES) : ∀ q ∈ awR r cs m, Bd 160 q := fun q hq => by
  obtain ⟨M, _, hM, hM1, hon⟩ := h.on hr
  have hA := h.aw hr
  have hB := h.d.hB
  have h3 : N * (720 + 6000 * N) ≤ 2 ^ 60 * (720 + 6000 * 2 ^ 60) := Nat.mul_le_mul (by omega) (by omega)
  have h4 : (2 : Nat) ^ 60 * (720 + 6000 * 2 ^ 60) < 2 ^ 140 := by decide
  refine (hon q hq).bd hM (b := 1000) (hA.lo q hq) (hA.le_1000 h.d.c1 q hq) (k := 160) (by omega) (by omega)
end DL

/-! DSp: what the defs of rules promise, over fractions; tools of walks. -/
namespace DL
open PySem PySem.Spec PyProof.Rows L2
/-! ### tools -/
theorem iteI {c : Prop} [Decidable c] {a b : Prop} (h1 : c → a) (h2 : ¬ c → b) : if c then a else b := by
  by_cases h : c
  · rw [if_pos h]; exact h1 h
  · rw [if_neg h]; exact h2 h
/-- a loop's items first, its body untouched -/
theorem forI {A : M (List D)} {mg : D → (DEnv → Prop) → DEnv → Prop} {mb : MS} {κ : DK} {E E' : DX → Prop} {ρ : DEnv} (h : ∀ F : List D → Prop, (∀ items, forW mg mb κ E items ρ → F items) → A F E') : A (fun items => forW mg mb κ E items ρ) E' := h _ fun _ h => h
/-- a condition first, its branches untouched -/
theorem ifI {A : M Bool} {P R : Prop} {E : DX → Prop} (h : ∀ F : Bool → Prop, (P → F true) → (R → F false) → A F E) : A (fun q => if q = true then P else R) E := h _ (fun p => by rw [if_pos rfl]; exact p) fun r => by rw [if_neg (by decide)]; exact r
theorem nameI {i : Nat} {d : D} {k : DEnv → Prop} {ρ : DEnv} (h : k (ρ.set i (some d))) : mgName i d k ρ := h
theorem tup2I {i j : Nat} {a b : D} {k : DEnv → Prop} {ρ : DEnv} (h : k ((ρ.set i (some a)).set j (some b))) : mgTup 2 (mgCons i (mgCons j mgNil)) (.tup [a, b]) k ρ := ⟨rfl, h⟩
theorem tup3I {i j l : Nat} {a b c : D} {k : DEnv → Prop} {ρ : DEnv} (h : k (((ρ.set i (some a)).set j (some b)).set l (some c))) : mgTup 3 (mgCons i (mgCons j (mgCons l mgNil))) (.tup [a, b, c]) k ρ := ⟨rfl, h⟩
theorem lcW_enc {mg : D → (DEnv → Prop) → DEnv → Prop} {me : DEnv → M D} {ρ : DEnv} {Q : List D → Prop} {α β : Type} (enc : α → D) (enc' : β → D) (g : α → β) (xs : List α) (acc : List D) (h : ∀ x ∈ xs, ∀ k : D → Prop, k (enc' (g x)) → mg (enc x) (fun ρ' => me ρ' k fun _ => False) ρ) (hq : Q (acc ++ (xs.map g).map enc')) :
    lcW mg (fun _ => DL.ret true) me ρ acc (xs.map enc) Q := by
  induction xs generalizing acc with
  | nil => simpa [lcW] using hq
  | cons x r ih =>
    have go : lcW mg (fun _ => DL.ret true) me ρ (acc ++ [enc' (g x)]) (r.map enc) Q := ih _ (fun y hy => h y (List.mem_cons_of_mem _ hy)) (by simpa using hq)
    have := h x List.mem_cons_self (fun v => lcW mg (fun _ => DL.ret true) me ρ (acc ++ [v]) (r.map enc) Q) go
    rw [List.map_cons]
    unfold lcW
    exact this
theorem zipD_enc {α β : Type} (f : α → D) (g : β → D) : ∀ (xs : List α) (ys : List β), zipD (xs.map f) (ys.map g) = (xs.zip ys).map fun p => .tup [f p.1, g p.2]
  | [], ys => by simp [zipD]
  | x :: xs, [] => by simp [zipD]
  | x :: xs, y :: ys => by
    have ih := zipD_enc f g xs ys
    unfold zipD at ih ⊢
    simp [ih]
theorem zip_less (cs ls : List Rat) : (cs.zip ls).map (fun p => p.1 - p.2) = lessL cs ls := by
  unfold lessL
  rw [List.zip_eq_zipWith, List.map_zipWith]
theorem mem_zip {α β : Type} {xs : List α} {ys : List β} {p : α × β} (h : p ∈ xs.zip ys) : p.1 ∈ xs ∧ p.2 ∈ ys := by
  cases p with
  | mk a b => exact ⟨List.of_mem_zip h |>.1, List.of_mem_zip h |>.2⟩
theorem rangeD0 (n : Nat) : rangeD 0 n = (List.range n).map fun (k : Nat) => D.int (k : Int) := by
  unfold rangeD
  exact List.map_congr_left fun i _ => by rw [Int.zero_add]
theorem atI_mapN {α : Type} {f : α → D} {xs : List α} {i : Nat} {x : α} (h : xs[i]? = some x) : atI (xs.map f) (i : Int) = some (f x) := by
  have := atI_map (f := f) h
  rwa [Int.zero_add] at this
theorem mAll_map {bs : List Bool} {Q : D → Prop} {E : DX → Prop} : mAll (.lst (bs.map D.bl)) Q E = Q (.bl (bs.all _root_.id)) := by
  show (match blsOf (bs.map D.bl) with | some bs => Q (.bl (bs.all _root_.id)) | none => False) = _
  rw [blsOf_map]
/-- a loop over coded items -/
theorem forW_enc {α : Type} {enc : α → D} {mg : D → (DEnv → Prop) → DEnv → Prop} {mb : MS} {κ : DK} {E : DX → Prop} (I : Nat → DEnv → Prop) (xs : List α) (ρ : DEnv) (h0 : I 0 ρ)
    (hs : ∀ i x ρ (k : DEnv → Prop), xs[i]? = some x → I i ρ → (∀ ρ', I (i + 1) ρ' → k ρ') → mg (enc x) (mb { nx := k, rt := κ.rt, bk := κ.nx, ct := k } E) ρ) (he : ∀ ρ, I xs.length ρ → κ.nx ρ) : forW mg mb κ E (xs.map enc) ρ := by
  refine forW_ind I (xs.map enc) 0 ρ h0 (fun i d ρ k hi hI hk => ?_) fun ρ h => he ρ (by simpa using h)
  rw [List.getElem?_map] at hi
  cases e : xs[i]? with
  | none => rw [e] at hi; cases hi
  | some x =>
    rw [e] at hi
    cases hi
    rw [Nat.zero_add] at hI hk
    exact hs i x ρ k e hI hk
theorem filter_enc {mg : D → (DEnv → Prop) → DEnv → Prop} {mc : DEnv → M Bool} {me : DEnv → M D} {ρ : DEnv} {Q : List D → Prop} {α : Type} {f g : α → D} {p : α → Bool} : ∀ (items : List α) (acc : List D), (∀ x ∈ items, ∀ k : DEnv → Bool → Prop, ∀ ke : DEnv → D → Prop, (∀ ρ', (∀ e : D → Prop, e (g x) → me ρ' e fun _ => False) → k ρ' (p x)) → mg (f x) (fun ρ' => mc ρ' (k ρ') fun _ => False) ρ) → Q (acc ++ (items.filter p).map g) →
    lcW mg mc me ρ acc (items.map f) Q
  | [], acc, _, hq => by simpa [lcW] using hq
  | x :: r, acc, h, hq => by
    rw [List.map_cons]
    unfold lcW
    refine h x List.mem_cons_self (fun ρ' b => if b = true then me ρ' (fun y => lcW mg mc me ρ (acc ++ [y]) (r.map f) Q) (fun _ => False) else lcW mg mc me ρ acc (r.map f) Q) (fun _ _ => True) fun ρ' he => ?_
    cases hp : p x with
    | true =>
      rw [if_pos rfl]
      refine he _ ?_
      refine filter_enc (p := p) (g := g) r _ (fun y hy => h y (List.mem_cons_of_mem _ hy)) ?_
      rw [List.filter_cons_of_pos hp, List.map_cons] at hq
      simpa using hq
    | false =>
      rw [if_neg (by decide)]
      refine filter_enc (p := p) (g := g) r _ (fun y hy => h y (List.mem_cons_of_mem _ hy)) ?_
      rwa [List.filter_cons_of_neg (by simp [hp])] at hq
/-! ### parts -/
theorem mul_den (q : Rat) : q * ((q.den : Int) : Rat) = ((q.num : Int) : Rat) := by
  have h : q = Rat.divInt q.num q.den := (Rat.num_divInt_den q).symm
  have hp : (0 : Rat) < ((q.den : Int) : Rat) := by rw [← zero_cast, Rat.intCast_lt_intCast]; exact nn_of
  conv => lhs; lhs; rw [h, Rat.divInt_eq_div]
  exact Rat.div_mul_cancel (Rat.ne_of_gt hp)
theorem On.den {N : Nat} {q : Rat} (h : On N q) (hN : 0 < N) : q.den ∣ N := by
  obtain ⟨x, hx⟩ := h
  have hp : (0 : Rat) < ((N : Int) : Rat) := cpos.mpr (by omega)
  have e : q = Rat.divInt x N := by rw [Rat.divInt_eq_div, ← hx, Rat.mul_div_cancel (Rat.ne_of_gt hp)]
  rw [e, Rat.den_divInt, if_neg (by omega)]
  have : ((N : Int).natAbs) = N := rfl
  rw [this]
  exact Nat.div_dvd_of_dvd (by
    have : ((Int.gcd N x : Nat) : Int) ∣ N := Int.gcd_dvd_left _ _
    exact Int.natCast_dvd_natCast.mp this)
theorem On.of_den {q : Rat} {N : Nat} (h : q.den ∣ N) : On N q := (show On q.den q from ⟨q.num, mul_den q⟩).dvd h
def wh (B : Nat) (q : Rat) : Int := q.num * ((B : Int) / (q.den : Int))
theorem wh_eq {B : Nat} {q : Rat} (h : q.den ∣ B) : ((wh B q : Int) : Rat) = q * ((B : Int) : Rat) := by
  obtain ⟨t, rfl⟩ := h
  unfold wh
  have h0 : (q.den : Int) ≠ 0 := den_ne q
  rw [Int.natCast_mul, Int.mul_ediv_cancel_left _ h0, Rat.intCast_mul, ← mul_den, Rat.intCast_mul, Rat.mul_assoc]
theorem cap_mul {l c b : Rat} (hb : 0 < b) : cap (l * b) (c * b) = cap l c * b := by
  unfold cap
  by_cases h : l < c
  · rw [if_pos h, if_pos ((Rat.mul_lt_mul_right hb).mpr h)]
  · rw [if_neg h, if_neg fun z => h ((Rat.mul_lt_mul_right hb).mp z)]
theorem level_res {cs : List Rat} {m : Rat} {B : Nat} {rows : List Int} {i : Nat} {r L Z : Int} (hB : 0 < B) (hd : ∀ c ∈ cs, c.den ∣ B) (hm : m.den ∣ B) (hp : rows.Perm (cs.map (wh B))) (hs : rows.Pairwise fun x y => x ≤ y) (hr : rows[i]? = some r) (hlo : ∀ x ∈ rows.take i, x ≤ L) (hL : L ≤ r) (L0 : 0 ≤ L) (Z0 : 0 ≤ Z)
    (hZ : Z = wh B m - (rows.take i).sum - ((rows.length : Int) - i) * L) (hge : Z ≤ ((rows.length : Int) - i) * (r - L)) (h6 : rows.length ≤ 6) :
    ∃ l, l = Rat.divInt (L * ((rows.length : Int) - i) + Z) (((rows.length : Int) - i) * B) ∧ (cs.map (cap l)).sum = m ∧ 0 ≤ l ∧ ∃ c ∈ cs, l ≤ c := by
  have hi := (List.getElem?_eq_some_iff.mp hr).1
  generalize hn' : (rows.length : Int) - i = n at *
  have hn1 : 1 ≤ n ∧ n ≤ 6 := by omega
  have hnq : (0 : Rat) < (n : Rat) := by rw [← zero_cast, Rat.intCast_lt_intCast]; omega
  have hBq : (0 : Rat) < ((B : Int) : Rat) := by rw [← zero_cast, Rat.intCast_lt_intCast]; omega
  have hne : (((n * B : Int)) : Rat) ≠ 0 := by
    rw [Rat.intCast_mul]
    exact Rat.ne_of_gt (Rat.mul_pos hnq hBq)
  refine ⟨_, rfl, ?_⟩
  generalize hl : Rat.divInt (L * n + Z) (n * (B : Int)) = l
  have el : l * ((B : Int) : Rat) * (n : Rat) = ((L * n + Z : Int) : Rat) := by
    rw [← hl, Rat.divInt_eq_div, Rat.mul_assoc, Rat.mul_comm ((B : Int) : Rat), ← Rat.intCast_mul, Rat.div_mul_cancel hne]
  have lev := level_ok (l := l * ((B : Int) : Rat)) hr hs hlo hL Z0 (by rw [hn']; exact hge) (by rw [hn']; exact el)
  rw [hn', show (rows.take i).sum + n * L + Z = wh B m by omega, wh_eq hm] at lev
  have e1 : (rows.map fun (x : Int) => cap (l * ((B : Int) : Rat)) (x : Rat)).sum = (cs.map (cap l)).sum * ((B : Int) : Rat) := by
    rw [perm_sum (hp.map _), List.map_map, ← sum_mulR, List.map_map]
    refine congrArg _ (List.map_congr_left fun c hc => ?_)
    simp only [Function.comp]
    rw [wh_eq (hd c hc), cap_mul hBq]
  have hk0 : 0 ≤ L * n + Z := by
    have := Int.mul_nonneg L0 (show 0 ≤ n by omega)
    omega
  have hl0 : 0 ≤ l := by
    refine Rat.not_lt.mp fun h => ?_
    have h1 := Rat.mul_lt_mul_of_pos_right (Rat.mul_lt_mul_of_pos_right h hBq) hnq
    rw [el, Rat.zero_mul, Rat.zero_mul, ← zero_cast, Rat.intCast_lt_intCast] at h1
    omega
  refine ⟨?_, hl0, ?_⟩
  · rw [e1] at lev
    have h2 : ((cs.map (cap l)).sum - m) * ((B : Int) : Rat) = 0 := by grind
    rcases Rat.mul_eq_zero.mp h2 with h | h
    · grind
    · exact absurd h (Rat.ne_of_gt hBq)
  · obtain ⟨c, hcm, ec⟩ := List.mem_map.mp (hp.mem_iff.mp (List.mem_of_getElem? hr))
    have h3 := wh_eq (hd c hcm)
    rw [ec] at h3
    refine ⟨c, hcm, Rat.not_lt.mp fun h5 => ?_⟩
    have h6 := Rat.mul_lt_mul_of_pos_right (Rat.mul_lt_mul_of_pos_right h5 hBq) hnq
    rw [el, ← h3, ← Rat.intCast_mul, Rat.intCast_lt_intCast] at h6
    have e : n * (r - L) = r * n - L * n := by rw [Int.mul_sub, Int.mul_comm n r, Int.mul_comm n L]
    omega
theorem rows_after {rows : List Int} {i : Nat} {r : Int} (hr : rows[i]? = some r) (hs : rows.Pairwise fun x y => x ≤ y) : ∀ x ∈ rows.drop (i + 1), r ≤ x := fun x hx => by
  have hi := (List.getElem?_eq_some_iff.mp hr).1
  obtain ⟨k, hk, e⟩ := List.getElem_of_mem hx
  rw [List.getElem_drop] at e
  have hk2 : i + 1 + k < rows.length := by rw [List.length_drop] at hk; omega
  have er : rows[i] = r := by rw [List.getElem?_eq_getElem hi] at hr; exact Option.some.inj hr
  rw [← e, ← er]
  exact List.pairwise_iff_getElem.mp hs i (i + 1 + k) hi hk2 (by omega)
/-- the least level -/
theorem level_least {cs : List Rat} {m l l' : Rat} (h : (cs.map (cap l)).sum = m) (hc : ∃ c ∈ cs, l ≤ c) (h' : (cs.map (cap l')).sum = m) : l ≤ l' := by
  refine Rat.not_lt.mp fun hlt => ?_
  obtain ⟨c, hcm, hlc⟩ := hc
  have := sum_eq (l := cs) (f := cap l') (g := cap l) (fun x _ => cap_mono (Rat.le_of_lt hlt) x) (by rw [h, h']) c hcm
  rw [cap_hi hlc, cap_hi (Rat.le_trans (Rat.le_of_lt hlt) hlc)] at this
  grind
/-! ### orders, in whole numbers -/
def csumI (zs : List Int) (S : List Nat) : Int := (S.map fun j => zs.getD j 0).sum
def posI (x : Int) : Int := if 0 < x then x else 0
def gotI (zs : List Int) (M : Int) (k : Nat) (S : List Nat) : Int := if zs.getD k 0 < posI (M - csumI zs S) then zs.getD k 0 else posI (M - csumI zs S)
theorem csumI_cast {cs : List Rat} {B : Nat} (hd : ∀ c ∈ cs, c.den ∣ B) (S : List Nat) : ((csumI (cs.map (wh B)) S : Int) : Rat) = csum cs S * ((B : Int) : Rat) := by
  unfold csumI csum
  rw [← cast_sum, List.map_map, ← sum_mulR, List.map_map]
  refine congrArg _ (List.map_congr_left fun j _ => ?_)
  simp only [Function.comp]
  rw [List.getD_eq_getElem?_getD, List.getD_eq_getElem?_getD, List.getElem?_map]
  cases e : cs[j]? with
  | none =>
    show ((0 : Int) : Rat) = 0 * _
    rw [Rat.zero_mul]; rfl
  | some c => exact wh_eq (hd c (List.mem_of_getElem? e))
theorem getI_cast {cs : List Rat} {B : Nat} (hd : ∀ c ∈ cs, c.den ∣ B) (k : Nat) : (((cs.map (wh B)).getD k 0 : Int) : Rat) = cs.getD k 0 * ((B : Int) : Rat) := by
  rw [List.getD_eq_getElem?_getD, List.getD_eq_getElem?_getD, List.getElem?_map]
  cases e : cs[k]? with
  | none =>
    show ((0 : Int) : Rat) = 0 * _
    rw [Rat.zero_mul]; rfl
  | some c => exact wh_eq (hd c (List.mem_of_getElem? e))
theorem posI_cast (x : Int) : ((posI x : Int) : Rat) = pos (x : Rat) := by
  unfold posI pos
  by_cases h : 0 < x
  · rw [if_pos h, if_pos (cpos.mpr h)]
  · rw [if_neg h, if_neg fun z => h (cpos.mp z)]; rfl
theorem pos_mul {x b : Rat} (hb : 0 < b) : pos (x * b) = pos x * b := by
  unfold pos
  by_cases h : 0 < x
  · rw [if_pos h, if_pos (Rat.mul_pos h hb)]
  · rw [if_neg h, Rat.zero_mul, if_neg fun z => h ?_]
    refine Rat.not_le.mp fun hx => ?_
    have := Rat.mul_le_mul_of_nonneg_right hx (Rat.le_of_lt hb)
    rw [Rat.zero_mul] at this
    exact Rat.not_lt.mpr this z
theorem gotI_cast {cs : List Rat} {m : Rat} {B : Nat} (hB : 0 < B) (hd : ∀ c ∈ cs, c.den ∣ B) (hm : m.den ∣ B) (k : Nat) (S : List Nat) : ((gotI (cs.map (wh B)) (wh B m) k S : Int) : Rat) = got cs m k S * ((B : Int) : Rat) := by
  have hBq : (0 : Rat) < ((B : Int) : Rat) := cpos.mpr (by omega)
  have e1 : ((posI (wh B m - csumI (cs.map (wh B)) S) : Int) : Rat) = pos (m - csum cs S) * ((B : Int) : Rat) := by
    rw [posI_cast, Rat.intCast_sub, wh_eq hm, csumI_cast hd, ← pos_mul hBq]
    congr 1
    grind
  have e2 := getI_cast hd k
  have e3 : got cs m k S * ((B : Int) : Rat) = cap (pos (m - csum cs S) * ((B : Int) : Rat)) (cs.getD k 0 * ((B : Int) : Rat)) := (cap_mul hBq).symm
  rw [e3, ← e1, ← e2]
  unfold gotI cap
  by_cases h1 : (cs.map (wh B)).getD k 0 < posI (wh B m - csumI (cs.map (wh B)) S)
  · rw [if_pos h1, if_neg (by rw [Rat.intCast_lt_intCast]; omega)]
  · rw [if_neg h1]
    by_cases h2 : posI (wh B m - csumI (cs.map (wh B)) S) < (cs.map (wh B)).getD k 0
    · rw [if_pos (Rat.intCast_lt_intCast.mpr h2)]
    · rw [if_neg fun z => h2 (Rat.intCast_lt_intCast.mp z)]
      congr 1
      omega
theorem getD_all {α : Type} (l : List α) (d : α) : (List.range l.length).map (fun i => l.getD i d) = l := by
  refine List.ext_getElem (by simp) fun i h1 h2 => ?_
  rw [List.getElem_map, List.getElem_range, List.getD_eq_getElem?_getD, List.getElem?_eq_getElem h2]
  rfl
theorem perm_items {n : Nat} (hn : n ≤ 6) : PermOk ((List.range n).map fun (k : Nat) => D.int (k : Int)).length n (fact n) ∧ permD ((List.range n).map fun (k : Nat) => D.int (k : Int)) n (fact n) = (ordN n).map fun p => D.tup (p.map fun (j : Nat) => D.int (j : Int)) := by
  obtain ⟨h1, h2⟩ := ordN_ok hn
  have hl : ((List.range n).map fun (k : Nat) => D.int (k : Int)).length = n := by simp
  refine ⟨by rw [hl]; exact h1, ?_⟩
  unfold permD
  rw [hl]
  have hln := ordN_len hn
  conv => rhs; rw [← getD_all (ordN n) []]
  rw [List.map_map, hln]
  refine List.map_congr_left fun i hi => ?_
  have hi := List.mem_range.mp hi
  simp only [Function.comp]
  rw [h2 i hi]
  congr 1
  unfold pickD
  refine List.map_congr_left fun j hj => ?_
  have hm : (ordN n).getD i [] ∈ ordN n := by
    rw [List.getD_eq_getElem?_getD, List.getElem?_eq_getElem (by omega)]
    exact List.getElem_mem _
  have hjn := List.mem_range.mp ((ordN_perm hn _ hm).mem_iff.mp hj)
  rw [List.getD_eq_getElem?_getD, List.getElem?_map, List.getElem?_range hjn]
  rfl
theorem range_set {n j : Nat} {G G' : Nat → D} {v : D} (hv : G' j = v) (h : ∀ k, k < n → k ≠ j → G' k = G k) : ((List.range n).map G).set j v = (List.range n).map G' := by
  refine List.ext_getElem (by simp) fun i h1 h2 => ?_
  rw [List.getElem_set]
  have hi : i < n := by simpa using h2
  by_cases e : j = i
  · subst e
    rw [if_pos rfl]
    simp [hv]
  · rw [if_neg e]
    simp [h i hi (Ne.symm e)]
theorem ord_low {cs : List Rat} {m : Rat} {B : Nat} (hB : 0 < B) (hd : ∀ c ∈ cs, c.den ∣ B) (hm : m.den ∣ B) (k : Nat) : Rat.divInt (((ordN cs.length).map fun p => gotI (cs.map (wh B)) (wh B m) k (ahead p k)).sum) ((fact cs.length : Int) * (B : Int)) = ((ordN cs.length).map fun p => got cs m k (ahead p k)).sum / qN (fact cs.length) := by
  have hBq : (0 : Rat) < ((B : Int) : Rat) := cpos.mpr (by omega)
  have hF := qN_pos (fact_pos cs.length)
  have e : ((((ordN cs.length).map fun p => gotI (cs.map (wh B)) (wh B m) k (ahead p k)).sum : Int) : Rat) = ((ordN cs.length).map fun p => got cs m k (ahead p k)).sum * ((B : Int) : Rat) := by
    rw [← cast_sum, List.map_map, ← sum_mulR, List.map_map]
    exact congrArg _ (List.map_congr_left fun p _ => gotI_cast hB hd hm k _)
  rw [Rat.divInt_eq_div, e, Rat.intCast_mul]
  generalize ((ordN cs.length).map fun p => got cs m k (ahead p k)).sum = x
  show x * ((B : Int) : Rat) / (qN (fact cs.length) * ((B : Int) : Rat)) = _
  generalize ((B : Int) : Rat) = b at hBq
  have e2 : x / qN (fact cs.length) * (qN (fact cs.length) * b) = x * b := by
    rw [← Rat.mul_assoc, div_mul_qN (fact_pos _)]
  rw [← e2, Rat.mul_div_cancel (Rat.ne_of_gt (Rat.mul_pos hF hBq))]
theorem csumI_snoc (zs : List Int) (p : List Nat) (k : Nat) : csumI zs (p ++ [k]) = csumI zs p + zs.getD k 0 := by
  unfold csumI
  rw [List.map_append, List.sum_append, List.map_cons, List.map_nil, List.sum_cons]
  simp
theorem posI_step {zs : List Int} {M : Int} {k : Nat} {S : List Nat} (hz : 0 ≤ zs.getD k 0) : posI (M - csumI zs S) - gotI zs M k S = posI (M - csumI zs (S ++ [k])) := by
  rw [csumI_snoc]
  unfold gotI posI
  split <;> split <;> split <;> omega
theorem take_ahead {p : List Nat} {t j : Nat} (hn : p.Nodup) (h : p[t]? = some j) : ahead p j = p.take t ∧ j ∉ p.take t ∧ p.take (t + 1) = p.take t ++ [j] := by
  have ht := (List.getElem?_eq_some_iff.mp h).1
  have e2 : p.take (t + 1) = p.take t ++ [j] := by rw [List.take_add_one, h, Option.toList_some]
  have sp : p = p.take t ++ j :: p.drop (t + 1) := by
    conv => lhs; rw [← List.take_append_drop (t + 1) p, e2]
    simp
  have hj : j ∉ p.take t := fun hm => by
    rw [sp] at hn
    exact (List.nodup_append.mp hn).2.2 j hm j List.mem_cons_self rfl
  refine ⟨?_, hj, e2⟩
  conv => lhs; rw [sp]
  exact ahead_last hj
/-- a promise that asks more -/
theorem fn_weak {P : Program} {w : World} {K : PySem.W.Frag} {mg : Str → Option Value} {base : Heap} {CX : CXT} {k : Nat} {f : Addr} {fd : FuncData} {ps : List Str} {g : GG} {n : Nat} {sp sp' : FS} (hw : ∀ ds Q E, sp' ds Q E → sp ds Q E) (F : FnOk P w K mg base CX k f fd ps (spOf K g n sp)) : FnOk P w K mg base CX k f fd ps (spOf K g n sp') := by
  have go : ∀ vs H Q E, spOf K g n sp' vs H Q E → spOf K g n sp vs H Q E := fun vs H Q E ⟨h0, U, ds, Qd, Ed, h1, h2, h3, h4, h5, h6, h7⟩ => ⟨h0, U, ds, Qd, Ed, h1, h2, h3, h4, hw _ _ _ h5, h6, h7⟩
  exact ⟨fun vs H Q E h => F.len vs H Q E (go _ _ _ _ h), fun A outer s H args us vs Q E hr he hb hv h => F.run A outer s H args us vs Q E hr he hb hv (go _ _ _ _ h)⟩
/-! ### promises -/
def sp_total2 : FS := fun ds Q E => ∃ (d : D) (qs : List Rat) (k : Nat), ds = [d] ∧ seqD d = some (qs.map rD) ∧ (∀ q ∈ qs, Bd k q) ∧ qs.length * (k + 1) + 1 ≤ 1990 ∧ k ≤ 1990 ∧ Q (rD qs.sum)
def sp_common2 : FS := fun ds Q E => ∃ (d : D) (qs : List Rat) (N : Nat), ds = [d] ∧ seqD d = some (qs.map rD) ∧ 0 < N ∧ N < 2 ^ 60 ∧ (∀ q ∈ qs, On N q) ∧ ∀ B : Nat, 0 < B → B ∣ N → (∀ q ∈ qs, q.den ∣ B) → Q (.int B)
def sp_whole_of2 : FS := fun ds Q E => ∃ (q : Rat) (B : Nat), ds = [rD q, .int B] ∧ B < 2 ^ 60 ∧ 0 < B ∧ q.den ∣ B ∧ Bd 1000 q ∧ Q (.int (wh B q))
def sp_level2 : FS := fun ds Q E => ∃ (cs : List Rat) (m : Rat) (N : Nat), ds = [.lst (cs.map rD), rD m] ∧ Deal N cs m ∧ ∀ l, (cs.map (cap l)).sum = m → 0 ≤ l → (∃ c ∈ cs, l ≤ c) → Bd 90 l → Q (rD l)
def sp_even2 : FS := fun ds Q E => ∃ (cs : List Rat) (m : Rat) (N : Nat), ds = [.lst (cs.map rD), rD m] ∧ Deal N cs m ∧ Q (.tup ((evenR cs m).map rD))
def sp_less2 : FS := fun ds Q E => ∃ (cs ls : List Rat) (d : D), ds = [.lst (cs.map rD), d] ∧ seqD d = some (ls.map rD) ∧ cs.length ≤ 100 ∧ (∀ c ∈ cs, Bd 1000 c) ∧ (∀ l ∈ ls, Bd 1000 l) ∧ Q (.tup ((lessL cs ls).map rD))
def sp_ruleR (r : Str) : FS := fun ds Q E => ∃ (cs : List Rat) (m : Rat) (N : Nat), ds = [.lst (cs.map rD), rD m] ∧ DealH N cs m ∧ Q (.tup ((awR r cs m).map rD))
def ruleR (y : Str) : Option FS := if y = "even" then some (sp_ruleR "even") else if y = "losses" then some (sp_ruleR "losses") else if y = "shares" then some (sp_ruleR "shares") else if y = "halves" then some (sp_ruleR "halves") else if y = "orders" then some (sp_ruleR "orders") else none
theorem ruleR_some {r : Str} (h : r ∈ RULES) : ruleR r = some (sp_ruleR r) := by
  unfold ruleR
  rcases rule_cases h with rfl | rfl | rfl | rfl | rfl
  · exact if_pos rfl
  · rw [if_neg (by decide +kernel)]; exact if_pos rfl
  · rw [if_neg (by decide +kernel), if_neg (by decide +kernel)]; exact if_pos rfl
  · rw [if_neg (by decide +kernel), if_neg (by decide +kernel), if_neg (by decide +kernel)]; exact if_pos rfl
  · rw [if_neg (by decide +kernel), if_neg (by decide +kernel), if_neg (by decide +kernel), if_neg (by decide +kernel)]; exact if_pos rfl
def sp_by_rule2 : FS := fun ds Q E => ∃ (r : Str) (cs : List Rat) (m : Rat) (N : Nat), ds = [.str r, .lst (cs.map rD), rD m] ∧ r ∈ RULES ∧ DealH N cs m ∧ Q (.tup ((awR r cs m).map rD))
def sp_claims_of2 (C : Addr) : FS := fun ds Q E => ∃ ns cs m, ds = [purseD C ns cs m] ∧ cs.length ≤ 100 ∧ Q (.lst ((rats cs).map rD))
/-- the awards of a purse -/
noncomputable abbrev awI (r : Str) (cs : List Int) (m : Int) : List Rat := awR r (rats cs) (m : Rat)
def sp_awards_of2 (C : Addr) : FS := fun ds Q E => ∃ ns cs m r, ds = [purseD C ns cs m, .str r] ∧ r ∈ RULES ∧ PurseOk ns cs m ∧ Q (.tup ((awI r cs m).map rD))
theorem rule_in {r : Str} (h : r ∈ RULES) : inD (.str r) rulesD = true := by
  rw [show rulesD = RULES.map D.str from rfl, inD_strs]
  exact decide_eq_true h
theorem PurseOk.deal {ns : List Str} {cs : List Int} {m : Int} (h : PurseOk ns cs m) : DealH 1 (rats cs) (m : Rat) := by
  have h1 := h.pe.p
  have h2 := h.pe.l
  have h3 := h.cl
  refine ⟨⟨by rw [List.length_map]; omega, by rw [List.length_map]; omega, fun c hc => ?_, fun c hc => ?_, fun c hc => ?_, On.int 1 m, cnn.mpr h.m0, by rw [rats_sum]; exact cast_le.mpr h.m1, by decide, by decide⟩, by decide⟩
  · obtain ⟨i, _, rfl⟩ := List.mem_map.mp hc
    exact On.int 1 i
  · obtain ⟨i, hi, rfl⟩ := List.mem_map.mp hc
    exact cnn.mpr (h.c i hi).1
  · obtain ⟨i, hi, rfl⟩ := List.mem_map.mp hc
    have e : ((1000 : Int) : Rat) = 1000 := rfl
    rw [← e]
    exact cast_le.mpr (by have := (h.c i hi).2; omega)
end DL

/-! DPool: what the helpers of the later laws promise: draws, names, purses. -/
namespace DL
open PySem PySem.Spec PyProof.Rows L2
theorem len_le_of_sub {α : Type} [DecidableEq α] : ∀ {l l' : List α}, l.Nodup → (∀ x ∈ l, x ∈ l') → l.length ≤ l'.length
  | [], l', _, _ => Nat.zero_le _
  | x :: r, l', hn, h => by
    have hx := h x List.mem_cons_self
    have hn' := List.nodup_cons.mp hn
    have ih := len_le_of_sub (l := r) (l' := l'.erase x) hn'.2 fun y hy => by
      have hy' := h y (List.mem_cons_of_mem _ hy)
      exact (List.mem_erase_of_ne fun e => hn'.1 (by rw [← e]; exact hy)).mpr hy'
    rw [List.length_erase_of_mem hx] at ih
    have := List.length_pos_of_mem hx
    rw [List.length_cons]
    omega
abbrev LET12 : Str := "abcdefghijkl"
theorem let12_at : ∀ {k : Nat}, k < 12 → atI LET12.cps.toList (k : Int) = some (97 + k) := by
  have : ((List.range 12).all fun k => decide (atI LET12.cps.toList (k : Int) = some (97 + k))) = true := by decide +kernel
  intro k hk
  exact of_decide_eq_true (List.all_eq_true.mp this k (List.mem_range.mpr hk))
theorem let8_ok12 {i : Nat} (h : i < 12) : NameOk (let8 i) := by
  refine ⟨fun c hc => ?_, ?_, ?_, ?_⟩
  · rw [let8_eq] at hc
    rw [(List.mem_replicate.mp hc).2]
    simp [lowerB]; omega
  · rw [str_len, let8_eq, List.length_replicate]; decide
  · rw [str_len, let8_eq, List.length_replicate]; decide
  · have : i = 0 ∨ i = 1 ∨ i = 2 ∨ i = 3 ∨ i = 4 ∨ i = 5 ∨ i = 6 ∨ i = 7 ∨ i = 8 ∨ i = 9 ∨ i = 10 ∨ i = 11 := by omega
    rcases this with rfl | rfl | rfl | rfl | rfl | rfl | rfl | rfl | rfl | rfl | rfl | rfl <;> decide +kernel
theorem let8_nd : ((List.range 12).map let8).Nodup := by decide +kernel
/-- names found so far -/
structure Used (us : List Str) : Prop where
  ok : ∀ x ∈ us, NameOk x
  nd : us.Nodup
  l : us.length ≤ 6
theorem Used.nil : Used [] := ⟨fun _ h => (List.not_mem_nil h).elim, List.nodup_nil, by decide⟩
theorem Used.add {us : List Str} {x : Str} (h : Used us) (hx : NameOk x) (hn : x ∉ us) (hl : us.length < 6) : Used (us ++ [x]) := by
  refine ⟨fun y hy => ?_, ?_, by rw [List.length_append]; show _ + 1 ≤ 6; omega⟩
  · rcases List.mem_append.mp hy with hy | hy
    · exact h.ok y hy
    · rw [List.mem_singleton.mp hy]; exact hx
  · rw [List.nodup_append]
    exact ⟨h.nd, List.pairwise_singleton _ _, fun a ha b hb e => hn (by rw [← List.mem_singleton.mp hb, ← e]; exact ha)⟩
theorem Used.people {us ns : List Str} (h : Used us) (h1 : 1 ≤ us.length) (hp : ns.Perm us) (hs : sortedS ns = true) : PeopleOk ns :=
  ⟨by rw [hp.length_eq]; exact h1, by rw [hp.length_eq]; exact h.l, fun x hx => h.ok x (hp.mem_iff.mp hx), sorted_lt hs (hp.nodup_iff.mpr h.nd)⟩
/-- one is left -/
theorem Used.free {us : List Str} (h : Used us) : ∃ k r, (List.range 12).filter (fun k => decide (let8 k ∉ us)) = k :: r ∧ k < 12 ∧ let8 k ∉ us := by
  cases e : (List.range 12).filter (fun k => decide (let8 k ∉ us)) with
  | nil =>
    exfalso
    have := len_le_of_sub (l := (List.range 12).map let8) (l' := us) let8_nd fun x hx => by
      obtain ⟨k, hk, rfl⟩ := List.mem_map.mp hx
      refine Classical.byContradiction fun hn => ?_
      have : k ∈ (List.range 12).filter (fun k => decide (let8 k ∉ us)) := List.mem_filter.mpr ⟨hk, decide_eq_true hn⟩
      rw [e] at this
      exact List.not_mem_nil this
    rw [List.length_map, List.length_range] at this
    have := h.l
    omega
  | cons k r =>
    have : k ∈ (List.range 12).filter (fun k => decide (let8 k ∉ us)) := by rw [e]; exact List.mem_cons_self
    have := List.mem_filter.mp this
    exact ⟨k, r, rfl, List.mem_range.mp this.1, of_decide_eq_true this.2⟩
theorem cut_ok (x : Str) (k : Nat) (hx : WordOk x) : WordOk (cutS x none (some (k : Int))) := fun c hc => by
  by_cases h : k ≤ x.length
  · rw [cut_front x h] at hc
    exact hx c (List.mem_of_mem_take hc)
  · unfold cutS at hc
    exact hx c (List.mem_of_mem_drop (List.mem_of_mem_take hc))
theorem cut_len (x : Str) (k : Nat) : (cutS x none (some (k : Int))).length = min k x.length := by
  unfold cutS
  rw [HT.sIx_none, HT.sIx_nat, List.drop_zero, Nat.sub_zero, str_len]
  show (x.cps.toList.take (min k x.length)).length = _
  rw [List.length_take, ← str_len]
  omega
theorem strs_eqOkL {xs : List Str} (h : ∀ x ∈ xs, PyData.strOk x = true) : EqOk (.lst (xs.map D.str)) (.lst []) := by
  refine ⟨?_, rfl, ?_, by decide⟩
  · simp only [plain]; exact plains_strs h
  · simp only [dep, deps_strs]; decide
theorem atI_cons0 {α : Type} (x : α) (r : List α) : atI (x :: r) 0 = some x := by
  unfold atI ixN
  rw [if_pos (by decide), if_pos (by rw [List.length_cons]; omega)]
  rfl
theorem cut_len6 (x : Str) : (cutS x none (some (6 : Int))).length ≤ 6 := by
  have := cut_len x 6
  show (cutS x none (some ((6 : Nat) : Int))).length ≤ 6
  rw [this]
  omega
/-- those with the least claims first -/
structure Sel (cs : List Rat) (os ks : List Nat) : Prop where
  pm : (os ++ ks).Perm (List.range cs.length)
  lo : ∀ o ∈ os, ∀ k ∈ ks, cs.getD o 0 ≤ cs.getD k 0
  srt : os.Pairwise fun a b => cs.getD a 0 ≤ cs.getD b 0
theorem Sel.start (cs : List Rat) : Sel cs [] (List.range cs.length) := ⟨by simp, fun _ h => (List.not_mem_nil h).elim, List.Pairwise.nil⟩
theorem Sel.lt {cs : List Rat} {os ks : List Nat} (h : Sel cs os ks) : (∀ k ∈ os, k < cs.length) ∧ ∀ k ∈ ks, k < cs.length := ⟨fun k hk => List.mem_range.mp (h.pm.mem_iff.mp (List.mem_append_left _ hk)), fun k hk => List.mem_range.mp (h.pm.mem_iff.mp (List.mem_append_right _ hk))⟩
theorem Sel.nd {cs : List Rat} {os ks : List Nat} (h : Sel cs os ks) : (os ++ ks).Nodup := h.pm.nodup_iff.mpr List.nodup_range
theorem Sel.len {cs : List Rat} {os ks : List Nat} (h : Sel cs os ks) : os.length + ks.length = cs.length := by
  have := h.pm.length_eq
  rwa [List.length_append, List.length_range] at this
theorem Sel.step {cs : List Rat} {os ks : List Nat} {a : Nat} (h : Sel cs os ks) (ha : a ∈ ks) (hm : ∀ k ∈ ks, cs.getD a 0 ≤ cs.getD k 0) : Sel cs (os ++ [a]) (ks.filter fun k => decide (k ≠ a)) ∧ (ks.filter fun k => decide (k ≠ a)).length + 1 = ks.length := by
  have hn : ks.Nodup := (List.nodup_append.mp h.nd).2.1
  have hp := take_out hn ha
  refine ⟨⟨?_, fun o ho k hk => ?_, ?_⟩, by have := hp.length_eq; rw [List.length_cons] at this; omega⟩
  · rw [List.append_assoc]
    exact (hp.symm.append_left os).trans h.pm
  · have hk' := (List.mem_filter.mp hk).1
    rcases List.mem_append.mp ho with ho | ho
    · exact h.lo o ho k hk'
    · rw [List.mem_singleton.mp ho]; exact hm k hk'
  · rw [List.pairwise_append]
    exact ⟨h.srt, List.pairwise_singleton _ _, fun x hx y hy => by rw [List.mem_singleton.mp hy]; exact h.lo x hx a ha⟩
theorem filter_head {a : Nat} {r : List Nat} (h : (a :: r).Nodup) : (a :: r).filter (fun k => decide (k ≠ a)) = r := by
  rw [List.filter_cons_of_neg (by simp)]
  refine List.filter_eq_self.mpr fun x hx => decide_eq_true fun e => ?_
  exact (List.nodup_cons.mp h).1 (by rw [← e]; exact hx)
theorem LE.share {N : Nat} {cs : List Rat} {m : Rat} {Pd R : List Nat} {L μ : Rat} (h : LE N cs m Pd R L μ) (hne : R ≠ []) : L / qN R.length = μ := by
  have hp : (0 : Rat) < qN R.length := qN_pos (List.length_pos_iff.mpr hne)
  have := h.mu hne
  rw [← this, Rat.mul_div_cancel (Rat.ne_of_gt hp)]
theorem LE.onL {N : Nat} {cs : List Rat} {m : Rat} {Pd R : List Nat} {L μ : Rat} (h : LE N cs m Pd R L μ) (hn : cs.length ≤ 6) (hne : R ≠ []) : On (N * 60) L ∧ On (N * 60) μ := by
  obtain ⟨n, h1, h2, h3⟩ := h.fr
  have h4 := h3.dvd (Nat.mul_dvd_mul_left N (dvd60 h1 (by omega)))
  refine ⟨?_, h4⟩
  have e := h.mu hne
  obtain ⟨x, hx⟩ := h4
  exact ⟨x * R.length, by rw [Rat.intCast_mul, ← hx, ← e]; grind⟩
theorem LE.lm {N : Nat} {cs : List Rat} {m : Rat} {Pd R : List Nat} {L μ : Rat} (h : LE N cs m Pd R L μ) (h0 : ∀ k, 0 ≤ cs.getD k 0) : L ≤ m := by
  have : 0 ≤ (Pd.map fun k => cap μ (cs.getD k 0)).sum := by
    have := sum_le (l := Pd) (f := fun _ => 0) (g := fun k => cap μ (cs.getD k 0)) fun k _ => cap_nn h.m0 (h0 k)
    rw [sum_const (k := 0) fun _ _ => rfl] at this
    grind
  have := h.sum
  grind
theorem atI_getD {cs : List Rat} {k : Nat} (h : k < cs.length) : atI (cs.map rD) (k : Int) = some (rD (cs.getD k 0)) := atI_mapN (getD_at h)
theorem Deal.bdc {N : Nat} {cs : List Rat} {m : Rat} (h : Deal N cs m) : ∀ c ∈ cs, Bd 100 c := fun c hc => by
  have h1 := h.hN
  have h2 := h.hB
  exact (h.on c hc).bd h.hN (b := 1000) (h.c0 c hc) (h.c1 c hc) (by omega) (by omega)
theorem Deal.bdk {N : Nat} {cs : List Rat} {m : Rat} (h : Deal N cs m) {k : Nat} (hk : k < cs.length) : Bd 100 (cs.getD k 0) := h.bdc _ (List.mem_of_getElem? (getD_at hk))
theorem Deal.bdm {N : Nat} {cs : List Rat} {m : Rat} (h : Deal N cs m) : Bd 100 m := by
  have h1 := h.hN
  have h2 := h.hB
  exact h.hm.bd h.hN (b := 6000) h.m0 (Rat.le_trans h.m1 h.s6) (by omega) (by omega)
theorem Deal.bds {N : Nat} {cs : List Rat} {m : Rat} (h : Deal N cs m) : Bd 100 cs.sum := by
  have h1 := h.hN
  have h2 := h.hB
  exact (On.sum h.on).bd h.hN (b := 6000) (sum_nnR h.c0) h.s6 (by omega) (by omega)
/-- n / m of a fraction -/
theorem frac_part {q : Rat} {n : Nat} (h : 0 < n) : Rat.divInt q.num ((q.den : Int) * (n : Int)) = q / qN n := by
  have e := mul_den q
  have hd : (0 : Rat) < ((q.den : Int) : Rat) := cpos.mpr nn_of
  have hn := qN_pos h
  rw [Rat.divInt_eq_div, ← e, Rat.intCast_mul]
  show q * ((q.den : Int) : Rat) / (((q.den : Int) : Rat) * qN n) = _
  generalize ((q.den : Int) : Rat) = d at hd
  have e2 : q / qN n * (d * qN n) = q * d := by
    have := div_mul_qN (x := q) h
    grind
  rw [← e2, Rat.mul_div_cancel (Rat.ne_of_gt (Rat.mul_pos hd hn))]
theorem plains_nats : ∀ ks : List Nat, plains (ks.map fun (k : Nat) => D.int (k : Int)) = true
  | [] => rfl
  | k :: r => by simp only [List.map_cons, plains, plain, plains_nats r, Bool.and_self]
theorem deps_nats : ∀ ks : List Nat, deps (ks.map fun (k : Nat) => D.int (k : Int)) = 0
  | [] => rfl
  | k :: r => by simp [deps, dep, deps_nats r]
theorem nats_eqOk (ks : List Nat) : EqOk (.lst (ks.map fun (k : Nat) => D.int (k : Int))) (.lst []) := by
  refine ⟨?_, rfl, ?_, by decide⟩
  · simp only [plain]; exact plains_nats ks
  · simp only [dep, deps_nats]; decide
theorem nats_ne {k : Nat} {r : List Nat} : eqD (.lst ((k :: r).map fun (k : Nat) => D.int (k : Int))) (.lst []) = false := rfl
theorem cap_alt (l c : Rat) : (if c < l then c else l) = cap l c := by
  unfold cap
  split <;> split <;> grind
theorem rep_flat {α : Type} (x : α) : ∀ n : Nat, (List.replicate n [x]).flatten = (List.range n).map fun _ => x := fun n => by
  rw [List.flatten_replicate_singleton]
  rw [List.map_const', List.length_range]
/-! ### by orders -/
theorem others_step {n k : Nat} (hn : n ≤ 6) (hk : k < n) : others n k = (List.range n).filter fun j => decide (j ≠ k) := by
  unfold others
  refine List.filter_congr fun j _ => ?_
  by_cases h : j = k <;> simp [h]
/-- the rows of sums and sizes -/
def rowsR (cs : List Rat) (L : List Nat) : List (Rat × Nat) := (setsOver L).map fun S => (csum cs S, S.length)
theorem setsOver_snoc (L : List Nat) (o : Nat) : setsOver (L ++ [o]) = setsOver L ++ (setsOver L).map fun s => s ++ [o] := by
  unfold setsOver
  rw [List.foldl_append]
  rfl
theorem rowsR_nil (cs : List Rat) : rowsR cs [] = [(0, 0)] := rfl
theorem rowsR_snoc (cs : List Rat) (L : List Nat) (o : Nat) : rowsR cs (L ++ [o]) = rowsR cs L ++ (rowsR cs L).map fun p => (p.1 + cs.getD o 0, p.2 + 1) := by
  unfold rowsR
  rw [setsOver_snoc, List.map_append, List.map_map, List.map_map]
  congr 1
  refine List.map_congr_left fun S _ => ?_
  simp only [Function.comp]
  rw [csum_snoc, List.length_append]
  rfl
theorem setsOver_len (L : List Nat) : (setsOver L).length = 2 ^ L.length := by
  have : ∀ (L : List Nat) (acc : List (List Nat)), (L.foldl (fun r o => r ++ r.map fun s => s ++ [o]) acc).length = acc.length * 2 ^ L.length := fun L => by
    induction L with
    | nil => intro acc; simp
    | cons o L ih =>
      intro acc
      rw [List.foldl_cons, ih, List.length_append, List.length_map, List.length_cons, Nat.pow_succ, ← Nat.two_mul, Nat.mul_assoc, Nat.mul_comm 2, Nat.mul_assoc]
  have := this L [[]]
  rw [List.length_singleton, Nat.one_mul] at this
  exact this
def upTo (k j : Nat) : List Nat := (List.range j).filter fun i => !(i == k)
theorem upTo_succ (k j : Nat) : upTo k (j + 1) = if j = k then upTo k j else upTo k j ++ [j] := by
  unfold upTo
  rw [List.range_succ, List.filter_append]
  by_cases h : j = k
  · rw [if_pos h]
    simp [h]
  · rw [if_neg h]
    simp [h]
theorem upTo_len (k j : Nat) : (upTo k j).length ≤ j := by
  unfold upTo
  have := List.length_filter_le (fun i => !(i == k)) (List.range j)
  rwa [List.length_range] at this
/-- of N parts, small -/
structure RowOk2 (N : Nat) (l : Nat) (p : Rat × Nat) : Prop where
  on : On N p.1
  lo : 0 ≤ p.1
  hi : p.1 ≤ qN l * 1000
  n : p.2 ≤ l
theorem qN_succ (n : Nat) : qN (n + 1) = qN n + 1 := by rw [qN_add]; rfl
theorem rows_ok {N : Nat} {cs : List Rat} {m : Rat} (h : Deal N cs m) (k : Nat) : ∀ j, ∀ p ∈ rowsR cs (upTo k j), RowOk2 N j p
  | 0, p, hp => by
    have hp : p ∈ [(0, 0)] := hp
    rw [List.mem_singleton.mp hp]
    exact ⟨On.int N 0, Rat.le_refl, by show (0 : Rat) ≤ qN 0 * 1000; decide +kernel, Nat.le_refl _⟩
  | j + 1, p, hp => by
    have up : ∀ p, RowOk2 N j p → RowOk2 N (j + 1) p := fun p h => ⟨h.on, h.lo, by rw [qN_succ]; have := h.hi; grind, by have := h.n; omega⟩
    rw [upTo_succ] at hp
    by_cases e : j = k
    · rw [if_pos e] at hp
      exact up p (rows_ok h k j p hp)
    · rw [if_neg e, rowsR_snoc] at hp
      rcases List.mem_append.mp hp with hp | hp
      · exact up p (rows_ok h k j p hp)
      · obtain ⟨q, hq, rfl⟩ := List.mem_map.mp hp
        have ih := rows_ok h k j q hq
        have c0 := h.nn j
        have c1 : On N (cs.getD j 0) ∧ cs.getD j 0 ≤ 1000 := by
          rw [List.getD_eq_getElem?_getD]
          cases e : cs[j]? with
          | none => exact ⟨On.int N 0, by show (0 : Rat) ≤ 1000; decide⟩
          | some c => exact ⟨h.on c (List.mem_of_getElem? e), h.c1 c (List.mem_of_getElem? e)⟩
        exact ⟨ih.on.add c1.1, by have := ih.lo; show 0 ≤ q.1 + _; grind, by rw [qN_succ]; have := ih.hi; have := c1.2; show q.1 + _ ≤ _; grind, by have := ih.n; show q.2 + 1 ≤ _; omega⟩
theorem RowOk2.bd {N l : Nat} {p : Rat × Nat} (h : RowOk2 N l p) (hN : 0 < N) (hB : N < 2 ^ 60) (hl : l ≤ 6) : Bd 100 p.1 := by
  have h1 := Rat.mul_le_mul_of_nonneg_right (qN_le hl) (show (0 : Rat) ≤ 1000 by decide)
  have : qN 6 * 1000 = 6000 := by decide +kernel
  exact h.on.bd hN (b := 6000) h.lo (by have := h.hi; show p.1 ≤ 6000; grind) (by omega) (by omega)
theorem wOrd_le : ∀ {n s : Nat}, n ≤ 6 → s < n → fact s * fact (n - 1 - s) ≤ fact n := by
  have : ((List.range 7).all fun n => (List.range n).all fun s => Nat.ble (fact s * fact (n - 1 - s)) (fact n)) = true := by decide +kernel
  intro n s hn hs
  exact Nat.le_of_ble_eq_true (List.all_eq_true.mp (List.all_eq_true.mp this n (List.mem_range.mpr (by omega))) s (List.mem_range.mpr hs))
/-- what a set adds -/
def ordT (cs : List Rat) (m : Rat) (k : Nat) (S : List Nat) : Rat := got cs m k S * (qN (wOrd cs.length S) / qN (fact cs.length))
theorem ordT_ok {N : Nat} {cs : List Rat} {m : Rat} (h : Deal N cs m) {k : Nat} (S : List Nat) (hS : S.length < cs.length) (hk : k < cs.length) : On (N * 720) (ordT cs m k S) ∧ 0 ≤ ordT cs m k S ∧ ordT cs m k S ≤ 1000 := by
  have hF := fact_pos cs.length
  have hw := wOrd_le h.n6 hS
  have h1 : 0 ≤ qN (wOrd cs.length S) / qN (fact cs.length) := div_nn hF (qN_nn _)
  have h2 : qN (wOrd cs.length S) / qN (fact cs.length) ≤ 1 := div_leN hF (by rw [Rat.mul_one]; exact qN_le hw)
  obtain ⟨g0, g1⟩ := got_in h.nn m k S
  have c1 := h.c1 _ (List.mem_of_getElem? (getD_at (d := 0) hk))
  unfold ordT
  refine ⟨(got_on h.on h.hm k S).times ((On.part (N := 1) (n := fact cs.length) (On.int 1 _) (div_mul_qN hF)).dvd (by rw [Nat.one_mul]; exact dvd720 h.n6)), Rat.mul_nonneg g0 h1, ?_⟩
  have := Rat.mul_le_mul_of_nonneg_left h2 g0
  grind
theorem sum_small {N : Nat} : ∀ {l : List Rat}, (∀ x ∈ l, On N x ∧ 0 ≤ x ∧ x ≤ 1000) → On N l.sum ∧ 0 ≤ l.sum ∧ l.sum ≤ qN l.length * 1000
  | [], _ => ⟨by simpa using On.int N 0, by simp, by show (0 : Rat) ≤ qN 0 * 1000; decide +kernel⟩
  | x :: r, h => by
    obtain ⟨a, b, c⟩ := sum_small (l := r) fun y hy => h y (List.mem_cons_of_mem _ hy)
    obtain ⟨d, e, f⟩ := h x List.mem_cons_self
    rw [List.sum_cons, List.length_cons, qN_succ]
    exact ⟨d.add a, by grind, by grind⟩
theorem ordT_zero {cs : List Rat} {m : Rat} {k : Nat} {S : List Nat} (h0 : ∀ k, 0 ≤ cs.getD k 0) (h : ¬ 0 < m - csum cs S) : ordT cs m k S = 0 := by
  unfold ordT got pos
  rw [if_neg h]
  have : cap 0 (cs.getD k 0) = 0 := by
    have := h0 k
    unfold cap
    split <;> grind
  rw [this, Rat.zero_mul]
theorem ordT_some {cs : List Rat} {m : Rat} {k : Nat} {S : List Nat} (h : 0 < m - csum cs S) : ordT cs m k S = cap (m - csum cs S) (cs.getD k 0) * (qN (wOrd cs.length S) / qN (fact cs.length)) := by
  unfold ordT got pos
  rw [if_pos h]
theorem ordT_all {cs : List Rat} {m : Rat} (h6 : cs.length ≤ 6) {k : Nat} (hk : k < cs.length) : (ordR cs m)[k]? = some (((setsOver (upTo k cs.length)).map (ordT cs m k)).sum) := by
  rw [ordR_sets h6 hk]
  congr 1
  have e : ((setsOver (upTo k cs.length)).map (ordT cs m k)) = (setsOver (others cs.length k)).map fun S => qN (wOrd cs.length S) * got cs m k S / qN (fact cs.length) := by
    refine List.map_congr_left fun S _ => ?_
    unfold ordT
    rw [Rat.div_def, Rat.div_def, ← Rat.mul_assoc, Rat.mul_comm (got cs m k S)]
  rw [e, sum_div]
theorem atI_last {α : Type} {l : List α} {x : α} : atI (l ++ [x]) (-1) = some x := by
  unfold atI ixN
  rw [if_neg (by decide), if_pos (by simp; omega)]
  have : ((-1 : Int) + ((l ++ [x]).length : Int)).toNat = l.length := by simp; omega
  show (l ++ [x])[((-1 : Int) + ((l ++ [x]).length : Int)).toNat]? = _
  rw [this, List.getElem?_append_right (Nat.le_refl _), Nat.sub_self]
  rfl
theorem set_len {L : List Nat} : ∀ {S : List Nat}, S ∈ setsOver L → S.length ≤ L.length := by
  have : ∀ (L : List Nat) (acc : List (List Nat)) (b : Nat), (∀ S ∈ acc, S.length ≤ b) → ∀ S ∈ L.foldl (fun r o => r ++ r.map fun s => s ++ [o]) acc, S.length ≤ b + L.length := fun L => by
    induction L with
    | nil => intro acc b h S hS; exact h S hS
    | cons o L ih =>
      intro acc b h S hS
      rw [List.foldl_cons] at hS
      have := ih _ (b + 1) (fun S hS => by
        rcases List.mem_append.mp hS with hS | hS
        · have := h S hS; omega
        · obtain ⟨s, hs, rfl⟩ := List.mem_map.mp hS
          have := h s hs
          rw [List.length_append]; show _ + 1 ≤ _; omega) S hS
      rw [List.length_cons]
      omega
  intro S hS
  have := this L [[]] 0 (fun S hS => by rw [List.mem_singleton.mp hS]; exact Nat.le_refl _) S hS
  omega
theorem upTo_lt {k n : Nat} (h : k < n) : (upTo k n).length < n := by
  have : (upTo k n).length < (List.range n).length := List.length_filter_lt_length_iff_exists.mpr ⟨k, List.mem_range.mpr h, by simp⟩
  rwa [List.length_range] at this
abbrev encR (p : Rat × Nat) : D := .tup [rD p.1, .int (p.2 : Nat)]
abbrev encS (cs : List Rat) (S : List Nat) : D := .tup [rD (csum cs S), .int (S.length : Nat)]
theorem rows_enc (cs : List Rat) (L : List Nat) : (rowsR cs L).map encR = (setsOver L).map (encS cs) := by
  unfold rowsR
  rw [List.map_map]
  rfl
theorem w_frac (n : Nat) (S : List Nat) : Rat.divInt ((fact S.length : Int) * (fact (n - 1 - S.length) : Int)) (fact n : Int) = qN (wOrd n S) / qN (fact n) := by
  rw [Rat.divInt_eq_div]
  show (((fact S.length : Int) * (fact (n - 1 - S.length) : Int) : Int) : Rat) / qN (fact n) = _
  rw [← Int.natCast_mul]
  rfl
theorem eqDs_rats : ∀ ps qs : List Rat, eqDs (ps.map rD) (qs.map rD) = decide (ps = qs)
  | [], [] => rfl
  | [], _ :: _ => rfl
  | _ :: _, [] => rfl
  | p :: ps, q :: qs => by
    have h1 := eqD_rD p q
    have h2 := eqDs_rats ps qs
    rw [List.map_cons, List.map_cons]
    show (eqD (rD p) (rD q) && eqDs (ps.map rD) (qs.map rD)) = _
    rw [h1, h2]
    by_cases e1 : p = q <;> by_cases e2 : ps = qs <;> simp [e1, e2]
theorem eqD_rats (ps qs : List Rat) : eqD (.tup (ps.map rD)) (.tup (qs.map rD)) = decide (ps = qs) := eqDs_rats ps qs
theorem plains_rats : ∀ qs : List Rat, plains (qs.map rD) = true
  | [] => rfl
  | q :: r => by simp only [List.map_cons, plains, plain, plains_rats r, Bool.and_self]
theorem deps_rats : ∀ qs : List Rat, deps (qs.map rD) ≤ 1
  | [] => by simp [deps]
  | q :: r => by
    have := deps_rats r
    simp only [List.map_cons, deps, dep]
    omega
theorem EqOk_rats (ps qs : List Rat) : EqOk (.tup (ps.map rD)) (.tup (qs.map rD)) := by
  have h1 := deps_rats ps
  have h2 := deps_rats qs
  refine ⟨?_, ?_, ?_, ?_⟩
  · simp only [plain]; exact plains_rats ps
  · simp only [plain]; exact plains_rats qs
  · simp only [dep]; omega
  · simp only [dep]; omega
theorem inD_ints {x : Int} : ∀ {is : List Int}, inD (.int x) (is.map D.int) = decide (x ∈ is)
  | [] => rfl
  | w :: r => by
    have ih := inD_ints (x := x) (is := r)
    unfold inD at *
    rw [List.map_cons, List.any_cons, ih]
    have e : eqD (.int w) (.int x) = decide (x = w) := by
      unfold eqD
      rw [Bool.eq_iff_iff, beq_iff_eq, decide_eq_true_iff, eq_comm]
    rw [e, Bool.eq_iff_iff]
    simp [List.mem_cons]
theorem half_lit : D.tup [.int 1, .int 2] = rD (1 / 2) := by
  have h1 : (1 / 2 : Rat).num = 1 := by decide +kernel
  have h2 : (1 / 2 : Rat).den = 2 := by decide +kernel
  show D.tup [.int 1, .int 2] = D.tup [.int (1 / 2 : Rat).num, .int (((1 / 2 : Rat).den : Nat) : Int)]
  rw [h1, h2]
  rfl
theorem bd_half : Bd 10 (1 / 2 : Rat) := ⟨by decide +kernel, by decide +kernel⟩
def sp_wordsT (ws : List Str) : FS := fun ds Q E => ds = [] ∧ Q (.tup (ws.map D.str))
def sp_name (Wl : Addr → Prop) : FS := fun ds Q E => ∃ (a : Addr) (us : List Str), ds = [.obj a, .lst (us.map D.str)] ∧ Wl a ∧ Used us ∧ ∀ x, NameOk x → x ∉ us → Q (.str x)
def sp_people (Wl : Addr → Prop) : FS := fun ds Q E => ∃ (a : Addr) (n : Int), ds = [.obj a, .int n] ∧ Wl a ∧ 1 ≤ n ∧ n ≤ 6 ∧ ∀ ns, PeopleOk ns → (ns.length : Int) ≤ n → Q (.ptup (ns.map D.str))
def sp_lawparts (Wl : Addr → Prop) : FS := fun ds Q E => ∃ (a : Addr) (n h : Int), ds = [.obj a, .int n, .int h] ∧ Wl a ∧ 1 ≤ n ∧ n ≤ 6 ∧ 0 ≤ h ∧ h ≤ 99 ∧ ∀ ns cs m, PurseOk ns cs m → (ns.length : Int) ≤ n → (∀ c ∈ cs, c ≤ h ∨ c ≤ 2) → Q (partsD ns cs m)
def sp_rulesT : FS := fun ds Q E => ds = [] ∧ Q (.tup rulesD)
/-- n / m, m not 0 -/
def sp_fr : FS := fun ds Q E => ∃ n m : Int, ds = [.int n, .int m] ∧ m ≠ 0 ∧ m.natAbs < 2 ^ 8000 ∧ Q (rD (Rat.divInt n m))
def sp_laweven2 : FS := fun ds Q E => ∃ (cs : List Rat) (m : Rat) (N : Nat), ds = [.lst (cs.map rD), rD m] ∧ Deal N cs m ∧ Q (.lst ((evenR cs m).map rD))
def sp_lawdual : FS := fun ds Q E => ∃ (cs ls : List Rat), ds = [.lst (cs.map rD), .lst (ls.map rD)] ∧ cs.length = ls.length ∧ cs.length ≤ 100 ∧ (∀ c ∈ cs, Bd 1000 c) ∧ (∀ l ∈ ls, Bd 1000 l) ∧ Q (.lst ((lessL cs ls).map rD))
def sp_laworders : FS := fun ds Q E => ∃ (cs : List Rat) (m : Rat) (N : Nat), ds = [.lst (cs.map rD), rD m] ∧ Deal N cs m ∧ Q (.lst ((ordR cs m).map rD))
def sp_lawby : FS := fun ds Q E => ∃ (cs : List Rat) (m : Rat) (r : Str) (N : Nat), ds = [.lst (cs.map rD), rD m, .str r] ∧ r ∈ RULES ∧ DealH N cs m ∧ Q (.lst ((awR r cs m).map rD))
def sp_lawawards2 : FS := fun ds Q E => ∃ (ns : List Str) (cs : List Int) (m : Int) (r : Str), ds = [partsD ns cs m, .str r] ∧ r ∈ RULES ∧ PurseOk ns cs m ∧ Q (.tup ((awI r cs m).map rD))
/-- a value of texts, numbers, truths and None in tuples and lists, d deep -/
def PLn : Nat → D → Prop
  | _, .non => True
  | _, .bl _ => True
  | _, .int _ => True
  | _, .str _ => True
  | d + 1, .tup xs => xs.length ≤ 1000 ∧ ∀ x ∈ xs, PLn d x
  | d + 1, .lst xs => xs.length ≤ 1000 ∧ ∀ x ∈ xs, PLn d x
  | _, _ => False
def sp_same2 (d : Nat) : FS := fun ds Q E => ∃ x, ds = [x, x] ∧ PLn d x ∧ Q (.bl true)
theorem PLn_rD {d : Nat} {q : Rat} : PLn (d + 1) (rD q) := ⟨by simp, fun y hy => by
  simp only [List.mem_cons, List.not_mem_nil, or_false] at hy
  rcases hy with rfl | rfl <;> cases d <;> exact trivial⟩
theorem PLn_rats {d : Nat} {qs : List Rat} (h : qs.length ≤ 1000) : PLn (d + 2) (.tup (qs.map rD)) := ⟨by rw [List.length_map]; exact h, fun x hx => by
  obtain ⟨q, _, rfl⟩ := List.mem_map.mp hx
  exact PLn_rD⟩
theorem PLn_bl {d : Nat} {b : Bool} : PLn d (.bl b) := by cases d <;> exact trivial
theorem PLn_tup {d : Nat} {xs : List D} (h : xs.length ≤ 1000) (hx : ∀ x ∈ xs, PLn d x) : PLn (d + 1) (.tup xs) := ⟨h, hx⟩
theorem PLn_lst {d : Nat} {xs : List D} (h : xs.length ≤ 1000) (hx : ∀ x ∈ xs, PLn d x) : PLn (d + 1) (.lst xs) := ⟨h, hx⟩
theorem same_two {d : Nat} {x : D} {Q : D → Prop} {E : DX → Prop} (h : PLn d x) (k : Q (.bl true)) : sp_same2 (d + 1) [.lst [x, x], .lst [x, x]] Q E :=
  ⟨_, rfl, ⟨by simp, fun y hy => by
    simp only [List.mem_cons, List.not_mem_nil, or_false] at hy
    rcases hy with rfl | rfl <;> exact h⟩, k⟩
end DL

/-! DTop3: the later laws: a pool made in each lap, all parts over it. -/
namespace DL
open PySem PySem.Spec PyProof.Rows L2 LamX
/-- the script stands, apart from p -/
def Scr (K : PySem.W.Frag) (a : Addr) (ns : List Int) (p : Addr) (H : Hp) : Prop :=
  (Rd H a (.lst (ns.map V.int)) ∧ a ≠ p) ∨ ∃ (o : Obj) (its : Array Value) (n : Nat), K.lookup a = some o ∧ o.cls = .type "list" ∧ o.dict = none ∧ o.data = .seq its n ∧ its.size ≤ sizeLine ∧ Vals (ns.map V.int) its.toList
section
variable {K : PySem.W.Frag} {a p : Addr} {ns : List Int} {T : List (Addr × Str)} {H H' : Hp}
theorem Scr.sq (h : Scr K a ns p H) : SqL K H a (ns.map V.int) := h.elim (fun h => .inl h.1) fun h => .inr h
theorem rd_ext {G : Addr → Prop} {u : HO} (h : Rd H a u) (e : Ext G H H') (n : ¬ G a) : Rd H' a u := h.elim (fun h => .inl (e _ _ h n)) fun ⟨o, h⟩ => .inr ⟨o, e _ _ h n⟩
theorem rd_tab {u : HO} (hu : ∀ ps, u ≠ .tbl ps) (h : Rd H a u) (t : Tabs T H) : ¬ ∃ q ∈ T, q.1 = a := fun ⟨q, hq, e⟩ => by
  obtain ⟨ps, h1, _⟩ := t q hq
  rw [e] at h1
  rcases h with h | ⟨o, h⟩ <;> rw [h1] at h
  · exact hu _ (Option.some.inj h).symm
  · cases h
theorem Scr.ext (h : Scr K a ns p H) (t : Tabs T H) (e : Ext (wellG T [p]).G H H') : Scr K a ns p H' := h.elim (fun ⟨h1, h2⟩ => .inl ⟨rd_ext h1 e fun g => g.elim (fun g => h2 (List.mem_singleton.mp g)) (rd_tab (by intro _ z; cases z) h1 t), h2⟩) .inr
theorem Scr.upd {L : Addr} {o : HO} (h : Scr K a ns p H) (n : L ≠ a ∨ H L = none) : Scr K a ns p (upd H L o) := h.elim (fun ⟨h1, h2⟩ => by
  have hne : a ≠ L := by
    rcases n with n | n
    · exact fun e => n e.symm
    · intro e
      subst e
      rcases h1 with h | ⟨o, h⟩ <;> rw [n] at h <;> cases h
  exact .inl ⟨h1.elim (fun h => .inl (by rw [upd_ne hne]; exact h)) fun ⟨o, h⟩ => .inr ⟨o, by rw [upd_ne hne]; exact h⟩, h2⟩) .inr
/-- all parts, over the pool -/
def tRights3 (spR : Sp) (n : Int) : TE := tLc (iRng1 (tCons (tC (.int n)) tNil)) (gName 3) tYes (tCall spR [] E0 (tCons (tVar 2) tNil)) [3]
theorem rights3_read {spR : Sp} {H0 : Hp} {n : Int} {Q : VK} {o0 o1 o3 : Option V} (n0 : 0 ≤ n) (n1 : n ≤ 1000) (j0 : (wellG T [p]).J H0) (s0 : Scr K a ns p H0)
    (hR : ∀ vs H Q E, spOf K (wellG T [p]) 1 (sp_right (· ∈ [p])) vs H Q E → spR vs H Q E)
    (k : ∀ (L : Addr) (H : Hp), H L = some (.lst ((List.replicate n.toNat true).map V.bl)) → (wellG T [p]).J H → Scr K a ns p H → Q (.ref L) H) : tRights3 spR n [o0, o1, some (.ref p), o3] H0 Q := by
  refine ⟨_, rfl, by omega, by omega, fun L hL => ?_⟩
  have nL : ¬ (wellG T [p]).G L := fun h => (wellG T [p]).dom H0 L j0 h hL
  have nLa : Rd H0 a (.lst (ns.map V.int)) → L ≠ a := fun h e => by
    subst e
    rcases h with h | ⟨o, h⟩ <;> rw [hL] at h <;> cases h
  refine lc_range (lo := 0) (n := n.toNat) (fun i H => H L = some (.lst ((List.replicate i true).map V.bl)) ∧ (wellG T [p]).J H ∧ Scr K a ns p H ∧ (Rd H a (.lst (ns.map V.int)) → Rd H0 a (.lst (ns.map V.int)) ∨ Scr K a ns p H0 → L ≠ a ∨ True)) ⟨upd_same, (wellG T [p]).new j0 hL, s0.upd (.inr hL), fun _ _ => .inr trivial⟩ (fun i H hi hP => ?_) fun H hP => ?_
  · obtain ⟨hH, hJ, hS, hz⟩ := hP
    refine ⟨rfl, .ref p, rfl, hR _ _ _ _ ⟨rfl, (wellG T [p]).G, [.obj p], fun d => d = .bl true, fun _ => False, fun _ h => h, fun b hb => (wellG T [p]).dom H b hJ hb, hJ, Reps.cons (by simp only [Rep]) Reps.nil, ⟨_, rfl, List.mem_singleton.mpr rfl, rfl⟩, fun d v H' hd e j r => ?_, fun _ _ _ _ h => h.elim⟩⟩
    subst hd
    have r := inv_bl r
    subst r
    have hL' := e L _ hH nL
    have hS' := hS.ext hJ.2 e
    have nLa' : L ≠ a ∨ ∃ (o : Obj) (its : Array Value) (n : Nat), K.lookup a = some o ∧ o.cls = .type "list" ∧ o.dict = none ∧ o.data = .seq its n ∧ its.size ≤ sizeLine ∧ Vals (ns.map V.int) its.toList := by
      rcases s0 with ⟨h1, _⟩ | h
      · exact .inl (nLa h1)
      · exact .inr h
    refine ⟨_, hL', by rw [List.length_map, List.length_replicate, sizeLine_eq]; omega, ?_, ?_, ?_, fun _ _ => .inr trivial⟩
    · rw [upd_same, List.replicate_succ', List.map_append]
      rfl
    · refine (wellG T [p]).st _ _ j (fun b hb => upd_ne fun q => nL (by rw [← q]; exact hb)) fun b φ hb => ?_
      rw [upd_ne (ne_of hb hL' (by intro z; cases z))]
      exact hb
    · rcases nLa' with h | h
      · exact hS'.upd (.inl h)
      · exact .inr h
  · obtain ⟨hH, hJ, hS, _⟩ := hP
    exact k L H hH hJ hS
/-- the law -/
def tBody3 (K : PySem.W.Frag) (spW spR : Sp) (n : Int) : TS := tSeq (tAsg (tCall spW [] E0 (tCons (tVar 0) (tCons (tVar 1) tNil))) (gName 2)) (tIfS (tNot (tB (tCB (rAll K) (tCons (tRights3 spR n) tNil)))) (tRet (tC (.bl false))) tNext)
def tLaw3 (K : PySem.W.Frag) (spW spR : Sp) (n : Int) : TS := tSeq (tFor (iRng1 (tCons (tCB rMax2 (tCons (tC (.int 1)) (tCons (tCB rMin2 (tCons (tCB (rLenD K) (tCons (tVar 0) tNil)) (tCons (tC (.int 3)) tNil))) tNil))) tNil)) (gName 1) (tBody3 K spW spR n)) (tRet (tC (.bl true)))
theorem law3_read {spW spR : Sp} {H0 : Hp} {n : Int} {κ : Ends} (hS : SqL K H0 a (ns.map V.int)) (hl : ns.length ≤ 63) (n0 : 0 ≤ n) (n1 : n ≤ 1000)
    (hW : ∀ H, SqL K H a (ns.map V.int) → ∀ vs Q E, spOf K (scrG K H a ns) 2 (sp_well a ns) vs H Q E → spW vs H Q E) (hT : ∀ p ∈ T, H0 p.1 = some (.tbl #[]))
    (hR : ∀ A vs H Q E, spOf K (wellG T A) 1 (sp_right (· ∈ A)) vs H Q E → spR vs H Q E) (hk : ∀ H, κ.rt (.bl true) H) : tLaw3 K spW spR n κ (start ["script", "lap", "pool", "again"] [.ref a]) H0 := by
  refine (⟨.ref a, rfl, .inl ⟨a, _, rfl, .inl hS, _, _, rfl, _, _, rfl, _, rfl, ?_, ?_, ?_⟩⟩ : tFor (iRng1 (tCons (tCB rMax2 (tCons (tC (.int 1)) (tCons (tCB rMin2 (tCons (tCB (rLenD K) (tCons (tVar 0) tNil)) (tCons (tC (.int 3)) tNil))) tNil))) tNil)) (gName 1) (tBody3 K spW spR n) { κ with nx := tRet (tC (.bl true)) κ } [some (.ref a), none, none, none] H0)
  · rw [List.length_map]; split <;> split at * <;> omega
  · rw [List.length_map]; split <;> split at * <;> omega
  · rw [List.length_map]
    have hm : ∃ m : Nat, Int.toNat (if (if (3 : Int) < (ns.length : Int) then 3 else (ns.length : Int)) > 1 then (if (3 : Int) < (ns.length : Int) then 3 else (ns.length : Int)) else 1) = m ∧ m ≤ 3 := ⟨_, rfl, by split <;> split at * <;> omega⟩
    obtain ⟨M, eM, hM⟩ := hm
    rw [eM]
    refine ⟨fun i m σ H => m = M - i ∧ i ≤ M ∧ (∃ o1 o2 o3 : Option V, σ = [some (.ref a), o1, o2, o3]) ∧ Tabs T H ∧ SqL K H a (ns.map V.int), ⟨M, by simp, Nat.zero_le _, ⟨none, none, none, rfl⟩, tabs_new hT, hS⟩, ?_⟩
    rintro i m σ H ⟨rfl, hi, ⟨o1, o2, o3, rfl⟩, hTH, hSH⟩
    by_cases hlt : i < M
    · refine .inr ⟨hlt, fun σ' H' => (∃ o1 o2 o3 : Option V, σ' = [some (.ref a), o1, o2, o3]) ∧ Tabs T H' ∧ SqL K H' a (ns.map V.int), fun σ' H' ⟨h1, h2, h3⟩ => ⟨M - (i + 1), by omega, rfl, hlt, h1, h2, h3⟩, fun x H' hy => ?_⟩
      obtain ⟨rfl, rfl⟩ := hy
      refine ⟨.ref a, rfl, .int (0 + (i : Int)), rfl, ?_⟩
      refine hW H' hSH _ _ _ ⟨rfl, (scrG K H' a ns).G, [.obj a, .int (0 + (i : Int))], fun d => ∃ x y u : Int, d = .lst [.int x, .int y, .int u], fun _ => False, fun _ h => h, fun b hb => (scrG K H' a ns).dom H' b scrG_j hb, scrG_j, Reps.cons (by simp only [Rep]) (Reps.cons rep_int Reps.nil), ⟨0 + (i : Int), rfl, by omega, by omega, fun x y u => ⟨x, y, u, rfl⟩⟩, fun d v H2 hd e j r => ?_, fun _ _ _ _ h => h.elim⟩
      obtain ⟨x, y, u, rfl⟩ := hd
      obtain ⟨p, xs, rfl, ⟨hp, nU⟩, r⟩ := rep_lst_inv r
      have r : xs = [V.int x, V.int y, V.int u] := reps_ints (ns := [x, y, u]) r
      subst r
      have kp : ∀ b o, H' b = some o → (∀ l, o ≠ .lst l) → (∀ q l, o ≠ .frz q (.lst l)) → H2 b = some o := fun b o hb n1 n2 => e _ _ hb fun ⟨e1, r1⟩ => by
        subst e1
        rcases r1 with r1 | ⟨q, r1⟩ <;> rw [hb] at r1
        · exact n1 _ (Option.some.inj r1)
        · exact n2 _ _ (Option.some.inj r1)
      have hT2 : Tabs T H2 := fun q hq => by
        obtain ⟨ps, h1, h2, h3⟩ := hTH q hq
        refine ⟨ps, kp _ _ h1 (by intro _ z; cases z) (by intro _ _ z; cases z), h2, fun pos cv hc => ?_⟩
        obtain ⟨c, e1, e2⟩ := h3 pos cv hc
        exact ⟨c, e1, kp _ _ e2 (by intro _ z; cases z) (by intro _ _ z; cases z)⟩
      have hS2 : Scr K a ns p H2 := by
        rcases hSH with h | h
        · exact .inl ⟨j h, fun e1 => nU ⟨e1.symm, h⟩⟩
        · exact .inr h
      have j2 : (wellG T [p]).J H2 := ⟨fun b hb => by rw [List.mem_singleton.mp hb]; exact ⟨x, y, u, hp⟩, hT2⟩
      simp only [gName, tIfS, tNot, tB, tCB, tCons, tNil, List.set_cons_succ, List.set_cons_zero]
      refine rights3_read (o0 := some (.ref a)) (o1 := some (.int (0 + (i : Int)))) (o3 := o3) n0 n1 j2 hS2 (hR [p]) fun L H3 hL hJ3 hS3 => ⟨L, _, rfl, SqL.of hL, ?_⟩
      have e : (List.replicate n.toNat true).all id = true := by
        rw [List.all_eq_true]
        intro b hb
        exact (List.mem_replicate.mp hb).2
      rw [e]
      exact ⟨true, rfl, ⟨_, _, _, rfl⟩, hJ3.2, hS3.sq⟩
    · have e : i = M := by omega
      subst e
      exact .inl ⟨Nat.le_refl _, hk H⟩
end
end DL

/-! DTop4: a law that makes a well in each lap and runs its parts over it, in one comprehension. -/
namespace DL
open PySem PySem.Spec PyProof.Rows L2 LamX
section
variable {K : PySem.W.Frag} {a p : Addr} {ns : List Int} {T : List (Addr × Str)} {H H' : Hp}
/-- the law's parts, each over a well of its own -/
def tRights4 (K : PySem.W.Frag) (spW spR : Sp) (n : Int) : TE := tLc (iRng1 (tCons (tCB rMax2 (tCons (tC (.int 1)) (tCons (tCB rMin2 (tCons (tCB (rLenD K) (tCons (tVar 0) tNil)) (tCons (tC (.int n)) tNil))) tNil))) tNil)) (gName 1) tYes (tCall spR [] E0 (tCons (tCall spW [] E0 (tCons (tVar 0) (tCons (tVar 1) tNil))) tNil)) [1]
theorem rights4_read {spW spR : Sp} {H0 : Hp} {n : Int} {Q : VK} {o1 : Option V} (hS : SqL K H0 a (ns.map V.int)) (hl : ns.length ≤ 63) (n3 : n ≤ 3)
    (hW : ∀ vs H Q E, spOf K (scrG K H0 a ns) 2 (sp_well a ns) vs H Q E → spW vs H Q E) (hT : ∀ p ∈ T, H0 p.1 = some (.tbl #[]))
    (hR : ∀ A vs H Q E, spOf K (wellG T A) 1 (sp_right (· ∈ A)) vs H Q E → spR vs H Q E)
    (k : ∀ (L : Addr) (H : Hp) (m : Nat), H L = some (.lst ((List.replicate m true).map V.bl)) → Q (.ref L) H) : tRights4 K spW spR n [some (.ref a), o1] H0 Q := by
  refine ⟨.ref a, rfl, .inl ⟨a, _, rfl, .inl hS, _, _, rfl, _, _, rfl, _, rfl, ?_, ?_, fun L hL => ?_⟩⟩
  · rw [List.length_map]; split <;> split at * <;> omega
  · rw [List.length_map]; split <;> split at * <;> omega
  · rw [List.length_map]
    have hm : ∃ m : Nat, Int.toNat (if (if (n : Int) < (ns.length : Int) then n else (ns.length : Int)) > 1 then (if (n : Int) < (ns.length : Int) then n else (ns.length : Int)) else 1) = m ∧ m ≤ 63 := ⟨_, rfl, by split <;> split at * <;> omega⟩
    obtain ⟨m, em, m3⟩ := hm
    rw [em]
    have nLG : ¬ (scrG K H0 a ns).G L := fun ⟨e, r⟩ => by
      rw [← e] at r
      rcases r with r | ⟨o, r⟩ <;> rw [hL] at r <;> cases r
    refine lc_range (lo := 0) (n := m) (fun i H => H L = some (.lst ((List.replicate i true).map V.bl)) ∧ Tabs T H ∧ (scrG K H0 a ns).J H) ⟨upd_same, ?_, (scrG K H0 a ns).new scrG_j hL⟩ (fun i H hi hP => ?_) fun H hP => k L H _ hP.1
    · refine tabs_new fun p hp => ?_
      rw [upd_ne (ne_of_none (hT p hp) hL)]
      exact hT p hp
    · obtain ⟨hH, hTH, hJ⟩ := hP
      refine ⟨rfl, .ref a, rfl, .int (0 + (i : Int)), rfl, ?_⟩
      refine hW _ _ _ _ ⟨rfl, (scrG K H0 a ns).G, [.obj a, .int (0 + (i : Int))], fun d => ∃ x y u : Int, d = .lst [.int x, .int y, .int u], fun _ => False, fun _ h => h, fun b hb => (scrG K H0 a ns).dom H b hJ hb, hJ, Reps.cons (by simp only [Rep]) (Reps.cons rep_int Reps.nil), ⟨0 + (i : Int), rfl, by omega, by omega, fun x y u => ⟨x, y, u, rfl⟩⟩, fun d v H2 hd e j r => ?_, fun _ _ _ _ h => h.elim⟩
      obtain ⟨x, y, u, rfl⟩ := hd
      obtain ⟨p, xs, rfl, ⟨hp, nU⟩, r⟩ := rep_lst_inv r
      have r : xs = [V.int x, V.int y, V.int u] := reps_ints (ns := [x, y, u]) r
      subst r
      have hL2 := e L _ hH nLG
      have hpL : p ≠ L := fun q => by
        rw [q, hL2] at hp
        cases i with
        | zero => cases hp
        | succ i => cases hp
      have kp : ∀ b o, H b = some o → (∀ l, o ≠ .lst l) → (∀ q l, o ≠ .frz q (.lst l)) → H2 b = some o := fun b o hb n1 n2 => e _ _ hb fun ⟨e1, r1⟩ => by
        have r2 := hJ r1
        rw [← e1] at r2
        rcases r2 with r1 | ⟨q, r1⟩ <;> rw [hb] at r1
        · exact n1 _ (Option.some.inj r1)
        · exact n2 _ _ (Option.some.inj r1)
      have hT2 : Tabs T H2 := fun q hq => by
        obtain ⟨ps, h1, h2, h3⟩ := hTH q hq
        refine ⟨ps, kp _ _ h1 (by intro _ z; cases z) (by intro _ _ z; cases z), h2, fun pos cv hc => ?_⟩
        obtain ⟨c, e1, e2⟩ := h3 pos cv hc
        exact ⟨c, e1, kp _ _ e2 (by intro _ z; cases z) (by intro _ _ z; cases z)⟩
      have j2 : (wellG T [p]).J H2 := ⟨fun b hb => by rw [List.mem_singleton.mp hb]; exact ⟨x, y, u, hp⟩, hT2⟩
      refine hR [p] _ _ _ _ ⟨rfl, (wellG T [p]).G, [.obj p], fun d => d = .bl true, fun _ => False, fun _ h => h, fun b hb => (wellG T [p]).dom H2 b j2 hb, j2, Reps.cons (by simp only [Rep]) Reps.nil, ⟨_, rfl, List.mem_singleton.mpr rfl, rfl⟩, fun d v H3 hd e3 j3 r3 => ?_, fun _ _ _ _ h => h.elim⟩
      subst hd
      have r3 := inv_bl r3
      subst r3
      have nL2 : ¬ (wellG T [p]).G L := fun h => by
        rcases h with h | ⟨q, hq, e1⟩
        · exact hpL (List.mem_singleton.mp h).symm
        · obtain ⟨ps, h1, _⟩ := hT2 q hq
          rw [e1, hL2] at h1
          cases h1
      have hL3 := e3 L _ hL2 nL2
      refine ⟨_, hL3, by rw [List.length_map, List.length_replicate, sizeLine_eq]; omega, ?_, ?_, ?_⟩
      · rw [upd_same, List.replicate_succ', List.map_append]
        rfl
      · refine ((wellG T [p]).st _ _ j3 (fun b hb => upd_ne fun q => nL2 (by rw [← q]; exact hb)) fun b φ hb => ?_).2
        rw [upd_ne (ne_of hb hL3 (by intro z; cases z))]
        exact hb
      · intro r0
        have nLa : a ≠ L := fun q => by
          rw [q] at r0
          rcases r0 with r1 | ⟨o, r1⟩ <;> rw [hL] at r1 <;> cases r1
        have h3 := rd_ext (j r0) e3 fun g => g.elim (fun g => nU ⟨(List.mem_singleton.mp g).symm, r0⟩) (rd_tab (by intro _ z; cases z) (j r0) hT2)
        rcases h3 with h | ⟨o, h⟩
        · exact .inl (by rw [upd_ne nLa]; exact h)
        · exact .inr ⟨o, by rw [upd_ne nLa]; exact h⟩
def tLaw4 (K : PySem.W.Frag) (spW spR : Sp) (n : Int) : TS := tRet (tCB (rAll K) (tCons (tRights4 K spW spR n) tNil))
theorem law4_read {spW spR : Sp} {H0 : Hp} {n : Int} {κ : Ends} (hS : SqL K H0 a (ns.map V.int)) (hl : ns.length ≤ 63) (n3 : n ≤ 3)
    (hW : ∀ vs H Q E, spOf K (scrG K H0 a ns) 2 (sp_well a ns) vs H Q E → spW vs H Q E) (hT : ∀ p ∈ T, H0 p.1 = some (.tbl #[]))
    (hR : ∀ A vs H Q E, spOf K (wellG T A) 1 (sp_right (· ∈ A)) vs H Q E → spR vs H Q E) (hk : ∀ H, κ.rt (.bl true) H) : tLaw4 K spW spR n κ (start ["script", "lap"] [.ref a]) H0 := by
  refine (rights4_read (o1 := none) hS hl n3 hW hT hR fun L H m hL => ⟨L, _, rfl, SqL.of hL, ?_⟩ : tRights4 K spW spR n [some (.ref a), none] H0 fun x H1 => rAll K [x] H1 κ.rt)
  have e : (List.replicate m true).all id = true := by
    rw [List.all_eq_true]
    intro b hb
    exact (List.mem_replicate.mp hb).2
  rw [e]
  exact hk H
end
end DL

/-! DStep: money dealt in two steps. -/
namespace DL
open PySem PySem.Spec PyProof.Rows L2
abbrev addL (xs ys : List Rat) : List Rat := List.zipWith (fun x y => x + y) xs ys
noncomputable def stepsR (r : Str) (cs : List Rat) (m m1 : Rat) : List Rat := addL (awR r cs m1) (awR r (lessL cs (awR r cs m1)) (m - m1))
theorem zip_add (xs ys : List Rat) : (xs.zip ys).map (fun p => p.1 + p.2) = addL xs ys := by
  unfold addL
  rw [List.zip_eq_zipWith, List.map_zipWith]
/-- other money of the same claims -/
theorem DealH.at {N : Nat} {cs : List Rat} {m m' : Rat} (h : DealH N cs m) (hm : On N m') (h0 : 0 ≤ m') (h1 : m' ≤ cs.sum) : DealH N cs m' := ⟨⟨h.d.n1, h.d.n6, h.d.on, h.d.c0, h.d.c1, hm, h0, h1, h.d.hN, h.d.hB⟩, h.h2⟩
theorem all_zero {xs : List Rat} (h0 : ∀ x ∈ xs, 0 ≤ x) (hs : xs.sum = 0) : xs = List.replicate xs.length 0 := by
  have := sum_zeroR h0 hs
  refine List.ext_getElem (by simp) fun i h1 h2 => ?_
  rw [List.getElem_replicate]
  exact this _ (List.getElem_mem h1)
theorem awR_zero {N : Nat} {cs : List Rat} (h : DealH N cs 0) {r : Str} (hr : r ∈ RULES) : awR r cs 0 = List.replicate cs.length 0 := by
  have hA := h.aw hr
  have := all_zero hA.lo hA.sum
  rwa [hA.len] at this
theorem less_zero (cs : List Rat) : lessL cs (List.replicate cs.length 0) = cs := by
  refine List.ext_getElem (by rw [List.length_zipWith, List.length_replicate]; omega) fun i h1 h2 => ?_
  rw [List.getElem_zipWith, List.getElem_replicate]
  grind
theorem zero_add' {n : Nat} {xs : List Rat} (h : xs.length = n) : addL (List.replicate n 0) xs = xs := by
  subst h
  refine List.ext_getElem (by rw [List.length_zipWith, List.length_replicate]; omega) fun i h1 h2 => ?_
  rw [List.getElem_zipWith, List.getElem_replicate]
  grind
theorem add_zero' {n : Nat} {xs : List Rat} (h : xs.length = n) : addL xs (List.replicate n 0) = xs := by
  subst h
  refine List.ext_getElem (by rw [List.length_zipWith, List.length_replicate]; omega) fun i h1 h2 => ?_
  rw [List.getElem_zipWith, List.getElem_replicate]
  grind
/-- what is left behind the first step -/
theorem DealH.left {N : Nat} {cs : List Rat} {m m1 : Rat} (h : DealH N cs m) (hN : N * (720 + 6000 * N) < 2 ^ 59) (hm : On N m1) (h0 : 0 ≤ m1) (h1 : m1 ≤ m) {r : Str} (hr : r ∈ RULES) : ∃ M, DealH M (lessL cs (awR r cs m1)) (m - m1) := by
  have hD1 := h.at hm h0 (Rat.le_trans h1 h.d.m1)
  have hA := hD1.aw hr
  obtain ⟨M, hd, hM, hMB, hon⟩ := hD1.on hr
  refine ⟨M, ⟨⟨by rw [lessL_len hA.len]; exact h.d.n1, by rw [lessL_len hA.len]; exact h.d.n6, lessL_on h.d.on hon hd, fun q hq => ?_, fun q hq => ?_, (h.d.hm.dvd hd).sub (hm.dvd hd), by grind, ?_, hM, by omega⟩, by omega⟩⟩
  · obtain ⟨i, c, l, e1, e2, rfl⟩ := lessL_mem hq
    have := hA.hi i c l e1 e2
    grind
  · obtain ⟨i, c, l, e1, e2, rfl⟩ := lessL_mem hq
    have := hA.lo l (List.mem_of_getElem? e2)
    have := h.d.c1 c (List.mem_of_getElem? e1)
    grind
  · rw [lessL_sum hA.len.symm, hA.sum]
    have := h.d.m1
    grind
theorem steps_zero {N : Nat} {cs : List Rat} {m : Rat} (h : DealH N cs m) {r : Str} (hr : r ∈ RULES) : stepsR r cs m 0 = awR r cs m := by
  have h0 := h.at (On.int N 0) Rat.le_refl (Rat.le_trans h.d.m0 h.d.m1)
  have e : m - 0 = m := by grind
  unfold stepsR
  rw [show ((0 : Int) : Rat) = 0 from rfl] at h0
  rw [awR_zero h0 hr, less_zero, e]
  exact zero_add' (h.aw hr).len
theorem steps_all {N : Nat} {cs : List Rat} {m : Rat} (h : DealH N cs m) (hN : N * (720 + 6000 * N) < 2 ^ 59) {r : Str} (hr : r ∈ RULES) : stepsR r cs m m = awR r cs m := by
  obtain ⟨M, h0⟩ := h.left hN h.d.hm h.d.m0 Rat.le_refl hr
  have e : m - m = 0 := by grind
  unfold stepsR
  rw [e] at h0 ⊢
  rw [awR_zero h0 hr]
  have hA := h.aw hr
  rw [lessL_len hA.len]
  exact add_zero' hA.len
theorem cap_diff {l l1 c : Rat} (h : l1 ≤ l) : cap (l - l1) (c - cap l1 c) = cap l c - cap l1 c := by
  unfold cap
  split <;> split <;> split <;> grind
theorem cap_cap {l l1 c : Rat} : cap l (cap l1 c) = cap (cap l l1) c := by
  by_cases h1 : l < l1 <;> by_cases h2 : l < c <;> by_cases h3 : l1 < c <;> simp only [cap, h1, h2, h3, if_true, if_false] <;> grind
theorem sum_mapsub {α : Type} (f g : α → Rat) : ∀ l : List α, (l.map fun x => f x - g x).sum = (l.map f).sum - (l.map g).sum
  | [] => by simp; try grind
  | x :: l => by
    rw [List.map_cons, List.map_cons, List.map_cons, List.sum_cons, List.sum_cons, List.sum_cons, sum_mapsub f g l]
    grind
theorem less_map (f : Rat → Rat) (cs : List Rat) : lessL cs (cs.map f) = cs.map fun c => c - f c := by
  refine List.ext_getElem (by rw [List.length_zipWith, List.length_map, List.length_map]; omega) fun i h1 h2 => ?_
  rw [List.getElem_zipWith, List.getElem_map, List.getElem_map]
theorem add_map (f g : Rat → Rat) (cs : List Rat) : addL (cs.map f) (cs.map g) = cs.map fun c => f c + g c := by
  refine List.ext_getElem (by rw [List.length_zipWith, List.length_map, List.length_map, List.length_map]; omega) fun i h1 h2 => ?_
  rw [List.getElem_zipWith, List.getElem_map, List.getElem_map, List.getElem_map]
/-- levels that rise with the money -/
theorem two_levels {N : Nat} {cs : List Rat} {m m1 : Rat} (h : Deal N cs m) (h1 : Deal N cs m1) (hm : m1 ≤ m) : ∃ l1 l, l1 ≤ l ∧ evenR cs m1 = cs.map (cap l1) ∧ evenR cs m = cs.map (cap l) ∧ (cs.map (cap l1)).sum = m1 ∧ (cs.map (cap l)).sum = m := by
  obtain ⟨l1, e1, s1⟩ := h1.even
  obtain ⟨l, e, s⟩ := h.even
  rw [e1] at s1
  rw [e] at s
  by_cases hl : l1 ≤ l
  · exact ⟨l1, l, hl, e1, e, s1, s⟩
  · have hl : l ≤ l1 := by grind
    have h2 := sum_le (l := cs) fun c _ => cap_mono hl c
    have h3 : m1 = m := by grind
    subst h3
    exact ⟨l1, l1, Rat.le_refl, e1, e1, s1, s1⟩
theorem even_steps {N : Nat} {cs : List Rat} {m m1 : Rat} (h : Deal N cs m) (h1 : Deal N cs m1) (hm : m1 ≤ m) : addL (evenR cs m1) (evenR (lessL cs (evenR cs m1)) (m - m1)) = evenR cs m := by
  obtain ⟨l1, l, hl, e1, e, s1, s⟩ := two_levels h h1 hm
  have hE : Even (lessL cs (evenR cs m1)) (m - m1) (cs.map fun c => cap l c - cap l1 c) := by
    refine ⟨l - l1, ?_, ?_⟩
    · rw [e1, less_map, List.map_map]
      exact List.map_congr_left fun c _ => (cap_diff hl).symm
    · rw [sum_mapsub, s, s1]
  rw [← hE.eq, e1, add_map, e]
  exact List.map_congr_left fun c _ => by grind
theorem even_even {N : Nat} {cs : List Rat} {m m1 : Rat} (h : Deal N cs m) (h1 : Deal N cs m1) (hm : m1 ≤ m) : evenR (evenR cs m) m1 = evenR cs m1 := by
  obtain ⟨l1, l, hl, e1, e, s1, s⟩ := two_levels h h1 hm
  have hE : Even (evenR cs m) m1 (cs.map (cap l1)) := by
    refine ⟨l1, ?_, s1⟩
    rw [e, List.map_map]
    refine List.map_congr_left fun c _ => ?_
    show _ = cap l1 (cap l c)
    rw [cap_cap, cap_hi hl]
  rw [← hE.eq, e1]
theorem less_less {cs qs : List Rat} (h : qs.length = cs.length) : lessL cs (lessL cs qs) = qs := by
  refine List.ext_getElem (by rw [List.length_zipWith, List.length_zipWith]; omega) fun i h1 h2 => ?_
  rw [List.getElem_zipWith, List.getElem_zipWith]
  grind
theorem losses_steps {N : Nat} {cs : List Rat} {m m1 : Rat} (h : Deal N cs m) (h1 : Deal N cs m1) (hm : m1 ≤ m) : addL (lossesR cs m1) (lossesR (lessL cs (lossesR cs m1)) (m - m1)) = lossesR cs m := by
  have hl1 := h1.lack
  have hl := h.lack
  have el1 := hl1.even.len
  have el := hl.even.len
  have hs : (evenR cs (cs.sum - m1)).sum = cs.sum - m1 := by obtain ⟨_, _, s⟩ := hl1.even; exact s
  unfold lossesR
  rw [less_less el1, hs, show cs.sum - m1 - (m - m1) = cs.sum - m by grind, even_even hl1 hl (by grind)]
  refine List.ext_getElem (by simp only [List.length_zipWith]; omega) fun i a b => ?_
  simp only [List.getElem_zipWith]
  grind
theorem shares_steps {cs : List Rat} {m m1 : Rat} (h0 : ∀ c ∈ cs, 0 ≤ c) (hm0 : 0 ≤ m1) (hm : m1 ≤ m) (hs : m ≤ cs.sum) : addL (sharesR cs m1) (sharesR (lessL cs (sharesR cs m1)) (m - m1)) = sharesR cs m := by
  have h1 := (share_part h0 hm0 (Rat.le_trans hm hs)).2.2
  have h2 := (share_part h0 (Rat.le_trans hm0 hm) hs).2.2
  have hl : lessL cs (sharesR cs m1) = cs.map fun c => c - c * (if cs.sum = 0 then 0 else m1 / cs.sum) := less_map _ cs
  have hsum : (lessL cs (sharesR cs m1)).sum = cs.sum - m1 := by
    rw [lessL_sum (by unfold sharesR; rw [List.length_map])]
    congr 1
    unfold sharesR
    rw [sum_mulR (l := cs)]
    exact h1
  have e2 : sharesR (lessL cs (sharesR cs m1)) (m - m1) = cs.map fun c => (c - c * (if cs.sum = 0 then 0 else m1 / cs.sum)) * (if cs.sum - m1 = 0 then 0 else (m - m1) / (cs.sum - m1)) := by
    unfold sharesR at hsum ⊢
    rw [hsum]
    rw [show lessL cs (cs.map fun c => c * (if cs.sum = 0 then 0 else m1 / cs.sum)) = cs.map fun c => c - c * (if cs.sum = 0 then 0 else m1 / cs.sum) from less_map _ cs, List.map_map]
    rfl
  rw [e2]
  unfold sharesR
  rw [add_map]
  refine List.map_congr_left fun c hc => ?_
  generalize hp : (if cs.sum = 0 then (0 : Rat) else m1 / cs.sum) = p at h1
  generalize hq : (if cs.sum = 0 then (0 : Rat) else m / cs.sum) = q at h2
  by_cases hT : cs.sum = 0
  · have := sum_zeroR h0 hT c hc
    subst this
    grind
  · by_cases hz : cs.sum - m1 = 0
    · rw [if_pos hz]
      have hm1 : m1 = m := by grind
      subst hm1
      have : p = q := by rw [← hp, ← hq]
      grind
    · rw [if_neg hz]
      have e3 : (m - m1) / (cs.sum - m1) * (cs.sum - m1) = m - m1 := Rat.div_mul_cancel hz
      generalize (m - m1) / (cs.sum - m1) = u at e3
      generalize cs.sum = T at *
      -- c p + (c - c p) u = c q
      have e4 : T * (p + (1 - p) * u) = T * q := by grind
      have e5 : p + (1 - p) * u = q := by
        have : T * (p + (1 - p) * u - q) = 0 := by grind
        rcases Rat.mul_eq_zero.mp this with h | h
        · exact absurd h hT
        · grind
      grind
theorem steps_same {N : Nat} {cs : List Rat} {m m1 : Rat} (h : DealH N cs m) (hm : On N m1) (h0 : 0 ≤ m1) (h1 : m1 ≤ m) {r : Str} (hr : r = "even" ∨ r = "losses" ∨ r = "shares") : stepsR r cs m m1 = awR r cs m := by
  have hD := h.at hm h0 (Rat.le_trans h1 h.d.m1)
  unfold stepsR
  rcases hr with rfl | rfl | rfl
  · rw [awR_even, awR_even, awR_even]
    exact even_steps h.d hD.d h1
  · rw [awR_losses, awR_losses, awR_losses]
    exact losses_steps h.d hD.d h1
  · rw [awR_shares, awR_shares, awR_shares]
    exact shares_steps h.d.c0 h0 h1 h.d.m1
theorem add_range {n : Nat} {xs ys : List Rat} (h1 : xs.length = n) (h2 : ys.length = n) : (List.range n).map (fun k => xs.getD k 0 + ys.getD k 0) = addL xs ys := by
  refine List.ext_getElem (by rw [List.length_map, List.length_range, List.length_zipWith]; omega) fun i a b => ?_
  rw [List.length_map, List.length_range] at a
  rw [List.getElem_map, List.getElem_range, List.getElem_zipWith, List.getD_eq_getElem?_getD, List.getD_eq_getElem?_getD, List.getElem?_eq_getElem (by omega), List.getElem?_eq_getElem (by omega)]
  rfl
theorem cut1 {α : Type} (xs : List α) : cutD xs none (some 1) = xs.take 1 := by
  show cutD xs none (some ((1 : Nat) : Int)) = _
  unfold cutD
  rw [HT.sIx_none, HT.sIx_nat, List.drop_zero, Nat.sub_zero]
  cases xs with
  | nil => simp
  | cons x r => simp
theorem EqOk_ratsL (ps qs : List Rat) : EqOk (.lst (ps.map rD)) (.lst (qs.map rD)) := by
  have h1 := deps_rats ps
  have h2 := deps_rats qs
  refine ⟨?_, ?_, ?_, ?_⟩
  · simp only [plain]; exact plains_rats ps
  · simp only [plain]; exact plains_rats qs
  · simp only [dep]; omega
  · simp only [dep]; omega
theorem eqD_ratsL (ps qs : List Rat) : eqD (.lst (ps.map rD)) (.lst (qs.map rD)) = decide (ps = qs) := eqDs_rats ps qs
theorem one_eq {qs : List Rat} {s : Rat} (h : qs.length = 1) (e : qs.sum = s) : qs = [s] := by
  match qs, h with
  | [q], _ =>
    rw [List.sum_cons, List.sum_nil] at e
    have : q = s := by grind
    rw [this]
theorem steps_one {N : Nat} {cs : List Rat} {m m1 : Rat} (h : DealH N cs m) (hN : N * (720 + 6000 * N) < 2 ^ 59) (hm : On N m1) (h0 : 0 ≤ m1) (h1 : m1 ≤ m) {r : Str} (hr : r ∈ RULES) (hl : cs.length = 1) : stepsR r cs m m1 = awR r cs m := by
  have hA := h.aw hr
  have hA1 := (h.at hm h0 (Rat.le_trans h1 h.d.m1)).aw hr
  obtain ⟨M, hD2⟩ := h.left hN hm h0 h1 hr
  have hA2 := hD2.aw hr
  have hll := lessL_len hA1.len
  unfold stepsR
  rw [one_eq (hA.len.trans hl) hA.sum, one_eq (hA2.len.trans (hll.trans hl)) hA2.sum, one_eq (hA1.len.trans hl) hA1.sum]
  show [m1 + (m - m1)] = [m]
  congr 1
  grind
/-- the money with which two steps are otherwise -/
noncomputable def unlikes (r : Str) (cs : List Int) (m : Int) (n : Nat) : List Nat := (List.range n).filter fun mo => decide (stepsR r (rats cs) (m : Rat) ((mo : Int) : Rat) ≠ awI r cs m)
def firstD : List Nat → D
  | [] => .non
  | x :: _ => .int (x : Nat)
theorem unlikes_succ (r : Str) (cs : List Int) (m : Int) (n : Nat) : unlikes r cs m (n + 1) = unlikes r cs m n ++ if stepsR r (rats cs) (m : Rat) ((n : Int) : Rat) ≠ awI r cs m then [n] else [] := by
  unfold unlikes
  rw [List.range_succ, List.filter_append]
  congr 1
  by_cases h : stepsR r (rats cs) (m : Rat) ((n : Int) : Rat) = awI r cs m
  · rw [List.filter_cons_of_neg (by simpa using h), if_neg (by simpa using h)]
    rfl
  · rw [List.filter_cons_of_pos (by simpa using h), if_pos h]
    rfl
def sp_unlikes (C : Addr) : FS := fun ds Q E => ∃ (ns : List Str) (cs : List Int) (m : Int) (r : Str), ds = [purseD C ns cs m, .str r] ∧ r ∈ RULES ∧ PurseOk ns cs m ∧ Q (.lst (((unlikes r cs m m.toNat).take 1).map fun (k : Nat) => D.int (k : Int)))
def sp_unlike (C : Addr) : FS := fun ds Q E => ∃ (ns : List Str) (cs : List Int) (m : Int) (r : Str), ds = [purseD C ns cs m, .str r] ∧ r ∈ RULES ∧ PurseOk ns cs m ∧ Q (firstD (unlikes r cs m m.toNat))
def sp_steps (C : Addr) : FS := fun ds Q E => ∃ (ns : List Str) (cs : List Int) (m : Int) (r : Str) (m1 : Int), ds = [purseD C ns cs m, .str r, .int m1] ∧ r ∈ RULES ∧ PurseOk ns cs m ∧ 0 ≤ m1 ∧ m1 ≤ m ∧ Q (.tup ((stepsR r (rats cs) (m : Rat) (m1 : Rat)).map rD))
def sp_lawsteps : FS := fun ds Q E => ∃ (ns : List Str) (cs : List Int) (m : Int) (r : Str) (m1 : Int), ds = [partsD ns cs m, .str r, .int m1] ∧ r ∈ RULES ∧ PurseOk ns cs m ∧ 0 ≤ m1 ∧ m1 ≤ m ∧ Q (.tup ((stepsR r (rats cs) (m : Rat) (m1 : Rat)).map rD))
end DL

/-! DCut: claims cut to the money. -/
namespace DL
open PySem PySem.Spec PyProof.Rows L2
abbrev cutL (cs : List Rat) (m : Rat) : List Rat := cs.map (cap m)
theorem cut_low {cs : List Rat} {m : Rat} (h : ∀ c ∈ cs, c ≤ m) : cutL cs m = cs := by
  refine List.ext_getElem (List.length_map _) fun i h1 h2 => ?_
  rw [List.getElem_map]
  exact cap_lo (h _ (List.getElem_mem h2))
theorem big_split {cs : List Rat} {m : Rat} (h : ¬ ∀ c ∈ cs, c ≤ m) : ∃ p b q, cs = p ++ b :: q ∧ m < b := by
  simp only [Classical.not_forall] at h
  obtain ⟨b, hb, hm⟩ := h
  obtain ⟨p, q, e⟩ := List.append_of_mem hb
  exact ⟨p, b, q, e, Rat.not_le.mp hm⟩
theorem capsum_nn {l : Rat} (hl : 0 ≤ l) {p : List Rat} (h0 : ∀ c ∈ p, 0 ≤ c) : 0 ≤ (p.map (cap l)).sum := sum_nnR fun x hx => by
  obtain ⟨c, hc, rfl⟩ := List.mem_map.mp hx
  exact cap_nn hl (h0 c hc)
theorem mid_l {p q : List Rat} {b : Rat} {P : Rat → Prop} (h : ∀ c ∈ p ++ b :: q, P c) : ∀ c ∈ p, P c := fun c hc => h c (List.mem_append_left _ hc)
theorem mid_r {p q : List Rat} {b : Rat} {P : Rat → Prop} (h : ∀ c ∈ p ++ b :: q, P c) : ∀ c ∈ q, P c := fun c hc => h c (List.mem_append_right _ (List.mem_cons_of_mem _ hc))
theorem mid_b {p q : List Rat} {b : Rat} {P : Rat → Prop} (h : ∀ c ∈ p ++ b :: q, P c) : P b := h b (List.mem_append_right _ List.mem_cons_self)
theorem mid_sum (f : Rat → Rat) (p q : List Rat) (b : Rat) : ((p ++ b :: q).map f).sum = (p.map f).sum + (f b + (q.map f).sum) := by
  rw [List.map_append, List.map_cons, List.sum_append, List.sum_cons]
theorem cut_m1 {cs : List Rat} {m : Rat} (h0 : ∀ c ∈ cs, 0 ≤ c) (m0 : 0 ≤ m) (h1 : m ≤ cs.sum) : m ≤ (cutL cs m).sum := by
  by_cases h : ∀ c ∈ cs, c ≤ m
  · rwa [cut_low h]
  · obtain ⟨p, b, q, rfl, hb⟩ := big_split h
    have a1 := capsum_nn m0 (mid_l h0)
    have a2 := capsum_nn m0 (mid_r h0)
    show m ≤ ((p ++ b :: q).map (cap m)).sum
    rw [mid_sum, cap_hi (Rat.le_of_lt hb)]
    grind
theorem DealH.cut {N : Nat} {cs : List Rat} {m : Rat} (h : DealH N cs m) : DealH N (cutL cs m) m := by
  refine ⟨⟨by rw [List.length_map]; exact h.d.n1, by rw [List.length_map]; exact h.d.n6, fun q hq => ?_, fun q hq => ?_, fun q hq => ?_, h.d.hm, h.d.m0, cut_m1 h.d.c0 h.d.m0 h.d.m1, h.d.hN, h.d.hB⟩, h.h2⟩
  all_goals obtain ⟨c, hc, rfl⟩ := List.mem_map.mp hq
  · unfold cap
    split
    · exact h.d.hm
    · exact h.d.on c hc
  · exact cap_nn h.d.m0 (h.d.c0 c hc)
  · exact Rat.le_trans (cap_le m c).2 (h.d.c1 c hc)
theorem cut_even {N : Nat} {cs : List Rat} {m : Rat} (h : Deal N cs m) : evenR (cutL cs m) m = evenR cs m := by
  by_cases hh : ∀ c ∈ cs, c ≤ m
  · rw [cut_low hh]
  obtain ⟨l, e, s⟩ := h.even
  have hl : l ≤ m := by
    refine Rat.not_lt.mp fun hl => ?_
    have h0 := h.c0
    have m0 := h.m0
    obtain ⟨p, b, q, rfl, hb⟩ := big_split hh
    have a1 := capsum_nn (l := l) (by grind) (mid_l h0)
    have a2 := capsum_nn (l := l) (by grind) (mid_r h0)
    have a3 : m < cap l b := by unfold cap; split <;> grind
    rw [e, mid_sum] at s
    grind
  have hE : Even (cutL cs m) m (evenR cs m) := by
    refine ⟨l, ?_, s⟩
    rw [e, List.map_map]
    refine List.map_congr_left fun c _ => ?_
    show _ = cap l (cap m c)
    rw [cap_cap, cap_hi hl]
  exact hE.eq.symm
/-! ### orders -/
theorem cut_get {cs : List Rat} {m : Rat} (m0 : 0 ≤ m) (k : Nat) : (cutL cs m).getD k 0 = cap m (cs.getD k 0) := by
  rw [List.getD_eq_getElem?_getD, List.getD_eq_getElem?_getD, List.getElem?_map]
  cases cs[k]? with
  | none => exact (cap_lo m0).symm
  | some c => rfl
theorem csum_cons (cs : List Rat) (j : Nat) (S : List Nat) : csum cs (j :: S) = cs.getD j 0 + csum cs S := by
  unfold csum
  rw [List.map_cons, List.sum_cons]
theorem csum_nn' {cs : List Rat} (h0 : ∀ k, 0 ≤ cs.getD k 0) : ∀ S, 0 ≤ csum cs S
  | [] => Rat.le_refl
  | j :: S => by
    have := csum_nn' h0 S
    have := h0 j
    rw [csum_cons]
    grind
theorem cut_csum {cs : List Rat} {m : Rat} (h0 : ∀ k, 0 ≤ cs.getD k 0) (m0 : 0 ≤ m) : ∀ S, csum (cutL cs m) S = csum cs S ∨ (m ≤ csum (cutL cs m) S ∧ m ≤ csum cs S)
  | [] => .inl rfl
  | j :: S => by
    have ih := cut_csum h0 m0 S
    have n1 := csum_nn' h0 S
    have n2 := csum_nn' (cs := cutL cs m) (fun k => by rw [cut_get m0]; exact cap_nn m0 (h0 k)) S
    have n3 := h0 j
    rw [csum_cons, csum_cons, cut_get m0]
    generalize csum (cutL cs m) S = x at *
    generalize csum cs S = y at *
    generalize cs.getD j 0 = c at *
    by_cases hc : c ≤ m
    · rw [cap_lo hc]
      rcases ih with e | ⟨a, b⟩
      · exact .inl (by rw [e])
      · exact .inr ⟨by grind, by grind⟩
    · rw [cap_hi (by grind)]
      exact .inr ⟨by grind, by grind⟩
theorem cut_got {cs : List Rat} {m : Rat} (h0 : ∀ k, 0 ≤ cs.getD k 0) (m0 : 0 ≤ m) (k : Nat) (S : List Nat) : got (cutL cs m) m k S = got cs m k S := by
  unfold got
  rw [cut_get m0]
  have n1 := csum_nn' h0 S
  rcases cut_csum h0 m0 S with e | ⟨a, b⟩
  · rw [e]
    generalize csum cs S = x at *
    rw [cap_cap, cap_hi (l := pos (m - x)) (c := m) (by unfold pos; split <;> grind)]
  · generalize csum (cutL cs m) S = x at *
    generalize csum cs S = y at *
    have e1 : pos (m - x) = 0 := by unfold pos; split <;> grind
    have e2 : pos (m - y) = 0 := by unfold pos; split <;> grind
    rw [e1, e2, cap_cap, cap_hi m0]
theorem cut_ord {N : Nat} {cs : List Rat} {m : Rat} (h : Deal N cs m) : ordR (cutL cs m) m = ordR cs m := by
  unfold ordR
  rw [show (cutL cs m).length = cs.length from List.length_map _]
  refine List.map_congr_left fun k _ => ?_
  congr 2
  exact List.map_congr_left fun p _ => cut_got h.nn h.m0 _ _
/-! ### halves -/
theorem mem_le_sum : ∀ {p : List Rat}, (∀ c ∈ p, 0 ≤ c) → ∀ c ∈ p, c ≤ p.sum
  | [], _, c, hc => (List.not_mem_nil hc).elim
  | x :: p, h0, c, hc => by
    have h1 := h0 x List.mem_cons_self
    have h2 := sum_nnR fun y hy => h0 y (List.mem_cons_of_mem _ hy)
    rw [List.sum_cons]
    rcases List.mem_cons.mp hc with rfl | hm
    · grind
    · have := mem_le_sum (fun y hy => h0 y (List.mem_cons_of_mem _ hy)) c hm
      grind
theorem half_cap {l : Rat} {p : List Rat} (h : ∀ c ∈ p, c / 2 ≤ l) : (halvL p).map (cap l) = halvL p := by
  rw [List.map_map]
  exact List.map_congr_left fun c hc => cap_lo (h c hc)
theorem half_big {p q : List Rat} {b l k : Rat} (hp : ∀ c ∈ p, c / 2 ≤ l) (hq : ∀ c ∈ q, c / 2 ≤ l) (hb : l ≤ b / 2) (hk : (p.sum + q.sum) / 2 + l = k) : Even (halvL (p ++ b :: q)) k (halvL p ++ l :: halvL q) := by
  refine ⟨l, ?_, ?_⟩
  · rw [show halvL (p ++ b :: q) = halvL p ++ (b / 2) :: halvL q by (show (p ++ b :: q).map _ = _; rw [List.map_append, List.map_cons]), List.map_append, List.map_cons, half_cap hp, half_cap hq, cap_hi hb]
  · rw [List.sum_append, List.sum_cons, sum_div2, sum_div2, ← hk]
    grind
theorem less_half : ∀ p : List Rat, lessL p (halvL p) = halvL p
  | [] => rfl
  | c :: p => by
    have ih := less_half p
    simp only [lessL, halvL, List.map_cons, List.zipWith_cons_cons] at ih ⊢
    rw [ih]
    congr 1
    grind
theorem less_app {p q : List Rat} {b l : Rat} : lessL (p ++ b :: q) (halvL p ++ l :: halvL q) = halvL p ++ (b - l) :: halvL q := by
  have h1 := less_half p
  have h2 := less_half q
  unfold lessL at *
  rw [List.zipWith_append (by rw [List.length_map]), List.zipWith_cons_cons, h1, h2]
theorem half_only {p q : List Rat} {b m : Rat} (h0 : ∀ c ∈ p ++ b :: q, 0 ≤ c) (hb : m ≤ b) (hs : p.sum + q.sum ≤ m) : halvesR (p ++ b :: q) m = halvL p ++ (m - (p.sum + q.sum) / 2) :: halvL q := by
  have p1 := mem_le_sum (mid_l h0)
  have q1 := mem_le_sum (mid_r h0)
  have p0 := sum_nnR (mid_l h0)
  have q0 := sum_nnR (mid_r h0)
  have eT : (p ++ b :: q).sum = p.sum + (b + q.sum) := by rw [List.sum_append, List.sum_cons]
  unfold halvesR
  rw [sum_div2, eT]
  by_cases ht : (p.sum + (b + q.sum)) / 2 < m
  · rw [if_pos ht]
    have hE := half_big (p := p) (q := q) (b := b) (l := b + (p.sum + q.sum) / 2 - m) (k := p.sum + (b + q.sum) - m) (fun c hc => by have := p1 c hc; grind) (fun c hc => by have := q1 c hc; grind) (by grind) (by grind)
    rw [← hE.eq, less_app]
    congr 2
    grind
  · rw [if_neg ht]
    exact (half_big (p := p) (q := q) (b := b) (l := m - (p.sum + q.sum) / 2) (k := m) (fun c hc => by have := p1 c hc; grind) (fun c hc => by have := q1 c hc; grind) (by grind) (by grind)).eq.symm
theorem cap_half {m c : Rat} : cap m c / 2 = cap (m / 2) (c / 2) := by
  unfold cap
  split <;> split <;> grind
theorem cut_halves {N : Nat} {cs : List Rat} {m : Rat} (h : DealH N cs m) : halvesR (cutL cs m) m = halvesR cs m := by
  by_cases hh : ∀ c ∈ cs, c ≤ m
  · rw [cut_low hh]
  have h' := h.cut
  have h0 := h.d.c0
  have m0 := h.d.m0
  by_cases ha : (halvL (cutL cs m)).sum < m
  · obtain ⟨p, b, q, rfl, hb⟩ := big_split hh
    have a1 := capsum_nn m0 (mid_l h0)
    have a2 := capsum_nn m0 (mid_r h0)
    rw [sum_div2] at ha
    have e : (cutL (p ++ b :: q) m).sum = (p.map (cap m)).sum + (cap m b + (q.map (cap m)).sum) := mid_sum _ _ _ _
    rw [e, cap_hi (Rat.le_of_lt hb)] at ha
    have nn : ∀ {p : List Rat}, (∀ c ∈ p, 0 ≤ c) → ∀ x ∈ p.map (cap m), 0 ≤ x := fun h x hx => by
      obtain ⟨c, hc, rfl⟩ := List.mem_map.mp hx
      exact cap_nn m0 (h c hc)
    have low : ∀ {p : List Rat}, (∀ c ∈ p, 0 ≤ c) → (p.map (cap m)).sum < m → p.map (cap m) = p := fun {p} h hs => cut_low fun c hc => by
      have h1 := mem_le_sum (nn h) (cap m c) (List.mem_map_of_mem hc)
      refine Rat.not_lt.mp fun z => ?_
      rw [cap_hi (Rat.le_of_lt z)] at h1
      grind
    have ep := low (mid_l h0) (by grind)
    have eq := low (mid_r h0) (by grind)
    rw [ep, eq] at ha
    have ec : cutL (p ++ b :: q) m = p ++ m :: q := by
      show (p ++ b :: q).map (cap m) = _
      rw [List.map_append, List.map_cons, ep, eq, cap_hi (Rat.le_of_lt hb)]
    rw [ec, half_only h0 (Rat.le_of_lt hb) (by grind), half_only (fun c hc => ?_) Rat.le_refl (by grind)]
    rcases List.mem_append.mp hc with hc | hc
    · exact mid_l h0 c hc
    · rcases List.mem_cons.mp hc with rfl | hc
      · exact m0
      · exact mid_r h0 c hc
  · have hb : ¬ (halvL cs).sum < m := by
      rw [sum_div2] at ha ⊢
      have := sum_le (l := cs) fun c _ => (cap_le m c).2
      rw [List.map_id'] at this
      have e : (cutL cs m).sum = (cs.map fun c => cap m c).sum := rfl
      rw [e] at ha
      grind
    unfold halvesR
    rw [if_neg ha, if_neg hb]
    obtain ⟨l, e, s⟩ := (h'.half1 ha).even
    have hE : Even (halvL cs) m (evenR (halvL (cutL cs m)) m) := by
      refine ⟨cap l (m / 2), ?_, s⟩
      rw [e, List.map_map, List.map_map, List.map_map]
      refine List.map_congr_left fun c _ => ?_
      show cap l (cap m c / 2) = cap (cap l (m / 2)) (c / 2)
      rw [cap_half, cap_cap]
    exact hE.eq
theorem cut_same {N : Nat} {cs : List Rat} {m : Rat} (h : DealH N cs m) {r : Str} (hr : r = "even" ∨ r = "halves" ∨ r = "orders") : awR r (cutL cs m) m = awR r cs m := by
  rcases hr with rfl | rfl | rfl
  · rw [awR_even, awR_even]
    exact cut_even h.d
  · rw [awR_halves, awR_halves]
    exact cut_halves h
  · rw [awR_orders, awR_orders]
    exact cut_ord h.d
/-! ### whole claims -/
abbrev cutI (cs : List Int) (m : Int) : List Int := cs.map fun c => min c m
theorem cutI_rats (cs : List Int) (m : Int) : rats (cutI cs m) = cutL (rats cs) (m : Rat) := by
  show (cs.map _).map _ = (cs.map _).map _
  rw [List.map_map, List.map_map]
  refine List.map_congr_left fun c _ => ?_
  show ((min c m : Int) : Rat) = cap (m : Rat) (c : Rat)
  by_cases h : c ≤ m
  · rw [Int.min_eq_left h, cap_lo (cast_le.mpr h)]
  · rw [Int.min_eq_right (by omega), cap_hi (cast_le.mpr (by omega))]
theorem PurseOk.cut {ns : List Str} {cs : List Int} {m : Int} (h : PurseOk ns cs m) : PurseOk ns (cutI cs m) m := by
  have hm0 := h.m0
  have hD := h.deal.cut
  refine ⟨h.pe, by rw [List.length_map]; exact h.cl, fun c hc => ?_, h.m0, ?_⟩
  · obtain ⟨x, hx, rfl⟩ := List.mem_map.mp hc
    have := h.c x hx
    omega
  · rw [← cast_le, ← rats_sum, cutI_rats]
    exact hD.d.m1
/-- less money -/
theorem PurseOk.at {ns : List Str} {cs : List Int} {m m' : Int} (h : PurseOk ns cs m) (h0 : 0 ≤ m') (h1 : m' ≤ m) : PurseOk ns cs m' := ⟨h.pe, h.cl, h.c, h0, Int.le_trans h1 h.m1⟩
noncomputable abbrev cutA (r : Str) (cs : List Int) (m : Int) : List Rat := awR r (cutL (rats cs) (m : Rat)) (m : Rat)
def sp_cut (C : Addr) : FS := fun ds Q E => ∃ (ns : List Str) (cs : List Int) (m : Int) (r : Str), ds = [purseD C ns cs m, .str r] ∧ r ∈ RULES ∧ PurseOk ns cs m ∧ Q (.tup ((cutA r cs m).map rD))
def sp_cutlike (C : Addr) : FS := fun ds Q E => ∃ (ns : List Str) (cs : List Int) (m : Int) (r : Str), ds = [purseD C ns cs m, .str r] ∧ r ∈ RULES ∧ PurseOk ns cs m ∧ Q (.bl (decide (cutA r cs m = awI r cs m)))
end DL

/-! DDual: rules that are their own dual; least rights first. -/
namespace DL
open PySem PySem.Spec PyProof.Rows L2
theorem halves_dual {N : Nat} {cs : List Rat} {m : Rat} (h : DealH N cs m) : halvesR cs m = lessL cs (halvesR cs (cs.sum - m)) := by
  unfold halvesR
  by_cases h1 : (halvL cs).sum < m
  · have h2 : ¬ (halvL cs).sum < cs.sum - m := by rw [sum_div2] at h1 ⊢; grind
    rw [if_pos h1, if_neg h2]
  · rw [if_neg h1]
    have hE := (h.half1 h1).even
    by_cases h2 : (halvL cs).sum < cs.sum - m
    · rw [if_pos h2, sub_sub_self, less_less (hE.len.trans (List.length_map _))]
    · rw [if_neg h2]
      have e1 : (halvL cs).sum = m := by rw [sum_div2] at h1 h2 ⊢; grind
      have e2 : cs.sum - m = m := by rw [sum_div2] at e1; grind
      have hF : Even (halvL cs) m (halvL cs) := ⟨cs.sum, by
        rw [half_cap]
        intro c hc
        have := mem_le_sum h.d.c0 c hc
        have := h.d.c0 c hc
        grind, e1⟩
      rw [e2, ← hF.eq, less_half]
/-! ### orders turned -/
def comp (n k : Nat) (S : List Nat) : List Nat := (others n k).filter fun j => !(S.contains j)
theorem comp_all : ((List.range 7).all fun n => (List.range n).all fun k => ((setsOver (others n k)).map (comp n k) == (setsOver (others n k)).reverse) && ((setsOver (others n k)).all fun S => (S ++ comp n k S).isPerm (others n k) && wOrd n (comp n k S) == wOrd n S) && ((setsOver (others n k)).map (wOrd n)).sum == fact n && (k :: others n k).isPerm (List.range n)) = true := by decide +kernel
theorem comp_ok {n k : Nat} (hn : n ≤ 6) (hk : k < n) : (setsOver (others n k)).map (comp n k) = (setsOver (others n k)).reverse ∧ (∀ S ∈ setsOver (others n k), (S ++ comp n k S).Perm (others n k) ∧ wOrd n (comp n k S) = wOrd n S) ∧ ((setsOver (others n k)).map (wOrd n)).sum = fact n ∧ (k :: others n k).Perm (List.range n) := by
  have h1 := List.all_eq_true.mp (List.all_eq_true.mp comp_all n (List.mem_range.mpr (by omega))) k (List.mem_range.mpr hk)
  simp only [Bool.and_eq_true, beq_iff_eq, List.isPerm_iff, List.all_eq_true] at h1
  obtain ⟨⟨⟨a, b⟩, c⟩, d⟩ := h1
  exact ⟨a, b, c, d⟩
theorem comp_sum {n k : Nat} (hn : n ≤ 6) (hk : k < n) (F : List Nat → Rat) : ((setsOver (others n k)).map fun S => qN (wOrd n S) * F S).sum = ((setsOver (others n k)).map fun S => qN (wOrd n S) * F (comp n k S)).sum := by
  obtain ⟨a, b, _, _⟩ := comp_ok hn hk
  rw [← perm_sum ((List.reverse_perm (setsOver (others n k))).map fun S => qN (wOrd n S) * F S), ← a, List.map_map]
  congr 1
  refine List.map_congr_left fun S hS => ?_
  show qN (wOrd n (comp n k S)) * F (comp n k S) = _
  rw [(b S hS).2]
theorem nat_sum (f : List Nat → Nat) : ∀ l : List (List Nat), (l.map fun S => qN (f S)).sum = qN ((l.map f).sum)
  | [] => rfl
  | S :: l => by rw [List.map_cons, List.map_cons, List.sum_cons, List.sum_cons, nat_sum f l, qN_add]
theorem csum_perm (cs : List Rat) {S S' : List Nat} (h : S.Perm S') : csum cs S = csum cs S' := by
  unfold csum
  exact perm_sum (h.map _)
theorem csum_app (cs : List Rat) (S S' : List Nat) : csum cs (S ++ S') = csum cs S + csum cs S' := by
  unfold csum
  rw [List.map_append, List.sum_append]
theorem csum_all (cs : List Rat) : csum cs (List.range cs.length) = cs.sum := by
  unfold csum
  rw [range_map]
theorem got_turn {cs : List Rat} (h6 : cs.length ≤ 6) (h0 : ∀ k, 0 ≤ cs.getD k 0) (m : Rat) {k : Nat} (hk : k < cs.length) {S : List Nat} (hS : S ∈ setsOver (others cs.length k)) : got cs m k S = cs.getD k 0 - got cs (cs.sum - m) k (comp cs.length k S) := by
  obtain ⟨_, b, _, d⟩ := comp_ok h6 hk
  have e1 := csum_perm cs (b S hS).1
  have e2 := csum_perm cs d
  rw [csum_app] at e1
  rw [csum_cons, csum_all] at e2
  have hc := h0 k
  unfold got
  generalize csum cs S = x at *
  generalize csum cs (comp cs.length k S) = y at *
  generalize csum cs (others cs.length k) = z at *
  generalize cs.getD k 0 = c at *
  generalize cs.sum = T at *
  unfold pos cap
  repeat' split
  all_goals grind
theorem sum_wsub (f g : List Nat → Rat) (w : List Nat → Rat) (c : Rat) : ∀ l : List (List Nat), (∀ S ∈ l, f S = c - g S) → (l.map fun S => w S * f S).sum = (l.map w).sum * c - (l.map fun S => w S * g S).sum
  | [], _ => by simp; try grind
  | S :: l, h => by
    rw [List.map_cons, List.map_cons, List.map_cons, List.sum_cons, List.sum_cons, List.sum_cons, sum_wsub f g w c l fun y hy => h y (List.mem_cons_of_mem _ hy), h S List.mem_cons_self]
    grind
theorem ord_dual {N : Nat} {cs : List Rat} {m : Rat} (h : Deal N cs m) : ordR cs m = lessL cs (ordR cs (cs.sum - m)) := by
  have l1 := ordR_len cs m
  have l2 := ordR_len cs (cs.sum - m)
  refine List.ext_getElem? fun k => ?_
  by_cases hk : k < cs.length
  · obtain ⟨_, _, c, _⟩ := comp_ok h.n6 hk
    rw [List.getElem?_zipWith, ordR_sets h.n6 hk, ordR_sets h.n6 hk, List.getElem?_eq_getElem hk]
    show some _ = some _
    congr 1
    have e0 : cs.getD k 0 = cs[k] := by rw [List.getD_eq_getElem?_getD, List.getElem?_eq_getElem hk]; rfl
    rw [sum_wsub (fun S => got cs m k S) (fun S => got cs (cs.sum - m) k (comp cs.length k S)) (fun S => qN (wOrd cs.length S)) cs[k] _ fun S hS => by rw [got_turn h.n6 h.nn m hk hS, e0], ← comp_sum h.n6 hk (got cs (cs.sum - m) k), nat_sum, c]
    have h3 : qN (fact cs.length) ≠ 0 := Rat.ne_of_gt (qN_pos (fact_pos _))
    generalize qN (fact cs.length) = f at *
    generalize ((setsOver (others cs.length k)).map fun S => qN (wOrd cs.length S) * got cs (cs.sum - m) k S).sum = s
    rw [Rat.div_def, Rat.div_def]
    have h4 := Rat.mul_inv_cancel f h3
    grind
  · rw [List.getElem?_eq_none (by omega), List.getElem?_eq_none (by rw [lessL_len l2]; omega)]
theorem losses_dual (cs : List Rat) (m : Rat) : lossesR cs m = lessL cs (evenR cs (cs.sum - m)) := rfl
/-! ### least rights first -/
abbrev rightL (cs : List Rat) (m : Rat) : List Rat := lessL cs (cutL cs (cs.sum - m))
noncomputable abbrev rightsR (r : Str) (cs : List Rat) (m : Rat) : List Rat := addL (rightL cs m) (awR r (lessL cs (rightL cs m)) (m - (rightL cs m).sum))
theorem cutL_len (cs : List Rat) (m : Rat) : (cutL cs m).length = cs.length := List.length_map _
theorem right_left (cs : List Rat) (m : Rat) : lessL cs (rightL cs m) = cutL cs (cs.sum - m) := less_less (cutL_len _ _)
theorem right_money (cs : List Rat) (m : Rat) : m - (rightL cs m).sum = (cutL cs (cs.sum - m)).sum - (cs.sum - m) := by
  rw [lessL_sum (cutL_len _ _).symm]
  grind
theorem DealH.lack {N : Nat} {cs : List Rat} {m : Rat} (h : DealH N cs m) : DealH N cs (cs.sum - m) := ⟨h.d.lack, h.h2⟩
theorem DealH.rest {N : Nat} {cs : List Rat} {m : Rat} (h : DealH N cs m) : DealH N (lessL cs (rightL cs m)) (m - (rightL cs m).sum) := by
  rw [right_left, right_money]
  exact h.lack.cut.lack
theorem add_less {cs xs ys : List Rat} (h1 : xs.length = cs.length) (h2 : ys.length = cs.length) : addL (lessL cs xs) (lessL xs ys) = lessL cs ys := by
  refine List.ext_getElem (by simp only [List.length_zipWith]; omega) fun i a b => ?_
  simp only [List.getElem_zipWith]
  grind
theorem rights_same {N : Nat} {cs : List Rat} {m : Rat} (h : DealH N cs m) {r : Str} (hr : r = "losses" ∨ r = "halves" ∨ r = "orders") : rightsR r cs m = awR r cs m := by
  have hc := h.lack.cut
  have hcl := hc.lack
  unfold rightsR
  rw [right_left, right_money]
  rcases hr with rfl | rfl | rfl
  · rw [awR_losses, awR_losses, losses_dual, losses_dual, sub_sub_self, cut_even h.lack.d]
    exact add_less (cutL_len _ _) h.lack.d.even.len
  · rw [awR_halves, awR_halves, halves_dual hcl, halves_dual h, sub_sub_self, cut_halves h.lack]
    have := (h.lack.aw (r := "halves") (by decide)).len
    rw [awR_halves] at this
    exact add_less (cutL_len _ _) this
  · rw [awR_orders, awR_orders, ord_dual hcl.d, ord_dual h.d, sub_sub_self, cut_ord h.lack.d]
    exact add_less (cutL_len _ _) (ordR_len _ _)
/-! ### whole numbers -/
abbrev rightI (cs : List Int) (m : Int) : List Int := cs.map fun c => max 0 (m - cs.sum + c)
theorem rightI_rats {cs : List Int} {m : Int} (h : m ≤ cs.sum) : rats (rightI cs m) = rightL (rats cs) (m : Rat) := by
  have e : (rats cs).sum - (m : Rat) = ((cs.sum - m : Int) : Rat) := by rw [rats_sum]; exact (Rat.intCast_sub _ _).symm
  unfold rightL
  rw [e, less_map]
  show (cs.map _).map _ = (cs.map _).map _
  rw [List.map_map, List.map_map]
  refine List.map_congr_left fun c _ => ?_
  show ((max 0 (m - cs.sum + c) : Int) : Rat) = (c : Rat) - cap ((cs.sum - m : Int) : Rat) (c : Rat)
  by_cases h : c ≤ cs.sum - m
  · rw [Int.max_eq_left (by omega), cap_lo (cast_le.mpr h), Rat.sub_self]
    rfl
  · rw [Int.max_eq_right (by omega), cap_hi (cast_le.mpr (by omega)), ← Rat.intCast_sub]
    congr 1
    omega
theorem right_bd {ns : List Str} {cs : List Int} {m : Int} (h : PurseOk ns cs m) : ∀ q ∈ rightL (rats cs) (m : Rat), Bd 100 q := fun q hq => by
  rw [← rightI_rats h.m1] at hq
  obtain ⟨i, hi, rfl⟩ := List.mem_map.mp hq
  obtain ⟨c, hc, rfl⟩ := List.mem_map.mp hi
  exact Bd.of_int (by have := h.c c hc; have := h.m1; omega)
noncomputable abbrev rightA (r : Str) (cs : List Int) (m : Int) : List Rat := rightsR r (rats cs) (m : Rat)
def sp_rightsof (C : Addr) : FS := fun ds Q E => ∃ (ns : List Str) (cs : List Int) (m : Int), ds = [purseD C ns cs m] ∧ PurseOk ns cs m ∧ Q (.lst ((rightL (rats cs) (m : Rat)).map rD))
def sp_rights (C : Addr) : FS := fun ds Q E => ∃ (ns : List Str) (cs : List Int) (m : Int) (r : Str), ds = [purseD C ns cs m, .str r] ∧ r ∈ RULES ∧ PurseOk ns cs m ∧ Q (.tup ((rightA r cs m).map rD))
def sp_rightlike (C : Addr) : FS := fun ds Q E => ∃ (ns : List Str) (cs : List Int) (m : Int) (r : Str), ds = [purseD C ns cs m, .str r] ∧ r ∈ RULES ∧ PurseOk ns cs m ∧ Q (.bl (decide (rightA r cs m = awI r cs m)))
def sp_lawrights : FS := fun ds Q E => ∃ (ns : List Str) (cs : List Int) (m : Int) (r : Str), ds = [partsD ns cs m, .str r] ∧ r ∈ RULES ∧ PurseOk ns cs m ∧ Q (.tup ((rightA r cs m).map rD))
end DL

/-! DFam: the first family of laws over the rules' readings. -/
namespace DL
open PySem PySem.Spec PyProof.Rows L2
theorem LE.bdb {N : Nat} {cs : List Rat} {m : Rat} {Pd R : List Nat} {L μ : Rat} (h : LE N cs m Pd R L μ) (hE : Deal N cs m) (hne : R ≠ []) : Bd 100 L ∧ Bd 100 μ := by
  obtain ⟨a, b⟩ := h.onL hE.n6 hne
  have h1 := hE.hN
  have h2 := hE.hB
  exact ⟨a.bd (by omega) (b := 6000) h.l0 (Rat.le_trans (h.lm hE.nn) (Rat.le_trans hE.m1 hE.s6)) (by omega) (by omega), b.bd (by omega) (b := 6000) h.m0 (Rat.le_trans h.ub (Rat.le_trans hE.m1 hE.s6)) (by omega) (by omega)⟩
/-- what the law's own deal answers -/
def sp_dealt2 : FS := fun ds Q E => ∃ (cs : List Rat) (m : Rat) (r : Str) (N : Nat), ds = [.lst (cs.map rD), rD m, .str r] ∧ r ∈ RULES ∧ DealH N cs m ∧ Q (.lst ((awR r cs m).map rD))
/-! ### orders by sets -/
abbrev allS (n : Nat) : List (List Nat) := setsOver (List.range n)
theorem outs_all : ((List.range 7).all fun n => ((List.range n).all fun k => (allS n).filter (fun S => !(S.contains k)) == setsOver (others n k)) && (Nat.ble (allS n).length 64 && (allS n).all fun S => Nat.ble S.length n && (S.all fun j => Nat.blt j n) && (List.range n).all fun k => S.contains k || Nat.blt S.length n)) = true := by decide +kernel
theorem outs_ok {n : Nat} (hn : n ≤ 6) : (∀ k, k < n → (allS n).filter (fun S => !(S.contains k)) = setsOver (others n k)) ∧ (allS n).length ≤ 64 ∧ ∀ S ∈ allS n, S.length ≤ n ∧ (∀ j ∈ S, j < n) ∧ ∀ k, k < n → S.contains k = false → S.length < n := by
  have h1 := List.all_eq_true.mp outs_all n (List.mem_range.mpr (by omega))
  simp only [Bool.and_eq_true, beq_iff_eq, List.all_eq_true, Nat.ble_eq, Nat.blt_eq, List.mem_range, Bool.or_eq_true] at h1
  obtain ⟨a, b, c⟩ := h1
  refine ⟨a, b, fun S hS => ⟨(c S hS).1.1, (c S hS).1.2, fun k hk hf => ?_⟩⟩
  rcases (c S hS).2 k hk with h | h
  · rw [hf] at h; cases h
  · exact h
def partS (cs : List Rat) (m : Rat) (k : Nat) (L : List (List Nat)) : Rat := ((L.filter fun S => !(S.contains k)).map (ordT cs m k)).sum
theorem partS_succ {cs : List Rat} {m : Rat} {k i : Nat} {L : List (List Nat)} {S : List Nat} (h : L[i]? = some S) : partS cs m k (L.take (i + 1)) = partS cs m k (L.take i) + if S.contains k then 0 else ordT cs m k S := by
  unfold partS
  rw [List.take_add_one, h, Option.toList_some, List.filter_append, List.map_append, List.sum_append]
  congr 1
  cases e : S.contains k with
  | true => rw [List.filter_cons_of_neg (by simpa using e)]; rfl
  | false =>
    rw [List.filter_cons_of_pos (by simpa using e)]
    simp
    try grind
theorem partS_all {cs : List Rat} {m : Rat} (h6 : cs.length ≤ 6) : (List.range cs.length).map (fun k => rD (partS cs m k (allS cs.length))) = (ordR cs m).map rD := by
  refine List.ext_getElem (by rw [List.length_map, List.length_map, List.length_range, ordR_len]) fun i h1 h2 => ?_
  rw [List.length_map, List.length_range] at h1
  have := ordT_all (m := m) h6 h1
  rw [List.getElem?_eq_getElem (by rw [ordR_len]; exact h1)] at this
  rw [List.getElem_map, List.getElem_map, List.getElem_range, Option.some.inj this]
  unfold partS
  rw [(outs_ok h6).1 i h1]
  rfl
theorem partS_bd {N : Nat} {cs : List Rat} {m : Rat} (hE : Deal N cs m) {k : Nat} (hk : k < cs.length) (i : Nat) : Bd 100 (partS cs m k ((allS cs.length).take i)) := by
  obtain ⟨_, hl, hs⟩ := outs_ok hE.n6
  have hN0 := hE.hN
  have hB60 := hE.hB
  obtain ⟨a, b, c⟩ := sum_small (N := N * 720) (l := (((allS cs.length).take i).filter fun S => !(S.contains k)).map (ordT cs m k)) fun x hx => by
    obtain ⟨S, hS, rfl⟩ := List.mem_map.mp hx
    obtain ⟨h1, h2⟩ := List.mem_filter.mp hS
    exact ordT_ok hE S ((hs S (List.mem_of_mem_take h1)).2.2 k hk (by simpa using h2)) hk
  refine a.bd (by omega) (b := 64000) b (Rat.le_trans c ?_) (by omega) (by omega)
  have h1 : ((((allS cs.length).take i).filter fun S => !(S.contains k)).map (ordT cs m k)).length ≤ 64 := by
    rw [List.length_map]
    have h2 := List.length_filter_le (fun S => !(S.contains k)) ((allS cs.length).take i)
    rw [List.length_take] at h2
    omega
  have h2 := Rat.mul_le_mul_of_nonneg_right (qN_le h1) (show (0 : Rat) ≤ 1000 by decide)
  have : qN 64 * 1000 = 64000 := by decide +kernel
  have e : ((64000 : Int) : Rat) = 64000 := rfl
  rw [e]
  grind
theorem inD_nats (x : Nat) (S : List Nat) : inD (.int (x : Int)) (S.map fun (k : Nat) => D.int (k : Int)) = S.contains x := by
  have e : (S.map fun (k : Nat) => D.int (k : Int)) = (S.map fun (k : Nat) => (k : Int)).map D.int := by rw [List.map_map]; rfl
  rw [e, inD_ints, Bool.eq_iff_iff, decide_eq_true_iff, List.contains_iff_mem, List.mem_map]
  constructor
  · rintro ⟨a, ha, h⟩
    rwa [show x = a by omega]
  · exact fun h => ⟨x, h, rfl⟩
theorem flat_nats (S : List Nat) : (S.map fun (k : Nat) => D.int (k : Int)).all isFlat = true := by
  rw [List.all_map]
  exact List.all_eq_true.mpr fun _ _ => rfl
end DL

/-! DAw: awards of a purse, any; what the looks at them promise. -/
namespace DL
open PySem PySem.Spec PyProof.Rows L2
/-- awards: as the money, within the claims, of few parts -/
structure Aw (cs : List Int) (m : Int) (qs : List Rat) : Prop where
  len : qs.length = cs.length
  on : ∃ M : Nat, 0 < M ∧ M < 2 ^ 40 ∧ ∀ q ∈ qs, On M q
  in_ : ∀ (i : Nat) (c : Int) (q : Rat), cs[i]? = some c → qs[i]? = some q → 0 ≤ q ∧ q ≤ (c : Rat)
  sum : qs.sum = (m : Rat)
theorem rats_get {cs : List Int} {i : Nat} {c : Int} (h : cs[i]? = some c) : (rats cs)[i]? = some (c : Rat) := by rw [List.getElem?_map, h]; rfl
theorem Aw.in2 {cs : List Int} {m : Int} {qs : List Rat} (h : Aw cs m qs) {q : Rat} (hq : q ∈ qs) : ∃ c ∈ cs, 0 ≤ q ∧ q ≤ (c : Rat) := by
  obtain ⟨i, hi, rfl⟩ := List.getElem_of_mem hq
  have hl := h.len
  have e1 : cs[i]? = some cs[i] := List.getElem?_eq_getElem (by omega)
  exact ⟨_, List.mem_of_getElem? e1, h.in_ i _ _ e1 (List.getElem?_eq_getElem hi)⟩
theorem Aw.bd {ns : List Str} {cs : List Int} {m : Int} {qs : List Rat} (hp : PurseOk ns cs m) (h : Aw cs m qs) : ∀ q ∈ qs, Bd 60 q := fun q hq => by
  obtain ⟨M, h1, h2, h3⟩ := h.on
  obtain ⟨c, hc, q0, q1⟩ := h.in2 hq
  have hc2 := (hp.c c hc).2
  exact (h3 q hq).bd h1 (b := 99) q0 (Rat.le_trans q1 (cast_le.mpr hc2)) (by omega) (by omega)
theorem PurseOk.aw {ns : List Str} {cs : List Int} {m : Int} (hp : PurseOk ns cs m) {r : Str} (hr : r ∈ RULES) : Aw cs m (awI r cs m) := by
  have hD := hp.deal
  have hA := hD.aw hr
  obtain ⟨M, _, h1, h2, h3⟩ := hD.on hr
  have hl : (rats cs).length = cs.length := List.length_map _
  refine ⟨by rw [hA.len, hl], ⟨M, h1, by omega, h3⟩, fun i c q e1 e2 => ⟨hA.lo q (List.mem_of_getElem? e2), hA.hi i _ q (rats_get e1) e2⟩, hA.sum⟩
theorem PurseOk.bdm {ns : List Str} {cs : List Int} {m : Int} (hp : PurseOk ns cs m) : Bd 60 (m : Rat) := by
  have h1 := sum_bound hp.c
  have h2 := hp.m0
  have h3 := hp.m1
  have h4 := hp.pe.l
  have h5 := hp.cl
  exact Bd.int (by omega) (by decide)
theorem PurseOk.bdc {ns : List Str} {cs : List Int} {m : Int} (hp : PurseOk ns cs m) : ∀ c ∈ cs, Bd 60 (c : Rat) := fun c hc => by
  have h1 := hp.c c hc
  exact Bd.int (by omega) (by decide)
theorem PT_rats {d : Nat} {qs : List Rat} (h : qs.length ≤ 1000) : PT (d + 2) (.tup (qs.map rD)) := ⟨by rw [List.length_map]; exact h, fun x hx => by
  obtain ⟨q, _, rfl⟩ := List.mem_map.mp hx
  refine ⟨by simp, fun y hy => ?_⟩
  simp only [List.mem_cons, List.not_mem_nil, or_false] at hy
  rcases hy with rfl | rfl <;> cases d <;> exact trivial⟩
theorem PT_rD {d : Nat} {q : Rat} : PT (d + 1) (rD q) := ⟨by simp, fun y hy => by
  simp only [List.mem_cons, List.not_mem_nil, or_false] at hy
  rcases hy with rfl | rfl <;> cases d <;> exact trivial⟩
theorem PT_bl {d : Nat} {b : Bool} : PT d (.bl b) := by cases d <;> exact trivial
theorem PT_tup {d : Nat} {xs : List D} (h : xs.length ≤ 1000) (hx : ∀ x ∈ xs, PT d x) : PT (d + 1) (.tup xs) := ⟨h, hx⟩
theorem same1_two {d : Nat} {x : D} {Q : D → Prop} {E : DX → Prop} (h : PT d x) (k : Q (.bl true)) : sp_same (d + 1) [.tup [x, x], .tup [x, x]] Q E :=
  ⟨_, rfl, ⟨by simp, fun y hy => by
    simp only [List.mem_cons, List.not_mem_nil, or_false] at hy
    rcases hy with rfl | rfl <;> exact h⟩, k⟩
theorem forall_enc {α : Type} {P : α → Prop} {enc : α → D} : ∀ {ys : List D}, (∀ y ∈ ys, ∃ x, P x ∧ y = enc x) → ∃ xs : List α, ys = xs.map enc ∧ ∀ x ∈ xs, P x
  | [], _ => ⟨[], rfl, fun x h => (List.not_mem_nil h).elim⟩
  | y :: r, h => by
    obtain ⟨x, hx, rfl⟩ := h y List.mem_cons_self
    obtain ⟨xs, rfl, hs⟩ := forall_enc fun y hy => h y (List.mem_cons_of_mem _ hy)
    exact ⟨x :: xs, rfl, fun z hz => by
      rcases List.mem_cons.mp hz with rfl | hz
      · exact hx
      · exact hs z hz⟩
/-- a comprehension without a condition whose items are as P says -/
theorem lcW_P {mg : D → (DEnv → Prop) → DEnv → Prop} {me : DEnv → M D} {ρ : DEnv} {α β : Type} {P : β → Prop} {Q : List D → Prop} (enc : α → D) (enc' : β → D) (xs : List α) (h : ∀ x ∈ xs, ∀ k : D → Prop, (∀ y, P y → k (enc' y)) → mg (enc x) (fun ρ' => me ρ' k fun _ => False) ρ)
    (hq : ∀ ys : List β, ys.length = xs.length → (∀ y ∈ ys, P y) → Q (ys.map enc')) : lcW mg (fun _ => DL.ret true) me ρ [] (xs.map enc) Q := by
  refine lcW_some (P := fun _ y => ∃ z, P z ∧ y = enc' z) _ _ (fun d hd k hk => ?_) fun ys hl hp => ?_
  · obtain ⟨x, hx, rfl⟩ := List.mem_map.mp hd
    exact h x hx k fun y hy => hk _ ⟨y, hy, rfl⟩
  · obtain ⟨zs, rfl, hz⟩ := forall_enc (ys := ys) (P := P) (enc := enc') fun y hy => by
      obtain ⟨i, hi, e⟩ := List.getElem_of_mem hy
      exact hp i _ y (List.getElem?_eq_getElem (show i < (xs.map enc).length by omega)) (by rw [List.getElem?_eq_getElem hi, e])
    rw [List.nil_append]
    exact hq zs (by simpa using hl) hz
theorem sum_upd {v : Nat → Rat} {k : Nat} {s : Rat} : ∀ {l : List Nat}, l.Nodup → k ∈ l → (l.map fun j => if j = k then v j + s else v j).sum = (l.map v).sum + s
  | [], _, h => (List.not_mem_nil h).elim
  | a :: r, hn, h => by
    have hn' := List.nodup_cons.mp hn
    rw [List.map_cons, List.map_cons, List.sum_cons, List.sum_cons]
    by_cases e : a = k
    · subst e
      rw [if_pos rfl, List.map_congr_left (g := v) fun j hj => if_neg fun q => hn'.1 (by rw [← q]; exact hj)]
      grind
    · rw [if_neg e, sum_upd hn'.2 ((List.mem_cons.mp h).resolve_left fun q => e q.symm)]
      grind
/-- one gets some of what another one has -/
def moveL (qs : List Rat) (k j : Nat) (s : Rat) : List Rat := (List.range qs.length).map fun i => if i = k then qs.getD i 0 + s else if i = j then qs.getD i 0 - s else qs.getD i 0
theorem moveL_len (qs : List Rat) (k j : Nat) (s : Rat) : (moveL qs k j s).length = qs.length := by unfold moveL; simp
theorem moveL_get {qs : List Rat} {k j : Nat} {s : Rat} {i : Nat} (hi : i < qs.length) : (moveL qs k j s)[i]? = some (if i = k then qs.getD i 0 + s else if i = j then qs.getD i 0 - s else qs.getD i 0) := by
  unfold moveL
  rw [List.getElem?_map, List.getElem?_range hi]
  rfl
theorem moveL_sum {qs : List Rat} {k j : Nat} {s : Rat} (hk : k < qs.length) (hj : j < qs.length) (hne : k ≠ j) : (moveL qs k j s).sum = qs.sum := by
  unfold moveL
  have h1 := sum_upd (v := fun i => if i = j then qs.getD i 0 + (-s) else qs.getD i 0) (k := k) (s := s) List.nodup_range (List.mem_range.mpr hk)
  have h2 := sum_upd (v := fun i => qs.getD i 0) (k := j) (s := -s) List.nodup_range (List.mem_range.mpr hj)
  have e : (List.range qs.length).map (fun i => if i = k then qs.getD i 0 + s else if i = j then qs.getD i 0 - s else qs.getD i 0) = (List.range qs.length).map (fun i => if i = k then (if i = j then qs.getD i 0 + (-s) else qs.getD i 0) + s else if i = j then qs.getD i 0 + (-s) else qs.getD i 0) := List.map_congr_left fun i _ => by
    by_cases e1 : i = k
    · rw [if_pos e1, if_pos e1, if_neg (by omega)]
    · rw [if_neg e1, if_neg e1, ← Rat.sub_eq_add_neg]
  rw [e, h1, h2, range_map]
  grind
theorem Aw.move {cs : List Int} {m : Int} {qs : List Rat} (h : Aw cs m qs) {k j : Nat} (hk : k < qs.length) (hj : j < qs.length) (hne : k ≠ j) {s : Rat} (s0 : 0 ≤ s) (s1 : s ≤ qs.getD j 0) (s2 : s ≤ ((cs.getD k 0 : Int) : Rat) - qs.getD k 0) {M : Nat} (hM : 0 < M) (hM2 : M < 2 ^ 40) (hs : On M s) (hq : ∀ q ∈ qs, On M q) : Aw cs m (moveL qs k j s) := by
  have hl := h.len
  refine ⟨by rw [moveL_len]; exact hl, ⟨M, hM, hM2, fun q hq' => ?_⟩, fun i c q e1 e2 => ?_, by rw [moveL_sum hk hj hne]; exact h.sum⟩
  · unfold moveL at hq'
    obtain ⟨i, hi, rfl⟩ := List.mem_map.mp hq'
    have hi := hq _ (List.mem_of_getElem? (getD_at (d := 0) (List.mem_range.mp hi)))
    split
    · exact hi.add hs
    · split
      · exact hi.sub hs
      · exact hi
  · have hi := (List.getElem?_eq_some_iff.mp e1).1
    rw [moveL_get (by omega)] at e2
    have e3 := getD_at (cs := qs) (d := 0) (show i < qs.length by omega)
    have h1 := h.in_ i c _ e1 e3
    have ec : cs.getD i 0 = c := by rw [List.getD_eq_getElem?_getD, e1]; rfl
    rw [← Option.some.inj e2]
    by_cases e4 : i = k
    · subst e4
      rw [if_pos rfl]
      rw [ec] at s2
      exact ⟨by grind, by grind⟩
    · rw [if_neg e4]
      by_cases e5 : i = j
      · subst e5
        rw [if_pos rfl]
        exact ⟨by grind, by grind⟩
      · rw [if_neg e5]
        exact h1
theorem PurseOk.awOn {ns : List Str} {cs : List Int} {m : Int} (hp : PurseOk ns cs m) {r : Str} (hr : r ∈ RULES) : ∃ M : Nat, 0 < M ∧ M ≤ 6720 ∧ ∀ q ∈ awI r cs m, On M q := by
  obtain ⟨M, _, h1, h2, h3⟩ := hp.deal.on hr
  exact ⟨M, h1, by omega, h3⟩
theorem On.frac {M : Nat} {q : Rat} (h : On M q) {t : Int} (t1 : 1 ≤ t) (t3 : t ≤ 3) : On (M * 6) (Rat.divInt q.num ((q.den : Int) * t)) ∧ (0 ≤ q → 0 ≤ Rat.divInt q.num ((q.den : Int) * t) ∧ Rat.divInt q.num ((q.den : Int) * t) ≤ q) := by
  have hd := q.den_pos
  have hdq : (0 : Rat) < ((q.den : Int) : Rat) := cpos.mpr (by omega)
  have htq : (0 : Rat) < (t : Rat) := cpos.mpr (by omega)
  have ht1 : (1 : Rat) ≤ (t : Rat) := by rw [← one_cast]; exact cast_le.mpr t1
  have e : Rat.divInt q.num ((q.den : Int) * t) * (t : Rat) = q := by
    have h1 : Rat.divInt q.num ((q.den : Int) * t) * (((q.den : Int) * t : Int) : Rat) = (q.num : Rat) := by
      rw [Rat.divInt_eq_div]
      refine Rat.div_mul_cancel ?_
      rw [Rat.intCast_mul]
      exact Rat.ne_of_gt (Rat.mul_pos hdq htq)
    have h2 : q * ((q.den : Int) : Rat) = (q.num : Rat) := by
      conv => lhs; lhs; rw [← Rat.num_divInt_den q, Rat.divInt_eq_div]
      exact Rat.div_mul_cancel (Rat.ne_of_gt hdq)
    rw [Rat.intCast_mul] at h1
    have h3 : (Rat.divInt q.num ((q.den : Int) * t) * (t : Rat) - q) * ((q.den : Int) : Rat) = 0 := by grind
    rcases Rat.mul_eq_zero.mp h3 with h | h
    · grind
    · exact absurd h (Rat.ne_of_gt hdq)
  generalize Rat.divInt q.num ((q.den : Int) * t) = x at e
  refine ⟨?_, fun h0 => ?_⟩
  · have ht : t = 1 ∨ t = 2 ∨ t = 3 := by omega
    have key : ∀ n : Nat, t = (n : Int) → n ∣ 6 → On (M * 6) x := fun n hn hd => (h.part (n := n) (q := x) (by rw [← hn]; exact e)).dvd (Nat.mul_dvd_mul_left M hd)
    rcases ht with rfl | rfl | rfl
    · exact key 1 rfl (by decide)
    · exact key 2 rfl (by decide)
    · exact key 3 rfl (by decide)
  · have x0 : 0 ≤ x := by
      refine Rat.not_lt.mp fun hn => ?_
      have := Rat.mul_lt_mul_of_pos_right hn htq
      rw [e, Rat.zero_mul] at this
      grind
    refine ⟨x0, ?_⟩
    have := Rat.mul_le_mul_of_nonneg_left ht1 x0
    rw [e, Rat.mul_one] at this
    exact this
def sp_is_pair : FS := fun ds Q E => ∃ q : Rat, ds = [rD q] ∧ Q (.bl true)
def sp_is_fraction : FS := fun ds Q E => ∃ q : Rat, ds = [rD q] ∧ Bd 2000 q ∧ Q (.bl true)
def sp_is_award : FS := fun ds Q E => ∃ c q : Rat, ds = [rD c, rD q] ∧ Bd 2000 c ∧ Bd 2000 q ∧ 0 ≤ q ∧ q ≤ c ∧ Q (.bl true)
def sp_wrong_in_awards (C : Addr) : FS := fun ds Q E => ∃ (ns : List Str) (cs : List Int) (m : Int) (qs : List Rat), ds = [purseD C ns cs m, .tup (qs.map rD)] ∧ PurseOk ns cs m ∧ Aw cs m qs ∧ Q (.lst [])
def sp_losses_by (C : Addr) : FS := fun ds Q E => ∃ (ns : List Str) (cs : List Int) (m : Int) (qs : List Rat), ds = [purseD C ns cs m, .tup (qs.map rD)] ∧ PurseOk ns cs m ∧ Aw cs m qs ∧ Q (.tup ((lessL (rats cs) qs).map rD))
def sp_check_awards (C : Addr) : FS := fun ds Q E => ∃ (ns : List Str) (cs : List Int) (m : Int) (qs : List Rat), ds = [purseD C ns cs m, .tup (qs.map rD)] ∧ PurseOk ns cs m ∧ Aw cs m qs ∧ Q .non
noncomputable def sp_are_by (C : Addr) : FS := fun ds Q E => ∃ (ns : List Str) (cs : List Int) (m : Int) (r : Str) (qs : List Rat), ds = [purseD C ns cs m, .str r, .tup (qs.map rD)] ∧ r ∈ RULES ∧ PurseOk ns cs m ∧ Aw cs m qs ∧ Q (.bl (decide (qs = awI r cs m)))
def sp_other (Wl : Addr → Prop) : FS := fun ds Q E => ∃ (a : Addr) (ns : List Str) (cs : List Int) (m : Int), ds = [.obj a, partsD ns cs m] ∧ Wl a ∧ PurseOk ns cs m ∧ ∀ qs, Aw cs m qs → Q (.tup (qs.map rD))
end DL

/-! DDisp: written dicts with numbers or texts as keys; their keys as a list. -/
namespace DL
open PySem PySem.Spec PyProof.Rows L2
def kD : Key → D
  | .inl i => .int i
  | .inr x => .str x
def mergeP {α : Type} (kvs more : List (Key × α)) : List (Key × α) := more.foldl (fun acc kv => putP acc kv.1 kv.2) kvs
theorem kd_inv {K : PySem.W.Frag} {U : Addr → Prop} {H : Hp} {k : Key} {v : V} (r : Rep K U H (kD k) v) : v = kV k := by
  cases k with
  | inl i => exact inv_int r
  | inr x => exact inv_str r
theorem kd_rep {K : PySem.W.Frag} {U : Addr → Prop} {H : Hp} (k : Key) : Rep K U H (kD k) (kV k) := by
  cases k with
  | inl i => exact rep_int
  | inr x => exact rep_str
/-- pairs of data and of values -/
def RepsP (K : PySem.W.Frag) (U : Addr → Prop) (H : Hp) (prs : List (D × D)) (vs : List (V × V)) : Prop := Reps K U H (prs.map (·.1)) (vs.map (·.1)) ∧ Reps K U H (prs.map (·.2)) (vs.map (·.2))
def TMp (z : Zc) (trs : List (TE × TE)) (m : DEnv → M (List (D × D))) : Prop := ∀ (U : Addr → Prop) (σ : L2.St) (H : Hp) (ρ : DEnv) (Q : List (V × V) → Hp → Prop) (Qd : List (D × D) → Prop) (E : DX → Prop), WR z U σ H ρ → (∀ x, E x → z.Ed x) → m ρ Qd E →
  (∀ prs vs H', Qd prs → Ext z.g.G H H' → z.g.J H' → RepsP z.K U H' prs vs → Q vs H') → tPairs trs σ H Q
structure DPs (X : Cx) (z : Zc) (pos : Pos) (keys : List (Option Expr)) (values : List Expr) (trs : List (TE × TE)) (m : DEnv → M (List (D × D))) : Prop where
  pe : PPs X pos keys values trs
  tm : TMp z trs m
/-- the written dict -/
abbrev mDisp (prs : List (D × D)) : M D := fun Q _ => ∃ kvs : List (Key × D), prs = kvs.map (fun kv => (kD kv.1, kv.2)) ∧ kvs.length ≤ 15 ∧ Q (dictD (mergeP [] kvs))
section
variable {X : Cx} {z : Zc} {pos : Pos} {k v : Expr} {ks : List (Option Expr)} {vs : List Expr} {tk tv : TE} {mk mv : DEnv → M D} {trs : List (TE × TE)} {mr : DEnv → M (List (D × D))}
theorem dps_nil : DPs X z pos [] [] [] (fun _ => ret []) := ⟨pps_nil, fun U σ H ρ Q Qd E w he h kq => kq [] [] H h (Ext.refl H) w.j ⟨Reps.nil, Reps.nil⟩⟩
theorem dps_cons (hk : DE X z k tk mk) (hv : DE X z v tv mv) (hr : DPs X z pos ks vs trs mr) : DPs X z pos (some k :: ks) (v :: vs) ((tk, tv) :: trs) (fun ρ => bnd (mk ρ) fun a => bnd (mv ρ) fun b => bnd (mr ρ) fun r => ret ((a, b) :: r)) :=
  ⟨pps_cons hk.pe hv.pe hr.pe, fun U σ H ρ Q Qd E w he h kq => hk.tm U σ H ρ _ _ E w he h fun d1 v1 H1 h1 e1 j1 r1 => hv.tm U σ H1 ρ _ _ E (w.step e1 j1) he h1 fun d2 v2 H2 h2 e2 j2 r2 =>
    hr.tm U σ H2 ρ _ _ E ((w.step e1 j1).step e2 j2) he h2 fun prs vs H3 h3 e3 j3 r3 => kq _ _ H3 h3 ((e1.trans e2).trans e3) j3 ⟨Reps.cons ((r1.ext e2 w.gu).ext e3 w.gu) r3.1, Reps.cons (r2.ext e3 w.gu) r3.2⟩⟩
theorem merge_rel {K : PySem.W.Frag} {U : Addr → Prop} {H : Hp} : ∀ {kvd : List (Key × D)} {kvv : List (Key × V)} {ad : List (Key × D)} {av : List (Key × V)}, kvd.map (·.1) = kvv.map (·.1) → Reps K U H (kvd.map (·.2)) (kvv.map (·.2)) → ad.map (·.1) = av.map (·.1) → Reps K U H (ad.map (·.2)) (av.map (·.2)) →
    (mergeK av kvv).map (·.1) = (mergeP ad kvd).map (·.1) ∧ Reps K U H ((mergeP ad kvd).map (·.2)) ((mergeK av kvv).map (·.2))
  | [], [], ad, av, _, _, h1, h2 => ⟨h1.symm, h2⟩
  | p :: kvd, q :: kvv, ad, av, e, r, h1, h2 => by
    rw [List.map_cons, List.map_cons] at e r
    obtain ⟨e1, e2⟩ := List.cons.inj e
    simp only [Reps] at r
    obtain ⟨x, t, ex, r1, r2⟩ := r
    obtain ⟨rfl, rfl⟩ := List.cons.inj ex
    have hz : (av.map (·.1)).zip (ad.map (·.2)) = ad := by rw [← h1]; exact zip_back ad
    obtain ⟨p1, p2⟩ := putV_rel (k := q.1) r1 h2
    rw [hz] at p1 p2
    have go := merge_rel (kvd := kvd) (kvv := kvv) (ad := putP ad p.1 p.2) (av := putK av q.1 q.2) e2 r2 (by rw [e1]; exact p1.symm) (by rw [e1]; exact p2)
    exact go
  | [], _ :: _, _, _, e, _, _, _ => by simp at e
  | _ :: _, [], _, _, e, _, _, _ => by simp at e
theorem keys_rel {K : PySem.W.Frag} {U : Addr → Prop} {H : Hp} : ∀ {kvd : List (Key × D)} {vs : List (V × V)}, RepsP K U H (kvd.map fun kv => (kD kv.1, kv.2)) vs → ∃ kvv : List (Key × V), vs = kvv.map (fun kv => (kV kv.1, kv.2)) ∧ kvd.map (·.1) = kvv.map (·.1) ∧ Reps K U H (kvd.map (·.2)) (kvv.map (·.2))
  | [], vs, h => by
    have h1 := h.1
    simp only [Reps, List.map_nil, List.map_eq_nil_iff] at h1
    subst h1
    exact ⟨[], rfl, rfl, Reps.nil⟩
  | p :: kvd, vs, h => by
    obtain ⟨h1, h2⟩ := h
    cases vs with
    | nil =>
      simp only [List.map_cons, List.map_nil, Reps] at h1
      obtain ⟨_, _, e, _⟩ := h1
      cases e
    | cons q vs =>
      simp only [List.map_cons, Reps] at h1 h2
      obtain ⟨x, t, ex, r1, r2⟩ := h1
      obtain ⟨rfl, rfl⟩ := List.cons.inj ex
      obtain ⟨y, t', ey, r3, r4⟩ := h2
      obtain ⟨rfl, rfl⟩ := List.cons.inj ey
      obtain ⟨kvv, rfl, e1, e2⟩ := keys_rel (kvd := kvd) (vs := vs) ⟨r2, r4⟩
      have ek := kd_inv r1
      refine ⟨(p.1, q.2) :: kvv, ?_, ?_, Reps.cons r3 e2⟩
      · rw [List.map_cons, ← ek]
      · rw [List.map_cons, List.map_cons, e1]
theorem de_disp {keys : List (Option Expr)} {values : List Expr} (h : DPs X z pos keys values trs mr) (hall : keys.all (·.isSome) = true := by rfl) (hl : keys.length = values.length := by rfl) (h0 : keys ≠ [] := by intro z; cases z) (h15 : keys.length ≤ 15 := by decide) : DE X z (.Dict keys values pos) (tDisp trs) (fun ρ => bnd (mr ρ) mDisp) :=
  ⟨pe_disp h.pe hall hl h0 h15, fun U σ H ρ Q Qd E w he hm kq p hp => by
    have nG : ¬ z.g.G p := fun q => z.g.dom H p w.j q hp
    have e0 : Ext z.g.G H (upd H p (.dK [])) := Ext.new hp
    have j0 := z.g.new (o := .dK []) w.j hp
    have w1 : WR z (fun b => U b ∨ b = p) σ (upd H p (.dK [])) ρ := w.beside e0 j0 hp (by rw [upd_same]; simp)
    refine h.tm _ σ _ ρ _ _ E w1 he hm fun prs vs H2 h2 e2 j2 r2 => ?_
    obtain ⟨kvs, rfl, hk15, hq⟩ := h2
    have hp2 : H2 p = some (.dK []) := e2 p _ upd_same nG
    obtain ⟨kvv, rfl, ek, rv⟩ := keys_rel r2
    refine ⟨hp2, kvv, rfl, by
      have h1 := congrArg List.length ek
      rw [List.length_map, List.length_map] at h1
      omega, ?_⟩
    obtain ⟨m1, m2⟩ := merge_rel (ad := []) (av := []) ek rv rfl Reps.nil
    have e3 : Ext z.g.G H (upd H2 p (.dK (mergeK [] kvv))) := fun b o hb ng => by
      have hne : b ≠ p := fun q => by rw [q, hp] at hb; cases hb
      rw [upd_ne hne]
      exact e2 b o (by rw [upd_ne hne]; exact hb) ng
    have j3 : z.g.J (upd H2 p (.dK (mergeK [] kvv))) := z.g.st _ _ j2 (fun b hb => upd_ne fun q => nG (by rw [← q]; exact hb)) fun b φ hb => by
      rw [upd_ne (ne_of hb hp2 (by intro z; cases z))]
      exact hb
    refine kq _ _ _ hq e3 j3 ?_
    unfold dictD
    simp only [Rep]
    refine ⟨p, _, rfl, ⟨upd_same, fun q => w.dom p q hp, m1⟩, ?_⟩
    exact Reps.mono' (fun b o hb n => ⟨by rw [upd_ne fun q => n (.inr q)]; exact hb, fun q => n (.inl q)⟩) _ _ m2⟩
/-- list(d): the keys -/
abbrev mLstK (d : D) : M D := fun Q _ => match d with | .dK ks _ => Q (.lst (ks.map kD)) | _ => False
theorem reps_keys {K : PySem.W.Frag} {U : Addr → Prop} {H : Hp} : ∀ {ks : List Key} {kvs : List (Key × V)}, kvs.map (·.1) = ks → Reps K U H (ks.map kD) (kvs.map fun kv => kV kv.1)
  | [], kvs, e => by
    rw [List.map_eq_nil_iff] at e
    subst e
    exact Reps.nil
  | k :: ks, kvs, e => by
    cases kvs with
    | nil => cases e
    | cons p kvs =>
      rw [List.map_cons] at e
      obtain ⟨rfl, e2⟩ := List.cons.inj e
      exact Reps.cons (kd_rep _) (reps_keys e2)
theorem de_listK {a : Expr} {ta : TE} {ma : DEnv → M D} {pp : Pos} (hc : X.calm = true) (hm : X.mg "list" = none) (ha : DE X z a ta ma) (hg : Gl X "list" := by rfl) (he : starEach [a] X.env = (false, eval a X.env) :: starEach [] X.env := by rfl) (hpl : (backTo pos (starEach [] X.env)).any (·.1) = false := by rfl) :
    DE X z (.Call (.Name "list" pp) [a] [] pos) (tCB rListD (tCons ta tNil)) (fun ρ => bnd (ma ρ) mLstK) := ⟨pe_callTy (call_list_dK hc) hg hm (by decide +kernel) (pa_cons ha.pe pa_nil he) (by decide) (by decide) he hpl, fun U σ H ρ Q Qd E w he hm kq => ha.tm U σ H ρ _ _ E w he hm fun d v H1 h1 e1 j1 r1 => by
  match d, h1 with
  | .dK ks ds, h1 =>
    obtain ⟨p, kvs, rfl, ⟨hp, nU, ek⟩, r⟩ := rep_dict_inv r1
    refine ⟨p, kvs, rfl, hp, fun l hl => kq (.lst (ks.map kD)) _ _ h1 (e1.trans (Ext.new hl)) (z.g.new j1 hl) ?_⟩
    simp only [Rep]
    exact ⟨l, _, rfl, ⟨upd_same, fun q => (w.step e1 j1).dom l q hl⟩, reps_keys ek⟩⟩
end
end DL

/-! DK12: duals; tables of words. -/
namespace DL
open PySem PySem.Spec PyProof.Rows L2
theorem shares_dual {cs : List Rat} {m : Rat} (h0 : ∀ c ∈ cs, 0 ≤ c) : lessL cs (sharesR cs (cs.sum - m)) = sharesR cs m := by
  unfold sharesR
  rw [less_map]
  refine List.map_congr_left fun c hc => ?_
  by_cases hs : cs.sum = 0
  · rw [if_pos hs, if_pos hs, sum_zeroR h0 hs c hc]
    grind
  · rw [if_neg hs, if_neg hs]
    have e1 : (cs.sum - m) / cs.sum * cs.sum = cs.sum - m := Rat.div_mul_cancel hs
    have e2 : m / cs.sum * cs.sum = m := Rat.div_mul_cancel hs
    have e3 : ((cs.sum - m) / cs.sum - (1 - m / cs.sum)) * cs.sum = 0 := by grind
    rcases Rat.mul_eq_zero.mp e3 with h | h
    · grind
    · exact absurd h hs
def otherR (r : Str) : Str := if r = "even" then "losses" else if r = "losses" then "even" else r
theorem dual_other {N : Nat} {cs : List Rat} {m : Rat} (h : DealH N cs m) {r : Str} (hr : r ∈ RULES) : lessL cs (awR r cs (cs.sum - m)) = awR (otherR r) cs m ∧ otherR r ∈ RULES := by
  rcases rule_cases hr with rfl | rfl | rfl | rfl | rfl
  · rw [show otherR "even" = "losses" from if_pos rfl, awR_even, awR_losses]
    exact ⟨rfl, by simp⟩
  · rw [show otherR "losses" = "even" by decide +kernel, awR_even, awR_losses]
    refine ⟨?_, by simp⟩
    show lessL cs (lessL cs (evenR cs (cs.sum - (cs.sum - m)))) = _
    rw [sub_sub_self]
    exact less_less h.d.even.len
  · rw [show otherR "shares" = "shares" by decide +kernel, awR_shares, awR_shares]
    exact ⟨shares_dual h.d.c0, by simp⟩
  · rw [show otherR "halves" = "halves" by decide +kernel, awR_halves, awR_halves]
    exact ⟨(halves_dual h).symm, by simp⟩
  · rw [show otherR "orders" = "orders" by decide +kernel, awR_orders, awR_orders]
    exact ⟨(ord_dual h.d).symm, by simp⟩
theorem dual_dual {N : Nat} {cs : List Rat} {m : Rat} (h : DealH N cs m) {r : Str} (hr : r ∈ RULES) : lessL cs (lessL cs (awR r cs (cs.sum - (cs.sum - m)))) = awR r cs m := by
  rw [sub_sub_self]
  exact less_less (h.aw hr).len
noncomputable abbrev dualI (r : Str) (cs : List Int) (m : Int) : List Rat := lessL (rats cs) (awR r (rats cs) ((rats cs).sum - (m : Rat)))
def sp_dual (C : Addr) : FS := fun ds Q E => ∃ (ns : List Str) (cs : List Int) (m : Int) (r : Str), ds = [purseD C ns cs m, .str r] ∧ r ∈ RULES ∧ PurseOk ns cs m ∧ Q (.tup ((dualI r cs m).map rD))
theorem PurseOk.lack {ns : List Str} {cs : List Int} {m : Int} (h : PurseOk ns cs m) : PurseOk ns cs (cs.sum - m) := ⟨h.pe, h.cl, h.c, by have := h.m1; omega, by have := h.m0; omega⟩
theorem lack_cast (cs : List Int) (m : Int) : ((cs.sum - m : Int) : Rat) = (rats cs).sum - (m : Rat) := by rw [rats_sum, Rat.intCast_sub]
theorem zip_lessI : ∀ (cs : List Int) (qs : List Rat), (cs.zip qs).map (fun p => ((p.1 : Int) : Rat) - p.2) = lessL (rats cs) qs
  | [], _ => rfl
  | _ :: _, [] => rfl
  | c :: cs, q :: qs => by
    have ih := zip_lessI cs qs
    simp only [List.zip_cons_cons, List.map_cons, lessL, List.zipWith_cons_cons] at ih ⊢
    rw [ih]
/-! ### tables of words -/
theorem putP_new {α : Type} {kvs : List (Key × α)} {k : Key} {v : α} (h : k ∉ kvs.map (·.1)) : putP kvs k v = kvs ++ [(k, v)] := by
  unfold putP
  have e : hasP kvs k = false := by
    induction kvs with
    | nil => rfl
    | cons p r ih =>
      unfold hasP
      rw [List.map_cons, List.mem_cons, not_or] at h
      rw [ih h.2, decide_eq_false (Ne.symm h.1)]
      rfl
  rw [e, if_neg (by decide)]
theorem mergeP_new {α : Type} : ∀ {more kvs : List (Key × α)}, ((kvs ++ more).map (·.1)).Nodup → mergeP kvs more = kvs ++ more
  | [], kvs, _ => by rw [List.append_nil]; rfl
  | p :: r, kvs, h => by
    have hp : p.1 ∉ kvs.map (·.1) := fun hm => by
      rw [List.map_append, List.map_cons, List.nodup_append] at h
      exact h.2.2 _ hm _ List.mem_cons_self rfl
    show mergeP (putP kvs p.1 p.2) r = _
    rw [putP_new hp]
    have := mergeP_new (more := r) (kvs := kvs ++ [(p.1, p.2)]) (by rw [List.append_assoc]; exact h)
    rw [this, List.append_assoc]
    rfl
def tabS (xs : List (Str × Str)) : List (Key × D) := xs.map fun p => (.inr p.1, .str p.2)
theorem getP_tabS (r : Str) : ∀ xs : List (Str × Str), getP (tabS xs) (.inr r) = (xs.lookup r).map D.str
  | [] => rfl
  | p :: xs => by
    have ih := getP_tabS r xs
    show (if (Sum.inr p.1 : Key) = .inr r then some (D.str p.2) else getP (tabS xs) (.inr r)) = _
    rw [ih, List.lookup_cons]
    by_cases e : r = p.1
    · subst e
      rw [if_pos rfl, beq_self_eq_true]
      rfl
    · rw [if_neg fun q => e (Sum.inr.inj q).symm, beq_false_of_ne e]
theorem PLdummy : True := trivial
theorem same1_three {d : Nat} {x : D} {Q : D → Prop} {E : DX → Prop} (h : PT d x) (k : Q (.bl true)) : sp_same (d + 1) [.tup [x, x, x], .tup [x, x, x]] Q E :=
  ⟨_, rfl, ⟨by simp, fun y hy => by
    simp only [List.mem_cons, List.not_mem_nil, or_false] at hy
    rcases hy with rfl | rfl | rfl <;> exact h⟩, k⟩
end DL

/-! DRenew: a name of an own list gets another new list that is made out of it (x = x + [..]). -/
namespace DL
open PySem PySem.Spec PyProof.Rows L2
theorem set_none' {ρ : DEnv} {i k : Nat} {d : D} (h : (ρ.set i none)[k]? = some (some d)) : k ≠ i ∧ ρ[k]? = some (some d) := by
  rw [List.getElem?_set] at h
  by_cases e : i = k
  · rw [if_pos e] at h
    split at h <;> cases h
  · rw [if_neg e] at h
    exact ⟨fun z => e z.symm, h⟩
section
variable {z : Zc} {O : List Nat} {oa : Nat → Addr} {σ : L2.St} {H : Hp} {ρ : DEnv}
/-- the slot forgotten -/
theorem SO.drop (s : SO z O oa σ H ρ) (i : Nat) : SO z O oa σ H (ρ.set i none) := by
  have hs : ∀ {k : Nat} {d : D}, (ρ.set i none)[k]? = some (some d) → k ≠ i ∧ ρ[k]? = some (some d) := fun {k d} h => set_none' h
  have hU : ∀ b, Uo z O oa (ρ.set i none) b → Uo z O oa ρ b := fun b h => by
    rcases h with h | ⟨k, hk, ⟨d', h⟩, e⟩
    · exact .inl h
    · exact .inr ⟨k, hk, ⟨d', (hs h).2⟩, e⟩
  refine ⟨s.ok, s.ext, s.j, s.d0, by rw [List.length_set]; exact s.len, fun k d hk h => ?_, fun k d hk h => ?_, fun k l hk hl h1 h2 => ?_, fun p hp => (s.kp p hp).less hU⟩
  · obtain ⟨v, e1, r⟩ := s.env k d hk (hs h).2
    exact ⟨v, e1, r.less hU⟩
  · obtain ⟨h0, nu, u, r, e1, e2⟩ := s.own k d hk (hs h).2
    exact ⟨h0, nu, u, r.less hU, e1, e2⟩
  · obtain ⟨d1, h1⟩ := h1
    obtain ⟨d2, h2⟩ := h2
    exact s.inj k l hk hl ⟨d1, (hs h1).2⟩ ⟨d2, (hs h2).2⟩
end
theorem tms_renew0 {z : Zc} {O O' : List Nat} {te : TE} {me : DEnv → M D} {i : Nat} (he : TMf z te me) (ho : i ∈ O) (hO : ∀ k, k ∈ O' → k ∈ O) (hO2 : ∀ k, k ∈ O → k = i ∨ k ∈ O') : TMs0 z O (tAsg te (gName i)) (fun κ E ρ => me (hide O' ρ) (fun d => κ.nx (ρ.set i (some d))) E) := fun oa σ H ρ Dn κ E s hE ko hm => by
  have s2 := s.freeze hO
  refine he _ σ H _ _ _ E s2.vis hE hm fun dd a u H' q ha e1 j1 hx r1 => ?_
  have s3 := s.drop i
  have hU : ∀ b, Uo z O oa (ρ.set i none) b → Uo z O' oa ρ b := fun b h => by
    rcases h with h | ⟨k, hk, ⟨d', h⟩, e⟩
    · exact .inl h
    · obtain ⟨ne, h⟩ := set_none' h
      rcases hO2 k hk with q | q
      · exact absurd q ne
      · exact .inr ⟨k, q, ⟨d', h⟩, e⟩
  have s4 := s3.setOwn ho e1 j1 ha hx (r1.less fun b h => h.elim (fun h => .inl (hU b h)) .inr)
  rw [List.set_set] at s4
  exact ko.nx _ _ H' _ s4 q
section
variable {X : Cx} {z : Zc} {O : List Nat} {e a b : Expr} {te ta tb : TE} {me ma mb : DEnv → M D} {pos pos' : Pos} {x : Str}
theorem ds_renew (i : Nat) (O' : List Nat) (hN : X.N.Nodup) (he : DF X z e te me) (hi : X.N[i]? = some x := by rfl) (hx : Loc X.env.scope x := by first | exact .inl rfl | exact .inr rfl) (ho : i ∈ O := by decide) (hO : ∀ k, k ∈ O' → k ∈ O := by decide) (hO2 : ∀ k, k ∈ O → k = i ∨ k ∈ O' := by decide)
    (hs : swapsWith e (some (.Name x pos')) pos.line X.env = pure false := by rfl) (hf : X.fn x = true ∨ X.env.scope.names.lookup x = some .local := by first | exact .inl rfl | exact .inr rfl) :
    DS X z O (.Assign [.Name x pos'] e pos) (tAsg te (gName i)) (fun κ E ρ => me (hide O' ρ) (fun d => κ.nx (ρ.set i (some d))) E) := ⟨ps_set hN hi hx he.pe hs hf, tms_of fun kp => tms_renew0 (he.tm.keep kp) ho hO hO2⟩
abbrev mAddL (x y : D) : M D := fun Q _ => match x, y with
  | .lst ds, .lst es => ds.length + es.length ≤ sizeLine ∧ Q (.lst (ds ++ es))
  | _, _ => False
/-- two lists together: a new one -/
theorem df_addL (ha : DE X z a ta ma) (hb : DE X z b tb mb) : DF X z (.BinOp a .Add b pos) (tOp (rAddD X.K) ta tb) (fun ρ => bnd (ma ρ) fun x => bnd (mb ρ) fun y => mAddL x y) :=
  ⟨pe_op opAdd ha.pe hb.pe, fun U σ H ρ Q Qd E w he h k => ha.tm U σ H ρ _ _ E w he h fun d1 v1 H1 h1 e1 j1 r1 => hb.tm U σ H1 ρ _ _ E (w.step e1 j1) he h1 fun d2 v2 H2 h2 e2 j2 r2 => by
    match d1, d2, h2 with
    | .lst ds, .lst es, h2 =>
      obtain ⟨p, xs, rfl, hp, r⟩ := rep_lst_inv (r1.ext e2 w.gu)
      obtain ⟨q, ys, rfl, hq, r'⟩ := rep_lst_inv r2
      refine .inr (.inr (.inr ⟨p, q, xs, ys, rfl, rfl, hp.1, hq.1, by rw [r.length, r'.length]; exact h2.1, fun l hl => ?_⟩))
      exact k (.lst _) l _ _ h2.2 (none_back (G := z.g.G) j2 (e1.trans e2) hl) ((e1.trans e2).trans (Ext.new hl)) (z.g.new j2 hl) upd_same (.inl ⟨_, _, rfl, rfl, reps_new hl (r.append r')⟩)⟩
end
end DL

/-! DMul1: a tuple once, a tuple no times. -/
namespace L2
open PySem PySem.Spec PyProof.Rows
open AutoSeq1 (wpAny_loadPart')
open MeetsSeq MeetsSeq2 MeetsSeq3 SeqRoads2
theorem tuple_mul1 (l : Addr) (items : Array Value) (n : Nat) (dd : Option Addr) (sl : Array (Option Value)) (u : Tok) :
    Meets (Builtin.«tuple.__mul__» ⟨[.ref l, .int 1 u], []⟩) (fun _ R s => s.heap.get? l = some { cls := .type "tuple", dict := dd, data := .seq items n, slots := sl } ∧ R (.ok (.ret (Value.ref l))) s) :=
  .of_wp fun prog w A R s h => by
    obtain ⟨hp, g, d, tk, os⟩ := s
    obtain ⟨hl, h⟩ := h
    have f1 := AutoSeq1.idx_int
    wp_walk using wpAny_loadPart' hl
    exact ⟨_, rfl, h⟩
theorem tuple_mul0 (l : Addr) (items : Array Value) (n : Nat) (dd : Option Addr) (sl : Array (Option Value)) (u : Tok) (hne : items.isEmpty = false) :
    Meets (Builtin.«tuple.__mul__» ⟨[.ref l, .int 0 u], []⟩) (fun _ R s => s.heap.get? l = some { cls := .type "tuple", dict := dd, data := .seq items n, slots := sl } ∧
      R (.ok (.ret (Value.ref s.heap.objs.size))) { s with heap := s.heap.push { cls := Value.type "tuple", data := Data.seq #[] }, toks := s.toks }) :=
  .of_wp fun prog w A R s h => by
    obtain ⟨hp, g, d, tk, os⟩ := s
    obtain ⟨hl, h⟩ := h
    have f1 := AutoSeq1.idx_int
    wp_walk using wpAny_loadPart' hl
    repeat (first
      | (refine wpAny_ite_false (decide_eq_false (by rw [hne]; decide)) ?_; wp_walk using wpAny_loadPart' hl)
      | (refine wpAny_ite_true (by simp) ?_; wp_walk using wpAny_loadPart' hl))
    exact ⟨_, rfl, h⟩
def rRep1 (K : PySem.W.Frag) : R2 := fun x y H Q => ∃ l xs, x = .ref l ∧ y = .int 1 ∧ SqT K H l xs ∧ Q (.ref l) H
def rRep0 (K : PySem.W.Frag) : R2 := fun x y H Q => ∃ l xs, x = .ref l ∧ y = .int 0 ∧ SqT K H l xs ∧ xs ≠ [] ∧ ∀ p, H p = none → Q (.ref p) (upd H p (.tup []))
section
variable {X : Cx}
theorem op_rep1 : OpR X (binaryOp .Mult) (rRep1 X.K) := by
  intro pins s σ H x y v u Q I rx ry h
  obtain ⟨l, xs, rfl, rfl, hT, q⟩ := h
  cases rx
  obtain ⟨t, rfl⟩ := ry
  obtain ⟨its, r, ⟨⟨cls, dd, data, sl⟩, ho, hc, n, hd⟩, hs⟩ := I.tuple hT
  simp only at hc hd
  subst hc hd
  refine wpAny_binaryOp_repeat_ref (T := "tuple") (U := "int") (by decide) ⟨_, ho, rfl⟩ (fun s' => typeIs_int s' 1 t) noFill_tuple_mul F.fills_int_mul F.slot_int_rmul repeat_tuple F.slot_int_index.lookup
    (call_meets F.slot_int_rmul (typeIs_int s 1 t) F.entry_int_rmul (F.args_int_rmul_2 _ _) (int_rmul_tuple 1 t l its.toArray n dd sl)
      ⟨ho, rfl, ⟨_, ho, rfl⟩, call_meets F.slot_tuple_mul ⟨_, ho, rfl⟩ F.entry_tuple_mul (F.args_tuple_mul_2 _ _) (tuple_mul1 l its.toArray n dd sl t) ⟨ho, ?_⟩⟩)
  exact ⟨.ref l, H, I, rfl, q⟩
theorem op_rep0 : OpR X (binaryOp .Mult) (rRep0 X.K) := by
  intro pins s σ H x y v u Q I rx ry h
  obtain ⟨l, xs, rfl, rfl, hT, hne, q⟩ := h
  cases rx
  obtain ⟨t, rfl⟩ := ry
  obtain ⟨its, r, ⟨⟨cls, dd, data, sl⟩, ho, hc, n, hd⟩, hs⟩ := I.tuple hT
  simp only at hc hd
  subst hc hd
  have hi : its.toArray.isEmpty = false := by
    cases its with
    | nil => exact absurd (List.eq_nil_of_length_eq_zero (by rw [r.length]; rfl)) hne
    | cons a b => rfl
  refine wpAny_binaryOp_repeat_ref (T := "tuple") (U := "int") (by decide) ⟨_, ho, rfl⟩ (fun s' => typeIs_int s' 0 t) noFill_tuple_mul F.fills_int_mul F.slot_int_rmul repeat_tuple F.slot_int_index.lookup
    (call_meets F.slot_int_rmul (typeIs_int s 0 t) F.entry_int_rmul (F.args_int_rmul_2 _ _) (int_rmul_tuple 0 t l its.toArray n dd sl)
      ⟨ho, rfl, ⟨_, ho, rfl⟩, call_meets F.slot_tuple_mul ⟨_, ho, rfl⟩ F.entry_tuple_mul (F.args_tuple_mul_2 _ _) (tuple_mul0 l its.toArray n dd sl t hi) ⟨ho, ?_⟩⟩)
  refine ⟨.ref s.heap.objs.size, _, I.laid (t' := s.toks) (o := .tup []) (fun b ob q => Heap.get?_push_of_some _ q) (Nat.le_refl _) ?_, rfl, q _ (I.hok.fresh (Nat.le_refl _))⟩
  exact ⟨by rw [sizeLine_eq]; decide, [], .nil, IsTup.new _ _⟩
end
end L2
namespace DL
open PySem PySem.Spec PyProof.Rows L2
abbrev mMulE (a b : D) : M D := fun Q E => match a, b with
  | .tup ds, .int k => ds ≠ [] ∧ 0 ≤ k ∧ k ≤ 1000 ∧ ds.length ≤ 1000 ∧ Q (.tup (List.replicate k.toNat ds).flatten)
  | _, _ => mMulD a b Q E
abbrev rMulE (K : PySem.W.Frag) : R2 := fun x y H Q => rMulD K x y H Q ∨ rRep1 K x y H Q ∨ rRep0 K x y H Q
theorem opMulE {X : Cx} : OpR X (binaryOp .Mult) (rMulE X.K) := opMulD.or (op_rep1.or op_rep0)
theorem rmMulE {z : Zc} : RM2 z (rMulE z.K) mMulE := fun U H a b x y Q Qd E gu hU j ra rb he h k => by
  have old : mMulD a b Qd E → rMulE z.K x y H Q := fun h => .inl (rmMulD U H a b x y Q Qd E gu hU j ra rb he h k)
  match a, b, h with
  | .tup ds, .int i, h =>
    obtain ⟨h1, h2, h3, h4, h5⟩ := h
    by_cases i1 : i = 1
    · subst i1
      obtain ⟨p, xs, rfl, hp, r⟩ := rep_tup_inv ra
      have e : (List.replicate (Int.toNat 1) ds).flatten = ds := by simp
      rw [e] at h5
      exact .inr (.inl ⟨p, xs, rfl, inv_int rb, hp.sq, k _ _ H h5 (Ext.refl H) j ra⟩)
    · by_cases i0 : i = 0
      · subst i0
        obtain ⟨p, xs, rfl, hp, r⟩ := rep_tup_inv ra
        exact .inr (.inr ⟨p, xs, rfl, inv_int rb, hp.sq, fun e => h1 (r.nil_iff.mp e), fun q hq => k _ _ _ h5 (Ext.new hq) (z.g.new j hq) (rep_tup_new hU hq Reps.nil)⟩)
      · exact old ⟨h1, by omega, h3, h4, h5⟩
  | .int _, .int _, h => exact old h
  | .str _, .int _, h => exact old h
  | .lst _, .int _, h => exact old h
end DL

/-! DExc5: lists of instances, whose object is kept in mind, compared; == in a suite; a purse's parts as plain tuples. -/
namespace DL
open PySem PySem.Spec PyProof.Rows L2
section
variable {X : Cx} {z : Zc} {e : Expr} {te : TE} {me : DEnv → M D} {es : List Expr} {tr : TA} {mr : DEnv → M (List D)} {pos : Pos}
abbrev mLsta (ds : List D) : M D := fun Q _ => ds.length ≤ sizeLine ∧ ∀ a, Q (.lsta a ds)
/-- [..], the list's object kept in mind -/
theorem de_lsta (h : DA X z es tr mr) : DE X z (.List es pos) (tLst tr) (fun ρ => bnd (mr ρ) mLsta) := ⟨pe_lst h.pe, fun U σ H ρ Q Qd E w he hm k => h.tm U σ H ρ _ _ E w he hm fun ds vs H1 h1 e1 j1 r1 =>
  ⟨by rw [r1.length]; exact h1.1, fun p hp => k _ _ _ (h1.2 p) (e1.trans (Ext.new hp)) (z.g.new j1 hp) (by
    have w1 := w.step e1 j1
    have r := rep_lst_new w1.dom hp r1
    obtain ⟨a, xs, q1, q2, q3⟩ := rep_lst_inv r
    cases q1
    simp only [Rep]
    exact ⟨trivial, xs, q2, q3⟩)⟩⟩
def isIns : D → Bool
  | .ins _ _ _ => true
  | _ => false
theorem refs_ins {K : PySem.W.Frag} {U : Addr → Prop} {H : Hp} : ∀ {ds : List D} {xs : List V}, ds.all isIns = true → Reps K U H ds xs → ∀ x ∈ xs, ∃ a, x = .ref a
  | [], xs, _, r, x, hx => by
    simp only [Reps] at r
    subst r
    cases hx
  | d :: ds, xs, p, r, x, hx => by
    simp only [Reps] at r
    obtain ⟨y, ys, rfl, r1, r2⟩ := r
    obtain ⟨p1, p2⟩ := Bool.and_eq_true_iff.mp (show (isIns d && ds.all isIns) = true from p)
    rcases List.mem_cons.mp hx with rfl | hx
    · cases d with
      | ins C ks fs =>
        simp only [Rep] at r1
        obtain ⟨a, _, _, rfl, _⟩ := r1
        exact ⟨a, rfl⟩
      | _ => cases p1
    · exact refs_ins p2 r2 x hx
/-- the same object -/
def DSame : Eqv := fun x y _ => ∃ a, x = .ref a ∧ y = .ref a
theorem mon_same : Mon DSame := fun _ _ _ _ _ d => d
theorem eqG_same : EqG X 0 DSame := by
  intro A pins s σ H x y u v sb I rx ry d
  obtain ⟨a, rfl, rfl⟩ := d
  cases rx
  cases ry
  exact SeqAt.EqAt.same (A := A) (s := s) (.ref a) X.prog X.w X.xe _ ⟨rfl, H, I, L2.Ext.rfl'⟩
abbrev mEqA (a b : D) : M D := fun Q E => mEq a b Q E ∨ (match a, b with
  | .lsta p ds, .lsta p' ds' => (p = p' ∧ ds = ds' ∧ ds.all isIns = true) ∧ Q (.bl true)
  | _, _ => False)
abbrev rEqA (K : PySem.W.Frag) : R2 := fun x y H Q => rEqDD K x y H Q ∨ rEqG (DList DSame) x y H Q
theorem opEqA {k : Nat} (hr : Room k X.A) (hk : 1 ≤ k) : OpR X (compareOp .Eq) (rEqA X.K) := (opEq hr).or (op_eqG (rcG_list mon_same eqG_same) (hr.mono hk))
theorem rmEqA : RM2 z (rEqA z.K) mEqA := fun U H a b x y Q Qd E gu hU j ra rb he h k => by
  rcases h with h | h
  · exact .inl (rmEq U H a b x y Q Qd E gu hU j ra rb he h k)
  · cases a with
    | lsta p ds =>
      cases b with
      | lsta p' ds' =>
        obtain ⟨⟨rfl, rfl, hi⟩, h⟩ := h
        simp only [Rep] at ra rb
        obtain ⟨rfl, xs, ⟨h1, n1⟩, r1⟩ := ra
        obtain ⟨rfl, ys, ⟨h2, n2⟩, r2⟩ := rb
        rw [h1] at h2
        cases h2
        refine .inr ⟨⟨p, p, xs, xs, rfl, rfl, h1, h1, rfl, fun i x y e1 e2 => ?_⟩, fun H' ee => ?_⟩
        · rw [e1] at e2
          cases e2
          obtain ⟨a, rfl⟩ := refs_ins hi r1 x (List.mem_of_getElem? e1)
          exact ⟨a, rfl, rfl⟩
        · refine k _ _ H' h (fun a o ho _ => ee a o ho) (z.g.st H H' j (fun a ha => ?_) fun a φ ho => ee _ _ ho) rep_bl
          cases q : H a with
          | none => exact absurd q (hU a (gu a ha))
          | some o => exact ee a o q
      | _ => exact h.elim
    | _ => exact h.elim
/-- == of single values, without room -/
abbrev mEqS (a b : D) : M D := fun Q _ => match a, b with
  | .int i, .int j => Q (.bl (i == j))
  | .str x, .str y => Q (.bl (x == y))
  | .bl i, .bl j => Q (.bl (i == j))
  | _, _ => False
theorem opEqS : OpR X (compareOp .Eq) rEq := op_eq
theorem rmEqS : RM2 z rEq mEqS := fun U H a b x y Q Qd E gu hU j ra rb he h k => by
  cases a with
  | int i =>
    cases b with
    | int l =>
      have e1 := inv_int ra; have e2 := inv_int rb
      subst e1; subst e2
      exact ⟨rfl, by rw [dec_int]; exact k _ _ H h (Ext.refl H) j rep_bl⟩
    | _ => exact h.elim
  | str i =>
    cases b with
    | str l =>
      have e1 := inv_str ra; have e2 := inv_str rb
      subst e1; subst e2
      exact ⟨rfl, by rw [dec_str]; exact k _ _ H h (Ext.refl H) j rep_bl⟩
    | _ => exact h.elim
  | bl i =>
    cases b with
    | bl l =>
      have e1 := inv_bl ra; have e2 := inv_bl rb
      subst e1; subst e2
      exact ⟨rfl, by rw [dec_bl]; exact k _ _ H h (Ext.refl H) j rep_bl⟩
    | _ => exact h.elim
  | _ => exact h.elim
/-- a tuple with its items as plain tuples -/
def unP2 : D → D
  | .tup ds => .tup (ds.map unP)
  | d => d
theorem reps_unP {K : PySem.W.Frag} {U : Addr → Prop} {H : Hp} : ∀ {ds : List D} {xs : List V}, Reps K U H ds xs → Reps K U H (ds.map unP) xs
  | [], xs, r => by simpa only [Reps, List.map_nil] using r
  | d :: ds, xs, r => by
    simp only [Reps] at r
    obtain ⟨x, ys, rfl, r1, r2⟩ := r
    exact Reps.cons (rep_unP r1) (reps_unP r2)
theorem rep_unP2 {K : PySem.W.Frag} {U : Addr → Prop} {H : Hp} {d : D} {v : V} (r : Rep K U H d v) : Rep K U H (unP2 d) v := by
  cases d with
  | tup ds =>
    obtain ⟨a, xs, rfl, h, rs⟩ := rep_tup_inv r
    simp only [unP2, Rep]
    exact ⟨a, xs, rfl, h, reps_unP rs⟩
  | _ => exact r
theorem de_weak2 (h : DE X z e te me) : DE X z e te (fun ρ => bnd (me ρ) fun d => ret (unP2 d)) := ⟨h.pe, fun U σ H ρ Q Qd E w hE q k => h.tm U σ H ρ _ _ E w hE q fun d v H1 h1 e1 j1 r1 => k _ v H1 h1 e1 j1 (rep_unP2 r1)⟩
end
/-- values of texts, numbers, truths, None, in tuples, d deep, plain lists, lists of instances -/
def PTa : Nat → D → Prop
  | _, .non => True
  | _, .bl _ => True
  | _, .int _ => True
  | _, .str _ => True
  | d + 1, .tup xs => xs.length ≤ 1000 ∧ ∀ x ∈ xs, PTa d x
  | _, .lst xs => plain (.lst xs) = true ∧ dep (.lst xs) ≤ 64
  | _, .lsta _ xs => xs.all isIns = true
  | _, _ => False
theorem PTa_up : ∀ {d : Nat} {x : D}, PTa d x → PTa (d + 1) x
  | 0, x, h => by cases x <;> first | exact trivial | exact h | exact h.elim
  | d + 1, x, h => by
    cases x with
    | tup xs => exact ⟨h.1, fun y hy => PTa_up (h.2 y hy)⟩
    | _ => first | exact trivial | exact h | exact h.elim
def sp_sameA (d : Nat) : FS := fun ds Q E => ∃ x, ds = [x, x] ∧ PTa d x ∧ Q (.bl true)
mutual
theorem eqD_refl : ∀ d : D, plain d = true → eqD d d = true
  | .non, _ => rfl
  | .bl b, _ => by simp [eqD]
  | .int b, _ => by simp [eqD]
  | .str b, _ => by simp [eqD]
  | .lst xs, p => by
    simp only [plain] at p
    simp only [eqD]
    exact eqDs_refl xs p
  | .tup xs, p => by
    simp only [plain] at p
    simp only [eqD]
    exact eqDs_refl xs p
  | .ty _, p => by simp [plain] at p
  | .obj _, p => by simp [plain] at p
  | .ins _ _ _, p => by simp [plain] at p
  | .dK _ _, p => by simp [plain] at p
  | .dT _ _, p => by simp [plain] at p
  | .ptup _, p => by simp [plain] at p
  | .err _ _ _ _ _, p => by simp [plain] at p
  | .lsta _ _, p => by simp [plain] at p
theorem eqDs_refl : ∀ ds : List D, plains ds = true → eqDs ds ds = true
  | [], _ => rfl
  | d :: ds, p => by
    simp only [plains, Bool.and_eq_true] at p
    simp only [eqDs, eqD_refl d p.1, eqDs_refl ds p.2, Bool.and_self]
end
end DL

/-! DErr1: promises of what checks its arguments, the errors too. -/
namespace DL
open PySem PySem.Spec PyProof.Rows L2
def isP (C : Addr) (d : D) : Prop := ∃ ks fs, d = .ins C ks fs
/-- no purse -/
def noP (d : D) : Prop := (tyD d).isSome = true
/-- none of these words -/
def noW (ws : List D) (d : D) : Prop := (tyD d).isSome = true ∧ ∀ x, d = .str x → inD (.str x) ws = false
def inW (ws : List D) : D → Bool
  | .str x => inD (.str x) ws
  | _ => false
theorem noW.inW {ws : List D} {d : D} (h : noW ws d) : inW ws d = false := by
  cases d <;> first | rfl | exact h.2 _ rfl
theorem not_str {d : D} {t : String} (h : tyD d = some t) (hs : ¬ ∃ x, d = .str x) : isTy t "str" = false := by
  cases d <;> simp only [tyD, Option.some.injEq] at h <;> first | (subst h; first | (exact absurd ⟨_, rfl⟩ hs) | decide) | (cases h)
abbrev gvn (C : Addr) (d : D) : DX := ⟨C, ["given"], [d]⟩
abbrev ixn (C : Addr) (d : D) : DX := ⟨C, ["index"], [d]⟩
def sp_check_purseE (C NP : Addr) : FS := fun ds Q E => ∃ d, ds = [d] ∧ ((isP C d ∧ Q .non) ∨ (noP d ∧ E (gvn NP d)))
def sp_is_one_ofE : FS := fun ds Q E => ∃ d ws, ds = [d, .tup ws] ∧ ws.all isFlat = true ∧ (tyD d).isSome = true ∧ Q (.bl (inW ws d))
def sp_check_ruleE (W : Addr) : FS := fun ds Q E => ∃ d, ds = [d] ∧ ((∃ x, d = .str x ∧ inD (.str x) rulesD = true ∧ Q .non) ∨ (noW rulesD d ∧ E (gvn W d)))
def sp_check_rulesE (C NP W : Addr) : FS := fun ds Q E => ∃ d e, ds = [d, e] ∧ ((isP C d ∧ (∃ x, e = .str x ∧ inD (.str x) rulesD = true) ∧ Q .non) ∨ (isP C d ∧ noW rulesD e ∧ E (gvn W e)) ∨ (noP d ∧ E (gvn NP d)))
def orE (C NP W : Addr) (ws : List D) (f : FS) : FS := fun ds Q E => f ds Q E ∨ ∃ d e, ds = [d, e] ∧ ((isP C d ∧ noW ws e ∧ E (gvn W e)) ∨ (noP d ∧ E (gvn NP d)))
def sp_levelE (C : Addr) : FS := fun ds Q E => ∃ ns cs m r, ds = [purseD C ns cs m, .str r] ∧ (r = "even" ∨ r = "losses") ∧ PurseOk ns cs m ∧ ∀ l, Q (rD l)
end DL

/-! DErr2: count and index of lists of single values; != in a suite. -/
namespace DL
open PySem PySem.Spec PyProof.Rows L2
abbrev rCntF (K : PySem.W.Frag) : V → List V → Hp → VK → Prop := fun x xs H Q => ∃ (a : Addr) (ys : List V) (y : V), x = .ref a ∧ xs = [y] ∧ SqL K H a ys ∧ flatV y = true ∧ ys.all flatV = true ∧ Q (.int (ys.countP fun z => eqV z y : Nat)) H
theorem countP_eqU {y : V} : ∀ {ys : List V} {us : List Value}, Vals ys us → ys.all flatV = true → us.countP (eqU y) = ys.countP fun z => eqV z y
  | _, _, .nil, _ => rfl
  | x :: xs, u :: us, .cons r t, f => by
    rw [List.all_cons, Bool.and_eq_true] at f
    rw [List.countP_cons, List.countP_cons, countP_eqU t f.2, eqU_of r f.1]
theorem mt_lcountF {X : Cx} : MtR X "list.count" (rCntF X.K) := by
  intro pins s σ H x xs v us Q I rx rxs h
  obtain ⟨a, ys, y, rfl, rfl, hs, fy, fys, q⟩ := h
  cases rx
  obtain ⟨u, rfl, ry⟩ := rxs.one
  obtain ⟨its, rv, ⟨⟨cls, dd, data, sl⟩, n, ho, hc, hdn, hd⟩, hlen⟩ := I.list hs
  simp only at hc hd
  subst hc hd
  refine call_meets PySem.F.slot_list_count ⟨_, ho, rfl⟩ PySem.F.entry_list_count (PySem.F.args_list_count_2 _ _)
    (SeqAt.list_countAt a its.toArray n dd sl u (eqU y)) ⟨ho, fun u' hu' => mem_eqAt ry fy rv fys u' (by simpa using hu'), ?_⟩
  have ec : its.toArray.toList.countP (eqU y) = ys.countP fun z => eqV z y := countP_eqU rv fys
  refine ⟨.int (ys.countP fun z => eqV z y : Nat), H, I.tok _, ⟨s.toks, ?_⟩, q⟩
  show Value.int ((its.toArray.toList.countP (eqU y) : Nat) : Int) s.toks = Value.int ((ys.countP fun z => eqV z y : Nat) : Int) s.toks
  rw [ec]
section
variable {X : Cx} {z : Zc} {o e : Expr} {to te : TE} {mo me : DEnv → M D} {apos pos : Pos}
abbrev mLCnt (a b : D) : M D := fun Q _ => match a with
  | .lst ds => isFlat b = true ∧ ds.all isFlat = true ∧ Q (.int (ds.countP fun d => eqD d b : Nat))
  | _ => False
abbrev mLIdx (a b : D) : M D := fun Q _ => match a with
  | .lst ds => isFlat b = true ∧ ds.all isFlat = true ∧ ∃ (j : Nat) (d : D), ds[j]? = some d ∧ eqD d b = true ∧ (∀ (m : Nat) (d' : D), m < j → ds[m]? = some d' → eqD d' b = false) ∧ Q (.int (j : Nat))
  | _ => False
theorem countP_rep {K : PySem.W.Frag} {U : Addr → Prop} {H : Hp} {b : D} {y : V} (fb : isFlat b = true) (rb : Rep K U H b y) : ∀ {ds : List D} {xs : List V}, ds.all isFlat = true → Reps K U H ds xs → (xs.countP fun z => eqV z y) = ds.countP fun d => eqD d b
  | [], xs, _, r => by
    simp only [Reps] at r
    subst r
    rfl
  | d :: ds, xs, f, r => by
    simp only [Reps] at r
    obtain ⟨x, r', rfl, r1, r2⟩ := r
    rw [List.all_cons, Bool.and_eq_true] at f
    rw [List.countP_cons, List.countP_cons, countP_rep fb rb f.2 r2, eqV_of f.1 fb r1 rb]
theorem de_lcount (hK : X.K = z.K) (ho : DE X z o to mo) (he : DE X z e te me) (hs : starEach [e] X.env = (false, eval e X.env) :: starEach [] X.env := by rfl) (hbase : attributeBase o "count" X.env (eval o X.env) = eval o X.env := by rfl) (hline : (apos.endLine == pos.line) = true := by rfl)
    (hfew : ((backTo pos (starEach [e] X.env)).all (fun x => !x.1) && (backToKw pos (keywordEach [] X.env)).all (fun x => x.1.isSome) && decide ([e].length + ([] : List Keyword).length + (if ([] : List Keyword).isEmpty then 0 else 1) < 30)) = true := by rfl)
    (hplain : (backTo pos (starEach [] X.env)).any (·.1) = false := by rfl) :
    DE X z (.Call (.Attribute o "count" apos) [e] [] pos) (tBM z.K "list" (rCntF z.K) to (tCons te tNil)) (fun ρ => bnd (mo ρ) fun x => fun Q E => (∃ ds, x = .lst ds) ∧ me ρ (fun y => mLCnt x y Q E) E) :=
  ⟨by rw [← hK]; exact pe_bm PySem.F.plainAttrs_list PySem.F.slot_list_count PySem.F.type_list_count mt_lcountF ho.pe (pa_cons he.pe pa_nil hs) hbase hfew hline hs hplain, fun U σ H ρ Q Qd E w hE h k => ho.tm U σ H ρ _ _ E w hE h fun d v H1 h1 e1 j1 r1 => by
    obtain ⟨⟨ds, rfl⟩, h1⟩ := h1
    obtain ⟨p, xs, rfl, ⟨hp, hu⟩, rs⟩ := rep_lst_inv r1
    refine ⟨.inl ⟨rfl, _, SqL.of hp⟩, he.tm U σ H1 ρ _ _ E (w.step e1 j1) hE h1 fun d2 v2 H2 h2 e2 j2 r2 => ?_⟩
    obtain ⟨f1, f2, q⟩ := h2
    have rs2 := rs.ext e2 w.gu
    have hp2 := e2 _ _ hp fun q => hu (w.gu _ q)
    refine ⟨p, xs, v2, rfl, rfl, SqL.of hp2, flatV_of f1 r2, all_flatV f2 rs2, ?_⟩
    rw [countP_rep f1 r2 f2 rs2]
    exact k _ _ H2 q (e1.trans e2) j2 rep_int⟩
theorem de_lindex (hK : X.K = z.K) (ho : DE X z o to mo) (he : DE X z e te me) (hs : starEach [e] X.env = (false, eval e X.env) :: starEach [] X.env := by rfl) (hbase : attributeBase o "index" X.env (eval o X.env) = eval o X.env := by rfl) (hline : (apos.endLine == pos.line) = true := by rfl)
    (hfew : ((backTo pos (starEach [e] X.env)).all (fun x => !x.1) && (backToKw pos (keywordEach [] X.env)).all (fun x => x.1.isSome) && decide ([e].length + ([] : List Keyword).length + (if ([] : List Keyword).isEmpty then 0 else 1) < 30)) = true := by rfl)
    (hplain : (backTo pos (starEach [] X.env)).any (·.1) = false := by rfl) :
    DE X z (.Call (.Attribute o "index" apos) [e] [] pos) (tBM z.K "list" (rIndex z.K) to (tCons te tNil)) (fun ρ => bnd (mo ρ) fun x => fun Q E => (∃ ds, x = .lst ds) ∧ me ρ (fun y => mLIdx x y Q E) E) :=
  ⟨by rw [← hK]; exact pe_bm PySem.F.plainAttrs_list PySem.F.slot_list_index PySem.F.type_list_index mt_index ho.pe (pa_cons he.pe pa_nil hs) hbase hfew hline hs hplain, fun U σ H ρ Q Qd E w hE h k => ho.tm U σ H ρ _ _ E w hE h fun d v H1 h1 e1 j1 r1 => by
    obtain ⟨⟨ds, rfl⟩, h1⟩ := h1
    obtain ⟨p, xs, rfl, ⟨hp, hu⟩, rs⟩ := rep_lst_inv r1
    refine ⟨.inl ⟨rfl, _, SqL.of hp⟩, he.tm U σ H1 ρ _ _ E (w.step e1 j1) hE h1 fun d2 v2 H2 h2 e2 j2 r2 => ?_⟩
    obtain ⟨f1, f2, j, d, hj, hd, hn, q⟩ := h2
    have rs2 := rs.ext e2 w.gu
    have hp2 := e2 _ _ hp fun q => hu (w.gu _ q)
    obtain ⟨x, hx, rx⟩ := rs2.getD hj
    have fl : ∀ (m : Nat) (d' : D), ds[m]? = some d' → isFlat d' = true := fun m d' hm => List.all_eq_true.mp f2 d' (List.mem_of_getElem? hm)
    refine ⟨p, xs, v2, j, x, rfl, rfl, SqL.of hp2, flatV_of f1 r2, all_flatV f2 rs2, hx, by rw [eqV_of (fl _ _ hj) f1 rx r2]; exact hd, fun m z' hm hz => ?_, k _ _ H2 q (e1.trans e2) j2 rep_int⟩
    obtain ⟨d', hd', rd'⟩ := rs2.get hz
    rw [eqV_of (fl _ _ hd') f1 rd' r2]
    exact hn m d' hm hd'⟩
abbrev mNeS (a b : D) : M D := fun Q _ => match a, b with
  | .int i, .int j => Q (.bl (!(i == j)))
  | .str x, .str y => Q (.bl (!(x == y)))
  | .bl i, .bl j => Q (.bl (!(i == j)))
  | _, _ => False
theorem opNeS : OpR X (compareOp .NotEq) rNe := op_ne
theorem rmNeS : RM2 z rNe mNeS := fun U H a b x y Q Qd E gu hU j ra rb he h k => by
  cases a with
  | int i =>
    cases b with
    | int l =>
      have e1 := inv_int ra; have e2 := inv_int rb
      subst e1; subst e2
      exact ⟨rfl, by rw [dec_int]; exact k _ _ H h (Ext.refl H) j rep_bl⟩
    | _ => exact h.elim
  | str i =>
    cases b with
    | str l =>
      have e1 := inv_str ra; have e2 := inv_str rb
      subst e1; subst e2
      exact ⟨rfl, by rw [dec_str]; exact k _ _ H h (Ext.refl H) j rep_bl⟩
    | _ => exact h.elim
  | bl i =>
    cases b with
    | bl l =>
      have e1 := inv_bl ra; have e2 := inv_bl rb
      subst e1; subst e2
      exact ⟨rfl, by rw [dec_bl]; exact k _ _ H h (Ext.refl H) j rep_bl⟩
    | _ => exact h.elim
  | _ => exact h.elim
end
/-! ### an error's word and what it keeps -/
/-- C, its word, its attribute -/
abbrev Srt : Type := Addr × Str × Str
def sp_kept (tab : List Srt) : Addr → MU → FS := fun f m ds Q E => ∀ (Qk : Prop) (Ed : DX → Prop), (Q (.tup [.str "let", .non]) → Qk) → (∀ t ∈ tab, ∀ d, Q (.tup [.str t.2.1, d]) → Ed ⟨t.1, [t.2.2], [d]⟩) → m Qk Ed
end DL

/-! DErr3: promises of what looks at values of any kind: names, numbers, tuples of such, a purse's parts. -/
namespace DL
open PySem PySem.Spec PyProof.Rows L2
def intB : D → Bool
  | .int _ => true
  | _ => false
def betB (a b : Int) : D → Bool
  | .int i => decide (a ≤ i ∧ i ≤ b)
  | _ => false
def letB (c : Nat) : Bool := inS ⟨#[c]⟩ LET
def wordB : D → Bool
  | .str x => !eqD (.str x) (.str "") && x.cps.toList.all letB
  | _ => false
def nameB : D → Bool
  | .str x => wordB (.str x) && (decide (x.length ≤ 8) && !inD (.str x) wordsD)
  | _ => false
def tupB (m : Int) : D → Bool
  | .tup xs => (xs.length : Int) == m
  | _ => false
def belowB (xs : List Str) (y : Str) : Bool := match xs.getLast? with
  | none => true
  | some z => strLt z y
def belowD : D → D → Bool
  | .str x, .str y => strLt x y
  | _, _ => false
structure OkV (d : D) : Prop where
  t : (tyD d).isSome = true
  p : ∀ xs, d ≠ .ptup xs
  s : ∀ x, d = .str x → x.length ≤ 1000 ∧ PyData.strOk x = true
theorem NameOk.nameB {x : Str} (h : NameOk x) : nameB (.str x) = true := by
  have e1 : eqD (.str x) (.str "") = false := word_ne h.p
  have e2 : x.cps.toList.all letB = true := List.all_eq_true.mpr fun c hc => letter_in (h.w c hc)
  have e3 : decide (x.length ≤ 8) = true := decide_eq_true h.l
  simp only [DL.nameB, wordB, e1, e2, e3, h.n]
  rfl
theorem nameB_str {d : D} (h : nameB d = true) : ∃ x, d = .str x := by
  cases d <;> first | exact ⟨_, rfl⟩ | cases h
def sp_is_wholeE : FS := fun ds Q E => ∃ d, ds = [d] ∧ (tyD d).isSome = true ∧ Q (.bl (intB d))
def sp_is_betweenE : FS := fun ds Q E => ∃ (d : D) (a b : Int), ds = [d, .int a, .int b] ∧ (tyD d).isSome = true ∧ Q (.bl (betB a b d))
def sp_is_up_toE : FS := fun ds Q E => ∃ (d : D) (b : Int), ds = [d, .int b] ∧ (tyD d).isSome = true ∧ Q (.bl (betB 0 b d))
def sp_is_wordE : FS := fun ds Q E => ∃ d, ds = [d] ∧ OkV d ∧ Q (.bl (wordB d))
def sp_is_nameE : FS := fun ds Q E => ∃ d, ds = [d] ∧ OkV d ∧ Q (.bl (nameB d))
def sp_are_belowE : FS := fun ds Q E => ∃ (xs : List Str) (y : Str), ds = [.tup (xs.map D.str), .str y] ∧ (∀ x ∈ xs, PyData.strOk x = true) ∧ Q (.bl (belowB xs y))
def sp_is_tuple_ofE : FS := fun ds Q E => ∃ (d : D) (m : Int), ds = [d, .int m] ∧ (tyD d).isSome = true ∧ (∀ xs, d ≠ .ptup xs) ∧ Q (.bl (tupB m d))
/-- the first place that is wrong, or one too many -/
def wrongIx (n : Nat) (most : Int) (r : Nat → Bool) : Option Nat := (List.range n).find? fun i => decide ((i : Int) = most) || !r i
def ixL : Option Nat → D
  | none => .lst []
  | some i => .lst [.int i]
theorem wrongIx_none {n : Nat} {most : Int} {r : Nat → Bool} (h : ∀ i, i < n → (i : Int) ≠ most ∧ r i = true) : wrongIx n most r = none := by
  unfold wrongIx
  rw [List.find?_eq_none]
  intro i hi
  obtain ⟨h1, h2⟩ := h i (List.mem_range.mp hi)
  simp [h1, h2]
theorem find_range {n i : Nat} {p : Nat → Bool} (hi : i < n) (hp : p i = true) (hb : ∀ j, j < i → p j = false) : (List.range n).find? p = some i := by
  rw [List.find?_eq_some_iff_append]
  refine ⟨hp, List.range i, (List.range' (i + 1) (n - i - 1)), ?_, fun j hj => by simp [hb j (List.mem_range.mp hj)]⟩
  rw [List.range_eq_range', List.range_eq_range', show n = i + (1 + (n - i - 1)) by omega, ← List.range'_append_1, ← List.range'_append_1]
  simp
theorem wrongIx_some {n i : Nat} {most : Int} {r : Nat → Bool} (hi : i < n) (h : (i : Int) = most ∨ r i = false) (hb : ∀ j, j < i → (j : Int) ≠ most ∧ r j = true) : wrongIx n most r = some i := by
  refine find_range hi ?_ fun j hj => ?_
  · rcases h with h | h <;> simp [h]
  · obtain ⟨h1, h2⟩ := hb j hj
    simp [h1, h2]
theorem not_tup {d : D} {t : String} (h : tyD d = some t) (hs : ∀ xs, d ≠ .tup xs ∧ d ≠ .ptup xs) : isTy t "tuple" = false := by
  cases d <;> simp only [tyD, Option.some.injEq] at h <;> first | (subst h; first | (exact absurd rfl (hs _).1) | (exact absurd rfl (hs _).2) | decide) | (cases h)
theorem strs_of : ∀ {l : List D}, (∀ x ∈ l, ∃ s, x = .str s) → ∃ ys : List Str, l = ys.map D.str
  | [], _ => ⟨[], rfl⟩
  | x :: r, h => by
    obtain ⟨s, rfl⟩ := h x List.mem_cons_self
    obtain ⟨ys, rfl⟩ := strs_of fun y hy => h y (List.mem_cons_of_mem _ hy)
    exact ⟨s :: ys, rfl⟩
def sp_wrong_inE (fL : Addr) (spL : FS) : FS := fun ds Q E => ∃ (v : D) (least most : Int), ds = [v, .int least, .int most, .obj fL] ∧
  (((tyD v).isSome = true ∧ (∀ xs, v ≠ .tup xs ∧ v ≠ .ptup xs) ∧ Q (.lst [.non])) ∨
    (∃ xs : List D, v = .tup xs ∧ xs.length ≤ 1000 ∧ ((((xs.length : Int) < least) ∧ Q (.lst [.non])) ∨
      (least ≤ (xs.length : Int) ∧ ∃ r : Nat → Bool, (∀ (i : Nat) (x : D), xs[i]? = some x → (i : Int) ≠ most → (∀ j : Nat, j < i → (j : Int) ≠ most ∧ r j = true) → ∀ k : D → Prop, k (.bl (r i)) → spL [.tup (xs.take i), x] k E) ∧ Q (ixL (wrongIx xs.length most r))))))
def sp_wrong_in_allE (fL : Addr) (spL : FS) : FS := fun ds Q E => ∃ (v : D) (m : Nat), ds = [v, .int m, .obj fL] ∧ (tyD v).isSome = true ∧ (∀ xs, v ≠ .ptup xs) ∧
  ((tupB m v = false ∧ Q (.lst [.non])) ∨ (∃ (xs : List D), v = .tup xs ∧ xs.length = m ∧ m ≤ 1000 ∧ ∃ r : Nat → Bool, (∀ i x, xs[i]? = some x → (∀ j, j < i → r j = true) → ∀ k : D → Prop, k (.bl (r i)) → spL [x] k E) ∧ Q (ixL (wrongIx xs.length m r))))
def peR (xs : List D) (i : Nat) : Bool := nameB (xs.getD i .non) && (match i with
  | 0 => true
  | j + 1 => belowD (xs.getD j .non) (xs.getD (j + 1) .non))
/-- what is wrong in the people -/
def peWrong (d : D) : Option D := match unP d with
  | .tup xs => if xs.length = 0 then some .non else (wrongIx xs.length 6 (peR xs)).map fun i : Nat => .int (i : Int)
  | _ => some .non
/-- what is wrong in the claims of n people -/
def clWrong (n : Nat) : D → Option D
  | .tup xs => if xs.length = n then (wrongIx xs.length n fun i => betB 0 99 (xs.getD i .non)).map fun i : Nat => .int (i : Int) else some .non
  | _ => some .non
structure OkP (d : D) : Prop where
  t : (tyD d).isSome = true
  x : ∀ xs, unP d = .tup xs → xs.length ≤ 1000 ∧ ∀ x ∈ xs, OkV x
structure OkC (d : D) : Prop where
  t : (tyD d).isSome = true
  p : ∀ xs, d ≠ .ptup xs
  x : ∀ xs, d = .tup xs → xs.length ≤ 1000 ∧ ∀ x ∈ xs, (tyD x).isSome = true
def optL : Option D → D
  | none => .lst []
  | some d => .lst [d]
def sp_wrong_in_peopleE : FS := fun ds Q E => ∃ d, ds = [d] ∧ OkP d ∧ unP d = d ∧ Q (optL (peWrong d))
def sp_wrong_in_claimsE : FS := fun ds Q E => ∃ (ps : List D) (d : D), ds = [.tup ps, d] ∧ ps.length ≤ 1000 ∧ OkC d ∧ Q (optL (clWrong ps.length d))
def sp_check_numberE (IN : Addr) : FS := fun ds Q E => ∃ (d : D) (a b : Int), ds = [d, .int a, .int b] ∧ (tyD d).isSome = true ∧ ((betB a b d = true ∧ Q .non) ∨ (betB a b d = false ∧ E (gvn IN d)))
def lenT (d : D) : Nat := match unP d with
  | .tup xs => xs.length
  | _ => 0
def sumT : D → Int
  | .tup xs => (xs.map fun d => match d with | .int i => i | _ => 0).sum
  | _ => 0
/-- what is wrong first in a purse's parts -/
def puWrong (IP IC IN : Addr) (p c m : D) : Option DX := match peWrong p with
  | some d => some (ixn IP d)
  | none => match clWrong (lenT p) c with
    | some d => some (ixn IC d)
    | none => if betB 0 (sumT c) m = true then none else some (gvn IN m)
def sp_PurseE (IP IC IN : Addr) : FS := fun ds Q E => ∃ p c m, ds = [p, c, m] ∧ OkP p ∧ OkC c ∧ (tyD m).isSome = true ∧ (match puWrong IP IC IN p c m with
  | some x => E x
  | none => Q (.tup [p, c, m]))
/-- what is told of a purse's parts -/
def puOut (p c m : D) : D := match peWrong p with
  | some d => .tup [.str "people", d]
  | none => match clWrong (lenT p) c with
    | some d => .tup [.str "claims", d]
    | none => if betB 0 (sumT c) m = true then .tup [.str "let", .non] else .tup [.str "number", m]
theorem pu_kept {IP IC IN : Addr} {p c m : D} {K' : D → Prop} {Qk : Prop} {Ed : DX → Prop} (h : K' (puOut p c m)) (h0 : K' (.tup [.str "let", .non]) → Qk)
    (h1 : ∀ t ∈ ([(IP, "people", "index"), (IC, "claims", "index"), (IN, "number", "given")] : List Srt), ∀ d, K' (.tup [.str t.2.1, d]) → Ed ⟨t.1, [t.2.2], [d]⟩) : match puWrong IP IC IN p c m with
    | some x => Ed x
    | none => Qk := by
  unfold puOut at h
  unfold puWrong
  cases e1 : peWrong p with
  | some d =>
    rw [e1] at h
    exact h1 (IP, "people", "index") (by simp) d h
  | none =>
    rw [e1] at h
    simp only at h ⊢
    cases e2 : clWrong (lenT p) c with
    | some d =>
      rw [e2] at h
      exact h1 (IC, "claims", "index") (by simp) d h
    | none =>
      rw [e2] at h
      simp only at h ⊢
      split at h
      · rename_i hb
        rw [if_pos hb]
        exact h0 h
      · rename_i hb
        rw [if_neg hb]
        exact h1 (IN, "number", "given") (by simp) m h
theorem kept_pu {IP IC IN f : Addr} {p c m : D} {K' : D → Prop} {M : MU} {E : DX → Prop} (hM : ∀ (Qk : Prop) (Ed : DX → Prop), (match puWrong IP IC IN p c m with
    | some x => Ed x
    | none => Qk) → M Qk Ed) (h : K' (puOut p c m)) : sp_kept [(IP, "people", "index"), (IC, "claims", "index"), (IN, "number", "given")] f M [.obj f] K' E := fun Qk Ed h0 h1 => hM Qk Ed (pu_kept h h0 h1)
def sp_by_all : FS := fun ds Q E => ∃ p c m, ds = [p, c, m, puOut p c m] ∧ OkP p ∧ OkC c ∧ (tyD m).isSome = true ∧ PTa 2 (puOut p c m) ∧ Q (.bl true)
theorem opt_ix (o : Option Nat) : optL (o.map fun i : Nat => .int (i : Int)) = ixL o := by cases o <;> rfl
theorem getD_some {xs : List D} {i : Nat} {x : D} (h : xs[i]? = some x) : xs.getD i .non = x := by rw [List.getD_eq_getElem?_getD, h]; rfl
/-- ahead of a place all is right: names, the last of which is looked at -/
theorem peR_ahead {xs : List D} {i : Nat} {x : D} {most : Int} (hx : xs[i]? = some x) (hv : ∀ x ∈ xs, OkV x) (hb : ∀ j, j < i → (j : Int) ≠ most ∧ peR xs j = true) : ∃ ys : List Str, xs.take i = ys.map D.str ∧ (∀ y ∈ ys, PyData.strOk y = true) ∧ ∀ y, x = .str y → nameB x = true → belowB ys y = peR xs i := by
  have hi := (List.getElem?_eq_some_iff.mp hx).1
  have hn : ∀ j, j < i → nameB (xs.getD j .non) = true := fun j hj => (Bool.and_eq_true_iff.mp (hb j hj).2).1
  obtain ⟨ys, e⟩ := strs_of (l := xs.take i) fun x hx => by
    obtain ⟨j, hj, e⟩ := List.getElem_of_mem hx
    rw [List.length_take] at hj
    have hj2 : j < i := by omega
    rw [List.getElem_take] at e
    have := hn j hj2
    rw [getD_some (List.getElem?_eq_getElem (by omega)), e] at this
    exact nameB_str this
  refine ⟨ys, e, fun y hy => ?_, fun y hy hnm => ?_⟩
  · have : D.str y ∈ xs := List.mem_of_mem_take (by rw [e]; exact List.mem_map.mpr ⟨y, hy, rfl⟩)
    exact ((hv _ this).s y rfl).2
  · have e0 : xs.getD i .non = x := getD_some hx
    unfold peR
    rw [e0, hnm, Bool.true_and]
    cases i with
    | zero =>
      have : ys = [] := by
        have z := congrArg List.length e
        simpa using z.symm
      subst this
      rfl
    | succ j =>
      have hj : j < xs.length := by omega
      have hyl : ys.length = j + 1 := by
        have z := congrArg List.length e
        rw [List.length_take, List.length_map] at z
        omega
      have hl : ys.getLast? = some (ys[j]'(by omega)) := by rw [List.getLast?_eq_getElem?, show ys.length - 1 = j by omega]; exact List.getElem?_eq_getElem (by omega)
      have ej : xs.getD j .non = .str (ys[j]'(by omega)) := by
        have z : (xs.take (j + 1))[j]? = (ys.map D.str)[j]? := by rw [e]
        rw [List.getElem?_take_of_lt (by omega), List.getElem?_map, List.getElem?_eq_getElem (show j < ys.length by omega)] at z
        exact getD_some z
      show belowB ys y = belowD (xs.getD j .non) (xs.getD (j + 1) .non)
      rw [ej, e0, hy]
      unfold belowB
      rw [hl]
      rfl
theorem unP_idem (d : D) : unP (unP d) = unP d := by cases d <;> rfl
theorem clWrong_none {n : Nat} {d : D} (h : clWrong n d = none) : ∃ cs : List Int, d = .tup (cs.map D.int) ∧ cs.length = n ∧ ∀ c ∈ cs, 0 ≤ c ∧ c ≤ 99 := by
  cases d with
  | tup xs =>
    simp only [clWrong] at h
    by_cases hl : xs.length = n
    · rw [if_pos hl] at h
      cases q : wrongIx xs.length n (fun i => betB 0 99 (xs.getD i .non)) with
      | some i => rw [q] at h; cases h
      | none =>
        unfold wrongIx at q
        rw [List.find?_eq_none] at q
        have hx : ∀ x ∈ xs, betB 0 99 x = true := fun x hx => by
          obtain ⟨i, hi, e⟩ := List.getElem_of_mem hx
          have z := q i (List.mem_range.mpr hi)
          have e2 : xs.getD i .non = x := by rw [List.getD_eq_getElem?_getD, List.getElem?_eq_getElem hi, Option.getD_some, e]
          simp only [e2] at z
          simpa [show ¬ ((i : Int) = (n : Int)) by omega] using z
        have : ∀ ys : List D, (∀ x ∈ ys, betB 0 99 x = true) → ∃ cs : List Int, ys = cs.map D.int ∧ ∀ c ∈ cs, 0 ≤ c ∧ c ≤ 99 := fun ys => by
          induction ys with
          | nil => intro _; exact ⟨[], rfl, fun _ h => by cases h⟩
          | cons y r ih =>
            intro h
            obtain ⟨cs, rfl, hc⟩ := ih fun x hx => h x (List.mem_cons_of_mem _ hx)
            have hy := h y List.mem_cons_self
            cases y with
            | int i =>
              refine ⟨i :: cs, rfl, fun c hc' => ?_⟩
              rcases List.mem_cons.mp hc' with rfl | hc'
              · exact of_decide_eq_true hy
              · exact hc c hc'
            | _ => cases hy
        obtain ⟨cs, rfl, hc⟩ := this xs hx
        exact ⟨cs, rfl, by simpa using hl, hc⟩
    · rw [if_neg hl] at h
      cases h
  | _ => cases h
theorem sumT_ints (cs : List Int) : sumT (.tup (cs.map D.int)) = cs.sum := by
  show ((cs.map D.int).map fun d => match d with | .int i => i | _ => (0 : Int)).sum = cs.sum
  rw [List.map_map]
  have e : ((fun d => match d with | .int i => i | _ => (0 : Int)) ∘ D.int) = id := rfl
  rw [e, List.map_id]
theorem peWrong_none {d : D} (h : peWrong d = none) : ∃ xs, unP d = .tup xs := by
  unfold peWrong at h
  cases q : unP d with
  | tup xs => exact ⟨xs, rfl⟩
  | _ => rw [q] at h; cases h
end DL

/-! DErr4: tuple(text). -/
namespace DL
open PySem PySem.Spec PyProof.Rows L2
def signsV (x : Str) : List V := x.cps.toList.map fun c => V.str ⟨#[c]⟩
abbrev rTupStr : List V → Hp → VK → Prop := fun xs H Q => ∃ x : Str, xs = [.str x] ∧ x.cps.size ≤ sizeLine ∧ ∀ l, H l = none → Q (.ref l) (upd H l (.tup (signsV x)))
theorem vals_signs {x : Str} {acc : Array Value} (h : ItemsOf (SignAt x) acc x.cps.size) : Vals (signsV x) acc.toList := by
  obtain ⟨hs, hi⟩ := h
  have key : ∀ (cs : List Nat) (us : List Value), us.length = cs.length → (∀ (j : Nat) (v : Value), us[j]? = some v → ∃ c u, cs[j]? = some c ∧ v = .str ⟨#[c]⟩ u) → Vals (cs.map fun c => V.str ⟨#[c]⟩) us := fun cs => by
    induction cs with
    | nil =>
      intro us hl _
      have : us = [] := List.length_eq_zero_iff.mp hl
      subst this
      exact .nil
    | cons c r ih =>
      intro us hl hv
      cases us with
      | nil => cases hl
      | cons v vs =>
        obtain ⟨c', u, e1, rfl⟩ := hv 0 v rfl
        cases e1
        exact .cons ⟨u, rfl⟩ (ih vs (by simpa using hl) fun j v hj => hv (j + 1) v (by simpa using hj))
  refine key _ _ (by simpa using hs) fun j v hj => ?_
  obtain ⟨c, u, e1, e2⟩ := hi j v (by simpa using hj)
  exact ⟨c, u, by simpa using e1, e2⟩
theorem crTupStr {X : Cx} (hc : X.calm = true) : CallR X (.type "tuple") rTupStr := by
  intro pins s σ H xs us Q I r h
  obtain ⟨x, rfl, hz, q⟩ := h
  obtain ⟨u, rfl, rx⟩ := vals1 r
  obtain ⟨t, rfl⟩ := rx
  refine call_tuple_str (I.ok.hd hc) x t (fun h' tk acc kp hi => ?_) hz
  have I1 : Inv X pins σ H { s with heap := h' } := I.kept (t' := s.toks) kp
  have I2 : Inv X pins σ (upd H h'.objs.size (.tup (signsV x))) { s with heap := h'.push { cls := .type "tuple", data := .seq acc }, toks := tk } :=
    I1.laid (t' := tk) (fun b o e => Heap.get?_push_of_some _ e) (Nat.le_refl _) (show ObjOk X.prog X.w _ _ _ (.tup (signsV x)) from ⟨by unfold signsV; rw [List.length_map, Array.length_toList]; exact hz, acc.toList, vals_signs hi, by have z := IsTup.new h' acc; simpa using z⟩)
  exact ⟨.ref h'.objs.size, _, I2, rfl, q _ (I1.hok.fresh (Nat.le_refl _))⟩
section
variable {z : Zc}
abbrev mTupStr (d : D) : M D := fun Q _ => match d with
  | .str x => x.cps.size ≤ sizeLine ∧ Q (.tup (signs x))
  | _ => False
theorem reps_signs {K : PySem.W.Frag} {U : Addr → Prop} {H : Hp} (x : Str) : Reps K U H (signs x) (signsV x) := by
  unfold signs signsV
  generalize x.cps.toList = cs
  induction cs with
  | nil => exact Reps.nil
  | cons c r ih => exact Reps.cons rep_str ih
theorem rmTupStr : RMn z rTupStr (m1 mTupStr) := rmn1 fun U H a x Q Qd E gu hU j ra he h k => by
  cases a with
  | str s => exact ⟨s, by rw [inv_str ra], h.1, fun l hl => k _ _ _ h.2 (Ext.new hl) (z.g.new j hl) (rep_tup_new hU hl (reps_signs s))⟩
  | _ => exact h.elim
end
end DL

/-! DErr5: parts of purses that are wrong, looked at. -/
namespace DL
open PySem PySem.Spec PyProof.Rows L2
def okVB (d : D) : Bool := (tyD d).isSome && (match d with
  | .ptup _ => false
  | .str x => decide (x.length ≤ 1000) && PyData.strOk x
  | _ => true)
theorem okVB_ok {d : D} (h : okVB d = true) : OkV d := by
  unfold okVB at h
  obtain ⟨h1, h2⟩ := Bool.and_eq_true_iff.mp h
  refine ⟨h1, fun xs e => ?_, fun x e => ?_⟩
  · subst e
    exact Bool.noConfusion h2
  · subst e
    obtain ⟨h3, h4⟩ := Bool.and_eq_true_iff.mp h2
    exact ⟨of_decide_eq_true h3, h4⟩
def okPB (d : D) : Bool := (tyD d).isSome && (match unP d with
  | .tup xs => decide (xs.length ≤ 1000) && xs.all okVB
  | _ => true)
theorem okPB_ok {d : D} (h : okPB d = true) : OkP d := by
  unfold okPB at h
  obtain ⟨h1, h2⟩ := Bool.and_eq_true_iff.mp h
  refine ⟨h1, fun xs e => ?_⟩
  rw [e] at h2
  obtain ⟨h3, h4⟩ := Bool.and_eq_true_iff.mp h2
  exact ⟨of_decide_eq_true h3, fun x hx => okVB_ok (List.all_eq_true.mp h4 x hx)⟩
def atB : Option D → D → Bool
  | some .non, .non => true
  | some (.int i), .int j => decide (i = j)
  | _, _ => false
theorem atB_ok {o : Option D} {d : D} (h : atB o d = true) : o = some d ∧ (d = .non ∨ ∃ i, d = .int i) := by
  unfold atB at h
  split at h
  · exact ⟨rfl, .inl rfl⟩
  · rename_i i j
    obtain rfl := of_decide_eq_true h
    exact ⟨rfl, .inr ⟨_, rfl⟩⟩
  · cases h
/-- no people, and where -/
def pePairB : D → Bool
  | .tup [d, i] => atB (peWrong d) i && okPB d
  | _ => false
theorem pePair_ok {x : D} (h : pePairB x = true) : ∃ d i, x = .tup [d, i] ∧ peWrong d = some i ∧ (i = .non ∨ ∃ k, i = .int k) ∧ OkP d := by
  unfold pePairB at h
  split at h
  · obtain ⟨h1, h2⟩ := Bool.and_eq_true_iff.mp h
    obtain ⟨h3, h4⟩ := atB_ok h1
    exact ⟨_, _, rfl, h3, h4, okPB_ok h2⟩
  · cases h
theorem okC_non : OkC .non := ⟨rfl, fun _ e => D.noConfusion e, fun _ e => by cases e⟩
theorem okC_tup {xs : List D} (h1 : xs.length ≤ 1000) (h2 : ∀ x ∈ xs, (tyD x).isSome = true) : OkC (.tup xs) := ⟨rfl, fun _ e => D.noConfusion e, fun ys e => by cases e; exact ⟨h1, h2⟩⟩
theorem pe_right {ns : List Str} (h : PeopleOk ns) : peWrong (.tup (ns.map D.str)) = none ∧ OkP (.tup (ns.map D.str)) ∧ lenT (.tup (ns.map D.str)) = ns.length := by
  have h6 := h.l
  have h1 := h.p
  refine ⟨?_, ⟨rfl, fun xs e => ?_⟩, by unfold lenT; simp [unP]⟩
  · show (if (ns.map D.str).length = 0 then some D.non else (wrongIx (ns.map D.str).length 6 (peR (ns.map D.str))).map fun i : Nat => D.int (i : Int)) = none
    rw [if_neg (by rw [List.length_map]; omega), wrongIx_none fun i hi => ?_]
    · rfl
    · rw [List.length_map] at hi
      refine ⟨by omega, ?_⟩
      have e : ∀ j (hj : j < ns.length), (ns.map D.str).getD j .non = .str (ns[j]'hj) := fun j hj => getD_some (by rw [List.getElem?_map, List.getElem?_eq_getElem hj]; rfl)
      unfold peR
      rw [e i hi, (h.n _ (List.getElem_mem hi)).nameB, Bool.true_and]
      cases i with
      | zero => rfl
      | succ j =>
        show belowD ((ns.map D.str).getD j .non) ((ns.map D.str).getD (j + 1) .non) = true
        rw [e j (by omega), e (j + 1) hi]
        exact List.pairwise_iff_getElem.mp h.o j (j + 1) (by omega) hi (by omega)
  · cases e
    refine ⟨by rw [List.length_map]; omega, fun x hx => ?_⟩
    obtain ⟨y, hy, rfl⟩ := List.mem_map.mp hx
    have := h.n y hy
    exact ⟨rfl, fun _ e => D.noConfusion e, fun z e => by cases e; exact ⟨by have := this.l; omega, this.str⟩⟩
theorem cl_right {cs : List Int} {n : Nat} (hl : cs.length = n) (h : ∀ c ∈ cs, 0 ≤ c ∧ c ≤ 99) : clWrong n (.tup (cs.map D.int)) = none := by
  simp only [clWrong]
  rw [if_pos (by rw [List.length_map]; exact hl), wrongIx_none fun i hi => ?_]
  · rfl
  · rw [List.length_map] at hi
    refine ⟨by omega, ?_⟩
    show betB 0 99 ((cs.map D.int).getD i .non) = true
    rw [getD_some (x := .int (cs[i]'hi)) (by rw [List.getElem?_map, List.getElem?_eq_getElem hi]; rfl)]
    exact decide_eq_true (h _ (List.getElem_mem hi))
theorem cl_len {n : Nat} {xs : List D} (h : xs.length ≠ n) : clWrong n (.tup xs) = some .non := by
  simp only [clWrong]
  rw [if_neg h]
theorem cl_one {n : Nat} {c : Int} {d : D} {r : List D} (hc : 0 ≤ c ∧ c ≤ 99) (hd : betB 0 99 d = false) (hl : r.length + 2 = n) : clWrong n (.tup (.int c :: d :: r)) = some (.int 1) := by
  simp only [clWrong]
  rw [if_pos (by simpa using hl), wrongIx_some (i := 1) (by simp) (.inr hd) fun j hj => ?_]
  · rfl
  · obtain rfl : j = 0 := by omega
    refine ⟨by omega, ?_⟩
    show betB 0 99 (.int c) = true
    exact decide_eq_true hc
theorem puOut_pe {p c m d : D} (h : peWrong p = some d) : puOut p c m = .tup [.str "people", d] := by
  unfold puOut
  rw [h]
theorem puOut_cl {p c m d : D} (h : peWrong p = none) (h2 : clWrong (lenT p) c = some d) : puOut p c m = .tup [.str "claims", d] := by
  unfold puOut
  rw [h]
  simp only [h2]
theorem puOut_no {p c m : D} (h : peWrong p = none) (h2 : clWrong (lenT p) c = none) (h3 : betB 0 (sumT c) m = false) : puOut p c m = .tup [.str "number", m] := by
  unfold puOut
  rw [h]
  simp only [h2, h3]
  rfl
theorem puOut_let {p c m : D} (h : peWrong p = none) (h2 : clWrong (lenT p) c = none) (h3 : betB 0 (sumT c) m = true) : puOut p c m = .tup [.str "let", .non] := by
  unfold puOut
  rw [h]
  simp only [h2, h3]
  rfl
theorem by_all {p c m due : D} {Q : D → Prop} {E : DX → Prop} (h : due = puOut p c m) (hp : OkP p) (hc : OkC c) (hm : (tyD m).isSome = true) (ht : PTa 2 due) (k : Q (.bl true)) : sp_by_all [p, c, m, due] Q E := by
  subst h
  exact ⟨p, c, m, rfl, hp, hc, hm, ht, k⟩
theorem PTa_pair {w : Str} {d : D} (h : PTa 1 d) : PTa 2 (.tup [.str w, d]) := ⟨by simp, fun x hx => by
  simp only [List.mem_cons, List.not_mem_nil, or_false] at hx
  rcases hx with rfl | rfl
  · trivial
  · exact h⟩
end DL

namespace T1
open PySem PySem.Spec PyProof.Rows L2 DL LamX NdefX
/-- where the lambdas' makers have their code objects and tables -/
structure LamA where
  c_wrong_in_people : Addr
  p_wrong_in_people : Addr
  c_wrong_in_claims : Addr
  p_wrong_in_claims : Addr
  c_wrong_in_all : Addr
  p_wrong_in_all : Addr
  c__law_by_all : Addr
  p__law_by_all : Addr
abbrev lamName (x : Str) : Str := (envOfC x (defScope (.Pass ⟨0, 0, 0, 0⟩)) 0 0 .none).qual ++ "<lambda>"
def LamA.tabs (L : LamA) : List (Addr × Str) := [(L.p_wrong_in_people, lamName "wrong_in_people"), (L.p_wrong_in_claims, lamName "wrong_in_claims"), (L.p_wrong_in_all, lamName "wrong_in_all"), (L.p__law_by_all, lamName "_law_by_all")]
structure Cons where
  Purse : Addr
  ClaimError : Addr
  InvalidPeople : Addr
  InvalidClaims : Addr
  InvalidNumber : Addr
  f_Purse_init : Addr
  AWARDS : Addr
  L : LamA
  Wl : Addr → Prop
def Cons.at (C : Cons) (Wl : Addr → Prop) : Cons := { C with Wl := Wl }
structure GOk (K : PySem.W.Frag) (C : Cons) (g : GG) : Prop where
  t : ∀ H, g.J H → Tabs C.L.tabs H
  gp : ∀ p ∈ C.L.tabs, g.G p.1
  j : ∀ p ∈ C.L.tabs, ∀ H H1, g.J H → ExtP p.1 H H1 → Tabs C.L.tabs H1 → g.J H1
  x : ∀ H a φ, g.J H → g.G a → H a ≠ some (.ext φ)
  w : WellJ g C.Wl
structure Txt (P : Program) (w : World) (K : PySem.W.Frag) (mg : Str → Option Value) (base : Heap) (C : Cons) : Prop where
  cs : CSF K [C.Purse]
  c_Purse : mg "Purse" = some (.ref C.Purse)
  cl_Purse : Cls K C.Purse
  a_all_told : ∀ D ∈ [C.Purse], Cls K D ∧ NoAttr K D "all_told"
  c_ClaimError : mg "ClaimError" = some (.ref C.ClaimError)
  c_InvalidPeople : mg "InvalidPeople" = some (.ref C.InvalidPeople)
  X_InvalidPeople : GErr P w K mg base "InvalidPeople" C.InvalidPeople "index"
  c_InvalidClaims : mg "InvalidClaims" = some (.ref C.InvalidClaims)
  X_InvalidClaims : GErr P w K mg base "InvalidClaims" C.InvalidClaims "index"
  c_InvalidNumber : mg "InvalidNumber" = some (.ref C.InvalidNumber)
  X_InvalidNumber : GErr P w K mg base "InvalidNumber" C.InvalidNumber "given"
  et : ErrTab K [C.InvalidPeople, C.InvalidClaims, C.InvalidNumber] C.ClaimError
  ne_InvalidPeople_InvalidClaims : (C.InvalidPeople == C.InvalidClaims) = false
  ne_InvalidPeople_InvalidNumber : (C.InvalidPeople == C.InvalidNumber) = false
  ne_InvalidClaims_InvalidPeople : (C.InvalidClaims == C.InvalidPeople) = false
  ne_InvalidClaims_InvalidNumber : (C.InvalidClaims == C.InvalidNumber) = false
  ne_InvalidNumber_InvalidPeople : (C.InvalidNumber == C.InvalidPeople) = false
  ne_InvalidNumber_InvalidClaims : (C.InvalidNumber == C.InvalidClaims) = false
  n_ValueError : mg "ValueError" = none
  n_abs : mg "abs" = none
  n_all : mg "all" = none
  n_bool : mg "bool" = none
  n_dict : mg "dict" = none
  n_divmod : mg "divmod" = none
  n_enumerate : mg "enumerate" = none
  n_int : mg "int" = none
  n_isinstance : mg "isinstance" = none
  n_len : mg "len" = none
  n_list : mg "list" = none
  n_max : mg "max" = none
  n_min : mg "min" = none
  n_range : mg "range" = none
  n_sorted : mg "sorted" = none
  n_str : mg "str" = none
  n_sum : mg "sum" = none
  n_super : mg "super" = none
  n_tuple : mg "tuple" = none
  g_LETTERS : GK K mg "LETTERS" (.str LET)
  g_MOST_CLAIM : GK K mg "MOST_CLAIM" (.int 99)
  g_MOST_LETTERS : GK K mg "MOST_LETTERS" (.int 8)
  g_MOST_PEOPLE : GK K mg "MOST_PEOPLE" (.int 6)
  g_WORDS : GK K mg "WORDS" (.tup wordsD)
  F_is_whole : ∃ f fd, Fun K "is_whole" "is_whole" (top 9) f fd ∧ mg "is_whole" = some (.ref f)
  F_is_between : ∃ f fd, Fun K "is_between" "is_between" (top 10) f fd ∧ mg "is_between" = some (.ref f)
  F_is_up_to : ∃ f fd, Fun K "is_up_to" "is_up_to" (top 11) f fd ∧ mg "is_up_to" = some (.ref f)
  F_is_word : ∃ f fd, Fun K "is_word" "is_word" (top 12) f fd ∧ mg "is_word" = some (.ref f)
  F_is_name : ∃ f fd, Fun K "is_name" "is_name" (top 13) f fd ∧ mg "is_name" = some (.ref f)
  F_are_below : ∃ f fd, Fun K "are_below" "are_below" (top 17) f fd ∧ mg "are_below" = some (.ref f)
  F_is_tuple_of : ∃ f fd, Fun K "is_tuple_of" "is_tuple_of" (top 14) f fd ∧ mg "is_tuple_of" = some (.ref f)
  F_wrong_in : ∃ f fd, Fun K "wrong_in" "wrong_in" (top 15) f fd ∧ mg "wrong_in" = some (.ref f)
  F_wrong_in_all : ∃ f fd, Fun K "wrong_in_all" "wrong_in_all" (top 16) f fd ∧ mg "wrong_in_all" = some (.ref f)
  F_wrong_in_people : ∃ f fd, Fun K "wrong_in_people" "wrong_in_people" (top 21) f fd ∧ mg "wrong_in_people" = some (.ref f)
  F_wrong_in_claims : ∃ f fd, Fun K "wrong_in_claims" "wrong_in_claims" (top 22) f fd ∧ mg "wrong_in_claims" = some (.ref f)
  F_check_number : ∃ f fd, Fun K "check_number" "check_number" (top 24) f fd ∧ mg "check_number" = some (.ref f)
  F__law_draw : ∃ f fd, Fun K "_law_draw" "_law_draw" (top 28) f fd ∧ mg "_law_draw" = some (.ref f)
  F__law_of : ∃ f fd, Fun K "_law_of" "_law_of" (top 29) f fd ∧ mg "_law_of" = some (.ref f)
  F__law_words : ∃ f fd, Fun K "_law_words" "_law_words" (top 31) f fd ∧ mg "_law_words" = some (.ref f)
  F__law_own : ∃ f fd, Fun K "_law_own" "_law_own" (top 32) f fd ∧ mg "_law_own" = some (.ref f)
  F__law_names : ∃ f fd, Fun K "_law_names" "_law_names" (top 33) f fd ∧ mg "_law_names" = some (.ref f)
  F__law_purse : ∃ f fd, Fun K "_law_purse" "_law_purse" (top 34) f fd ∧ mg "_law_purse" = some (.ref f)
  F__law_same : ∃ f fd, Fun K "_law_same" "_law_same" (top 30) f fd ∧ mg "_law_same" = some (.ref f)
  F__law_kept_by : ∃ f fd, Fun K "_law_kept_by" "_law_kept_by" (top 35) f fd ∧ mg "_law_kept_by" = some (.ref f)
  F__law_by_all : ∃ f fd, Fun K "_law_by_all" "_law_by_all" (top 36) f fd ∧ mg "_law_by_all" = some (.ref f)
  F__law_well : ∃ f fd, Fun K "_law_well" "_law_well" (top 27) f fd ∧ mg "_law_well" = some (.ref f)
  F__law_right : ∃ f fd, Fun K "_law_right" "_law_right" (top 37) f fd ∧ mg "_law_right" = some (.ref f)
  F_Purse_init : ∃ fd, Fun K "__init__" "Purse.__init__" (inClass (top 25) 0) C.f_Purse_init fd
  M_Purse : Mk K C.Purse C.f_Purse_init
  tb_wrong_in_people : TabB base mg C.L.c_wrong_in_people C.L.p_wrong_in_people
  cd_wrong_in_people : ∀ {f fd}, mg "wrong_in_people" = some (.ref f) → Fun K "wrong_in_people" "wrong_in_people" (top 21) f fd → fd.code = .ref C.L.c_wrong_in_people
  hu_wrong_in_people : ∀ p ∈ C.L.tabs, p.1 = C.L.p_wrong_in_people → p.2 = lamName "wrong_in_people"
  tb_wrong_in_claims : TabB base mg C.L.c_wrong_in_claims C.L.p_wrong_in_claims
  cd_wrong_in_claims : ∀ {f fd}, mg "wrong_in_claims" = some (.ref f) → Fun K "wrong_in_claims" "wrong_in_claims" (top 22) f fd → fd.code = .ref C.L.c_wrong_in_claims
  hu_wrong_in_claims : ∀ p ∈ C.L.tabs, p.1 = C.L.p_wrong_in_claims → p.2 = lamName "wrong_in_claims"
  tb_wrong_in_all : TabB base mg C.L.c_wrong_in_all C.L.p_wrong_in_all
  cd_wrong_in_all : ∀ {f fd}, mg "wrong_in_all" = some (.ref f) → Fun K "wrong_in_all" "wrong_in_all" (top 16) f fd → fd.code = .ref C.L.c_wrong_in_all
  hu_wrong_in_all : ∀ p ∈ C.L.tabs, p.1 = C.L.p_wrong_in_all → p.2 = lamName "wrong_in_all"
  tb__law_by_all : TabB base mg C.L.c__law_by_all C.L.p__law_by_all
  cd__law_by_all : ∀ {f fd}, mg "_law_by_all" = some (.ref f) → Fun K "_law_by_all" "_law_by_all" (top 36) f fd → fd.code = .ref C.L.c__law_by_all
  hu__law_by_all : ∀ p ∈ C.L.tabs, p.1 = C.L.p__law_by_all → p.2 = lamName "_law_by_all"
section
variable {P : Program} {w : World} {K : PySem.W.Frag} {mg : Str → Option Value} {base : Heap} {C : Cons}
theorem Txt.hm_wrong_in_people (T : Txt P w K mg base C) : (C.L.p_wrong_in_people, lamName "wrong_in_people") ∈ C.L.tabs := by simp [LamA.tabs]
theorem Txt.lj_wrong_in_people (T : Txt P w K mg base C) {g : GG} (hg : GOk K C g) : LamJ g C.L.tabs C.L.p_wrong_in_people := ⟨hg.t, hg.gp _ T.hm_wrong_in_people, fun H H1 => hg.j _ T.hm_wrong_in_people H H1, hg.x⟩
theorem Txt.hm_wrong_in_claims (T : Txt P w K mg base C) : (C.L.p_wrong_in_claims, lamName "wrong_in_claims") ∈ C.L.tabs := by simp [LamA.tabs]
theorem Txt.lj_wrong_in_claims (T : Txt P w K mg base C) {g : GG} (hg : GOk K C g) : LamJ g C.L.tabs C.L.p_wrong_in_claims := ⟨hg.t, hg.gp _ T.hm_wrong_in_claims, fun H H1 => hg.j _ T.hm_wrong_in_claims H H1, hg.x⟩
theorem Txt.hm_wrong_in_all (T : Txt P w K mg base C) : (C.L.p_wrong_in_all, lamName "wrong_in_all") ∈ C.L.tabs := by simp [LamA.tabs]
theorem Txt.lj_wrong_in_all (T : Txt P w K mg base C) {g : GG} (hg : GOk K C g) : LamJ g C.L.tabs C.L.p_wrong_in_all := ⟨hg.t, hg.gp _ T.hm_wrong_in_all, fun H H1 => hg.j _ T.hm_wrong_in_all H H1, hg.x⟩
theorem Txt.hm__law_by_all (T : Txt P w K mg base C) : (C.L.p__law_by_all, lamName "_law_by_all") ∈ C.L.tabs := by simp [LamA.tabs]
theorem Txt.lj__law_by_all (T : Txt P w K mg base C) {g : GG} (hg : GOk K C g) : LamJ g C.L.tabs C.L.p__law_by_all := ⟨hg.t, hg.gp _ T.hm__law_by_all, fun H H1 => hg.j _ T.hm__law_by_all H H1, hg.x⟩
def lawWordsS : List Str := ["all", "award", "book", "case", "claim", "class", "deal", "even", "game", "halves", "in", "losses", "none", "of", "open", "orders", "out", "pay", "people", "purse", "quit", "rank", "rule", "shares", "strike", "undo", "yes"]
def lawOwnS : List Str := ["a", "abcdef", "abcdefg", "b", "claims", "even", "let", "number", "odd", "people", "yes"]
theorem wordsAll : (wordsS.all fun u => decide (u ∈ lawWordsS) || decide (u ∈ lawOwnS)) = true := by decide +kernel
abbrev s_is_whole : Stmt := top 9
theorem sc_is_whole : FnScope ["value"] ["value"] (defScope s_is_whole) := ⟨rfl, rfl, rfl, by decide +kernel, rfl, by decide +kernel, by decide +kernel⟩
theorem okf_is_whole (T : Txt P w K mg base C) (g : GG) (hg : GOk K C g) {f : Addr} {fd : FuncData} (F : Fun K "is_whole" "is_whole" (top 9) f fd) : FnOk P w K mg base (L2.CX P w) 1 f fd ["value"] (spOf K g 1 sp_is_wholeE) := by
  refine fun_okD F sc_is_whole rfl [] (by decide) (fun cdv A outer s H E U Ed hr => ⟨_, (dss_one (ds_ret (de_and (de_isi T.cs rfl T.n_isinstance (da_cons (dv 0) (da_cons (de_bltn T.n_int rfl) da_nil))) (de_one (de_not (de_isi T.cs rfl T.n_isinstance (da_cons (dv 0) (da_cons (de_bltn T.n_bool rfl) da_nil))))))))⟩) ?_
  intro ds Q E hl h
  obtain ⟨d, rfl, ht, k⟩ := h
  obtain ⟨t, ht⟩ := Option.isSome_iff_exists.mp ht
  cases d <;> simp only [tyD, Option.some.injEq] at ht <;> first | (cases ht; done) | skip
  all_goals subst ht
  all_goals simp only [mSeq, bnd, gv, DL.ret, hide, startD, asB, List.foldr_nil, List.foldr_cons, List.map_nil, List.map_cons, List.length_cons, List.length_nil, List.nil_append, List.cons_append, List.getD_cons_zero, List.getD_cons_succ, List.set_cons_zero, List.set_cons_succ, List.replicate_succ, List.replicate_zero, Nat.reduceAdd, Nat.reduceSub, m1, m2, mOrd, mGcd, mLcmD, mNeg, mDiv, mI2, mJ2, mAdd, mSub, mMul, mMulD, mMod, mIx, mTup, mLst, mCall, mLen, mEq, mNe, if_true, if_false, Bool.false_eq_true, reduceIte, ite_ap, at20, at21, at30, at31, at32, true_and, dec_true, mNext, mgName, mgTup, mgCons, mgNil, asEnum, asI, mSl, wipeD, setAll, startC, asPerm, mMulL, unP, mTupP, mIsi, tyD]
  all_goals first | exact ⟨by decide, by decide, k⟩ | exact ⟨by decide, k⟩
theorem ok_is_whole (T : Txt P w K mg base C) (g : GG) (hg : GOk K C g) : GF P w K mg base g "is_whole" 1 1 sp_is_wholeE := by
  obtain ⟨f, fd, F, hm⟩ := T.F_is_whole
  exact gf_of F hm (F.binds (ps := ["value"]) fun _ _ _ _ _ _ us hl => match us, hl with | [_], _ => rfl) (okf_is_whole T g hg F)
abbrev s_is_between : Stmt := top 10
theorem sc_is_between : FnScope ["value", "least", "most"] ["value", "least", "most"] (defScope s_is_between) := ⟨rfl, rfl, rfl, by decide +kernel, rfl, by decide +kernel, by decide +kernel⟩
theorem okf_is_between (T : Txt P w K mg base C) (g : GG) (hg : GOk K C g) {f : Addr} {fd : FuncData} (F : Fun K "is_between" "is_between" (top 10) f fd) : FnOk P w K mg base (L2.CX P w) 2 f fd ["value", "least", "most"] (spOf K g 3 sp_is_betweenE) := by
  have G_is_whole := ok_is_whole (base := base) T g hg
  refine fun_okD F sc_is_between rfl [] (by decide) (fun cdv A outer s H E U Ed hr => ⟨_, (dss_one (ds_ret (de_and (de_call G_is_whole hr (by omega) bTakes rfl (da_cons (dv 0) da_nil)) (de_one (de_chain opLe rmOrd opLe rmOrd (dv 1) (dv 0) (dv 2))))))⟩) ?_
  intro ds Q E hl h
  obtain ⟨d, a, b, rfl, ht, k⟩ := h
  simp only [mSeq, bnd, gv, DL.ret, hide, startD, asB, List.foldr_nil, List.foldr_cons, List.map_nil, List.map_cons, List.length_cons, List.length_nil, List.nil_append, List.cons_append, List.getD_cons_zero, List.getD_cons_succ, List.set_cons_zero, List.set_cons_succ, List.replicate_succ, List.replicate_zero, Nat.reduceAdd, Nat.reduceSub, m1, m2, mOrd, mGcd, mLcmD, mNeg, mDiv, mI2, mJ2, mAdd, mSub, mMul, mMulD, mMod, mIx, mTup, mLst, mCall, mLen, mEq, mNe, if_true, if_false, Bool.false_eq_true, reduceIte, ite_ap, at20, at21, at30, at31, at32, true_and, dec_true, mNext, mgName, mgTup, mgCons, mgNil, asEnum, asI, mSl, wipeD, setAll, startC, asPerm, mMulL, unP, mTupP]
  refine ⟨d, rfl, ht, ?_⟩
  cases d <;> simp only [intB, betB] at k ⊢ <;> simp only [mSeq, bnd, gv, DL.ret, hide, startD, asB, List.foldr_nil, List.foldr_cons, List.map_nil, List.map_cons, List.length_cons, List.length_nil, List.nil_append, List.cons_append, List.getD_cons_zero, List.getD_cons_succ, List.set_cons_zero, List.set_cons_succ, List.replicate_succ, List.replicate_zero, Nat.reduceAdd, Nat.reduceSub, m1, m2, mOrd, mGcd, mLcmD, mNeg, mDiv, mI2, mJ2, mAdd, mSub, mMul, mMulD, mMod, mIx, mTup, mLst, mCall, mLen, mEq, mNe, if_true, if_false, Bool.false_eq_true, reduceIte, ite_ap, at20, at21, at30, at31, at32, true_and, dec_true, mNext, mgName, mgTup, mgCons, mgNil, asEnum, asI, mSl, wipeD, setAll, startC, asPerm, mMulL, unP, mTupP] <;> first | exact k | skip
  rename_i i
  by_cases h1 : a ≤ i
  · simp only [h1, true_and, if_true, decide_true] at k ⊢
    exact k
  · simp only [h1, false_and, decide_false, if_false] at k ⊢
    exact k
theorem ok_is_between (T : Txt P w K mg base C) (g : GG) (hg : GOk K C g) : GF P w K mg base g "is_between" 3 2 sp_is_betweenE := by
  obtain ⟨f, fd, F, hm⟩ := T.F_is_between
  exact gf_of F hm (F.binds (ps := ["value", "least", "most"]) fun _ _ _ _ _ _ us hl => match us, hl with | [_, _, _], _ => rfl) (okf_is_between T g hg F)
abbrev s_is_up_to : Stmt := top 11
theorem sc_is_up_to : FnScope ["value", "most"] ["value", "most"] (defScope s_is_up_to) := ⟨rfl, rfl, rfl, by decide +kernel, rfl, by decide +kernel, by decide +kernel⟩
theorem okf_is_up_to (T : Txt P w K mg base C) (g : GG) (hg : GOk K C g) {f : Addr} {fd : FuncData} (F : Fun K "is_up_to" "is_up_to" (top 11) f fd) : FnOk P w K mg base (L2.CX P w) 3 f fd ["value", "most"] (spOf K g 2 sp_is_up_toE) := by
  have G_is_between := ok_is_between (base := base) T g hg
  refine fun_okD F sc_is_up_to rfl [] (by decide) (fun cdv A outer s H E U Ed hr => ⟨_, (dss_one (ds_ret (de_call G_is_between hr (by omega) bTakes rfl (da_cons (dv 0) (da_cons de_int (da_cons (dv 1) da_nil))))))⟩) ?_
  intro ds Q E hl h
  obtain ⟨d, b, rfl, ht, k⟩ := h
  simp only [mSeq, bnd, gv, DL.ret, hide, startD, asB, List.foldr_nil, List.foldr_cons, List.map_nil, List.map_cons, List.length_cons, List.length_nil, List.nil_append, List.cons_append, List.getD_cons_zero, List.getD_cons_succ, List.set_cons_zero, List.set_cons_succ, List.replicate_succ, List.replicate_zero, Nat.reduceAdd, Nat.reduceSub, m1, m2, mOrd, mGcd, mLcmD, mNeg, mDiv, mI2, mJ2, mAdd, mSub, mMul, mMulD, mMod, mIx, mTup, mLst, mCall, mLen, mEq, mNe, if_true, if_false, Bool.false_eq_true, reduceIte, ite_ap, at20, at21, at30, at31, at32, true_and, dec_true, mNext, mgName, mgTup, mgCons, mgNil, asEnum, asI, mSl, wipeD, setAll, startC, asPerm, mMulL, unP, mTupP]
  exact ⟨d, 0, b, rfl, ht, k⟩
theorem ok_is_up_to (T : Txt P w K mg base C) (g : GG) (hg : GOk K C g) : GF P w K mg base g "is_up_to" 2 3 sp_is_up_toE := by
  obtain ⟨f, fd, F, hm⟩ := T.F_is_up_to
  exact gf_of F hm (F.binds (ps := ["value", "most"]) fun _ _ _ _ _ _ us hl => match us, hl with | [_, _], _ => rfl) (okf_is_up_to T g hg F)
abbrev s_is_word : Stmt := top 12
theorem sc_is_word : FnScope ["value", "sign"] ["value"] (defScope s_is_word) := ⟨rfl, rfl, rfl, by decide +kernel, rfl, by decide +kernel, by decide +kernel⟩
theorem okf_is_word (T : Txt P w K mg base C) (g : GG) (hg : GOk K C g) {f : Addr} {fd : FuncData} (F : Fun K "is_word" "is_word" (top 12) f fd) : FnOk P w K mg base (L2.CX P w) 1 f fd ["value"] (spOf K g 1 sp_is_wordE) := by
  refine fun_okD F sc_is_word rfl [] (by decide) (fun cdv A outer s H E U Ed hr => ⟨_, (dss_one (ds_ret (de_and (de_isi T.cs rfl T.n_isinstance (da_cons (dv 0) (da_cons (de_bltn T.n_str rfl) da_nil))) (de_and (de_cmp (opNe hr) rmNe (dv 0) de_str) (de_one (de_cb (cr_all rfl) rmAll T.n_all rfl (da_cons (DF.de (df_lc rfl sc_is_word.nd (di_any rfl (dv 0)) (own := [("sign", 1)]) (blk_of (N := ["value", "sign"]) (sc := defScope s_is_word) (by decide +kernel)) (fun s H C cl fp => (dge_name 1 sc_is_word.nd)) (fun s H C cl fp => dts_nil) (fun s H C cl fp => (de_cmp opIn rmIn (dv 1) (de_globE T.g_LETTERS rfl rfl))) (fun _ => rfl))) da_nil)))))))⟩) ?_
  intro ds Q E hl h
  obtain ⟨d, rfl, hv, k⟩ := h
  obtain ⟨t, ht⟩ := Option.isSome_iff_exists.mp hv.t
  by_cases hs : ∃ x, d = .str x
  · obtain ⟨x, rfl⟩ := hs
    obtain ⟨hx, ho⟩ := hv.s x rfl
    simp only [mSeq, bnd, gv, DL.ret, hide, startD, asB, List.foldr_nil, List.foldr_cons, List.map_nil, List.map_cons, List.length_cons, List.length_nil, List.nil_append, List.cons_append, List.getD_cons_zero, List.getD_cons_succ, List.set_cons_zero, List.set_cons_succ, List.replicate_succ, List.replicate_zero, Nat.reduceAdd, Nat.reduceSub, m1, m2, mOrd, mGcd, mLcmD, mNeg, mDiv, mI2, mJ2, mAdd, mSub, mMul, mMulD, mMod, mIx, mTup, mLst, mCall, mLen, mEq, mNe, if_true, if_false, Bool.false_eq_true, reduceIte, ite_ap, at20, at21, at30, at31, at32, true_and, dec_true, mNext, mgName, mgTup, mgCons, mgNil, asEnum, asI, mSl, wipeD, setAll, startC, asPerm, mMulL, unP, mTupP, mIsi, tyD, EqOk]
    refine ⟨by decide, ?_⟩
    simp only [wordB] at k
    cases he : eqD (.str x) (.str "") with
    | true =>
      simp only [he, Bool.not_true, Bool.false_and] at k
      simp only [mSeq, bnd, gv, DL.ret, hide, startD, asB, List.foldr_nil, List.foldr_cons, List.map_nil, List.map_cons, List.length_cons, List.length_nil, List.nil_append, List.cons_append, List.getD_cons_zero, List.getD_cons_succ, List.set_cons_zero, List.set_cons_succ, List.replicate_succ, List.replicate_zero, Nat.reduceAdd, Nat.reduceSub, m1, m2, mOrd, mGcd, mLcmD, mNeg, mDiv, mI2, mJ2, mAdd, mSub, mMul, mMulD, mMod, mIx, mTup, mLst, mCall, mLen, mEq, mNe, if_true, if_false, Bool.false_eq_true, reduceIte, ite_ap, at20, at21, at30, at31, at32, true_and, dec_true, mNext, mgName, mgTup, mgCons, mgNil, asEnum, asI, mSl, wipeD, setAll, startC, asPerm, mMulL, unP, mTupP, Bool.not_true]
      exact k
    | false =>
      simp only [he, Bool.not_false, Bool.true_and] at k
      simp only [mSeq, bnd, gv, DL.ret, hide, startD, asB, List.foldr_nil, List.foldr_cons, List.map_nil, List.map_cons, List.length_cons, List.length_nil, List.nil_append, List.cons_append, List.getD_cons_zero, List.getD_cons_succ, List.set_cons_zero, List.set_cons_succ, List.replicate_succ, List.replicate_zero, Nat.reduceAdd, Nat.reduceSub, m1, m2, mOrd, mGcd, mLcmD, mNeg, mDiv, mI2, mJ2, mAdd, mSub, mMul, mMulD, mMod, mIx, mTup, mLst, mCall, mLen, mEq, mNe, if_true, if_false, Bool.false_eq_true, reduceIte, ite_ap, at20, at21, at30, at31, at32, true_and, dec_true, mNext, mgName, mgTup, mgCons, mgNil, asEnum, asI, mSl, wipeD, setAll, startC, asPerm, mMulL, unP, mTupP, Bool.not_false, wipeD]
      refine ⟨signs_small hx, lcW_map (f := fun d => .bl (match d with | .str c => inS c LET | _ => false)) _ _ (fun d hd k hk => ?_) ?_⟩
      · obtain ⟨c, hc, rfl⟩ := signs_mem hd
        simp only [mSeq, bnd, gv, DL.ret, hide, startD, asB, List.foldr_nil, List.foldr_cons, List.map_nil, List.map_cons, List.length_cons, List.length_nil, List.nil_append, List.cons_append, List.getD_cons_zero, List.getD_cons_succ, List.set_cons_zero, List.set_cons_succ, List.replicate_succ, List.replicate_zero, Nat.reduceAdd, Nat.reduceSub, m1, m2, mOrd, mGcd, mLcmD, mNeg, mDiv, mI2, mJ2, mAdd, mSub, mMul, mMulD, mMod, mIx, mTup, mLst, mCall, mLen, mEq, mNe, if_true, if_false, Bool.false_eq_true, reduceIte, ite_ap, at20, at21, at30, at31, at32, true_and, dec_true, mNext, mgName, mgTup, mgCons, mgNil, asEnum, asI, mSl, wipeD, setAll, startC, asPerm, mMulL, unP, mTupP, mInB, wipeD]
        exact hk
      · simp only [mSeq, bnd, gv, DL.ret, hide, startD, asB, List.foldr_nil, List.foldr_cons, List.map_nil, List.map_cons, List.length_cons, List.length_nil, List.nil_append, List.cons_append, List.getD_cons_zero, List.getD_cons_succ, List.set_cons_zero, List.set_cons_succ, List.replicate_succ, List.replicate_zero, Nat.reduceAdd, Nat.reduceSub, m1, m2, mOrd, mGcd, mLcmD, mNeg, mDiv, mI2, mJ2, mAdd, mSub, mMul, mMulD, mMod, mIx, mTup, mLst, mCall, mLen, mEq, mNe, if_true, if_false, Bool.false_eq_true, reduceIte, ite_ap, at20, at21, at30, at31, at32, true_and, dec_true, mNext, mgName, mgTup, mgCons, mgNil, asEnum, asI, mSl, wipeD, setAll, startC, asPerm, mMulL, unP, mTupP]
        have e : (DL.signs x).map (fun d => D.bl (match d with | .str c => inS c LET | _ => false)) = (x.cps.toList.map letB).map D.bl := by
          unfold DL.signs
          rw [List.map_map, List.map_map]
          rfl
        rw [e, mAll_map, List.all_map]
        exact k
  · have e2 : wordB d = false := by cases d <;> first | rfl | exact absurd ⟨_, rfl⟩ hs
    rw [e2] at k
    simp only [mSeq, bnd, gv, DL.ret, hide, startD, asB, List.foldr_nil, List.foldr_cons, List.map_nil, List.map_cons, List.length_cons, List.length_nil, List.nil_append, List.cons_append, List.getD_cons_zero, List.getD_cons_succ, List.set_cons_zero, List.set_cons_succ, List.replicate_succ, List.replicate_zero, Nat.reduceAdd, Nat.reduceSub, m1, m2, mOrd, mGcd, mLcmD, mNeg, mDiv, mI2, mJ2, mAdd, mSub, mMul, mMulD, mMod, mIx, mTup, mLst, mCall, mLen, mEq, mNe, if_true, if_false, Bool.false_eq_true, reduceIte, ite_ap, at20, at21, at30, at31, at32, true_and, dec_true, mNext, mgName, mgTup, mgCons, mgNil, asEnum, asI, mSl, wipeD, setAll, startC, asPerm, mMulL, unP, mTupP, mIsi, ht, not_str ht hs]
    exact ⟨by decide, k⟩
theorem ok_is_word (T : Txt P w K mg base C) (g : GG) (hg : GOk K C g) : GF P w K mg base g "is_word" 1 1 sp_is_wordE := by
  obtain ⟨f, fd, F, hm⟩ := T.F_is_word
  exact gf_of F hm (F.binds (ps := ["value"]) fun _ _ _ _ _ _ us hl => match us, hl with | [_], _ => rfl) (okf_is_word T g hg F)
abbrev s_is_name : Stmt := top 13
theorem sc_is_name : FnScope ["value"] ["value"] (defScope s_is_name) := ⟨rfl, rfl, rfl, by decide +kernel, rfl, by decide +kernel, by decide +kernel⟩
theorem okf_is_name (T : Txt P w K mg base C) (g : GG) (hg : GOk K C g) {f : Addr} {fd : FuncData} (F : Fun K "is_name" "is_name" (top 13) f fd) : FnOk P w K mg base (L2.CX P w) 2 f fd ["value"] (spOf K g 1 sp_is_nameE) := by
  have G_is_word := ok_is_word (base := base) T g hg
  refine fun_okD F sc_is_name rfl [] (by decide) (fun cdv A outer s H E U Ed hr => ⟨_, (dss_one (ds_ret (de_and (de_call G_is_word hr (by omega) bTakes rfl (da_cons (dv 0) da_nil)) (de_and (de_cmp opLe rmOrd (de_cb crLen rmLen T.n_len rfl (da_cons (dv 0) da_nil)) (de_globE T.g_MOST_LETTERS rfl rfl)) (de_one (de_cmp opNotIn rmIn (dv 0) (de_globE T.g_WORDS rfl rfl)))))))⟩) ?_
  intro ds Q E hl h
  obtain ⟨d, rfl, hv, k⟩ := h
  simp only [mSeq, bnd, gv, DL.ret, hide, startD, asB, List.foldr_nil, List.foldr_cons, List.map_nil, List.map_cons, List.length_cons, List.length_nil, List.nil_append, List.cons_append, List.getD_cons_zero, List.getD_cons_succ, List.set_cons_zero, List.set_cons_succ, List.replicate_succ, List.replicate_zero, Nat.reduceAdd, Nat.reduceSub, m1, m2, mOrd, mGcd, mLcmD, mNeg, mDiv, mI2, mJ2, mAdd, mSub, mMul, mMulD, mMod, mIx, mTup, mLst, mCall, mLen, mEq, mNe, if_true, if_false, Bool.false_eq_true, reduceIte, ite_ap, at20, at21, at30, at31, at32, true_and, dec_true, mNext, mgName, mgTup, mgCons, mgNil, asEnum, asI, mSl, wipeD, setAll, startC, asPerm, mMulL, unP, mTupP, mInB]
  refine ⟨d, rfl, hv, ?_⟩
  simp only [mSeq, bnd, gv, DL.ret, hide, startD, asB, List.foldr_nil, List.foldr_cons, List.map_nil, List.map_cons, List.length_cons, List.length_nil, List.nil_append, List.cons_append, List.getD_cons_zero, List.getD_cons_succ, List.set_cons_zero, List.set_cons_succ, List.replicate_succ, List.replicate_zero, Nat.reduceAdd, Nat.reduceSub, m1, m2, mOrd, mGcd, mLcmD, mNeg, mDiv, mI2, mJ2, mAdd, mSub, mMul, mMulD, mMod, mIx, mTup, mLst, mCall, mLen, mEq, mNe, if_true, if_false, Bool.false_eq_true, reduceIte, ite_ap, at20, at21, at30, at31, at32, true_and, dec_true, mNext, mgName, mgTup, mgCons, mgNil, asEnum, asI, mSl, wipeD, setAll, startC, asPerm, mMulL, unP, mTupP]
  cases hw : wordB d with
  | false =>
    have e : nameB d = false := by cases d <;> first | rfl | (simp only [nameB, hw]; rfl)
    rw [e] at k
    exact k
  | true =>
    cases d with
    | str x =>
      have hl := (hv.s x rfl).1
      simp only [nameB, hw, Bool.true_and] at k
      simp only [mSeq, bnd, gv, DL.ret, hide, startD, asB, List.foldr_nil, List.foldr_cons, List.map_nil, List.map_cons, List.length_cons, List.length_nil, List.nil_append, List.cons_append, List.getD_cons_zero, List.getD_cons_succ, List.set_cons_zero, List.set_cons_succ, List.replicate_succ, List.replicate_zero, Nat.reduceAdd, Nat.reduceSub, m1, m2, mOrd, mGcd, mLcmD, mNeg, mDiv, mI2, mJ2, mAdd, mSub, mMul, mMulD, mMod, mIx, mTup, mLst, mCall, mLen, mEq, mNe, if_true, if_false, Bool.false_eq_true, reduceIte, ite_ap, at20, at21, at30, at31, at32, true_and, dec_true, mNext, mgName, mgTup, mgCons, mgNil, asEnum, asI, mSl, wipeD, setAll, startC, asPerm, mMulL, unP, mTupP]
      refine ⟨by rw [sizeLine_eq]; omega, ?_⟩
      by_cases h8 : x.length ≤ 8
      · rw [if_pos (show (x.length : Int) ≤ 8 by omega)]
        simp only [h8, decide_true, Bool.true_and] at k
        exact ⟨rfl, by decide +kernel, k⟩
      · rw [if_neg (show ¬ (x.length : Int) ≤ 8 by omega)]
        simp only [h8, decide_false, Bool.false_and] at k
        exact k
    | _ => cases hw
theorem ok_is_name (T : Txt P w K mg base C) (g : GG) (hg : GOk K C g) : GF P w K mg base g "is_name" 1 2 sp_is_nameE := by
  obtain ⟨f, fd, F, hm⟩ := T.F_is_name
  exact gf_of F hm (F.binds (ps := ["value"]) fun _ _ _ _ _ _ us hl => match us, hl with | [_], _ => rfl) (okf_is_name T g hg F)
abbrev s_are_below : Stmt := top 17
theorem sc_are_below : FnScope ["ahead", "value"] ["ahead", "value"] (defScope s_are_below) := ⟨rfl, rfl, rfl, by decide +kernel, rfl, by decide +kernel, by decide +kernel⟩
theorem okf_are_below (T : Txt P w K mg base C) (g : GG) (hg : GOk K C g) {f : Addr} {fd : FuncData} (F : Fun K "are_below" "are_below" (top 17) f fd) : FnOk P w K mg base (L2.CX P w) 1 f fd ["ahead", "value"] (spOf K g 2 sp_are_belowE) := by
  refine fun_okD F sc_are_below rfl [] (by decide) (fun cdv A outer s H E U Ed hr => ⟨_, (dss_one (ds_ret (de_or (de_cmp (opEq hr) rmEq (dv 0) (de_tup da_nil)) (de_one (de_cmp opLt rmOrd (de_ix rfl (dv 0) (de_un un_neg rmNeg de_int)) (dv 1))))))⟩) ?_
  intro ds Q E hl h
  obtain ⟨xs, y, rfl, hok, k⟩ := h
  simp only [mSeq, bnd, gv, DL.ret, hide, startD, asB, List.foldr_nil, List.foldr_cons, List.map_nil, List.map_cons, List.length_cons, List.length_nil, List.nil_append, List.cons_append, List.getD_cons_zero, List.getD_cons_succ, List.set_cons_zero, List.set_cons_succ, List.replicate_succ, List.replicate_zero, Nat.reduceAdd, Nat.reduceSub, m1, m2, mOrd, mGcd, mLcmD, mNeg, mDiv, mI2, mJ2, mAdd, mSub, mMul, mMulD, mMod, mIx, mTup, mLst, mCall, mLen, mEq, mNe, if_true, if_false, Bool.false_eq_true, reduceIte, ite_ap, at20, at21, at30, at31, at32, true_and, dec_true, mNext, mgName, mgTup, mgCons, mgNil, asEnum, asI, mSl, wipeD, setAll, startC, asPerm, mMulL, unP, mTupP]
  refine ⟨Nat.zero_le _, strs_eqOk hok, ?_⟩
  cases hz : xs.getLast? with
  | none =>
    have e := List.getLast?_eq_none_iff.mp hz
    subst e
    simp only [mSeq, bnd, gv, DL.ret, hide, startD, asB, List.foldr_nil, List.foldr_cons, List.map_nil, List.map_cons, List.length_cons, List.length_nil, List.nil_append, List.cons_append, List.getD_cons_zero, List.getD_cons_succ, List.set_cons_zero, List.set_cons_succ, List.replicate_succ, List.replicate_zero, Nat.reduceAdd, Nat.reduceSub, m1, m2, mOrd, mGcd, mLcmD, mNeg, mDiv, mI2, mJ2, mAdd, mSub, mMul, mMulD, mMod, mIx, mTup, mLst, mCall, mLen, mEq, mNe, if_true, if_false, Bool.false_eq_true, reduceIte, ite_ap, at20, at21, at30, at31, at32, true_and, dec_true, mNext, mgName, mgTup, mgCons, mgNil, asEnum, asI, mSl, wipeD, setAll, startC, asPerm, mMulL, unP, mTupP, eqD, eqDs]
    simp only [belowB, List.getLast?_nil] at k
    exact k
  | some z =>
    rw [strs_ne hz]
    simp only [belowB, hz] at k
    simp only [mSeq, bnd, gv, DL.ret, hide, startD, asB, List.foldr_nil, List.foldr_cons, List.map_nil, List.map_cons, List.length_cons, List.length_nil, List.nil_append, List.cons_append, List.getD_cons_zero, List.getD_cons_succ, List.set_cons_zero, List.set_cons_succ, List.replicate_succ, List.replicate_zero, Nat.reduceAdd, Nat.reduceSub, m1, m2, mOrd, mGcd, mLcmD, mNeg, mDiv, mI2, mJ2, mAdd, mSub, mMul, mMulD, mMod, mIx, mTup, mLst, mCall, mLen, mEq, mNe, if_true, if_false, Bool.false_eq_true, reduceIte, ite_ap, at20, at21, at30, at31, at32, true_and, dec_true, mNext, mgName, mgTup, mgCons, mgNil, asEnum, asI, mSl, wipeD, setAll, startC, asPerm, mMulL, unP, mTupP, at_last hz]
    exact k
theorem ok_are_below (T : Txt P w K mg base C) (g : GG) (hg : GOk K C g) : GF P w K mg base g "are_below" 2 1 sp_are_belowE := by
  obtain ⟨f, fd, F, hm⟩ := T.F_are_below
  exact gf_of F hm (F.binds (ps := ["ahead", "value"]) fun _ _ _ _ _ _ us hl => match us, hl with | [_, _], _ => rfl) (okf_are_below T g hg F)
abbrev s_is_tuple_of : Stmt := top 14
theorem sc_is_tuple_of : FnScope ["value", "many"] ["value", "many"] (defScope s_is_tuple_of) := ⟨rfl, rfl, rfl, by decide +kernel, rfl, by decide +kernel, by decide +kernel⟩
theorem okf_is_tuple_of (T : Txt P w K mg base C) (g : GG) (hg : GOk K C g) {f : Addr} {fd : FuncData} (F : Fun K "is_tuple_of" "is_tuple_of" (top 14) f fd) : FnOk P w K mg base (L2.CX P w) 1 f fd ["value", "many"] (spOf K g 2 sp_is_tuple_ofE) := by
  refine fun_okD F sc_is_tuple_of rfl [] (by decide) (fun cdv A outer s H E U Ed hr => ⟨_, (dss_one (ds_ret (de_and (de_isi T.cs rfl T.n_isinstance (da_cons (dv 0) (da_cons (de_bltn T.n_tuple rfl) da_nil))) (de_one (de_cmp (opEq hr) rmEq (de_cb crLen rmLen T.n_len rfl (da_cons (dv 0) da_nil)) (dv 1))))))⟩) ?_
  intro ds Q E hl h
  obtain ⟨d, m, rfl, ht, hp, k⟩ := h
  obtain ⟨t, ht⟩ := Option.isSome_iff_exists.mp ht
  cases d <;> simp only [tyD, Option.some.injEq] at ht <;> first | (cases ht; done) | skip
  all_goals subst ht
  all_goals simp only [mSeq, bnd, gv, DL.ret, hide, startD, asB, List.foldr_nil, List.foldr_cons, List.map_nil, List.map_cons, List.length_cons, List.length_nil, List.nil_append, List.cons_append, List.getD_cons_zero, List.getD_cons_succ, List.set_cons_zero, List.set_cons_succ, List.replicate_succ, List.replicate_zero, Nat.reduceAdd, Nat.reduceSub, m1, m2, mOrd, mGcd, mLcmD, mNeg, mDiv, mI2, mJ2, mAdd, mSub, mMul, mMulD, mMod, mIx, mTup, mLst, mCall, mLen, mEq, mNe, if_true, if_false, Bool.false_eq_true, reduceIte, ite_ap, at20, at21, at30, at31, at32, true_and, dec_true, mNext, mgName, mgTup, mgCons, mgNil, asEnum, asI, mSl, wipeD, setAll, startC, asPerm, mMulL, unP, mTupP, mIsi, tyD, EqOk, eqD, tupB] at k ⊢
  all_goals first | exact ⟨by decide, k⟩ | exact absurd rfl (hp _)
theorem ok_is_tuple_of (T : Txt P w K mg base C) (g : GG) (hg : GOk K C g) : GF P w K mg base g "is_tuple_of" 2 1 sp_is_tuple_ofE := by
  obtain ⟨f, fd, F, hm⟩ := T.F_is_tuple_of
  exact gf_of F hm (F.binds (ps := ["value", "many"]) fun _ _ _ _ _ _ us hl => match us, hl with | [_, _], _ => rfl) (okf_is_tuple_of T g hg F)
abbrev s_wrong_in : Stmt := top 15
theorem sc_wrong_in : FnScope ["value", "least", "most", "is_right", "index", "each"] ["value", "least", "most", "is_right"] (defScope s_wrong_in) := ⟨rfl, rfl, rfl, by decide +kernel, rfl, by decide +kernel, by decide +kernel⟩
theorem ok_wrong_in (T : Txt P w K mg base C) (g : GG) (hg : GOk K C g) (KL : Nat) : GFL P w K mg base g "wrong_in" 4 (KL + 1) 2 (KL + 0) sp_wrong_inE := by
  obtain ⟨f, fd, F, hm⟩ := T.F_wrong_in
  refine gfl_of F hm (F.binds (ps := ["value", "least", "most", "is_right"]) fun _ _ _ _ _ _ us hl => match us, hl with | [_, _, _, _], _ => rfl) sc_wrong_in rfl [] (by decide) (fun fL spL => ⟨_, fun cdv A outer s H E U Ed hr hcd hC => ⟨_, (dss_cons (ds_if (dt_w (dw_or (dt_not (dt_val (de_isi T.cs rfl T.n_isinstance (da_cons (dv 0) (da_cons (de_bltn T.n_tuple rfl) da_nil))))) (dw_or1 (dt_cmp opLt rmOrd (de_cb crLen rmLen T.n_len rfl (da_cons (dv 0) da_nil)) (dv 1))))) (dss_one (ds_ret (de_lst (da_cons de_non da_nil)))) dss_nil)
      (dss_cons (ds_for bPass rfl (di_enum rfl T.n_enumerate (da_cons (dv 0) da_nil)) (dg_tup (n := 2) rfl rfl (dgs_cons 4 sc_wrong_in.nd (dgs_cons 5 sc_wrong_in.nd dgs_nil))) (dss_one (ds_if (dt_w (dw_or (dt_cmp (opEq hr) rmEq (dv 4) (dv 2)) (dw_or1 (dt_not (dt_val (de_clo (i := 3) hC rfl rfl rfl hr (by omega) bTakes (da_cons (de_slice rfl (dv 0) do_none (do_some (dv 4))) (da_cons (dv 5) da_nil)))))))) (dss_one (ds_ret (de_lst (da_cons (dv 4) da_nil)))) dss_nil)) (fun _ => rfl))
      (dss_one (ds_ret (de_lst da_nil)))))⟩, ?_⟩)
  intro ds Q E hl hf h
  have one_le : 1 ≤ sizeLine := Nat.le_trans (by decide) two_le
  obtain ⟨v, least, most, rfl, h⟩ := h
  rcases h with ⟨ht, hn, k⟩ | ⟨xs, rfl, hx, h⟩
  · obtain ⟨t, ht⟩ := Option.isSome_iff_exists.mp ht
    simp only [mSeq, bnd, gv, DL.ret, hide, startD, asB, List.foldr_nil, List.foldr_cons, List.map_nil, List.map_cons, List.length_cons, List.length_nil, List.nil_append, List.cons_append, List.getD_cons_zero, List.getD_cons_succ, List.set_cons_zero, List.set_cons_succ, List.replicate_succ, List.replicate_zero, Nat.reduceAdd, Nat.reduceSub, m1, m2, mOrd, mGcd, mLcmD, mNeg, mDiv, mI2, mJ2, mAdd, mSub, mMul, mMulD, mMod, mIx, mTup, mLst, mCall, mLen, mEq, mNe, if_true, if_false, Bool.false_eq_true, reduceIte, ite_ap, at20, at21, at30, at31, at32, true_and, dec_true, mNext, mgName, mgTup, mgCons, mgNil, asEnum, asI, mSl, wipeD, setAll, startC, asPerm, mMulL, unP, mTupP, mIsi, ht, not_tup ht hn, Bool.not_false]
    exact ⟨by decide, one_le, k⟩
  · simp only [mSeq, bnd, gv, DL.ret, hide, startD, asB, List.foldr_nil, List.foldr_cons, List.map_nil, List.map_cons, List.length_cons, List.length_nil, List.nil_append, List.cons_append, List.getD_cons_zero, List.getD_cons_succ, List.set_cons_zero, List.set_cons_succ, List.replicate_succ, List.replicate_zero, Nat.reduceAdd, Nat.reduceSub, m1, m2, mOrd, mGcd, mLcmD, mNeg, mDiv, mI2, mJ2, mAdd, mSub, mMul, mMulD, mMod, mIx, mTup, mLst, mCall, mLen, mEq, mNe, if_true, if_false, Bool.false_eq_true, reduceIte, ite_ap, at20, at21, at30, at31, at32, true_and, dec_true, mNext, mgName, mgTup, mgCons, mgNil, asEnum, asI, mSl, wipeD, setAll, startC, asPerm, mMulL, unP, mTupP, mIsi, tyD]
    refine ⟨by decide, ?_⟩
    rw [if_neg (by decide)]
    rcases h with ⟨hl, k⟩ | ⟨hl, r, hr, k⟩
    · rw [if_pos hl]
      exact ⟨one_le, k⟩
    · rw [if_neg (by omega)]
      refine forW_ind (fun n ρ => (∃ o1 o2, ρ = [some (.tup xs), some (.int least), some (.int most), some (.obj fL), o1, o2]) ∧ ∀ j, j < n → (j : Int) ≠ most ∧ r j = true) _ 0 _ ⟨⟨none, none, rfl⟩, fun j hj => absurd hj (Nat.not_lt_zero j)⟩ (fun i d ρ κ hie hI hk => ?_) (fun ρ hI => ?_)
      · obtain ⟨⟨o1, o2, rfl⟩, hb⟩ := hI
        have hil : i < xs.length := by
          have := (List.getElem?_eq_some_iff.mp hie).1
          rwa [enumD_length] at this
        have hx := List.getElem?_eq_getElem hil
        rw [enumD_get 0 xs i _ hx] at hie
        cases hie
        rw [Nat.zero_add] at hb hk
        by_cases he : (i : Int) = most
        · have hne : eqD (.int (0 + (i : Int))) (.int most) = true := int_eq (by omega)
          simp only [mSeq, bnd, gv, DL.ret, hide, startD, asB, List.foldr_nil, List.foldr_cons, List.map_nil, List.map_cons, List.length_cons, List.length_nil, List.nil_append, List.cons_append, List.getD_cons_zero, List.getD_cons_succ, List.set_cons_zero, List.set_cons_succ, List.replicate_succ, List.replicate_zero, Nat.reduceAdd, Nat.reduceSub, m1, m2, mOrd, mGcd, mLcmD, mNeg, mDiv, mI2, mJ2, mAdd, mSub, mMul, mMulD, mMod, mIx, mTup, mLst, mCall, mLen, mEq, mNe, if_true, if_false, Bool.false_eq_true, reduceIte, ite_ap, at20, at21, at30, at31, at32, true_and, dec_true, mNext, mgName, mgTup, mgCons, mgNil, asEnum, asI, mSl, wipeD, setAll, startC, asPerm, mMulL, unP, mTupP, EqOk, hne]
          rw [wrongIx_some hil (.inl he) hb] at k
          refine ⟨one_le, ?_⟩
          rw [Int.zero_add]
          exact k
        · have hne : eqD (.int (0 + (i : Int))) (.int most) = false := int_ne (by omega)
          simp only [mSeq, bnd, gv, DL.ret, hide, startD, asB, List.foldr_nil, List.foldr_cons, List.map_nil, List.map_cons, List.length_cons, List.length_nil, List.nil_append, List.cons_append, List.getD_cons_zero, List.getD_cons_succ, List.set_cons_zero, List.set_cons_succ, List.replicate_succ, List.replicate_zero, Nat.reduceAdd, Nat.reduceSub, m1, m2, mOrd, mGcd, mLcmD, mNeg, mDiv, mI2, mJ2, mAdd, mSub, mMul, mMulD, mMod, mIx, mTup, mLst, mCall, mLen, mEq, mNe, if_true, if_false, Bool.false_eq_true, reduceIte, ite_ap, at20, at21, at30, at31, at32, true_and, dec_true, mNext, mgName, mgTup, mgCons, mgNil, asEnum, asI, mSl, wipeD, setAll, startC, asPerm, mMulL, unP, mTupP, EqOk, hne, cut_to (Nat.le_of_lt hil)]
          refine hr i _ hx he hb _ ?_
          cases hri : r i with
          | true =>
            simp only [mSeq, bnd, gv, DL.ret, hide, startD, asB, List.foldr_nil, List.foldr_cons, List.map_nil, List.map_cons, List.length_cons, List.length_nil, List.nil_append, List.cons_append, List.getD_cons_zero, List.getD_cons_succ, List.set_cons_zero, List.set_cons_succ, List.replicate_succ, List.replicate_zero, Nat.reduceAdd, Nat.reduceSub, m1, m2, mOrd, mGcd, mLcmD, mNeg, mDiv, mI2, mJ2, mAdd, mSub, mMul, mMulD, mMod, mIx, mTup, mLst, mCall, mLen, mEq, mNe, if_true, if_false, Bool.false_eq_true, reduceIte, ite_ap, at20, at21, at30, at31, at32, true_and, dec_true, mNext, mgName, mgTup, mgCons, mgNil, asEnum, asI, mSl, wipeD, setAll, startC, asPerm, mMulL, unP, mTupP, Bool.not_true]
            exact hk _ ⟨⟨_, _, rfl⟩, fun j hj => by
              by_cases hji : j = i
              · subst hji
                exact ⟨he, hri⟩
              · exact hb j (by omega)⟩
          | false =>
            simp only [mSeq, bnd, gv, DL.ret, hide, startD, asB, List.foldr_nil, List.foldr_cons, List.map_nil, List.map_cons, List.length_cons, List.length_nil, List.nil_append, List.cons_append, List.getD_cons_zero, List.getD_cons_succ, List.set_cons_zero, List.set_cons_succ, List.replicate_succ, List.replicate_zero, Nat.reduceAdd, Nat.reduceSub, m1, m2, mOrd, mGcd, mLcmD, mNeg, mDiv, mI2, mJ2, mAdd, mSub, mMul, mMulD, mMod, mIx, mTup, mLst, mCall, mLen, mEq, mNe, if_true, if_false, Bool.false_eq_true, reduceIte, ite_ap, at20, at21, at30, at31, at32, true_and, dec_true, mNext, mgName, mgTup, mgCons, mgNil, asEnum, asI, mSl, wipeD, setAll, startC, asPerm, mMulL, unP, mTupP, Bool.not_false]
            rw [wrongIx_some hil (.inr hri) hb] at k
            refine ⟨one_le, ?_⟩
            rw [Int.zero_add]
            exact k
      · obtain ⟨⟨o1, o2, rfl⟩, hb⟩ := hI
        simp only [mSeq, bnd, gv, DL.ret, hide, startD, asB, List.foldr_nil, List.foldr_cons, List.map_nil, List.map_cons, List.length_cons, List.length_nil, List.nil_append, List.cons_append, List.getD_cons_zero, List.getD_cons_succ, List.set_cons_zero, List.set_cons_succ, List.replicate_succ, List.replicate_zero, Nat.reduceAdd, Nat.reduceSub, m1, m2, mOrd, mGcd, mLcmD, mNeg, mDiv, mI2, mJ2, mAdd, mSub, mMul, mMulD, mMod, mIx, mTup, mLst, mCall, mLen, mEq, mNe, if_true, if_false, Bool.false_eq_true, reduceIte, ite_ap, at20, at21, at30, at31, at32, true_and, dec_true, mNext, mgName, mgTup, mgCons, mgNil, asEnum, asI, mSl, wipeD, setAll, startC, asPerm, mMulL, unP, mTupP]
        have el : (enumD 0 xs).length = xs.length := enumD_length 0 xs
        rw [wrongIx_none fun i hi => hb i (by omega)] at k
        exact ⟨Nat.zero_le _, k⟩
abbrev s_wrong_in_all : Stmt := top 16
theorem sc_wrong_in_all : FnScope ["value", "many", "is_right"] ["value", "many", "is_right"] (defScope s_wrong_in_all) := ⟨rfl, rfl, rfl, by decide +kernel, rfl, by decide +kernel, by decide +kernel⟩
theorem ok_wrong_in_all (T : Txt P w K mg base C) (g : GG) (hg : GOk K C g) (KL : Nat) : GFL P w K mg base g "wrong_in_all" 3 (KL + 3) 1 (KL + 0) sp_wrong_in_allE := by
  obtain ⟨f, fd, F, hm⟩ := T.F_wrong_in_all
  have G_is_tuple_of := ok_is_tuple_of (base := base) T g hg
  have G_wrong_in := ok_wrong_in (base := base) T g hg (KL + 1)
  refine gfl_of F hm (F.binds (ps := ["value", "many", "is_right"]) fun _ _ _ _ _ _ us hl => match us, hl with | [_, _, _], _ => rfl) sc_wrong_in_all rfl [] (by decide) (fun fL spL => ⟨_, fun cdv A outer s H E U Ed hr hcd hC => ⟨_, (dss_one (ds_ret (de_if (dt_val (de_call G_is_tuple_of hr (by omega) bTakes rfl (da_cons (dv 0) (da_cons (dv 1) da_nil)))) (de_lam (spL := (fun ds Q E => ∃ a x, ds = [a, x] ∧ spL [x] Q E)) (js := [2]) (caps := [.obj fL]) (kL := KL) G_wrong_in rfl rfl rfl hr (by omega) bTakes hg.x (dl_cons (dv 0) (dl_cons (dv 1) (dl_cons (dv 1) (dl_last (T.lj_wrong_in_all hg) T.tb_wrong_in_all (hcd.symm.trans (T.cd_wrong_in_all hm F)) T.hm_wrong_in_all T.hu_wrong_in_all rfl (fun ok y hy e => ((ndef_free (sc := defScope s_wrong_in_all) (fr := ["is_right"]) (by decide +kernel)) y hy e).elim (fun z => ok.has _ (.inl z)) (fun z => ok.has _ (.inr z))))))) (nscope_by (N := ["ahead", "each", "is_right"]) (ps := ["ahead", "each"]) (fr := ["is_right"]) (by decide +kernel)) rfl (fun _ _ _ _ _ us hl => match us, hl with | [_, _], _ => rfl) (fun ok => Caps.made ok (ndef_free (sc := defScope s_wrong_in_all) (fr := ["is_right"]) (by decide +kernel)) (ndef_fr (sc := defScope s_wrong_in_all) (by decide +kernel)) rfl) (fun _ _ _ => rfl) (by simp [isCap]) (fun f c' A o s' H' E U Ed l hr => ⟨_, (de_clo (i := 2) (hC.later l) rfl rfl rfl hr (by omega) lTakes (da_cons (dv 1) da_nil))⟩) (by
      intro ds Q E hl h
      obtain ⟨a, x, rfl, h⟩ := h
      simp only [mSeq, bnd, gv, DL.ret, hide, startD, asB, List.foldr_nil, List.foldr_cons, List.map_nil, List.map_cons, List.length_cons, List.length_nil, List.nil_append, List.cons_append, List.getD_cons_zero, List.getD_cons_succ, List.set_cons_zero, List.set_cons_succ, List.replicate_succ, List.replicate_zero, Nat.reduceAdd, Nat.reduceSub, m1, m2, mOrd, mGcd, mLcmD, mNeg, mDiv, mI2, mJ2, mAdd, mSub, mMul, mMulD, mMod, mIx, mTup, mLst, mCall, mLen, mEq, mNe, if_true, if_false, Bool.false_eq_true, reduceIte, ite_ap, at20, at21, at30, at31, at32, true_and, dec_true, mNext, mgName, mgTup, mgCons, mgNil, asEnum, asI, mSl, wipeD, setAll, startC, asPerm, mMulL, unP, mTupP]
      exact h)) (de_lst (da_cons de_non da_nil)))))⟩, ?_⟩)
  intro ds Q E hl hf h
  have one_le : 1 ≤ sizeLine := Nat.le_trans (by decide) two_le
  obtain ⟨v, m, rfl, ht, hp, h⟩ := h
  simp only [mSeq, bnd, gv, DL.ret, hide, startD, asB, List.foldr_nil, List.foldr_cons, List.map_nil, List.map_cons, List.length_cons, List.length_nil, List.nil_append, List.cons_append, List.getD_cons_zero, List.getD_cons_succ, List.set_cons_zero, List.set_cons_succ, List.replicate_succ, List.replicate_zero, Nat.reduceAdd, Nat.reduceSub, m1, m2, mOrd, mGcd, mLcmD, mNeg, mDiv, mI2, mJ2, mAdd, mSub, mMul, mMulD, mMod, mIx, mTup, mLst, mCall, mLen, mEq, mNe, if_true, if_false, Bool.false_eq_true, reduceIte, ite_ap, at20, at21, at30, at31, at32, true_and, dec_true, mNext, mgName, mgTup, mgCons, mgNil, asEnum, asI, mSl, wipeD, setAll, startC, asPerm, mMulL, unP, mTupP]
  refine ⟨v, _, rfl, ht, hp, ?_⟩
  simp only [mSeq, bnd, gv, DL.ret, hide, startD, asB, List.foldr_nil, List.foldr_cons, List.map_nil, List.map_cons, List.length_cons, List.length_nil, List.nil_append, List.cons_append, List.getD_cons_zero, List.getD_cons_succ, List.set_cons_zero, List.set_cons_succ, List.replicate_succ, List.replicate_zero, Nat.reduceAdd, Nat.reduceSub, m1, m2, mOrd, mGcd, mLcmD, mNeg, mDiv, mI2, mJ2, mAdd, mSub, mMul, mMulD, mMod, mIx, mTup, mLst, mCall, mLen, mEq, mNe, if_true, if_false, Bool.false_eq_true, reduceIte, ite_ap, at20, at21, at30, at31, at32, true_and, dec_true, mNext, mgName, mgTup, mgCons, mgNil, asEnum, asI, mSl, wipeD, setAll, startC, asPerm, mMulL, unP, mTupP]
  rcases h with ⟨e, k⟩ | ⟨xs, rfl, hl, hm, r, hr, k⟩
  · rw [e]
    simp only [mSeq, bnd, gv, DL.ret, hide, startD, asB, List.foldr_nil, List.foldr_cons, List.map_nil, List.map_cons, List.length_cons, List.length_nil, List.nil_append, List.cons_append, List.getD_cons_zero, List.getD_cons_succ, List.set_cons_zero, List.set_cons_succ, List.replicate_succ, List.replicate_zero, Nat.reduceAdd, Nat.reduceSub, m1, m2, mOrd, mGcd, mLcmD, mNeg, mDiv, mI2, mJ2, mAdd, mSub, mMul, mMulD, mMod, mIx, mTup, mLst, mCall, mLen, mEq, mNe, if_true, if_false, Bool.false_eq_true, reduceIte, ite_ap, at20, at21, at30, at31, at32, true_and, dec_true, mNext, mgName, mgTup, mgCons, mgNil, asEnum, asI, mSl, wipeD, setAll, startC, asPerm, mMulL, unP, mTupP]
    exact ⟨one_le, k⟩
  · have e : tupB m (.tup xs) = true := by
      simp only [tupB, beq_iff_eq]
      omega
    rw [e]
    simp only [mSeq, bnd, gv, DL.ret, hide, startD, asB, List.foldr_nil, List.foldr_cons, List.map_nil, List.map_cons, List.length_cons, List.length_nil, List.nil_append, List.cons_append, List.getD_cons_zero, List.getD_cons_succ, List.set_cons_zero, List.set_cons_succ, List.replicate_succ, List.replicate_zero, Nat.reduceAdd, Nat.reduceSub, m1, m2, mOrd, mGcd, mLcmD, mNeg, mDiv, mI2, mJ2, mAdd, mSub, mMul, mMulD, mMod, mIx, mTup, mLst, mCall, mLen, mEq, mNe, if_true, if_false, Bool.false_eq_true, reduceIte, ite_ap, at20, at21, at30, at31, at32, true_and, dec_true, mNext, mgName, mgTup, mgCons, mgNil, asEnum, asI, mSl, wipeD, setAll, startC, asPerm, mMulL, unP, mTupP]
    exact fun f => ⟨_, _, _, rfl, .inr ⟨xs, rfl, by omega, .inr ⟨by omega, r, fun i x hx hi hb k hk => ⟨_, x, rfl, hr i x hx (fun j hj => (hb j hj).2) k hk⟩, k⟩⟩⟩
abbrev s_wrong_in_people : Stmt := top 21
theorem sc_wrong_in_people : FnScope ["value"] ["value"] (defScope s_wrong_in_people) := ⟨rfl, rfl, rfl, by decide +kernel, rfl, by decide +kernel, by decide +kernel⟩
theorem ok_wrong_in_people (T : Txt P w K mg base C) (g : GG) (hg : GOk K C g) : GF P w K mg base g "wrong_in_people" 1 8 sp_wrong_in_peopleE := by
  obtain ⟨f, fd, F, hm⟩ := T.F_wrong_in_people
  have G_wrong_in := ok_wrong_in (base := base) T g hg 6
  have G_are_below := ok_are_below (base := base) T g hg
  have G_is_name := ok_is_name (base := base) T g hg
  refine gf_of F hm (F.binds (ps := ["value"]) fun _ _ _ _ _ _ us hl => match us, hl with | [_], _ => rfl) (fun_okDc F sc_wrong_in_people rfl [] (by decide) (fun cdv A outer s H E U Ed hr hcd => ⟨_, (dss_one (ds_ret (de_lam (spL := (fun ds Q E => ∃ (ah : List D) (x : D), ds = [.tup ah, x] ∧ OkV x ∧ ((nameB x = false ∧ Q (.bl false)) ∨ (∃ (xs : List Str) (y : Str), ah = xs.map D.str ∧ x = .str y ∧ nameB x = true ∧ (∀ z ∈ xs, PyData.strOk z = true) ∧ Q (.bl (belowB xs y)))))) (js := []) (caps := []) (kL := 5) G_wrong_in rfl rfl rfl hr (by decide) bTakes hg.x (dl_cons (dv 0) (dl_cons de_int (dl_cons (de_globE T.g_MOST_PEOPLE rfl rfl) (dl_last (T.lj_wrong_in_people hg) T.tb_wrong_in_people (hcd.symm.trans (T.cd_wrong_in_people hm F)) T.hm_wrong_in_people T.hu_wrong_in_people rfl (fun ok y hy e => ((ndef_free (sc := defScope s_wrong_in_people) (fr := []) (by decide +kernel)) y hy e).elim (fun z => ok.has _ (.inl z)) (fun z => ok.has _ (.inr z))))))) (nscope_by (N := ["ahead", "each"]) (ps := ["ahead", "each"]) (fr := []) (by decide +kernel)) rfl (fun _ _ _ _ _ us hl => match us, hl with | [_, _], _ => rfl) (fun ok => Caps.made ok (ndef_free (sc := defScope s_wrong_in_people) (fr := []) (by decide +kernel)) (ndef_fr (sc := defScope s_wrong_in_people) (by decide +kernel)) rfl) (fun _ _ _ => rfl) (by simp [isCap]) (fun f c' A o s' H' E U Ed l hr => ⟨_, (de_and (de_call G_is_name hr (by decide) lTakes rfl (da_cons (dv 1) da_nil)) (de_one (de_call G_are_below hr (by decide) lTakes rfl (da_cons (dv 0) (da_cons (dv 1) da_nil)))))⟩) (by
      intro ds Q E hl h
      obtain ⟨ah, x, rfl, hv, h⟩ := h
      simp only [mSeq, bnd, gv, DL.ret, hide, startD, asB, List.foldr_nil, List.foldr_cons, List.map_nil, List.map_cons, List.length_cons, List.length_nil, List.nil_append, List.cons_append, List.getD_cons_zero, List.getD_cons_succ, List.set_cons_zero, List.set_cons_succ, List.replicate_succ, List.replicate_zero, Nat.reduceAdd, Nat.reduceSub, m1, m2, mOrd, mGcd, mLcmD, mNeg, mDiv, mI2, mJ2, mAdd, mSub, mMul, mMulD, mMod, mIx, mTup, mLst, mCall, mLen, mEq, mNe, if_true, if_false, Bool.false_eq_true, reduceIte, ite_ap, at20, at21, at30, at31, at32, true_and, dec_true, mNext, mgName, mgTup, mgCons, mgNil, asEnum, asI, mSl, wipeD, setAll, startC, asPerm, mMulL, unP, mTupP]
      refine ⟨x, rfl, hv, ?_⟩
      rcases h with ⟨e, k⟩ | ⟨xs, y, rfl, rfl, e, ho, k⟩
      · rw [e]
        exact k
      · rw [e]
        exact ⟨xs, y, rfl, ho, k⟩))))⟩) ?_)
  intro ds Q E hl h
  obtain ⟨d, rfl, hok, hu, k⟩ := h
  simp only [mSeq, bnd, gv, DL.ret, hide, startD, asB, List.foldr_nil, List.foldr_cons, List.map_nil, List.map_cons, List.length_cons, List.length_nil, List.nil_append, List.cons_append, List.getD_cons_zero, List.getD_cons_succ, List.set_cons_zero, List.set_cons_succ, List.replicate_succ, List.replicate_zero, Nat.reduceAdd, Nat.reduceSub, m1, m2, mOrd, mGcd, mLcmD, mNeg, mDiv, mI2, mJ2, mAdd, mSub, mMul, mMulD, mMod, mIx, mTup, mLst, mCall, mLen, mEq, mNe, if_true, if_false, Bool.false_eq_true, reduceIte, ite_ap, at20, at21, at30, at31, at32, true_and, dec_true, mNext, mgName, mgTup, mgCons, mgNil, asEnum, asI, mSl, wipeD, setAll, startC, asPerm, mMulL, unP, mTupP]
  refine fun f => ⟨_, _, _, rfl, ?_⟩
  by_cases ht : ∃ xs, d = .tup xs
  · obtain ⟨xs, rfl⟩ := ht
    obtain ⟨hl, hv⟩ := hok.x xs rfl
    refine .inr ⟨xs, rfl, hl, ?_⟩
    have k : Q (optL (if xs.length = 0 then some .non else (wrongIx xs.length 6 (peR xs)).map fun i : Nat => .int (i : Int))) := k
    by_cases h0 : xs.length = 0
    · rw [if_pos h0] at k
      exact .inl ⟨by omega, k⟩
    · rw [if_neg h0, opt_ix] at k
      refine .inr ⟨by omega, peR xs, fun i x hx hi hb kk hk => ⟨_, x, rfl, hv x (List.mem_of_getElem? hx), ?_⟩, k⟩
      obtain ⟨ys, e1, e2, e3⟩ := peR_ahead hx hv hb
      cases hn : nameB x with
      | false =>
        have e : peR xs i = false := by
          unfold peR
          rw [getD_some hx, hn, Bool.false_and]
        rw [e] at hk
        exact .inl ⟨rfl, hk⟩
      | true =>
        obtain ⟨y, rfl⟩ := nameB_str hn
        refine .inr ⟨ys, y, e1, rfl, rfl, e2, ?_⟩
        rw [e3 y rfl hn]
        exact hk
  · refine .inl ⟨hok.t, fun xs => ⟨fun e => ht ⟨xs, e⟩, fun e => ?_⟩, ?_⟩
    · subst e
      cases hu
    · have e : peWrong d = some .non := by
        unfold peWrong
        rw [hu]
        cases d <;> first | rfl | exact absurd ⟨_, rfl⟩ ht
      rw [e] at k
      exact k
abbrev s_wrong_in_claims : Stmt := top 22
theorem sc_wrong_in_claims : FnScope ["people", "value"] ["people", "value"] (defScope s_wrong_in_claims) := ⟨rfl, rfl, rfl, by decide +kernel, rfl, by decide +kernel, by decide +kernel⟩
theorem ok_wrong_in_claims (T : Txt P w K mg base C) (g : GG) (hg : GOk K C g) : GF P w K mg base g "wrong_in_claims" 2 10 sp_wrong_in_claimsE := by
  obtain ⟨f, fd, F, hm⟩ := T.F_wrong_in_claims
  have G_wrong_in_all := ok_wrong_in_all (base := base) T g hg 6
  have G_is_up_to := ok_is_up_to (base := base) T g hg
  refine gf_of F hm (F.binds (ps := ["people", "value"]) fun _ _ _ _ _ _ us hl => match us, hl with | [_, _], _ => rfl) (fun_okDc F sc_wrong_in_claims rfl [] (by decide) (fun cdv A outer s H E U Ed hr hcd => ⟨_, (dss_one (ds_ret (de_lam (spL := (fun ds Q E => ∃ d : D, ds = [d] ∧ (tyD d).isSome = true ∧ Q (.bl (betB 0 99 d)))) (js := []) (caps := []) (kL := 5) G_wrong_in_all rfl rfl rfl hr (by decide) bTakes hg.x (dl_cons (dv 1) (dl_cons (de_cb crLen rmLen T.n_len rfl (da_cons (de_weak (dv 0)) da_nil)) (dl_last (T.lj_wrong_in_claims hg) T.tb_wrong_in_claims (hcd.symm.trans (T.cd_wrong_in_claims hm F)) T.hm_wrong_in_claims T.hu_wrong_in_claims rfl (fun ok y hy e => ((ndef_free (sc := defScope s_wrong_in_claims) (fr := []) (by decide +kernel)) y hy e).elim (fun z => ok.has _ (.inl z)) (fun z => ok.has _ (.inr z)))))) (nscope_by (N := ["each"]) (ps := ["each"]) (fr := []) (by decide +kernel)) rfl (fun _ _ _ _ _ us hl => match us, hl with | [_], _ => rfl) (fun ok => Caps.made ok (ndef_free (sc := defScope s_wrong_in_claims) (fr := []) (by decide +kernel)) (ndef_fr (sc := defScope s_wrong_in_claims) (by decide +kernel)) rfl) (fun _ _ _ => rfl) (by simp [isCap]) (fun f c' A o s' H' E U Ed l hr => ⟨_, (de_call G_is_up_to hr (by decide) lTakes rfl (da_cons (dv 0) (da_cons (de_globE T.g_MOST_CLAIM rfl rfl) da_nil)))⟩) (by
      intro ds Q E hl h
      obtain ⟨d, rfl, ht, h⟩ := h
      simp only [mSeq, bnd, gv, DL.ret, hide, startD, asB, List.foldr_nil, List.foldr_cons, List.map_nil, List.map_cons, List.length_cons, List.length_nil, List.nil_append, List.cons_append, List.getD_cons_zero, List.getD_cons_succ, List.set_cons_zero, List.set_cons_succ, List.replicate_succ, List.replicate_zero, Nat.reduceAdd, Nat.reduceSub, m1, m2, mOrd, mGcd, mLcmD, mNeg, mDiv, mI2, mJ2, mAdd, mSub, mMul, mMulD, mMod, mIx, mTup, mLst, mCall, mLen, mEq, mNe, if_true, if_false, Bool.false_eq_true, reduceIte, ite_ap, at20, at21, at30, at31, at32, true_and, dec_true, mNext, mgName, mgTup, mgCons, mgNil, asEnum, asI, mSl, wipeD, setAll, startC, asPerm, mMulL, unP, mTupP]
      exact ⟨d, 99, rfl, ht, h⟩))))⟩) ?_)
  intro ds Q E hl h
  obtain ⟨ps, d, rfl, hps, hc, k⟩ := h
  simp only [mSeq, bnd, gv, DL.ret, hide, startD, asB, List.foldr_nil, List.foldr_cons, List.map_nil, List.map_cons, List.length_cons, List.length_nil, List.nil_append, List.cons_append, List.getD_cons_zero, List.getD_cons_succ, List.set_cons_zero, List.set_cons_succ, List.replicate_succ, List.replicate_zero, Nat.reduceAdd, Nat.reduceSub, m1, m2, mOrd, mGcd, mLcmD, mNeg, mDiv, mI2, mJ2, mAdd, mSub, mMul, mMulD, mMod, mIx, mTup, mLst, mCall, mLen, mEq, mNe, if_true, if_false, Bool.false_eq_true, reduceIte, ite_ap, at20, at21, at30, at31, at32, true_and, dec_true, mNext, mgName, mgTup, mgCons, mgNil, asEnum, asI, mSl, wipeD, setAll, startC, asPerm, mMulL, unP, mTupP]
  refine fun f => ⟨d, ps.length, rfl, hc.t, hc.p, ?_⟩
  by_cases ht : ∃ xs, d = .tup xs ∧ xs.length = ps.length
  · obtain ⟨xs, rfl, hxl⟩ := ht
    obtain ⟨hl2, hv⟩ := hc.x xs rfl
    have k : Q (optL (if xs.length = ps.length then (wrongIx xs.length ps.length fun i => betB 0 99 (xs.getD i .non)).map fun i : Nat => .int (i : Int) else some .non)) := k
    rw [if_pos hxl, opt_ix] at k
    refine .inr ⟨xs, rfl, hxl, hps, _, fun i x hx hb kk hk => ⟨x, rfl, hv x (List.mem_of_getElem? hx), ?_⟩, k⟩
    rw [getD_some hx] at hk
    exact hk
  · have e : tupB ps.length d = false := by
      cases d <;> first | rfl | skip
      rename_i xs
      simp only [tupB, beq_eq_false_iff_ne]
      exact fun e => ht ⟨xs, rfl, by omega⟩
    have e2 : clWrong ps.length d = some .non := by
      cases d <;> first | rfl | skip
      rename_i xs
      simp only [clWrong]
      rw [if_neg fun e => ht ⟨xs, rfl, e⟩]
    rw [e2] at k
    exact .inl ⟨e, k⟩
abbrev s_check_number : Stmt := top 24
theorem sc_check_number : FnScope ["number", "least", "most"] ["number", "least", "most"] (defScope s_check_number) := ⟨rfl, rfl, rfl, by decide +kernel, rfl, by decide +kernel, by decide +kernel⟩
theorem okf_check_number (T : Txt P w K mg base C) (g : GG) (hg : GOk K C g) {f : Addr} {fd : FuncData} (F : Fun K "check_number" "check_number" (top 24) f fd) : FnOk P w K mg base (L2.CX P w) 3 f fd ["number", "least", "most"] (spOf K g 3 (sp_check_numberE C.InvalidNumber)) := by
  have G_is_between := ok_is_between (base := base) T g hg
  refine fun_okD F sc_check_number rfl [] (by decide) (fun cdv A outer s H E U Ed hr => ⟨_, (dss_one (ds_if (dt_not (dt_val (de_call G_is_between hr (by omega) bTakes rfl (da_cons (dv 0) (da_cons (dv 1) (da_cons (dv 2) da_nil)))))) (dss_one (ds_raise T.X_InvalidNumber hr (by omega) bTakes rfl (dv 0))) dss_nil))⟩) ?_
  intro ds Q E hl h
  obtain ⟨d, a, b, rfl, ht, h⟩ := h
  simp only [mSeq, bnd, gv, DL.ret, hide, startD, asB, List.foldr_nil, List.foldr_cons, List.map_nil, List.map_cons, List.length_cons, List.length_nil, List.nil_append, List.cons_append, List.getD_cons_zero, List.getD_cons_succ, List.set_cons_zero, List.set_cons_succ, List.replicate_succ, List.replicate_zero, Nat.reduceAdd, Nat.reduceSub, m1, m2, mOrd, mGcd, mLcmD, mNeg, mDiv, mI2, mJ2, mAdd, mSub, mMul, mMulD, mMod, mIx, mTup, mLst, mCall, mLen, mEq, mNe, if_true, if_false, Bool.false_eq_true, reduceIte, ite_ap, at20, at21, at30, at31, at32, true_and, dec_true, mNext, mgName, mgTup, mgCons, mgNil, asEnum, asI, mSl, wipeD, setAll, startC, asPerm, mMulL, unP, mTupP]
  refine ⟨d, a, b, rfl, ht, ?_⟩
  rcases h with ⟨e, k⟩ | ⟨e, k⟩
  · rw [e]
    simp only [mSeq, bnd, gv, DL.ret, hide, startD, asB, List.foldr_nil, List.foldr_cons, List.map_nil, List.map_cons, List.length_cons, List.length_nil, List.nil_append, List.cons_append, List.getD_cons_zero, List.getD_cons_succ, List.set_cons_zero, List.set_cons_succ, List.replicate_succ, List.replicate_zero, Nat.reduceAdd, Nat.reduceSub, m1, m2, mOrd, mGcd, mLcmD, mNeg, mDiv, mI2, mJ2, mAdd, mSub, mMul, mMulD, mMod, mIx, mTup, mLst, mCall, mLen, mEq, mNe, if_true, if_false, Bool.false_eq_true, reduceIte, ite_ap, at20, at21, at30, at31, at32, true_and, dec_true, mNext, mgName, mgTup, mgCons, mgNil, asEnum, asI, mSl, wipeD, setAll, startC, asPerm, mMulL, unP, mTupP, Bool.not_true]
    exact k
  · rw [e]
    simp only [mSeq, bnd, gv, DL.ret, hide, startD, asB, List.foldr_nil, List.foldr_cons, List.map_nil, List.map_cons, List.length_cons, List.length_nil, List.nil_append, List.cons_append, List.getD_cons_zero, List.getD_cons_succ, List.set_cons_zero, List.set_cons_succ, List.replicate_succ, List.replicate_zero, Nat.reduceAdd, Nat.reduceSub, m1, m2, mOrd, mGcd, mLcmD, mNeg, mDiv, mI2, mJ2, mAdd, mSub, mMul, mMulD, mMod, mIx, mTup, mLst, mCall, mLen, mEq, mNe, if_true, if_false, Bool.false_eq_true, reduceIte, ite_ap, at20, at21, at30, at31, at32, true_and, dec_true, mNext, mgName, mgTup, mgCons, mgNil, asEnum, asI, mSl, wipeD, setAll, startC, asPerm, mMulL, unP, mTupP, Bool.not_false]
    exact k
theorem ok_check_number (T : Txt P w K mg base C) (g : GG) (hg : GOk K C g) : GF P w K mg base g "check_number" 3 3 (sp_check_numberE C.InvalidNumber) := by
  obtain ⟨f, fd, F, hm⟩ := T.F_check_number
  exact gf_of F hm (F.binds (ps := ["number", "least", "most"]) fun _ _ _ _ _ _ us hl => match us, hl with | [_, _, _], _ => rfl) (okf_check_number T g hg F)
abbrev s_Purse_init : Stmt := inClass (top 25) 0
theorem sc_Purse_init : FnScope ["self", "people", "claims", "money", "index"] ["self", "people", "claims", "money"] (defScope s_Purse_init) := ⟨rfl, rfl, rfl, by decide +kernel, rfl, by decide +kernel, by decide +kernel⟩
theorem mk_Purse (T : Txt P w K mg base C) (g : GG) (hg : GOk K C g) : ∃ fd, FnOk P w K mg base (L2.CX P w) 11 C.f_Purse_init fd ["self", "people", "claims", "money"] (spInit K g C.Purse "all_told" 3 (sp_PurseE C.InvalidPeople C.InvalidClaims C.InvalidNumber)) ∧ Fun K "__init__" "Purse.__init__" s_Purse_init C.f_Purse_init fd := by
  obtain ⟨fd, F⟩ := T.F_Purse_init
  have G_check_number := ok_check_number (base := base) T g hg
  have G_wrong_in_claims := ok_wrong_in_claims (base := base) T g hg
  have G_wrong_in_people := ok_wrong_in_people (base := base) T g hg
  refine ⟨fd, init_okD F sc_Purse_init rfl [] (by decide) (fun cdv A outer s H E U Ed x dx hr hx ng => ⟨_, (dsl_cons (ds_for bPass rfl (di_any rfl (de_call G_wrong_in_people hr (by omega) bTakes rfl (da_cons (de_weak (dv 1)) da_nil))) (dg_name 4 sc_Purse_init.nd) (dss_one (ds_raise T.X_InvalidPeople hr (by omega) bTakes rfl (dv 4))) (fun _ => rfl))
      (dsl_cons (ds_for bPass rfl (di_any rfl (de_call G_wrong_in_claims hr (by omega) bTakes rfl (da_cons (de_weak (dv 1)) (da_cons (dv 2) da_nil)))) (dg_name 4 sc_Purse_init.nd) (dss_one (ds_raise T.X_InvalidClaims hr (by omega) bTakes rfl (dv 4))) (fun _ => rfl))
      (dsl_cons (ds_expr (de_call G_check_number hr (by omega) bTakes rfl (da_cons (dv 3) (da_cons de_int (da_cons (de_cb (crSum rfl) rmInts T.n_sum rfl (da_cons (dv 2) da_nil)) da_nil)))))
      (dsl_last rfl hx ng T.cl_Purse (T.a_all_told _ (List.mem_singleton.mpr rfl)).2 (de_tup (da_cons (dv 1) (da_cons (dv 2) (da_cons (dv 3) da_nil)))) (dv 0)))))⟩) ?_, F⟩
  intro x ds Q E hl h
  obtain ⟨p, c, m, rfl, hp, hc, hm, h⟩ := h
  have hp' : OkP (unP p) := ⟨by cases p <;> exact hp.t, fun xs e => hp.x xs (by rw [← e, unP_idem])⟩
  have he : peWrong (unP p) = peWrong p := by
    unfold peWrong
    rw [unP_idem]
  simp only [mSeq, bnd, gv, DL.ret, hide, startD, asB, List.foldr_nil, List.foldr_cons, List.map_nil, List.map_cons, List.length_cons, List.length_nil, List.nil_append, List.cons_append, List.getD_cons_zero, List.getD_cons_succ, List.set_cons_zero, List.set_cons_succ, List.replicate_succ, List.replicate_zero, Nat.reduceAdd, Nat.reduceSub, m1, m2, mOrd, mGcd, mLcmD, mNeg, mDiv, mI2, mJ2, mAdd, mSub, mMul, mMulD, mMod, mIx, mTup, mLst, mCall, mLen, mEq, mNe, if_true, if_false, Bool.false_eq_true, reduceIte, ite_ap, at20, at21, at30, at31, at32, true_and, dec_true, mNext, mgName, mgTup, mgCons, mgNil, asEnum, asI, mSl, wipeD, setAll, startC, asPerm, mMulL, unP, mTupP, asItems, forW]
  refine ⟨unP p, rfl, hp', unP_idem p, ?_⟩
  rw [he]
  unfold puWrong at h
  cases h1 : peWrong p with
  | some d =>
    rw [h1] at h
    simp only [mSeq, bnd, gv, DL.ret, hide, startD, asB, List.foldr_nil, List.foldr_cons, List.map_nil, List.map_cons, List.length_cons, List.length_nil, List.nil_append, List.cons_append, List.getD_cons_zero, List.getD_cons_succ, List.set_cons_zero, List.set_cons_succ, List.replicate_succ, List.replicate_zero, Nat.reduceAdd, Nat.reduceSub, m1, m2, mOrd, mGcd, mLcmD, mNeg, mDiv, mI2, mJ2, mAdd, mSub, mMul, mMulD, mMod, mIx, mTup, mLst, mCall, mLen, mEq, mNe, if_true, if_false, Bool.false_eq_true, reduceIte, ite_ap, at20, at21, at30, at31, at32, true_and, dec_true, mNext, mgName, mgTup, mgCons, mgNil, asEnum, asI, mSl, wipeD, setAll, startC, asPerm, mMulL, unP, mTupP, optL, asItems, forW]
    exact h
  | none =>
    rw [h1] at h
    obtain ⟨ps, hps⟩ := peWrong_none h1
    have hlen : lenT p = ps.length := by
      unfold lenT
      rw [hps]
    simp only [mSeq, bnd, gv, DL.ret, hide, startD, asB, List.foldr_nil, List.foldr_cons, List.map_nil, List.map_cons, List.length_cons, List.length_nil, List.nil_append, List.cons_append, List.getD_cons_zero, List.getD_cons_succ, List.set_cons_zero, List.set_cons_succ, List.replicate_succ, List.replicate_zero, Nat.reduceAdd, Nat.reduceSub, m1, m2, mOrd, mGcd, mLcmD, mNeg, mDiv, mI2, mJ2, mAdd, mSub, mMul, mMulD, mMod, mIx, mTup, mLst, mCall, mLen, mEq, mNe, if_true, if_false, Bool.false_eq_true, reduceIte, ite_ap, at20, at21, at30, at31, at32, true_and, dec_true, mNext, mgName, mgTup, mgCons, mgNil, asEnum, asI, mSl, wipeD, setAll, startC, asPerm, mMulL, unP, mTupP, optL, asItems, forW]
    refine ⟨ps, c, by show [unP p, c] = _; rw [hps], (hp.x ps hps).1, hc, ?_⟩
    rw [hlen] at h
    cases h2 : clWrong ps.length c with
    | some d =>
      simp only [h2] at h
      simp only [mSeq, bnd, gv, DL.ret, hide, startD, asB, List.foldr_nil, List.foldr_cons, List.map_nil, List.map_cons, List.length_cons, List.length_nil, List.nil_append, List.cons_append, List.getD_cons_zero, List.getD_cons_succ, List.set_cons_zero, List.set_cons_succ, List.replicate_succ, List.replicate_zero, Nat.reduceAdd, Nat.reduceSub, m1, m2, mOrd, mGcd, mLcmD, mNeg, mDiv, mI2, mJ2, mAdd, mSub, mMul, mMulD, mMod, mIx, mTup, mLst, mCall, mLen, mEq, mNe, if_true, if_false, Bool.false_eq_true, reduceIte, ite_ap, at20, at21, at30, at31, at32, true_and, dec_true, mNext, mgName, mgTup, mgCons, mgNil, asEnum, asI, mSl, wipeD, setAll, startC, asPerm, mMulL, unP, mTupP, optL, asItems, forW]
      exact h
    | none =>
      simp only [h2] at h
      obtain ⟨cs, rfl, hcl, hcc⟩ := clWrong_none h2
      rw [sumT_ints] at h
      simp only [mSeq, bnd, gv, DL.ret, hide, startD, asB, List.foldr_nil, List.foldr_cons, List.map_nil, List.map_cons, List.length_cons, List.length_nil, List.nil_append, List.cons_append, List.getD_cons_zero, List.getD_cons_succ, List.set_cons_zero, List.set_cons_succ, List.replicate_succ, List.replicate_zero, Nat.reduceAdd, Nat.reduceSub, m1, m2, mOrd, mGcd, mLcmD, mNeg, mDiv, mI2, mJ2, mAdd, mSub, mMul, mMulD, mMod, mIx, mTup, mLst, mCall, mLen, mEq, mNe, if_true, if_false, Bool.false_eq_true, reduceIte, ite_ap, at20, at21, at30, at31, at32, true_and, dec_true, mNext, mgName, mgTup, mgCons, mgNil, asEnum, asI, mSl, wipeD, setAll, startC, asPerm, mMulL, unP, mTupP, optL, asItems, forW, mInts_tup]
      refine fun s hs => ⟨m, 0, s, rfl, hm, ?_⟩
      subst hs
      cases h3 : betB 0 cs.sum m with
      | true =>
        simp only [h3] at h
        refine .inl ⟨rfl, ?_⟩
        simp only [mSeq, bnd, gv, DL.ret, hide, startD, asB, List.foldr_nil, List.foldr_cons, List.map_nil, List.map_cons, List.length_cons, List.length_nil, List.nil_append, List.cons_append, List.getD_cons_zero, List.getD_cons_succ, List.set_cons_zero, List.set_cons_succ, List.replicate_succ, List.replicate_zero, Nat.reduceAdd, Nat.reduceSub, m1, m2, mOrd, mGcd, mLcmD, mNeg, mDiv, mI2, mJ2, mAdd, mSub, mMul, mMulD, mMod, mIx, mTup, mLst, mCall, mLen, mEq, mNe, if_true, if_false, Bool.false_eq_true, reduceIte, ite_ap, at20, at21, at30, at31, at32, true_and, dec_true, mNext, mgName, mgTup, mgCons, mgNil, asEnum, asI, mSl, wipeD, setAll, startC, asPerm, mMulL, unP, mTupP]
        exact ⟨three_le, h⟩
      | false =>
        simp only [h3] at h
        exact .inr ⟨rfl, h⟩
theorem ok_Purse (T : Txt P w K mg base C) (g : GG) (hg : GOk K C g) : GM P w K mg base g "Purse" C.Purse "all_told" 3 11 ["self", "people", "claims", "money"] (sp_PurseE C.InvalidPeople C.InvalidClaims C.InvalidNumber) := by
  obtain ⟨fd, h, F⟩ := mk_Purse (base := base) T g hg
  exact ⟨_, fd, T.c_Purse, T.M_Purse, h, F.binds (ps := ["self", "people", "claims", "money"]) fun _ _ _ _ _ _ us hl => match us, hl with | [_, _, _, _], _ => rfl⟩
theorem okk_Purse (T : Txt P w K mg base C) (g : GG) (hg : GOk K C g) : GMk P w K mg base g "Purse" C.Purse "all_told" 3 11 ["money", "claims", "people"] [2, 1, 0] ["self", "people", "claims", "money"] (sp_PurseE C.InvalidPeople C.InvalidClaims C.InvalidNumber) := by
  obtain ⟨fd, h, F⟩ := mk_Purse (base := base) T g hg
  exact ⟨_, fd, T.c_Purse, T.M_Purse, h, F.kwb fun _ _ _ _ _ _ us ws h1 h2 => match us, ws, h1, h2 with | [_], [_, _, _], _, _ => rfl⟩

end
end T1

namespace T1
open PySem PySem.Spec PyProof.Rows L2 DL LamX NdefX
section
variable {P : Program} {w : World} {K : PySem.W.Frag} {mg : Str → Option Value} {base : Heap} {C : Cons}
abbrev s__law_draw : Stmt := top 28
theorem sc__law_draw : FnScope ["well", "limit", "figure", "mixed"] ["well", "limit"] (defScope s__law_draw) := ⟨rfl, rfl, rfl, by decide +kernel, rfl, by decide +kernel, by decide +kernel⟩
theorem okf__law_draw (T : Txt P w K mg base C) (g : GG) (hg : GOk K C g) {f : Addr} {fd : FuncData} (F : Fun K "_law_draw" "_law_draw" (top 28) f fd) : FnOk P w K mg base (L2.CX P w) 1 f fd ["well", "limit"] (spOf K g 2 (sp_draw C.Wl)) := by
  refine fun_okD F sc__law_draw rfl [] (by decide) (fun cdv A outer s H E U Ed hr => ⟨_, (dss_cons (ds_if (dt_cmp opGt rmOrd (de_wix (i := 0) hg.w rfl (by decide) (by decide)) de_int) (dss_cons (ds_asg (de_cb call_divmod rmDivmod T.n_divmod rfl (da_cons (de_wix (i := 0) hg.w rfl (by decide) (by decide)) (da_cons (dv 1) da_nil))) (dg_wpair (i := 0) (f := 2) hg.w rfl rfl (by decide) (by decide) (by decide) (by decide) (by decide) sc__law_draw.nd))
      (dss_one (ds_ret (dv 2)))) dss_nil)
      (dss_cons (ds_wset (i := 0) hg.w rfl (by decide) (by decide) (by decide) (de_op opAdd rmAdd (de_wix (i := 0) hg.w rfl (by decide) (by decide)) de_int))
      (dss_cons (ds_set (i := 3) sc__law_draw.nd (de_op op_modN rmMod (de_ct crInt rmInt T.n_int rfl (da_cons (de_op opAdd rmAdd (de_op opAdd rmAdd (de_op opMul rmMul (de_wix (i := 0) hg.w rfl (by decide) (by decide)) de_int) (de_op opMul rmMul de_int (de_wix (i := 0) hg.w rfl (by decide) (by decide)))) de_int) da_nil)) de_int))
      (dss_cons (ds_wset (i := 0) hg.w rfl (by decide) (by decide) (by decide) (de_op op_modN rmMod (de_ct crInt rmInt T.n_int rfl (da_cons (de_op opAdd rmAdd (de_op opMul rmMul (dv 3) (de_op opAdd rmAdd (de_op op_modN rmMod (de_ct crInt rmInt T.n_int rfl (da_cons (dv 3) da_nil)) de_int) de_int)) (de_wix (i := 0) hg.w rfl (by decide) (by decide))) da_nil)) de_int))
      (dss_one (ds_ret (de_op op_modN rmMod (de_ct crInt rmInt T.n_int rfl (da_cons (de_op opDiv rmDiv (de_wix (i := 0) hg.w rfl (by decide) (by decide)) de_int) da_nil)) (dv 1))))))))⟩) ?_
  intro ds Q E hl h
  obtain ⟨a, l, rfl, hW, h0, h1, k⟩ := h
  simp only [mSeq, bnd, gv, DL.ret, hide, startD, asB, List.foldr_nil, List.foldr_cons, List.map_nil, List.map_cons, List.length_cons, List.length_nil, List.nil_append, List.cons_append, List.getD_cons_zero, List.getD_cons_succ, List.set_cons_zero, List.set_cons_succ, List.replicate_succ, List.replicate_zero, Nat.reduceAdd, Nat.reduceSub, m1, m2, mOrd, mGcd, mLcmD, mNeg, mDiv, mI2, mJ2, mAdd, mSub, mMul, mMulD, mMod, mIx, mTup, mLst, mCall, mLen, mEq, mNe, if_true, if_false, Bool.false_eq_true, reduceIte, ite_ap, at20, at21, at30, at31, at32, true_and, dec_true, mNext, mgName, mgTup, mgCons, mgNil, asEnum, asI, mSl, wipeD, setAll, startC, asPerm, mMulL, unP, mTupP, isW, mDivmod, mInt]
  refine ⟨hW, fun v => ?_⟩
  have fin : ∀ v : Int, Q (.int (v.fmod l)) := fun v => by
    rw [Int.fmod_eq_emod_of_nonneg _ (by omega)]
    exact k _ (Int.emod_nonneg _ (by omega)) (Int.emod_lt_of_pos _ h0)
  by_cases hv : 0 < v
  · rw [if_pos hv]
    exact ⟨hW, fun v => ⟨⟨h0, h1⟩, hW, k _ (Int.emod_nonneg _ (by omega)) (Int.emod_lt_of_pos _ h0)⟩⟩
  · rw [if_neg hv]
    have c1 : ∀ v : Int, DL.MulOk v 40009 := fun v => .inl (.inr (by decide))
    have c2 : ∀ v : Int, DL.MulOk 15013 v := fun v => .inl (.inl (by decide))
    have c3 : ∀ u v : Int, DL.MulOk u (v.fmod 5003 + 20011) := fun u v => .inl (.inr (by
      have h1 := Int.emod_nonneg v (show (5003 : Int) ≠ 0 by decide)
      have h2 := Int.emod_lt_of_pos v (show (0 : Int) < 5003 by decide)
      rw [Int.fmod_eq_emod_of_nonneg _ (by decide)]
      omega))
    have c4 : ∀ v : Int, DivOk v 1031 := fun v => ⟨by decide, by decide⟩
    exact ⟨hW, fun v => ⟨⟨_, rfl⟩, hW, hW, fun v => ⟨c1 _, hW, fun v1 => ⟨c2 _, by decide, by decide, c3 _ _, hW, fun v2 => ⟨by decide, ⟨_, rfl⟩, hW, hW, fun v => ⟨c4 _, by omega, fin _⟩⟩⟩⟩⟩⟩
theorem ok__law_draw (T : Txt P w K mg base C) (g : GG) (hg : GOk K C g) : GF P w K mg base g "_law_draw" 2 1 (sp_draw C.Wl) := by
  obtain ⟨f, fd, F, hm⟩ := T.F__law_draw
  exact gf_of F hm (F.binds (ps := ["well", "limit"]) fun _ _ _ _ _ _ us hl => match us, hl with | [_, _], _ => rfl) (okf__law_draw T g hg F)
abbrev s__law_of : Stmt := top 29
theorem sc__law_of : FnScope ["well", "some"] ["well", "some"] (defScope s__law_of) := ⟨rfl, rfl, rfl, by decide +kernel, rfl, by decide +kernel, by decide +kernel⟩
theorem okf__law_of (T : Txt P w K mg base C) (g : GG) (hg : GOk K C g) {f : Addr} {fd : FuncData} (F : Fun K "_law_of" "_law_of" (top 29) f fd) : FnOk P w K mg base (L2.CX P w) 2 f fd ["well", "some"] (spOf K g 2 (sp_of C.Wl)) := by
  have G__law_draw := ok__law_draw (base := base) T g hg
  refine fun_okD F sc__law_of rfl [] (by decide) (fun cdv A outer s H E U Ed hr => ⟨_, (dss_one (ds_ret (de_ix rfl (dv 1) (de_call G__law_draw hr (by omega) bTakes rfl (da_cons (dv 0) (da_cons (de_cb crLen rmLen T.n_len rfl (da_cons (dv 1) da_nil)) da_nil))))))⟩) ?_
  intro ds Q E hl h
  obtain ⟨a, d, xs, rfl, hW, hi, h0, h1, k⟩ := h
  cases d with
  | tup es =>
    cases hi
    simp only [mSeq, bnd, gv, DL.ret, hide, startD, asB, List.foldr_nil, List.foldr_cons, List.map_nil, List.map_cons, List.length_cons, List.length_nil, List.nil_append, List.cons_append, List.getD_cons_zero, List.getD_cons_succ, List.set_cons_zero, List.set_cons_succ, List.replicate_succ, List.replicate_zero, Nat.reduceAdd, Nat.reduceSub, m1, m2, mOrd, mGcd, mLcmD, mNeg, mDiv, mI2, mJ2, mAdd, mSub, mMul, mMulD, mMod, mIx, mTup, mLst, mCall, mLen, mEq, mNe, if_true, if_false, Bool.false_eq_true, reduceIte, ite_ap, at20, at21, at30, at31, at32, true_and, dec_true, mNext, mgName, mgTup, mgCons, mgNil, asEnum, asI, mSl, wipeD, setAll, startC, asPerm, mMulL, unP, mTupP]
    exact ⟨a, _, rfl, hW, by omega, by omega, fun r r0 r1 => ix_items (d := .tup _) (E := E) rfl r0 r1 k⟩
  | lst es =>
    cases hi
    simp only [mSeq, bnd, gv, DL.ret, hide, startD, asB, List.foldr_nil, List.foldr_cons, List.map_nil, List.map_cons, List.length_cons, List.length_nil, List.nil_append, List.cons_append, List.getD_cons_zero, List.getD_cons_succ, List.set_cons_zero, List.set_cons_succ, List.replicate_succ, List.replicate_zero, Nat.reduceAdd, Nat.reduceSub, m1, m2, mOrd, mGcd, mLcmD, mNeg, mDiv, mI2, mJ2, mAdd, mSub, mMul, mMulD, mMod, mIx, mTup, mLst, mCall, mLen, mEq, mNe, if_true, if_false, Bool.false_eq_true, reduceIte, ite_ap, at20, at21, at30, at31, at32, true_and, dec_true, mNext, mgName, mgTup, mgCons, mgNil, asEnum, asI, mSl, wipeD, setAll, startC, asPerm, mMulL, unP, mTupP]
    exact ⟨a, _, rfl, hW, by omega, by omega, fun r r0 r1 => ix_items (d := .lst _) (E := E) rfl r0 r1 k⟩
  | str x =>
    have hi' : (if x.length ≤ 1000 then some (DL.signs x) else none) = some xs := hi
    by_cases hx : x.length ≤ 1000
    · rw [if_pos hx] at hi'
      cases hi'
      have e : (DL.signs x).length = x.length := by unfold DL.signs; rw [List.length_map, Array.length_toList]; rfl
      rw [e] at h0 h1
      simp only [mSeq, bnd, gv, DL.ret, hide, startD, asB, List.foldr_nil, List.foldr_cons, List.map_nil, List.map_cons, List.length_cons, List.length_nil, List.nil_append, List.cons_append, List.getD_cons_zero, List.getD_cons_succ, List.set_cons_zero, List.set_cons_succ, List.replicate_succ, List.replicate_zero, Nat.reduceAdd, Nat.reduceSub, m1, m2, mOrd, mGcd, mLcmD, mNeg, mDiv, mI2, mJ2, mAdd, mSub, mMul, mMulD, mMod, mIx, mTup, mLst, mCall, mLen, mEq, mNe, if_true, if_false, Bool.false_eq_true, reduceIte, ite_ap, at20, at21, at30, at31, at32, true_and, dec_true, mNext, mgName, mgTup, mgCons, mgNil, asEnum, asI, mSl, wipeD, setAll, startC, asPerm, mMulL, unP, mTupP]
      refine ⟨by rw [sizeLine_eq]; omega, a, _, rfl, hW, by omega, by omega, fun r r0 r1 => ?_⟩
      exact ix_items (d := .str x) (E := E) hi r0 (by rw [e]; exact r1) k
    · rw [if_neg hx] at hi'; cases hi'
  | _ => cases hi
theorem ok__law_of (T : Txt P w K mg base C) (g : GG) (hg : GOk K C g) : GF P w K mg base g "_law_of" 2 2 (sp_of C.Wl) := by
  obtain ⟨f, fd, F, hm⟩ := T.F__law_of
  exact gf_of F hm (F.binds (ps := ["well", "some"]) fun _ _ _ _ _ _ us hl => match us, hl with | [_, _], _ => rfl) (okf__law_of T g hg F)
abbrev s__law_words : Stmt := top 31
theorem sc__law_words : FnScope ["words"] [] (defScope s__law_words) := ⟨rfl, rfl, rfl, by decide +kernel, rfl, by decide +kernel, by decide +kernel⟩
theorem okf__law_words (T : Txt P w K mg base C) (g : GG) (hg : GOk K C g) {f : Addr} {fd : FuncData} (F : Fun K "_law_words" "_law_words" (top 31) f fd) : FnOk P w K mg base (L2.CX P w) 1 f fd [] (spOf K g 0 (sp_words lawWordsS)) := by
  refine fun_okD F sc__law_words rfl [] (by decide) (fun cdv A outer s H E U Ed hr => ⟨_, (dss_cons (ds_set (i := 0) sc__law_words.nd de_str)
      (dss_one (ds_ret (de_split (de_op opAdd rmAdd (dv 0) de_str) de_str))))⟩) ?_
  intro ds Q E hl h
  obtain ⟨rfl, k⟩ := h
  simp only [mSeq, bnd, gv, DL.ret, hide, startD, asB, List.foldr_nil, List.foldr_cons, List.map_nil, List.map_cons, List.length_cons, List.length_nil, List.nil_append, List.cons_append, List.getD_cons_zero, List.getD_cons_succ, List.set_cons_zero, List.set_cons_succ, List.replicate_succ, List.replicate_zero, Nat.reduceAdd, Nat.reduceSub, m1, m2, mOrd, mGcd, mLcmD, mNeg, mDiv, mI2, mJ2, mAdd, mSub, mMul, mMulD, mMod, mIx, mTup, mLst, mCall, mLen, mEq, mNe, if_true, if_false, Bool.false_eq_true, reduceIte, ite_ap, at20, at21, at30, at31, at32, true_and, dec_true, mNext, mgName, mgTup, mgCons, mgNil, asEnum, asI, mSl, wipeD, setAll, startC, asPerm, mMulL, unP, mTupP, mSplit]
  refine ⟨by rw [sizeLine_eq]; decide +kernel, ⟨_, rfl⟩, by decide +kernel, by rw [sizeLine_eq]; decide +kernel, ?_⟩
  rw [show Txt.split _ _ = lawWordsS by decide +kernel]
  exact k
theorem ok__law_words (T : Txt P w K mg base C) (g : GG) (hg : GOk K C g) : GF P w K mg base g "_law_words" 0 1 (sp_words lawWordsS) := by
  obtain ⟨f, fd, F, hm⟩ := T.F__law_words
  exact gf_of F hm (F.binds (ps := []) fun _ _ _ _ _ _ us hl => match us, hl with | [], _ => rfl) (okf__law_words T g hg F)
abbrev s__law_own : Stmt := top 32
theorem sc__law_own : FnScope [] [] (defScope s__law_own) := ⟨rfl, rfl, rfl, by decide +kernel, rfl, by decide +kernel, by decide +kernel⟩
theorem okf__law_own (T : Txt P w K mg base C) (g : GG) (hg : GOk K C g) {f : Addr} {fd : FuncData} (F : Fun K "_law_own" "_law_own" (top 32) f fd) : FnOk P w K mg base (L2.CX P w) 1 f fd [] (spOf K g 0 (sp_words lawOwnS)) := by
  refine fun_okD F sc__law_own rfl [] (by decide) (fun cdv A outer s H E U Ed hr => ⟨_, (dss_one (ds_ret (de_split de_str de_str)))⟩) ?_
  intro ds Q E hl h
  obtain ⟨rfl, k⟩ := h
  simp only [mSeq, bnd, gv, DL.ret, hide, startD, asB, List.foldr_nil, List.foldr_cons, List.map_nil, List.map_cons, List.length_cons, List.length_nil, List.nil_append, List.cons_append, List.getD_cons_zero, List.getD_cons_succ, List.set_cons_zero, List.set_cons_succ, List.replicate_succ, List.replicate_zero, Nat.reduceAdd, Nat.reduceSub, m1, m2, mOrd, mGcd, mLcmD, mNeg, mDiv, mI2, mJ2, mAdd, mSub, mMul, mMulD, mMod, mIx, mTup, mLst, mCall, mLen, mEq, mNe, if_true, if_false, Bool.false_eq_true, reduceIte, ite_ap, at20, at21, at30, at31, at32, true_and, dec_true, mNext, mgName, mgTup, mgCons, mgNil, asEnum, asI, mSl, wipeD, setAll, startC, asPerm, mMulL, unP, mTupP, mSplit]
  refine ⟨⟨_, rfl⟩, by decide +kernel, by rw [sizeLine_eq]; decide +kernel, ?_⟩
  rw [show Txt.split _ _ = lawOwnS by decide +kernel]
  exact k
theorem ok__law_own (T : Txt P w K mg base C) (g : GG) (hg : GOk K C g) : GF P w K mg base g "_law_own" 0 1 (sp_words lawOwnS) := by
  obtain ⟨f, fd, F, hm⟩ := T.F__law_own
  exact gf_of F hm (F.binds (ps := []) fun _ _ _ _ _ _ us hl => match us, hl with | [], _ => rfl) (okf__law_own T g hg F)
abbrev s__law_names : Stmt := top 33
theorem sc__law_names : FnScope ["well", "many", "letters", "found", "turn", "name", "size", "lap", "at"] ["well", "many"] (defScope s__law_names) := ⟨rfl, rfl, rfl, by decide +kernel, rfl, by decide +kernel, by decide +kernel⟩
theorem okf__law_names (T : Txt P w K mg base C) (g : GG) (hg : GOk K C g) {f : Addr} {fd : FuncData} (F : Fun K "_law_names" "_law_names" (top 33) f fd) : FnOk P w K mg base (L2.CX P w) 3 f fd ["well", "many"] (spOf K g 2 (sp_names C.Wl)) := by
  have G__law_of := ok__law_of (base := base) T g hg
  have G__law_draw := ok__law_draw (base := base) T g hg
  have G__law_own := ok__law_own (base := base) T g hg
  have G__law_words := ok__law_words (base := base) T g hg
  refine fun_okD F sc__law_names rfl [3] (by decide) (fun cdv A outer s H E U Ed hr => ⟨_, (dss_cons (ds_par2 (i := 2) (j := 3) rfl sc__law_names.nd (dr_val de_str (dr_new (df_lst da_nil) dr_nil)))
      (dss_cons (ds_for bPass rfl (di_range1 T.n_range (da_cons (dv 1) da_nil)) (dg_name 4 sc__law_names.nd) (dss_cons (ds_par2 (i := 5) (j := 6) rfl sc__law_names.nd (dr_val de_str (dr_val (de_call G__law_of hr (by omega) bTakes rfl (da_cons (dv 0) (da_cons (de_tup (da_cons de_int (da_cons de_int (da_cons de_int (da_cons de_int (da_cons de_int (da_cons de_int da_nil))))))) da_nil))) dr_nil)))
      (dss_cons (ds_for bPass rfl (di_range1 T.n_range (da_cons (dv 6) da_nil)) (dg_name 7 sc__law_names.nd) (dss_one (ds_set (i := 5) sc__law_names.nd (de_op opAdd rmAdd (dv 5) (de_call G__law_of hr (by omega) bTakes rfl (da_cons (dv 0) (da_cons (dv 2) da_nil)))))) (fun _ => rfl))
      (dss_cons (ds_set (i := 8) sc__law_names.nd (de_call G__law_draw hr (by omega) bTakes rfl (da_cons (dv 0) (da_cons (de_op opAdd rmAdd (dv 6) de_int) da_nil))))
      (dss_cons (ds_set (i := 5) sc__law_names.nd (de_op opAdd rmAdd (de_op opAdd rmAdd (de_slice rfl (dv 5) do_none (do_some (dv 8))) (de_ix rfl (dv 2) (dv 4))) (de_slice rfl (dv 5) (do_some (dv 8)) do_none)))
      (dss_one (ds_appF (i := 3) rfl (de_if (dt_w (dw_or (dt_cmp opIn rmIn (dv 5) (dv 3)) (dw_or (dt_cmp opIn rmIn (dv 5) (de_call0 G__law_words hr (by omega) bTakes rfl)) (dw_or1 (dt_cmp opIn rmIn (dv 5) (de_call0 G__law_own hr (by omega) bTakes rfl)))))) (de_op opMulD rmMulD (de_ix rfl (dv 2) (dv 4)) de_int) (dv 5)))))))) (fun _ => rfl))
      (dss_one (ds_ret (de_ct crTupP rmTupP T.n_tuple rfl (da_cons (de_cb cr_sortedS rmSortS T.n_sorted rfl (da_cons (dv 3) da_nil)) da_nil))))))⟩) ?_
  intro ds Q E hl h
  obtain ⟨a, n, rfl, hW, h1, h6, k⟩ := h
  refine seqI fun N hN => ?_
  simp only [mSeq, bnd, gv, DL.ret, hide, startD, asB, List.foldr_nil, List.foldr_cons, List.map_nil, List.map_cons, List.length_cons, List.length_nil, List.nil_append, List.cons_append, List.getD_cons_zero, List.getD_cons_succ, List.set_cons_zero, List.set_cons_succ, List.replicate_succ, List.replicate_zero, Nat.reduceAdd, Nat.reduceSub, m1, m2, mOrd, mGcd, mLcmD, mNeg, mDiv, mI2, mJ2, mAdd, mSub, mMul, mMulD, mMod, mIx, mTup, mLst, mCall, mLen, mEq, mNe, if_true, if_false, Bool.false_eq_true, reduceIte, ite_ap, at20, at21, at30, at31, at32, true_and, dec_true, mNext, mgName, mgTup, mgCons, mgNil, asEnum, asI, mSl, wipeD, setAll, startC, asPerm, mMulL, unP, mTupP]
  refine ⟨Nat.zero_le _, hN _ (seqI fun N hN => ?_)⟩
  refine ⟨⟨by omega, by omega⟩, ?_⟩
  refine forW_ind (fun i ρ => ∃ (fs : List Str) (o1 o2 o3 o4 o5 : Option D), ρ = [some (.obj a), some (.int n), some (.str LET), some (.lst (fs.map D.str)), o1, o2, o3, o4, o5] ∧ fs.length = i ∧ Found fs) _ 0 _ ⟨[], none, none, none, none, none, rfl, rfl, Found.nil⟩ (fun i d ρ κ hie hI hk => ?_) (fun ρ hI => ?_)
  · obtain ⟨fs, o1, o2, o3, o4, o5, rfl, hfl, hf⟩ := hI
    have hi6 : i < n := by
      have := (List.getElem?_eq_some_iff.mp hie).1
      simpa [rangeD] using this
    have hd : d = .int (0 + (i : Int)) := by
      have := rangeD_get (lo := 0) hi6
      rw [show n = (n : Int).toNat by omega] at this
      rw [this] at hie
      exact (Option.some.inj hie).symm
    subst hd
    show mSeq _ _ _ _ _
    refine seqI fun N1 hN1 => ?_
    simp only [mSeq, bnd, gv, DL.ret, hide, startD, asB, List.foldr_nil, List.foldr_cons, List.map_nil, List.map_cons, List.length_cons, List.length_nil, List.nil_append, List.cons_append, List.getD_cons_zero, List.getD_cons_succ, List.set_cons_zero, List.set_cons_succ, List.replicate_succ, List.replicate_zero, Nat.reduceAdd, Nat.reduceSub, m1, m2, mOrd, mGcd, mLcmD, mNeg, mDiv, mI2, mJ2, mAdd, mSub, mMul, mMulD, mMod, mIx, mTup, mLst, mCall, mLen, mEq, mNe, if_true, if_false, Bool.false_eq_true, reduceIte, ite_ap, at20, at21, at30, at31, at32, true_and, dec_true, mNext, mgName, mgTup, mgCons, mgNil, asEnum, asI, mSl, wipeD, setAll, startC, asPerm, mMulL, unP, mTupP]
    refine ⟨by rw [sizeLine_eq]; decide, a, _, _, rfl, hW, rfl, by simp, by simp, fun u hu => ?_⟩
    have hu' : ∃ m : Nat, u = .int m ∧ m ≤ 7 := by
      simp only [List.mem_cons, List.not_mem_nil, or_false] at hu
      rcases hu with rfl | rfl | rfl | rfl | rfl | rfl
      · exact ⟨0, rfl, by decide⟩
      · exact ⟨0, rfl, by decide⟩
      · exact ⟨1, rfl, by decide⟩
      · exact ⟨2, rfl, by decide⟩
      · exact ⟨3, rfl, by decide⟩
      · exact ⟨7, rfl, by decide⟩
    obtain ⟨m, rfl, hm⟩ := hu'
    refine hN1 _ (seqI fun N2 hN2 => ?_)
    refine ⟨⟨by omega, by omega⟩, ?_⟩
    refine forW_ind (fun j ρ => ∃ (x : Str) (o3 : Option D), ρ = [some (.obj a), some (.int n), some (.str LET), some (.lst (fs.map D.str)), some (.int (0 + (i : Int))), some (.str x), some (.int m), o3, o5] ∧ x.length = j ∧ WordOk x) _ 0 _ ⟨"", o4, rfl, rfl, wordOk_nil⟩ (fun j d ρ κ hje hI hk => ?_) (fun ρ hI => ?_)
    · obtain ⟨x, o3', rfl, hx, hw⟩ := hI
      have hj : j < m := by
        have := (List.getElem?_eq_some_iff.mp hje).1
        simpa [rangeD] using this
      simp only [mSeq, bnd, gv, DL.ret, hide, startD, asB, List.foldr_nil, List.foldr_cons, List.map_nil, List.map_cons, List.length_cons, List.length_nil, List.nil_append, List.cons_append, List.getD_cons_zero, List.getD_cons_succ, List.set_cons_zero, List.set_cons_succ, List.replicate_succ, List.replicate_zero, Nat.reduceAdd, Nat.reduceSub, m1, m2, mOrd, mGcd, mLcmD, mNeg, mDiv, mI2, mJ2, mAdd, mSub, mMul, mMulD, mMod, mIx, mTup, mLst, mCall, mLen, mEq, mNe, if_true, if_false, Bool.false_eq_true, reduceIte, ite_ap, at20, at21, at30, at31, at32, true_and, dec_true, mNext, mgName, mgTup, mgCons, mgNil, asEnum, asI, mSl, wipeD, setAll, startC, asPerm, mMulL, unP, mTupP]
      refine ⟨a, _, _, rfl, hW, rfl, by decide, by decide, fun u hu => ?_⟩
      obtain ⟨y, rfl, hy, hy1⟩ := sign_ok hu
      refine ⟨by rw [sizeLine_eq]; omega, hk _ ⟨x ++ y, _, rfl, by rw [len_app]; omega, hw.app hy⟩⟩
    · obtain ⟨x, o3', rfl, hx, hw⟩ := hI
      have hx : x.length = m := by rw [hx]; simp [rangeD]
      refine hN2 _ (seqI fun N3 hN3 => ?_)
      simp only [mSeq, bnd, gv, DL.ret, hide, startD, asB, List.foldr_nil, List.foldr_cons, List.map_nil, List.map_cons, List.length_cons, List.length_nil, List.nil_append, List.cons_append, List.getD_cons_zero, List.getD_cons_succ, List.set_cons_zero, List.set_cons_succ, List.replicate_succ, List.replicate_zero, Nat.reduceAdd, Nat.reduceSub, m1, m2, mOrd, mGcd, mLcmD, mNeg, mDiv, mI2, mJ2, mAdd, mSub, mMul, mMulD, mMod, mIx, mTup, mLst, mCall, mLen, mEq, mNe, if_true, if_false, Bool.false_eq_true, reduceIte, ite_ap, at20, at21, at30, at31, at32, true_and, dec_true, mNext, mgName, mgTup, mgCons, mgNil, asEnum, asI, mSl, wipeD, setAll, startC, asPerm, mMulL, unP, mTupP]
      refine ⟨a, _, rfl, hW, by omega, by omega, fun r r0 r1 => hN3 _ (seqI fun N4 hN4 => ?_)⟩
      obtain ⟨r, rfl⟩ := Int.eq_ofNat_of_zero_le r0
      have hr : r ≤ x.length := by omega
      have hl : (putIn x r i).length = x.length + 1 := putIn_len i hr
      simp only [mSeq, bnd, gv, DL.ret, hide, startD, asB, List.foldr_nil, List.foldr_cons, List.map_nil, List.map_cons, List.length_cons, List.length_nil, List.nil_append, List.cons_append, List.getD_cons_zero, List.getD_cons_succ, List.set_cons_zero, List.set_cons_succ, List.replicate_succ, List.replicate_zero, Nat.reduceAdd, Nat.reduceSub, m1, m2, mOrd, mGcd, mLcmD, mNeg, mDiv, mI2, mJ2, mAdd, mSub, mMul, mMulD, mMod, mIx, mTup, mLst, mCall, mLen, mEq, mNe, if_true, if_false, Bool.false_eq_true, reduceIte, ite_ap, at20, at21, at30, at31, at32, true_and, dec_true, mNext, mgName, mgTup, mgCons, mgNil, asEnum, asI, mSl, wipeD, setAll, startC, asPerm, mMulL, unP, mTupP, let_at (show i < 6 by omega)]
      have hc1 : (cutS x none (some (r : Int))).length ≤ 7 := Nat.le_trans (cutS_length _ _ _) (by omega)
      have hc2 : (cutS x (some (r : Int)) none).length ≤ 7 := Nat.le_trans (cutS_length _ _ _) (by omega)
      have hs : 100 ≤ sizeLine := by rw [sizeLine_eq]; decide
      have hL : LET.length ≤ sizeLine := by rw [sizeLine_eq]; decide +kernel
      refine ⟨by omega, hL, ?_, by omega, ?_, hN4 _ ?_⟩
      · show _ + 1 ≤ _; omega
      · rw [len_app]; show _ + 1 + _ ≤ _; omega
      have hwp : WordOk (putIn x r i) := putIn_ok hr (by omega) hw
      have hfi : fs.length = i := by omega
      have fin : ∀ y, Found (fs ++ [y]) → κ [some (.obj a), some (.int n), some (.str LET), some (.lst (fs.map D.str ++ [.str y])), some (.int (0 + (i : Int))), some (.str (putIn x r i)), some (.int m), o3', some (.int r)] := fun y hy => hk _ ⟨fs ++ [y], _, _, _, _, _, by rw [List.map_append]; rfl, by rw [List.length_append, hfl]; rfl, hy⟩
      have f8 : Found (fs ++ [let8 i]) := by have := hf.new8 (by omega); rwa [hfi] at this
      simp only [mSeq, bnd, gv, DL.ret, hide, startD, asB, List.foldr_nil, List.foldr_cons, List.map_nil, List.map_cons, List.length_cons, List.length_nil, List.nil_append, List.cons_append, List.getD_cons_zero, List.getD_cons_succ, List.set_cons_zero, List.set_cons_succ, List.replicate_succ, List.replicate_zero, Nat.reduceAdd, Nat.reduceSub, m1, m2, mOrd, mGcd, mLcmD, mNeg, mDiv, mI2, mJ2, mAdd, mSub, mMul, mMulD, mMod, mIx, mTup, mLst, mCall, mLen, mEq, mNe, if_true, if_false, Bool.false_eq_true, reduceIte, ite_ap, at20, at21, at30, at31, at32, true_and, dec_true, mNext, mgName, mgTup, mgCons, mgNil, asEnum, asI, mSl, wipeD, setAll, startC, asPerm, mMulL, unP, mTupP, mOwn, mInB, let_at (show i < 6 by omega), all_flat_strs]
      have h8 : LET.length ≤ sizeLine ∧ (2 : Int) ≤ 8 ∧ (8 : Int) < 2 ^ 31 ∧ 0 < (let1 i).length ∧ (let1 i).length * Int.toNat 8 ≤ sizeLine ∧ (flat (D.str (let8 i)) = true ∧ (fs.map D.str).length < sizeLine) ∧ κ [some (.obj a), some (.int n), some (.str LET), some (.lst (fs.map D.str ++ [.str (let8 i)])), some (.int (0 + (i : Int))), some (.str (putIn x r i)), some (.int m), o3', some (.int r)] :=
        ⟨hL, by decide, by decide, Nat.zero_lt_one, Nat.le_trans (by show 1 * 8 ≤ 100; decide) hs, ⟨rfl, by rw [List.length_map]; omega⟩, fin _ f8⟩
      have hp0 : 0 < (putIn x r i).length := by rw [hl]; omega
      have hp8 : (putIn x r i).length ≤ 8 := by rw [hl]; omega
      refine ⟨rfl, ?_⟩
      by_cases c1 : inD (.str (putIn x r i)) (fs.map D.str) = true
      · rw [if_pos c1]; exact h8
      rw [if_neg c1]
      refine ⟨rfl, rfl, all_flat_strs, ?_⟩
      by_cases c2 : inD (.str (putIn x r i)) (lawWordsS.map D.str) = true
      · simp only [mSeq, bnd, gv, DL.ret, hide, startD, asB, List.foldr_nil, List.foldr_cons, List.map_nil, List.map_cons, List.length_cons, List.length_nil, List.nil_append, List.cons_append, List.getD_cons_zero, List.getD_cons_succ, List.set_cons_zero, List.set_cons_succ, List.replicate_succ, List.replicate_zero, Nat.reduceAdd, Nat.reduceSub, m1, m2, mOrd, mGcd, mLcmD, mNeg, mDiv, mI2, mJ2, mAdd, mSub, mMul, mMulD, mMod, mIx, mTup, mLst, mCall, mLen, mEq, mNe, if_true, if_false, Bool.false_eq_true, reduceIte, ite_ap, at20, at21, at30, at31, at32, true_and, dec_true, mNext, mgName, mgTup, mgCons, mgNil, asEnum, asI, mSl, wipeD, setAll, startC, asPerm, mMulL, unP, mTupP, c2]; exact h8
      have c2 : inD (.str (putIn x r i)) (lawWordsS.map D.str) = false := by simpa using c2
      simp only [mSeq, bnd, gv, DL.ret, hide, startD, asB, List.foldr_nil, List.foldr_cons, List.map_nil, List.map_cons, List.length_cons, List.length_nil, List.nil_append, List.cons_append, List.getD_cons_zero, List.getD_cons_succ, List.set_cons_zero, List.set_cons_succ, List.replicate_succ, List.replicate_zero, Nat.reduceAdd, Nat.reduceSub, m1, m2, mOrd, mGcd, mLcmD, mNeg, mDiv, mI2, mJ2, mAdd, mSub, mMul, mMulD, mMod, mIx, mTup, mLst, mCall, mLen, mEq, mNe, if_true, if_false, Bool.false_eq_true, reduceIte, ite_ap, at20, at21, at30, at31, at32, true_and, dec_true, mNext, mgName, mgTup, mgCons, mgNil, asEnum, asI, mSl, wipeD, setAll, startC, asPerm, mMulL, unP, mTupP, c2]
      refine ⟨rfl, rfl, all_flat_strs, ?_⟩
      by_cases c3 : inD (.str (putIn x r i)) (lawOwnS.map D.str) = true
      · simp only [mSeq, bnd, gv, DL.ret, hide, startD, asB, List.foldr_nil, List.foldr_cons, List.map_nil, List.map_cons, List.length_cons, List.length_nil, List.nil_append, List.cons_append, List.getD_cons_zero, List.getD_cons_succ, List.set_cons_zero, List.set_cons_succ, List.replicate_succ, List.replicate_zero, Nat.reduceAdd, Nat.reduceSub, m1, m2, mOrd, mGcd, mLcmD, mNeg, mDiv, mI2, mJ2, mAdd, mSub, mMul, mMulD, mMod, mIx, mTup, mLst, mCall, mLen, mEq, mNe, if_true, if_false, Bool.false_eq_true, reduceIte, ite_ap, at20, at21, at30, at31, at32, true_and, dec_true, mNext, mgName, mgTup, mgCons, mgNil, asEnum, asI, mSl, wipeD, setAll, startC, asPerm, mMulL, unP, mTupP, c3, let_at (show i < 6 by omega)]; exact h8
      have c3 : inD (.str (putIn x r i)) (lawOwnS.map D.str) = false := by simpa using c3
      simp only [mSeq, bnd, gv, DL.ret, hide, startD, asB, List.foldr_nil, List.foldr_cons, List.map_nil, List.map_cons, List.length_cons, List.length_nil, List.nil_append, List.cons_append, List.getD_cons_zero, List.getD_cons_succ, List.set_cons_zero, List.set_cons_succ, List.replicate_succ, List.replicate_zero, Nat.reduceAdd, Nat.reduceSub, m1, m2, mOrd, mGcd, mLcmD, mNeg, mDiv, mI2, mJ2, mAdd, mSub, mMul, mMulD, mMod, mIx, mTup, mLst, mCall, mLen, mEq, mNe, if_true, if_false, Bool.false_eq_true, reduceIte, ite_ap, at20, at21, at30, at31, at32, true_and, dec_true, mNext, mgName, mgTup, mgCons, mgNil, asEnum, asI, mSl, wipeD, setAll, startC, asPerm, mMulL, unP, mTupP, c3]
      refine ⟨⟨rfl, by rw [List.length_map]; omega⟩, fin _ (hf.add ⟨hwp, hp0, hp8, no_word wordsAll c2 c3⟩ (by rw [hfi]; exact putIn_mem i hr) fun hm => c1 ?_)⟩
      rw [inD_strs]
      exact decide_eq_true hm
  · obtain ⟨fs, o1, o2, o3, o4, o5, rfl, hfl, hf⟩ := hI
    refine hN _ ?_
    simp only [mSeq, bnd, gv, DL.ret, hide, startD, asB, List.foldr_nil, List.foldr_cons, List.map_nil, List.map_cons, List.length_cons, List.length_nil, List.nil_append, List.cons_append, List.getD_cons_zero, List.getD_cons_succ, List.set_cons_zero, List.set_cons_succ, List.replicate_succ, List.replicate_zero, Nat.reduceAdd, Nat.reduceSub, m1, m2, mOrd, mGcd, mLcmD, mNeg, mDiv, mI2, mJ2, mAdd, mSub, mMul, mMulD, mMod, mIx, mTup, mLst, mCall, mLen, mEq, mNe, if_true, if_false, Bool.false_eq_true, reduceIte, ite_ap, at20, at21, at30, at31, at32, true_and, dec_true, mNext, mgName, mgTup, mgCons, mgNil, asEnum, asI, mSl, wipeD, setAll, startC, asPerm, mMulL, unP, mTupP, mSortS, strsOf_map]
    have hfn : fs.length = n := by rw [hfl]; simp [rangeD]
    refine ⟨by omega, fun ys hp hs => ?_⟩
    exact k ys (hf.people (by omega) (by omega) hp hs) (hp.length_eq.trans hfn)
theorem ok__law_names (T : Txt P w K mg base C) (g : GG) (hg : GOk K C g) : GF P w K mg base g "_law_names" 2 3 (sp_names C.Wl) := by
  obtain ⟨f, fd, F, hm⟩ := T.F__law_names
  exact gf_of F hm (F.binds (ps := ["well", "many"]) fun _ _ _ _ _ _ us hl => match us, hl with | [_, _], _ => rfl) (okf__law_names T g hg F)
abbrev s__law_purse : Stmt := top 34
theorem sc__law_purse : FnScope ["well", "many", "people", "most", "claims", "whole", "person"] ["well", "many"] (defScope s__law_purse) := ⟨rfl, rfl, rfl, by decide +kernel, rfl, by decide +kernel, by decide +kernel⟩
theorem okf__law_purse (T : Txt P w K mg base C) (g : GG) (hg : GOk K C g) {f : Addr} {fd : FuncData} (F : Fun K "_law_purse" "_law_purse" (top 34) f fd) : FnOk P w K mg base (L2.CX P w) 4 f fd ["well", "many"] (spOf K g 2 (sp_lawpurse C.Wl)) := by
  have G__law_of := ok__law_of (base := base) T g hg
  have G__law_names := ok__law_names (base := base) T g hg
  have G__law_draw := ok__law_draw (base := base) T g hg
  refine fun_okD F sc__law_purse rfl [] (by decide) (fun cdv A outer s H E U Ed hr => ⟨_, (dss_cons (ds_asg (de_tup (da_cons (de_call G__law_names hr (by omega) bTakes rfl (da_cons (dv 0) (da_cons (dv 1) da_nil))) (da_cons (de_call G__law_of hr (by omega) bTakes rfl (da_cons (dv 0) (da_cons (de_tup (da_cons de_int (da_cons de_int (da_cons de_int (da_cons de_int da_nil))))) da_nil))) da_nil))) (dg_tup (n := 2) rfl rfl (dgs_cons 2 sc__law_purse.nd (dgs_cons 3 sc__law_purse.nd dgs_nil))))
      (dss_cons (ds_set (i := 4) sc__law_purse.nd (de_ct crTup rmTup T.n_tuple rfl (da_cons (DF.de (df_lc rfl sc__law_purse.nd (di_any rfl (de_weak (dv 2))) (own := [("person", 6)]) (blk_of (N := ["well", "many", "people", "most", "claims", "whole", "person"]) (sc := defScope s__law_purse) (by decide +kernel)) (fun s H C cl fp => (dge_name 6 sc__law_purse.nd)) (fun s H C cl fp => dts_nil) (fun s H C cl fp => (de_call G__law_draw hr (by omega) takesN rfl (da_cons (dv 0) (da_cons (de_op opAdd rmAdd (dv 3) de_int) da_nil)))) (fun _ => rfl))) da_nil)))
      (dss_cons (ds_if (dt_cmp (opEq hr) rmEq (de_call G__law_draw hr (by omega) bTakes rfl (da_cons (dv 0) (da_cons de_int da_nil))) de_int) (dss_one (ds_set (i := 4) sc__law_purse.nd (de_ct crTup rmTup T.n_tuple rfl (da_cons (DF.de (df_lc rfl sc__law_purse.nd (di_any rfl (de_weak (dv 2))) (own := [("person", 6)]) (blk_of (N := ["well", "many", "people", "most", "claims", "whole", "person"]) (sc := defScope s__law_purse) (by decide +kernel)) (fun s H C cl fp => (dge_name 6 sc__law_purse.nd)) (fun s H C cl fp => dts_nil) (fun s H C cl fp => (de_call G__law_of hr (by omega) takesN rfl (da_cons (dv 0) (da_cons (dv 4) da_nil)))) (fun _ => rfl))) da_nil)))) dss_nil)
      (dss_cons (ds_set (i := 5) sc__law_purse.nd (de_cb (crSum rfl) rmInts T.n_sum rfl (da_cons (dv 4) da_nil)))
      (dss_one (ds_ret (de_tup (da_cons (dv 2) (da_cons (dv 4) (da_cons (de_call G__law_of hr (by omega) bTakes rfl (da_cons (dv 0) (da_cons (de_tup (da_cons de_int (da_cons (dv 5) (da_cons (de_op opDiv rmDiv (dv 5) de_int) (da_cons (de_call G__law_draw hr (by omega) bTakes rfl (da_cons (dv 0) (da_cons (de_op opAdd rmAdd (dv 5) de_int) da_nil))) (da_cons (de_call G__law_draw hr (by omega) bTakes rfl (da_cons (dv 0) (da_cons (de_op opAdd rmAdd (dv 5) de_int) da_nil))) da_nil)))))) da_nil))) da_nil))))))))))⟩) ?_
  intro ds Q E hl h
  obtain ⟨a, n, rfl, hW, h1, h6, k⟩ := h
  have hs : 100 ≤ sizeLine := by rw [sizeLine_eq]; decide
  refine seqI fun N hN => ?_
  simp only [mSeq, bnd, gv, DL.ret, hide, startD, asB, List.foldr_nil, List.foldr_cons, List.map_nil, List.map_cons, List.length_cons, List.length_nil, List.nil_append, List.cons_append, List.getD_cons_zero, List.getD_cons_succ, List.set_cons_zero, List.set_cons_succ, List.replicate_succ, List.replicate_zero, Nat.reduceAdd, Nat.reduceSub, m1, m2, mOrd, mGcd, mLcmD, mNeg, mDiv, mI2, mJ2, mAdd, mSub, mMul, mMulD, mMod, mIx, mTup, mLst, mCall, mLen, mEq, mNe, if_true, if_false, Bool.false_eq_true, reduceIte, ite_ap, at20, at21, at30, at31, at32, true_and, dec_true, mNext, mgName, mgTup, mgCons, mgNil, asEnum, asI, mSl, wipeD, setAll, startC, asPerm, mMulL, unP, mTupP]
  refine ⟨a, n, rfl, hW, h1, h6, fun ns hp hn => ?_⟩
  simp only [mSeq, bnd, gv, DL.ret, hide, startD, asB, List.foldr_nil, List.foldr_cons, List.map_nil, List.map_cons, List.length_cons, List.length_nil, List.nil_append, List.cons_append, List.getD_cons_zero, List.getD_cons_succ, List.set_cons_zero, List.set_cons_succ, List.replicate_succ, List.replicate_zero, Nat.reduceAdd, Nat.reduceSub, m1, m2, mOrd, mGcd, mLcmD, mNeg, mDiv, mI2, mJ2, mAdd, mSub, mMul, mMulD, mMod, mIx, mTup, mLst, mCall, mLen, mEq, mNe, if_true, if_false, Bool.false_eq_true, reduceIte, ite_ap, at20, at21, at30, at31, at32, true_and, dec_true, mNext, mgName, mgTup, mgCons, mgNil, asEnum, asI, mSl, wipeD, setAll, startC, asPerm, mMulL, unP, mTupP]
  refine ⟨by omega, a, _, _, rfl, hW, rfl, by decide, by decide, fun u hu => ?_⟩
  have hu' : ∃ m : Int, u = .int m ∧ 1 ≤ m ∧ m ≤ 99 := by
    simp only [List.mem_cons, List.not_mem_nil, or_false] at hu
    rcases hu with rfl | rfl | rfl | rfl
    · exact ⟨1, rfl, by decide, by decide⟩
    · exact ⟨4, rfl, by decide, by decide⟩
    · exact ⟨12, rfl, by decide, by decide⟩
    · exact ⟨99, rfl, by decide, by decide⟩
  obtain ⟨most, rfl, hm1, hm2⟩ := hu'
  refine ⟨by omega, hN _ (seqI fun N1 hN1 => ?_)⟩
  simp only [mSeq, bnd, gv, DL.ret, hide, startD, asB, List.foldr_nil, List.foldr_cons, List.map_nil, List.map_cons, List.length_cons, List.length_nil, List.nil_append, List.cons_append, List.getD_cons_zero, List.getD_cons_succ, List.set_cons_zero, List.set_cons_succ, List.replicate_succ, List.replicate_zero, Nat.reduceAdd, Nat.reduceSub, m1, m2, mOrd, mGcd, mLcmD, mNeg, mDiv, mI2, mJ2, mAdd, mSub, mMul, mMulD, mMod, mIx, mTup, mLst, mCall, mLen, mEq, mNe, if_true, if_false, Bool.false_eq_true, reduceIte, ite_ap, at20, at21, at30, at31, at32, true_and, dec_true, mNext, mgName, mgTup, mgCons, mgNil, asEnum, asI, mSl, wipeD, setAll, startC, asPerm, mMulL, unP, mTupP, asItems]
  refine ⟨by rw [List.length_map]; omega, lcW_some (P := fun _ y => ∃ c : Int, y = .int c ∧ 0 ≤ c ∧ c ≤ 99) _ _ (fun d hd κ hk => ?_) (fun ys hyl hy => ?_)⟩
  · simp only [mSeq, bnd, gv, DL.ret, hide, startD, asB, List.foldr_nil, List.foldr_cons, List.map_nil, List.map_cons, List.length_cons, List.length_nil, List.nil_append, List.cons_append, List.getD_cons_zero, List.getD_cons_succ, List.set_cons_zero, List.set_cons_succ, List.replicate_succ, List.replicate_zero, Nat.reduceAdd, Nat.reduceSub, m1, m2, mOrd, mGcd, mLcmD, mNeg, mDiv, mI2, mJ2, mAdd, mSub, mMul, mMulD, mMod, mIx, mTup, mLst, mCall, mLen, mEq, mNe, if_true, if_false, Bool.false_eq_true, reduceIte, ite_ap, at20, at21, at30, at31, at32, true_and, dec_true, mNext, mgName, mgTup, mgCons, mgNil, asEnum, asI, mSl, wipeD, setAll, startC, asPerm, mMulL, unP, mTupP]
    exact ⟨a, _, rfl, hW, by omega, by omega, fun r r0 r1 => hk _ ⟨r, rfl, r0, by omega⟩⟩
  have hcs : ∃ cs : List Int, ys = cs.map D.int ∧ ∀ c ∈ cs, 0 ≤ c ∧ c ≤ 99 := ints_all fun y hy' => by
    obtain ⟨i, hi, e⟩ := List.getElem_of_mem hy'
    refine hy i _ y (List.getElem?_eq_getElem (by rw [← hyl]; exact hi)) (by rw [List.getElem?_eq_getElem hi, e])
  obtain ⟨cs, rfl, hc⟩ := hcs
  have hcl : cs.length = ns.length := by simpa using hyl
  simp only [mSeq, bnd, gv, DL.ret, hide, startD, asB, List.foldr_nil, List.foldr_cons, List.map_nil, List.map_cons, List.length_cons, List.length_nil, List.nil_append, List.cons_append, List.getD_cons_zero, List.getD_cons_succ, List.set_cons_zero, List.set_cons_succ, List.replicate_succ, List.replicate_zero, Nat.reduceAdd, Nat.reduceSub, m1, m2, mOrd, mGcd, mLcmD, mNeg, mDiv, mI2, mJ2, mAdd, mSub, mMul, mMulD, mMod, mIx, mTup, mLst, mCall, mLen, mEq, mNe, if_true, if_false, Bool.false_eq_true, reduceIte, ite_ap, at20, at21, at30, at31, at32, true_and, dec_true, mNext, mgName, mgTup, mgCons, mgNil, asEnum, asI, mSl, wipeD, setAll, startC, asPerm, mMulL, unP, mTupP]
  have fin : ∀ cs : List Int, cs.length = ns.length → (∀ c ∈ cs, 0 ≤ c ∧ c ≤ 99) → ∀ o : Option D, N1 [some (.obj a), some (.int n), some (.ptup (ns.map D.str)), some (.int most), some (.tup (cs.map D.int)), o, none] := fun cs hcl hc o => by
    refine hN1 _ (seqI fun N2 hN2 => ?_)
    have fin2 : ∀ cs : List Int, cs.length = ns.length → (∀ c ∈ cs, 0 ≤ c ∧ c ≤ 99) → ∀ o : Option D, N2 [some (.obj a), some (.int n), some (.ptup (ns.map D.str)), some (.int most), some (.tup (cs.map D.int)), o, none] := fun cs hcl hc o => by
      refine hN2 _ (seqI fun N3 hN3 => ?_)
      have hb := sum_bound hc
      have hb2 : cs.sum ≤ 600 := by omega
      simp only [mSeq, bnd, gv, DL.ret, hide, startD, asB, List.foldr_nil, List.foldr_cons, List.map_nil, List.map_cons, List.length_cons, List.length_nil, List.nil_append, List.cons_append, List.getD_cons_zero, List.getD_cons_succ, List.set_cons_zero, List.set_cons_succ, List.replicate_succ, List.replicate_zero, Nat.reduceAdd, Nat.reduceSub, m1, m2, mOrd, mGcd, mLcmD, mNeg, mDiv, mI2, mJ2, mAdd, mSub, mMul, mMulD, mMod, mIx, mTup, mLst, mCall, mLen, mEq, mNe, if_true, if_false, Bool.false_eq_true, reduceIte, ite_ap, at20, at21, at30, at31, at32, true_and, dec_true, mNext, mgName, mgTup, mgCons, mgNil, asEnum, asI, mSl, wipeD, setAll, startC, asPerm, mMulL, unP, mTupP, mInts_tup]
      refine fun s hs => hN3 _ ?_
      simp only [mSeq, bnd, gv, DL.ret, hide, startD, asB, List.foldr_nil, List.foldr_cons, List.map_nil, List.map_cons, List.length_cons, List.length_nil, List.nil_append, List.cons_append, List.getD_cons_zero, List.getD_cons_succ, List.set_cons_zero, List.set_cons_succ, List.replicate_succ, List.replicate_zero, Nat.reduceAdd, Nat.reduceSub, m1, m2, mOrd, mGcd, mLcmD, mNeg, mDiv, mI2, mJ2, mAdd, mSub, mMul, mMulD, mMod, mIx, mTup, mLst, mCall, mLen, mEq, mNe, if_true, if_false, Bool.false_eq_true, reduceIte, ite_ap, at20, at21, at30, at31, at32, true_and, dec_true, mNext, mgName, mgTup, mgCons, mgNil, asEnum, asI, mSl, wipeD, setAll, startC, asPerm, mMulL, unP, mTupP, mDiv]
      subst hs
      have fin3 : ∀ m : Int, 0 ≤ m → m ≤ cs.sum → Q (partsD ns cs m) := fun m h0 h1 => k ns cs m ⟨hp, hcl, hc, h0, h1⟩ hn
      refine ⟨⟨by decide, by decide⟩, a, _, rfl, hW, by omega, by omega, fun r r0 r1 => ⟨a, _, rfl, hW, by omega, by omega, fun r' r0' r1' => ?_⟩⟩
      refine ⟨by omega, a, _, _, rfl, hW, rfl, (by show 0 < 5; decide), (by show 5 ≤ 100000; decide), fun u hu => ?_⟩
      refine ⟨by omega, ?_⟩
      simp only [List.mem_cons, List.not_mem_nil, or_false] at hu
      rcases hu with rfl | rfl | rfl | rfl | rfl
      · exact fin3 0 (by omega) (by omega)
      · exact fin3 _ (by omega) (by omega)
      · rw [Int.fdiv_eq_ediv_of_nonneg _ (by decide)]
        exact fin3 _ (by omega) (by omega)
      · exact fin3 _ (by omega) (by omega)
      · exact fin3 _ (by omega) (by omega)
    simp only [mSeq, bnd, gv, DL.ret, hide, startD, asB, List.foldr_nil, List.foldr_cons, List.map_nil, List.map_cons, List.length_cons, List.length_nil, List.nil_append, List.cons_append, List.getD_cons_zero, List.getD_cons_succ, List.set_cons_zero, List.set_cons_succ, List.replicate_succ, List.replicate_zero, Nat.reduceAdd, Nat.reduceSub, m1, m2, mOrd, mGcd, mLcmD, mNeg, mDiv, mI2, mJ2, mAdd, mSub, mMul, mMulD, mMod, mIx, mTup, mLst, mCall, mLen, mEq, mNe, if_true, if_false, Bool.false_eq_true, reduceIte, ite_ap, at20, at21, at30, at31, at32, true_and, dec_true, mNext, mgName, mgTup, mgCons, mgNil, asEnum, asI, mSl, wipeD, setAll, startC, asPerm, mMulL, unP, mTupP]
    refine ⟨a, 4, rfl, hW, by decide, by decide, fun r r0 r1 => ?_⟩
    refine ⟨eqOk_int, ?_⟩
    by_cases h0 : r = 0
    · subst h0
      rw [int_eq rfl]
      simp only [mSeq, bnd, gv, DL.ret, hide, startD, asB, List.foldr_nil, List.foldr_cons, List.map_nil, List.map_cons, List.length_cons, List.length_nil, List.nil_append, List.cons_append, List.getD_cons_zero, List.getD_cons_succ, List.set_cons_zero, List.set_cons_succ, List.replicate_succ, List.replicate_zero, Nat.reduceAdd, Nat.reduceSub, m1, m2, mOrd, mGcd, mLcmD, mNeg, mDiv, mI2, mJ2, mAdd, mSub, mMul, mMulD, mMod, mIx, mTup, mLst, mCall, mLen, mEq, mNe, if_true, if_false, Bool.false_eq_true, reduceIte, ite_ap, at20, at21, at30, at31, at32, true_and, dec_true, mNext, mgName, mgTup, mgCons, mgNil, asEnum, asI, mSl, wipeD, setAll, startC, asPerm, mMulL, unP, mTupP, asItems]
      refine ⟨by rw [List.length_map]; omega, lcW_some (P := fun _ y => ∃ c : Int, y = .int c ∧ 0 ≤ c ∧ c ≤ 99) _ _ (fun d hd κ hk => ?_) (fun ys hyl hy => ?_)⟩
      · simp only [mSeq, bnd, gv, DL.ret, hide, startD, asB, List.foldr_nil, List.foldr_cons, List.map_nil, List.map_cons, List.length_cons, List.length_nil, List.nil_append, List.cons_append, List.getD_cons_zero, List.getD_cons_succ, List.set_cons_zero, List.set_cons_succ, List.replicate_succ, List.replicate_zero, Nat.reduceAdd, Nat.reduceSub, m1, m2, mOrd, mGcd, mLcmD, mNeg, mDiv, mI2, mJ2, mAdd, mSub, mMul, mMulD, mMod, mIx, mTup, mLst, mCall, mLen, mEq, mNe, if_true, if_false, Bool.false_eq_true, reduceIte, ite_ap, at20, at21, at30, at31, at32, true_and, dec_true, mNext, mgName, mgTup, mgCons, mgNil, asEnum, asI, mSl, wipeD, setAll, startC, asPerm, mMulL, unP, mTupP]
        refine ⟨a, _, _, rfl, hW, rfl, by rw [List.length_map]; omega, by rw [List.length_map]; omega, fun u hu => hk _ ?_⟩
        obtain ⟨c, hc', rfl⟩ := List.mem_map.mp hu
        exact ⟨c, rfl, hc c hc'⟩
      have hcs : ∃ cs : List Int, ys = cs.map D.int ∧ ∀ c ∈ cs, 0 ≤ c ∧ c ≤ 99 := ints_all fun y hy' => by
        obtain ⟨i, hi, e⟩ := List.getElem_of_mem hy'
        refine hy i _ y (List.getElem?_eq_getElem (by rw [← hyl]; exact hi)) (by rw [List.getElem?_eq_getElem hi, e])
      obtain ⟨cs', rfl, hc'⟩ := hcs
      exact fin2 cs' (by simpa using hyl) hc' _
    · rw [int_ne h0]
      exact fin2 cs hcl hc _
  exact fin cs hcl hc _
theorem ok__law_purse (T : Txt P w K mg base C) (g : GG) (hg : GOk K C g) : GF P w K mg base g "_law_purse" 2 4 (sp_lawpurse C.Wl) := by
  obtain ⟨f, fd, F, hm⟩ := T.F__law_purse
  exact gf_of F hm (F.binds (ps := ["well", "many"]) fun _ _ _ _ _ _ us hl => match us, hl with | [_, _], _ => rfl) (okf__law_purse T g hg F)

end
end T1

namespace T1
open PySem PySem.Spec PyProof.Rows L2 DL LamX NdefX
section
variable {P : Program} {w : World} {K : PySem.W.Frag} {mg : Str → Option Value} {base : Heap} {C : Cons}
abbrev s__law_same : Stmt := top 30
theorem sc__law_same : FnScope ["one", "two", "alike", "k"] ["one", "two"] (defScope s__law_same) := ⟨rfl, rfl, rfl, by decide +kernel, rfl, by decide +kernel, by decide +kernel⟩
theorem same0 (T : Txt P w K mg base C) (g : GG) : GF P w K mg base g "_law_same" 2 2 (sp_sameA 0) := by
  obtain ⟨f, fd, F, hm⟩ := T.F__law_same
  refine gf_of F hm (F.binds (ps := ["one", "two"]) fun _ _ _ _ _ _ us hl => match us, hl with | [_, _], _ => rfl) (fun_okD F sc__law_same rfl [] (by decide) (fun cdv A outer s H E U Ed hr => ⟨_, (dss_cons (ds_if (dt_val (de_isi T.cs rfl T.n_isinstance (da_cons (dv 1) (da_cons (de_bltn T.n_tuple rfl) da_nil)))) dss_never dss_nil)
      (dss_cons (ds_if (dt_val (de_isi T.cs rfl T.n_isinstance (da_cons (dv 1) (da_cons (de_bltn T.n_bool rfl) da_nil)))) (dss_one (ds_ret (de_and (de_isi T.cs rfl T.n_isinstance (da_cons (dv 0) (da_cons (de_bltn T.n_bool rfl) da_nil))) (de_one (de_cmp (opEqA hr (by omega)) rmEqA (dv 0) (dv 1)))))) dss_nil)
      (dss_cons (ds_if (dt_val (de_isi T.cs rfl T.n_isinstance (da_cons (dv 1) (da_cons (de_bltn T.n_int rfl) da_nil)))) (dss_one (ds_ret (de_and (de_isi T.cs rfl T.n_isinstance (da_cons (dv 0) (da_cons (de_bltn T.n_int rfl) da_nil))) (de_and (de_not (de_isi T.cs rfl T.n_isinstance (da_cons (dv 0) (da_cons (de_bltn T.n_bool rfl) da_nil)))) (de_one (de_cmp (opEqA hr (by omega)) rmEqA (dv 0) (dv 1))))))) dss_nil)
      (dss_cons (ds_if (dt_val (de_isi T.cs rfl T.n_isinstance (da_cons (dv 1) (da_cons (de_bltn T.n_str rfl) da_nil)))) (dss_one (ds_ret (de_and (de_isi T.cs rfl T.n_isinstance (da_cons (dv 0) (da_cons (de_bltn T.n_str rfl) da_nil))) (de_one (de_cmp (opEqA hr (by omega)) rmEqA (dv 0) (dv 1)))))) dss_nil)
      (dss_cons (ds_if (dt_cmp opIs rmIs (dv 1) de_non) (dss_one (ds_ret (de_cmp opIs rmIs (dv 0) de_non))) dss_nil)
      (dss_cons (ds_set (i := 2) sc__law_same.nd (de_and (de_cmp (opEqA hr (by omega)) rmEqA (de_isi T.cs rfl T.n_isinstance (da_cons (dv 0) (da_cons (de_bltn T.n_list rfl) da_nil))) (de_isi T.cs rfl T.n_isinstance (da_cons (dv 1) (da_cons (de_bltn T.n_list rfl) da_nil)))) (de_one (de_cmp (opEqA hr (by omega)) rmEqA (de_isi T.cs rfl T.n_isinstance (da_cons (dv 0) (da_cons (de_bltn T.n_dict rfl) da_nil))) (de_isi T.cs rfl T.n_isinstance (da_cons (dv 1) (da_cons (de_bltn T.n_dict rfl) da_nil)))))))
      (dss_one (ds_ret (de_and (dv 2) (de_and (de_not (de_isi T.cs rfl T.n_isinstance (da_cons (dv 0) (da_cons (de_bltn T.n_tuple rfl) da_nil)))) (de_one (de_cmp opIs rmIs (de_cmp (opEqA hr (by omega)) rmEqA (dv 0) (dv 1)) de_bl))))))))))))⟩) ?_)
  intro ds Q E hl h
  obtain ⟨x, rfl, hx, k⟩ := h
  cases x with
  | non =>
    simp only [mSeq, bnd, gv, DL.ret, hide, startD, asB, List.foldr_nil, List.foldr_cons, List.map_nil, List.map_cons, List.length_cons, List.length_nil, List.nil_append, List.cons_append, List.getD_cons_zero, List.getD_cons_succ, List.set_cons_zero, List.set_cons_succ, List.replicate_succ, List.replicate_zero, Nat.reduceAdd, Nat.reduceSub, m1, m2, mOrd, mGcd, mLcmD, mNeg, mDiv, mI2, mJ2, mAdd, mSub, mMul, mMulD, mMod, mIx, mTup, mLst, mCall, mLen, mEq, mNe, if_true, if_false, Bool.false_eq_true, reduceIte, ite_ap, at20, at21, at30, at31, at32, true_and, dec_true, mNext, mgName, mgTup, mgCons, mgNil, asEnum, asI, mSl, wipeD, setAll, startC, asPerm, mMulL, unP, mTupP, mIsi, tyD, mIs, DL.isNon]
    simp [isTy]
    exact k
  | bl b =>
    simp only [mSeq, bnd, gv, DL.ret, hide, startD, asB, List.foldr_nil, List.foldr_cons, List.map_nil, List.map_cons, List.length_cons, List.length_nil, List.nil_append, List.cons_append, List.getD_cons_zero, List.getD_cons_succ, List.set_cons_zero, List.set_cons_succ, List.replicate_succ, List.replicate_zero, Nat.reduceAdd, Nat.reduceSub, m1, m2, mOrd, mGcd, mLcmD, mNeg, mDiv, mI2, mJ2, mAdd, mSub, mMul, mMulD, mMod, mIx, mTup, mLst, mCall, mLen, mEq, mNe, if_true, if_false, Bool.false_eq_true, reduceIte, ite_ap, at20, at21, at30, at31, at32, true_and, dec_true, mNext, mgName, mgTup, mgCons, mgNil, asEnum, asI, mSl, wipeD, setAll, startC, asPerm, mMulL, unP, mTupP, mIsi, tyD]
    simp [isTy, EqOk, eqD, mEqA, mEq]
    exact k
  | int i =>
    simp only [mSeq, bnd, gv, DL.ret, hide, startD, asB, List.foldr_nil, List.foldr_cons, List.map_nil, List.map_cons, List.length_cons, List.length_nil, List.nil_append, List.cons_append, List.getD_cons_zero, List.getD_cons_succ, List.set_cons_zero, List.set_cons_succ, List.replicate_succ, List.replicate_zero, Nat.reduceAdd, Nat.reduceSub, m1, m2, mOrd, mGcd, mLcmD, mNeg, mDiv, mI2, mJ2, mAdd, mSub, mMul, mMulD, mMod, mIx, mTup, mLst, mCall, mLen, mEq, mNe, if_true, if_false, Bool.false_eq_true, reduceIte, ite_ap, at20, at21, at30, at31, at32, true_and, dec_true, mNext, mgName, mgTup, mgCons, mgNil, asEnum, asI, mSl, wipeD, setAll, startC, asPerm, mMulL, unP, mTupP, mIsi, tyD]
    simp [isTy, EqOk, eqD, mEqA, mEq]
    exact k
  | str x =>
    simp only [mSeq, bnd, gv, DL.ret, hide, startD, asB, List.foldr_nil, List.foldr_cons, List.map_nil, List.map_cons, List.length_cons, List.length_nil, List.nil_append, List.cons_append, List.getD_cons_zero, List.getD_cons_succ, List.set_cons_zero, List.set_cons_succ, List.replicate_succ, List.replicate_zero, Nat.reduceAdd, Nat.reduceSub, m1, m2, mOrd, mGcd, mLcmD, mNeg, mDiv, mI2, mJ2, mAdd, mSub, mMul, mMulD, mMod, mIx, mTup, mLst, mCall, mLen, mEq, mNe, if_true, if_false, Bool.false_eq_true, reduceIte, ite_ap, at20, at21, at30, at31, at32, true_and, dec_true, mNext, mgName, mgTup, mgCons, mgNil, asEnum, asI, mSl, wipeD, setAll, startC, asPerm, mMulL, unP, mTupP, mIsi, tyD]
    simp [isTy, EqOk, eqD, mEqA, mEq]
    exact k
  | lst xs =>
    obtain ⟨hp, hd⟩ : DL.plain (.lst xs) = true ∧ DL.dep (.lst xs) ≤ 64 := by simpa [PTa] using hx
    have e1 : eqD (.lst xs) (.lst xs) = true := eqD_refl _ hp
    have e3 : eqDs xs xs = true := by simpa [eqD] using e1
    simp only [mSeq, bnd, gv, DL.ret, hide, startD, asB, List.foldr_nil, List.foldr_cons, List.map_nil, List.map_cons, List.length_cons, List.length_nil, List.nil_append, List.cons_append, List.getD_cons_zero, List.getD_cons_succ, List.set_cons_zero, List.set_cons_succ, List.replicate_succ, List.replicate_zero, Nat.reduceAdd, Nat.reduceSub, m1, m2, mOrd, mGcd, mLcmD, mNeg, mDiv, mI2, mJ2, mAdd, mSub, mMul, mMulD, mMod, mIx, mTup, mLst, mCall, mLen, mEq, mNe, if_true, if_false, Bool.false_eq_true, reduceIte, ite_ap, at20, at21, at30, at31, at32, true_and, dec_true, mNext, mgName, mgTup, mgCons, mgNil, asEnum, asI, mSl, wipeD, setAll, startC, asPerm, mMulL, unP, mTupP, mIsi, tyD, mIs, DL.isNon]
    simp [isTy, mEqA, mEq, e3, EqOk, eqD, hp, hd]
    exact k
  | lsta a xs =>
    have hi : xs.all isIns = true := by simpa [PTa] using hx
    simp only [mSeq, bnd, gv, DL.ret, hide, startD, asB, List.foldr_nil, List.foldr_cons, List.map_nil, List.map_cons, List.length_cons, List.length_nil, List.nil_append, List.cons_append, List.getD_cons_zero, List.getD_cons_succ, List.set_cons_zero, List.set_cons_succ, List.replicate_succ, List.replicate_zero, Nat.reduceAdd, Nat.reduceSub, m1, m2, mOrd, mGcd, mLcmD, mNeg, mDiv, mI2, mJ2, mAdd, mSub, mMul, mMulD, mMod, mIx, mTup, mLst, mCall, mLen, mEq, mNe, if_true, if_false, Bool.false_eq_true, reduceIte, ite_ap, at20, at21, at30, at31, at32, true_and, dec_true, mNext, mgName, mgTup, mgCons, mgNil, asEnum, asI, mSl, wipeD, setAll, startC, asPerm, mMulL, unP, mTupP, mIsi, tyD, mIs, DL.isNon]
    simp [isTy, mEqA, mEq, EqOk, eqD, hi]
    first | exact k | exact .inr k | exact .inr ⟨by simpa using hi, k⟩
  | _ => exact hx.elim
theorem sameS (T : Txt P w K mg base C) (g : GG) (d : Nat) (G__law_same : GF P w K mg base g "_law_same" 2 (d + 2) (sp_sameA d)) : GF P w K mg base g "_law_same" 2 (d + 2 + 1) (sp_sameA (d + 1)) := by
  obtain ⟨f, fd, F, hm⟩ := T.F__law_same
  refine gf_of F hm (F.binds (ps := ["one", "two"]) fun _ _ _ _ _ _ us hl => match us, hl with | [_, _], _ => rfl) (fun_okD F sc__law_same rfl [] (by decide) (fun cdv A outer s H E U Ed hr => ⟨_, (dss_cons (ds_if (dt_val (de_isi T.cs rfl T.n_isinstance (da_cons (dv 1) (da_cons (de_bltn T.n_tuple rfl) da_nil)))) (dss_cons (ds_if (dt_w (dw_or (dt_not (dt_val (de_isi T.cs rfl T.n_isinstance (da_cons (dv 0) (da_cons (de_bltn T.n_tuple rfl) da_nil))))) (dw_or1 (dt_cmp (opNe hr) rmNe (de_cb crLen rmLen T.n_len rfl (da_cons (dv 0) da_nil)) (de_cb crLen rmLen T.n_len rfl (da_cons (dv 1) da_nil)))))) (dss_one (ds_ret de_bl)) dss_nil)
      (dss_one (ds_ret (de_cb (cr_all rfl) rmAll T.n_all rfl (da_cons (DF.de (df_lc rfl sc__law_same.nd (di_range1 T.n_range (da_cons (de_cb crLen rmLen T.n_len rfl (da_cons (dv 1) da_nil)) da_nil)) (own := [("k", 3)]) (blk_of (N := ["one", "two", "alike", "k"]) (sc := defScope s__law_same) (by decide +kernel)) (fun s H C cl fp => (dge_name 3 sc__law_same.nd)) (fun s H C cl fp => dts_nil) (fun s H C cl fp => (de_call G__law_same hr (by omega) takesN rfl (da_cons (de_ix rfl (dv 0) (dv 3)) (da_cons (de_ix rfl (dv 1) (dv 3)) da_nil)))) (fun _ => rfl))) da_nil))))) dss_nil)
      (dss_cons (ds_if (dt_val (de_isi T.cs rfl T.n_isinstance (da_cons (dv 1) (da_cons (de_bltn T.n_bool rfl) da_nil)))) (dss_one (ds_ret (de_and (de_isi T.cs rfl T.n_isinstance (da_cons (dv 0) (da_cons (de_bltn T.n_bool rfl) da_nil))) (de_one (de_cmp (opEqA hr (by omega)) rmEqA (dv 0) (dv 1)))))) dss_nil)
      (dss_cons (ds_if (dt_val (de_isi T.cs rfl T.n_isinstance (da_cons (dv 1) (da_cons (de_bltn T.n_int rfl) da_nil)))) (dss_one (ds_ret (de_and (de_isi T.cs rfl T.n_isinstance (da_cons (dv 0) (da_cons (de_bltn T.n_int rfl) da_nil))) (de_and (de_not (de_isi T.cs rfl T.n_isinstance (da_cons (dv 0) (da_cons (de_bltn T.n_bool rfl) da_nil)))) (de_one (de_cmp (opEqA hr (by omega)) rmEqA (dv 0) (dv 1))))))) dss_nil)
      (dss_cons (ds_if (dt_val (de_isi T.cs rfl T.n_isinstance (da_cons (dv 1) (da_cons (de_bltn T.n_str rfl) da_nil)))) (dss_one (ds_ret (de_and (de_isi T.cs rfl T.n_isinstance (da_cons (dv 0) (da_cons (de_bltn T.n_str rfl) da_nil))) (de_one (de_cmp (opEqA hr (by omega)) rmEqA (dv 0) (dv 1)))))) dss_nil)
      (dss_cons (ds_if (dt_cmp opIs rmIs (dv 1) de_non) (dss_one (ds_ret (de_cmp opIs rmIs (dv 0) de_non))) dss_nil)
      (dss_cons (ds_set (i := 2) sc__law_same.nd (de_and (de_cmp (opEqA hr (by omega)) rmEqA (de_isi T.cs rfl T.n_isinstance (da_cons (dv 0) (da_cons (de_bltn T.n_list rfl) da_nil))) (de_isi T.cs rfl T.n_isinstance (da_cons (dv 1) (da_cons (de_bltn T.n_list rfl) da_nil)))) (de_one (de_cmp (opEqA hr (by omega)) rmEqA (de_isi T.cs rfl T.n_isinstance (da_cons (dv 0) (da_cons (de_bltn T.n_dict rfl) da_nil))) (de_isi T.cs rfl T.n_isinstance (da_cons (dv 1) (da_cons (de_bltn T.n_dict rfl) da_nil)))))))
      (dss_one (ds_ret (de_and (dv 2) (de_and (de_not (de_isi T.cs rfl T.n_isinstance (da_cons (dv 0) (da_cons (de_bltn T.n_tuple rfl) da_nil)))) (de_one (de_cmp opIs rmIs (de_cmp (opEqA hr (by omega)) rmEqA (dv 0) (dv 1)) de_bl))))))))))))⟩) ?_)
  intro ds Q E hl h
  obtain ⟨x, rfl, hx, k⟩ := h
  cases x with
  | non =>
    simp only [mSeq, bnd, gv, DL.ret, hide, startD, asB, List.foldr_nil, List.foldr_cons, List.map_nil, List.map_cons, List.length_cons, List.length_nil, List.nil_append, List.cons_append, List.getD_cons_zero, List.getD_cons_succ, List.set_cons_zero, List.set_cons_succ, List.replicate_succ, List.replicate_zero, Nat.reduceAdd, Nat.reduceSub, m1, m2, mOrd, mGcd, mLcmD, mNeg, mDiv, mI2, mJ2, mAdd, mSub, mMul, mMulD, mMod, mIx, mTup, mLst, mCall, mLen, mEq, mNe, if_true, if_false, Bool.false_eq_true, reduceIte, ite_ap, at20, at21, at30, at31, at32, true_and, dec_true, mNext, mgName, mgTup, mgCons, mgNil, asEnum, asI, mSl, wipeD, setAll, startC, asPerm, mMulL, unP, mTupP, mIsi, tyD, mIs, DL.isNon]
    simp [isTy]
    exact k
  | bl b =>
    simp only [mSeq, bnd, gv, DL.ret, hide, startD, asB, List.foldr_nil, List.foldr_cons, List.map_nil, List.map_cons, List.length_cons, List.length_nil, List.nil_append, List.cons_append, List.getD_cons_zero, List.getD_cons_succ, List.set_cons_zero, List.set_cons_succ, List.replicate_succ, List.replicate_zero, Nat.reduceAdd, Nat.reduceSub, m1, m2, mOrd, mGcd, mLcmD, mNeg, mDiv, mI2, mJ2, mAdd, mSub, mMul, mMulD, mMod, mIx, mTup, mLst, mCall, mLen, mEq, mNe, if_true, if_false, Bool.false_eq_true, reduceIte, ite_ap, at20, at21, at30, at31, at32, true_and, dec_true, mNext, mgName, mgTup, mgCons, mgNil, asEnum, asI, mSl, wipeD, setAll, startC, asPerm, mMulL, unP, mTupP, mIsi, tyD]
    simp [isTy, EqOk, eqD, mEqA, mEq]
    exact k
  | int i =>
    simp only [mSeq, bnd, gv, DL.ret, hide, startD, asB, List.foldr_nil, List.foldr_cons, List.map_nil, List.map_cons, List.length_cons, List.length_nil, List.nil_append, List.cons_append, List.getD_cons_zero, List.getD_cons_succ, List.set_cons_zero, List.set_cons_succ, List.replicate_succ, List.replicate_zero, Nat.reduceAdd, Nat.reduceSub, m1, m2, mOrd, mGcd, mLcmD, mNeg, mDiv, mI2, mJ2, mAdd, mSub, mMul, mMulD, mMod, mIx, mTup, mLst, mCall, mLen, mEq, mNe, if_true, if_false, Bool.false_eq_true, reduceIte, ite_ap, at20, at21, at30, at31, at32, true_and, dec_true, mNext, mgName, mgTup, mgCons, mgNil, asEnum, asI, mSl, wipeD, setAll, startC, asPerm, mMulL, unP, mTupP, mIsi, tyD]
    simp [isTy, EqOk, eqD, mEqA, mEq]
    exact k
  | str x =>
    simp only [mSeq, bnd, gv, DL.ret, hide, startD, asB, List.foldr_nil, List.foldr_cons, List.map_nil, List.map_cons, List.length_cons, List.length_nil, List.nil_append, List.cons_append, List.getD_cons_zero, List.getD_cons_succ, List.set_cons_zero, List.set_cons_succ, List.replicate_succ, List.replicate_zero, Nat.reduceAdd, Nat.reduceSub, m1, m2, mOrd, mGcd, mLcmD, mNeg, mDiv, mI2, mJ2, mAdd, mSub, mMul, mMulD, mMod, mIx, mTup, mLst, mCall, mLen, mEq, mNe, if_true, if_false, Bool.false_eq_true, reduceIte, ite_ap, at20, at21, at30, at31, at32, true_and, dec_true, mNext, mgName, mgTup, mgCons, mgNil, asEnum, asI, mSl, wipeD, setAll, startC, asPerm, mMulL, unP, mTupP, mIsi, tyD]
    simp [isTy, EqOk, eqD, mEqA, mEq]
    exact k
  | lst xs =>
    obtain ⟨hp, hd⟩ : DL.plain (.lst xs) = true ∧ DL.dep (.lst xs) ≤ 64 := by simpa [PTa] using hx
    have e1 : eqD (.lst xs) (.lst xs) = true := eqD_refl _ hp
    have e3 : eqDs xs xs = true := by simpa [eqD] using e1
    simp only [mSeq, bnd, gv, DL.ret, hide, startD, asB, List.foldr_nil, List.foldr_cons, List.map_nil, List.map_cons, List.length_cons, List.length_nil, List.nil_append, List.cons_append, List.getD_cons_zero, List.getD_cons_succ, List.set_cons_zero, List.set_cons_succ, List.replicate_succ, List.replicate_zero, Nat.reduceAdd, Nat.reduceSub, m1, m2, mOrd, mGcd, mLcmD, mNeg, mDiv, mI2, mJ2, mAdd, mSub, mMul, mMulD, mMod, mIx, mTup, mLst, mCall, mLen, mEq, mNe, if_true, if_false, Bool.false_eq_true, reduceIte, ite_ap, at20, at21, at30, at31, at32, true_and, dec_true, mNext, mgName, mgTup, mgCons, mgNil, asEnum, asI, mSl, wipeD, setAll, startC, asPerm, mMulL, unP, mTupP, mIsi, tyD, mIs, DL.isNon]
    simp [isTy, mEqA, mEq, e3, EqOk, eqD, hp, hd]
    exact k
  | lsta a xs =>
    have hi : xs.all isIns = true := by simpa [PTa] using hx
    simp only [mSeq, bnd, gv, DL.ret, hide, startD, asB, List.foldr_nil, List.foldr_cons, List.map_nil, List.map_cons, List.length_cons, List.length_nil, List.nil_append, List.cons_append, List.getD_cons_zero, List.getD_cons_succ, List.set_cons_zero, List.set_cons_succ, List.replicate_succ, List.replicate_zero, Nat.reduceAdd, Nat.reduceSub, m1, m2, mOrd, mGcd, mLcmD, mNeg, mDiv, mI2, mJ2, mAdd, mSub, mMul, mMulD, mMod, mIx, mTup, mLst, mCall, mLen, mEq, mNe, if_true, if_false, Bool.false_eq_true, reduceIte, ite_ap, at20, at21, at30, at31, at32, true_and, dec_true, mNext, mgName, mgTup, mgCons, mgNil, asEnum, asI, mSl, wipeD, setAll, startC, asPerm, mMulL, unP, mTupP, mIsi, tyD, mIs, DL.isNon]
    simp [isTy, mEqA, mEq, EqOk, eqD, hi]
    first | exact k | exact .inr k | exact .inr ⟨by simpa using hi, k⟩
  | tup xs =>
    obtain ⟨hn, hx⟩ := hx
    simp only [mSeq, bnd, gv, DL.ret, hide, startD, asB, List.foldr_nil, List.foldr_cons, List.map_nil, List.map_cons, List.length_cons, List.length_nil, List.nil_append, List.cons_append, List.getD_cons_zero, List.getD_cons_succ, List.set_cons_zero, List.set_cons_succ, List.replicate_succ, List.replicate_zero, Nat.reduceAdd, Nat.reduceSub, m1, m2, mOrd, mGcd, mLcmD, mNeg, mDiv, mI2, mJ2, mAdd, mSub, mMul, mMulD, mMod, mIx, mTup, mLst, mCall, mLen, mEq, mNe, if_true, if_false, Bool.false_eq_true, reduceIte, ite_ap, at20, at21, at30, at31, at32, true_and, dec_true, mNext, mgName, mgTup, mgCons, mgNil, asEnum, asI, mSl, wipeD, setAll, startC, asPerm, mMulL, unP, mTupP, mIsi, tyD]
    refine ⟨by decide, ?_⟩
    rw [if_pos (by decide)]
    refine ⟨by decide, ?_⟩
    rw [if_neg (by decide)]
    refine ⟨eqOk_int, ?_⟩
    rw [int_eq rfl, if_neg (by decide)]
    refine ⟨⟨by omega, by omega⟩, by rw [rangeD_len, sizeLine_eq]; omega, lcW_map (f := fun _ => .bl true) _ _ (fun d hd κ hk => ?_) ?_⟩
    · obtain ⟨i, hi, e⟩ := rangeD_mem hd
      subst e
      have hi : i < xs.length := by omega
      have e1 : xs[i]? = some xs[i] := List.getElem?_eq_getElem hi
      have e2 := atI_map (f := fun d => d) e1
      rw [List.map_id'] at e2
      simp only [mSeq, bnd, gv, DL.ret, hide, startD, asB, List.foldr_nil, List.foldr_cons, List.map_nil, List.map_cons, List.length_cons, List.length_nil, List.nil_append, List.cons_append, List.getD_cons_zero, List.getD_cons_succ, List.set_cons_zero, List.set_cons_succ, List.replicate_succ, List.replicate_zero, Nat.reduceAdd, Nat.reduceSub, m1, m2, mOrd, mGcd, mLcmD, mNeg, mDiv, mI2, mJ2, mAdd, mSub, mMul, mMulD, mMod, mIx, mTup, mLst, mCall, mLen, mEq, mNe, if_true, if_false, Bool.false_eq_true, reduceIte, ite_ap, at20, at21, at30, at31, at32, true_and, dec_true, mNext, mgName, mgTup, mgCons, mgNil, asEnum, asI, mSl, wipeD, setAll, startC, asPerm, mMulL, unP, mTupP, e2]
      exact ⟨_, rfl, hx _ (List.getElem_mem hi), hk⟩
    · rw [List.map_const', List.nil_append]
      exact all_true _ _ k
  | _ => exact hx.elim
theorem ok__law_same (T : Txt P w K mg base C) (g : GG) (hg : GOk K C g) : GF P w K mg base g "_law_same" 2 6 (sp_sameA 4) := sameS T g 3 (sameS T g 2 (sameS T g 1 (sameS T g 0 (same0 T g))))
abbrev s__law_kept_by : Stmt := top 35
theorem sc__law_kept_by : FnScope ["act", "e", "sorts"] ["act"] (defScope s__law_kept_by) := ⟨rfl, rfl, rfl, by decide +kernel, rfl, by decide +kernel, by decide +kernel⟩
theorem ok__law_kept_by (T : Txt P w K mg base C) (g : GG) (hg : GOk K C g) (KL : Nat) : GFLU P w K mg base g "_law_kept_by" (KL + 2) (KL + 1) (sp_kept [(C.InvalidPeople, "people", "index"), (C.InvalidClaims, "claims", "index"), (C.InvalidNumber, "number", "given")]) := by
  obtain ⟨f, fd, F, hm⟩ := T.F__law_kept_by
  refine gflu_of F hm (F.binds (ps := ["act"]) fun _ _ _ _ _ _ us hl => match us, hl with | [_], _ => rfl) sc__law_kept_by rfl [] (by decide) (fun fL m => ⟨_, fun cdv A outer s H E U Ed hr hC => ⟨_, (dss_cons (ds_tryU hC rfl rfl rfl hr (by omega) bTakes sc__law_kept_by.nd (by decide) ⟨rfl, by decide, .inl T.c_ClaimError⟩ T.et.exm (fun a oe CX dd pn hCE hz hfl => (dss_cons (ds_set (i := 2) sc__law_kept_by.nd (de_lst (da_cons (de_errIs T.et hCE hz hfl rfl T.n_isinstance (da_cons (dv 1) (da_cons (de_cls T.c_InvalidPeople) da_nil))) (da_cons (de_errIs T.et hCE hz hfl rfl T.n_isinstance (da_cons (dv 1) (da_cons (de_cls T.c_InvalidClaims) da_nil))) (da_cons (de_errIs T.et hCE hz hfl rfl T.n_isinstance (da_cons (dv 1) (da_cons (de_cls T.c_InvalidNumber) da_nil))) da_nil)))))
      (dss_cons (ds_if (dt_w (dw_or (dt_cmp opNeS rmNeS (de_lcount rfl (dv 2) de_bl) de_int) (dw_or1 (dt_not (dt_val (de_errIs T.et hCE hz hfl rfl T.n_isinstance (da_cons (dv 1) (da_cons (de_bltn T.n_ValueError rfl) da_nil)))))))) (dss_one (ds_ret (de_tup (da_cons de_str (da_cons de_non da_nil))))) dss_nil)
      (dss_one (ds_ret (de_tup (da_cons (de_ix rfl (de_tup (da_cons de_str (da_cons de_str (da_cons de_str da_nil)))) (de_lindex rfl (dv 2) de_bl)) (da_cons (de_if (dt_val (de_ix rfl (dv 2) de_int)) (de_errFld T.et hCE (by decide) hz hfl rfl (dv 1)) (de_errFld T.et hCE (by decide) hz hfl rfl (dv 1))) da_nil)))))))) (i := 0) (j := 1))
      (dss_one (ds_ret (de_tup (da_cons de_str (da_cons de_non da_nil))))))⟩, ?_⟩)
  intro ds Q E hf h
  subst hf
  have n_0_1 : (C.InvalidPeople == C.InvalidClaims) = false := T.ne_InvalidPeople_InvalidClaims
  have n_0_2 : (C.InvalidPeople == C.InvalidNumber) = false := T.ne_InvalidPeople_InvalidNumber
  have n_1_0 : (C.InvalidClaims == C.InvalidPeople) = false := T.ne_InvalidClaims_InvalidPeople
  have n_1_2 : (C.InvalidClaims == C.InvalidNumber) = false := T.ne_InvalidClaims_InvalidNumber
  have n_2_0 : (C.InvalidNumber == C.InvalidPeople) = false := T.ne_InvalidNumber_InvalidPeople
  have n_2_1 : (C.InvalidNumber == C.InvalidClaims) = false := T.ne_InvalidNumber_InvalidClaims
  simp only [mSeq, bnd, gv, DL.ret, hide, startD, asB, List.foldr_nil, List.foldr_cons, List.map_nil, List.map_cons, List.length_cons, List.length_nil, List.nil_append, List.cons_append, List.getD_cons_zero, List.getD_cons_succ, List.set_cons_zero, List.set_cons_succ, List.replicate_succ, List.replicate_zero, Nat.reduceAdd, Nat.reduceSub, m1, m2, mOrd, mGcd, mLcmD, mNeg, mDiv, mI2, mJ2, mAdd, mSub, mMul, mMulD, mMod, mIx, mTup, mLst, mCall, mLen, mEq, mNe, if_true, if_false, Bool.false_eq_true, reduceIte, ite_ap, at20, at21, at30, at31, at32, true_and, dec_true, mNext, mgName, mgTup, mgCons, mgNil, asEnum, asI, mSl, wipeD, setAll, startC, asPerm, mMulL, unP, mTupP]
  refine h _ _ (fun q => ?_) fun t ht d q => ?_
  · exact ⟨two_le, q⟩
  · simp only [List.mem_cons, List.not_mem_nil, or_false] at ht
    rcases ht with rfl | rfl | rfl
    · refine ⟨by simp, fun a dd => ?_⟩
      refine ⟨⟨rfl, rfl, rfl⟩, .inr ⟨by simp, ?_⟩⟩
      refine ⟨⟨rfl, rfl, rfl⟩, .inr ⟨by simp, ?_⟩⟩
      refine ⟨⟨rfl, rfl, rfl⟩, .inr ⟨by simp, ?_⟩⟩
      simp only [beq_self_eq_true, n_0_1, n_0_2]
      refine ⟨three_le, ⟨_, rfl⟩, ⟨rfl, rfl, ?_⟩⟩
      rw [show (List.countP (fun d => eqD d (D.bl true)) [D.bl true, D.bl false, D.bl false]) = 1 from rfl]
      simp only [mNeS]
      rw [if_neg (by decide)]
      refine ⟨⟨rfl, rfl, rfl⟩, .inl ⟨rfl, ?_⟩⟩
      simp only []
      rw [if_neg (by decide)]
      refine ⟨three_le, ⟨_, rfl⟩, rfl, rfl, 0, .bl true, rfl, rfl, fun m d' hm hd => ?_, ?_⟩
      · exact absurd hm (Nat.not_lt_zero m)
      have ea : atI [D.str "people", D.str "claims", D.str "number"] ((0 : Nat) : Int) = some (.str "people") := rfl
      simp only [ea]
      rw [if_neg (by decide)]
      refine ⟨⟨rfl, rfl, rfl⟩, ?_⟩
      simp only [getA, if_true]
      exact ⟨two_le, q⟩
    · refine ⟨by simp, fun a dd => ?_⟩
      refine ⟨⟨rfl, rfl, rfl⟩, .inr ⟨by simp, ?_⟩⟩
      refine ⟨⟨rfl, rfl, rfl⟩, .inr ⟨by simp, ?_⟩⟩
      refine ⟨⟨rfl, rfl, rfl⟩, .inr ⟨by simp, ?_⟩⟩
      simp only [beq_self_eq_true, n_1_0, n_1_2]
      refine ⟨three_le, ⟨_, rfl⟩, ⟨rfl, rfl, ?_⟩⟩
      rw [show (List.countP (fun d => eqD d (D.bl true)) [D.bl false, D.bl true, D.bl false]) = 1 from rfl]
      simp only [mNeS]
      rw [if_neg (by decide)]
      refine ⟨⟨rfl, rfl, rfl⟩, .inl ⟨rfl, ?_⟩⟩
      simp only []
      rw [if_neg (by decide)]
      refine ⟨three_le, ⟨_, rfl⟩, rfl, rfl, 1, .bl true, rfl, rfl, fun m d' hm hd => ?_, ?_⟩
      · match m, hm, hd with
        | 0, _, hd => cases hd; rfl
        | m + 1, hm, _ => omega
      have ea : atI [D.str "people", D.str "claims", D.str "number"] ((1 : Nat) : Int) = some (.str "claims") := rfl
      simp only [ea]
      rw [if_neg (by decide)]
      refine ⟨⟨rfl, rfl, rfl⟩, ?_⟩
      simp only [getA, if_true]
      exact ⟨two_le, q⟩
    · refine ⟨by simp, fun a dd => ?_⟩
      refine ⟨⟨rfl, rfl, rfl⟩, .inr ⟨by simp, ?_⟩⟩
      refine ⟨⟨rfl, rfl, rfl⟩, .inr ⟨by simp, ?_⟩⟩
      refine ⟨⟨rfl, rfl, rfl⟩, .inr ⟨by simp, ?_⟩⟩
      simp only [beq_self_eq_true, n_2_0, n_2_1]
      refine ⟨three_le, ⟨_, rfl⟩, ⟨rfl, rfl, ?_⟩⟩
      rw [show (List.countP (fun d => eqD d (D.bl true)) [D.bl false, D.bl false, D.bl true]) = 1 from rfl]
      simp only [mNeS]
      rw [if_neg (by decide)]
      refine ⟨⟨rfl, rfl, rfl⟩, .inl ⟨rfl, ?_⟩⟩
      simp only []
      rw [if_neg (by decide)]
      refine ⟨three_le, ⟨_, rfl⟩, rfl, rfl, 2, .bl true, rfl, rfl, fun m d' hm hd => ?_, ?_⟩
      · match m, hm, hd with
        | 0, _, hd => cases hd; rfl
        | 1, _, hd => cases hd; rfl
        | m + 2, hm, _ => omega
      have ea : atI [D.str "people", D.str "claims", D.str "number"] ((2 : Nat) : Int) = some (.str "number") := rfl
      simp only [ea]
      rw [if_pos (by decide)]
      refine ⟨⟨rfl, rfl, rfl⟩, ?_⟩
      simp only [getA, if_true]
      exact ⟨two_le, q⟩
abbrev s__law_by_all : Stmt := top 36
theorem sc__law_by_all : FnScope ["people", "claims", "money", "due"] ["people", "claims", "money", "due"] (defScope s__law_by_all) := ⟨rfl, rfl, rfl, by decide +kernel, rfl, by decide +kernel, by decide +kernel⟩
theorem okf__law_by_all (T : Txt P w K mg base C) (g : GG) (hg : GOk K C g) {f : Addr} {fd : FuncData} (F : Fun K "_law_by_all" "_law_by_all" (top 36) f fd) (hm : mg "_law_by_all" = some (.ref f)) : FnOk P w K mg base (L2.CX P w) 15 f fd ["people", "claims", "money", "due"] (spOf K g 4 sp_by_all) := by
  have G__law_same := ok__law_same (base := base) T g hg
  have G__law_kept_by := ok__law_kept_by (base := base) T g hg 12
  have M_Purse := ok_Purse (base := base) T g hg
  have Mk_Purse := okk_Purse (base := base) T g hg
  refine fun_okDc F sc__law_by_all rfl [] (by decide) (fun cdv A outer s H E U Ed hr hcd => ⟨_, (dss_one (ds_ret (de_call G__law_same hr (by omega) bTakes rfl (da_cons (de_tup (da_cons (de_lamU (js := [0, 1, 2]) (kL := 12) G__law_kept_by rfl rfl rfl hr (by omega) bTakes hg.x (dl_last (T.lj__law_by_all hg) T.tb__law_by_all (hcd.symm.trans (T.cd__law_by_all hm F)) T.hm__law_by_all T.hu__law_by_all rfl (fun ok y hy e => ((ndef_free (sc := defScope s__law_by_all) (fr := ["people", "claims", "money"]) (by decide +kernel)) y hy e).elim (fun z => ok.has _ (.inl z)) (fun z => ok.has _ (.inr z)))) (nscope_by (N := ["people", "claims", "money"]) (ps := []) (fr := ["people", "claims", "money"]) (by decide +kernel)) (fun _ _ _ _ _ => rfl) (fun ok => Caps.made ok (ndef_free (sc := defScope s__law_by_all) (fr := ["people", "claims", "money"]) (by decide +kernel)) (ndef_fr (sc := defScope s__law_by_all) (by decide +kernel)) rfl) (fun _ _ _ => rfl) (fun f c' A o s' H' E U Ed l hr => ⟨_, (de_make M_Purse hr (by omega) lTakes rfl hg.x (da_cons (dv 0) (da_cons (dv 1) (da_cons (dv 2) da_nil))))⟩)) (da_cons (de_lamU (js := [2, 1, 0]) (kL := 12) G__law_kept_by rfl rfl rfl hr (by omega) bTakes hg.x (dl_last (T.lj__law_by_all hg) T.tb__law_by_all (hcd.symm.trans (T.cd__law_by_all hm F)) T.hm__law_by_all T.hu__law_by_all rfl (fun ok y hy e => ((ndef_free (sc := defScope s__law_by_all) (fr := ["money", "claims", "people"]) (by decide +kernel)) y hy e).elim (fun z => ok.has _ (.inl z)) (fun z => ok.has _ (.inr z)))) (nscope_by (N := ["money", "claims", "people"]) (ps := []) (fr := ["money", "claims", "people"]) (by decide +kernel)) (fun _ _ _ _ _ => rfl) (fun ok => Caps.made ok (ndef_free (sc := defScope s__law_by_all) (fr := ["money", "claims", "people"]) (by decide +kernel)) (ndef_fr (sc := defScope s__law_by_all) (by decide +kernel)) rfl) (fun _ _ _ => rfl) (fun f c' A o s' H' E U Ed l hr => ⟨_, (de_makekw Mk_Purse hr (by omega) lTakes rfl hg.x (dk_cons (dv 0) (dk_cons (dv 1) (dk_cons (dv 2) dk_nil))))⟩)) da_nil))) (da_cons (de_tup (da_cons (dv 3) (da_cons (dv 3) da_nil))) da_nil)))))⟩) ?_
  intro ds Q E hl h
  obtain ⟨p, c, m, rfl, hp, hc, hm, hpt, k⟩ := h
  simp only [mSeq, bnd, gv, DL.ret, hide, startD, asB, List.foldr_nil, List.foldr_cons, List.map_nil, List.map_cons, List.length_cons, List.length_nil, List.nil_append, List.cons_append, List.getD_cons_zero, List.getD_cons_succ, List.set_cons_zero, List.set_cons_succ, List.replicate_succ, List.replicate_zero, Nat.reduceAdd, Nat.reduceSub, m1, m2, mOrd, mGcd, mLcmD, mNeg, mDiv, mI2, mJ2, mAdd, mSub, mMul, mMulD, mMod, mIx, mTup, mLst, mCall, mLen, mEq, mNe, if_true, if_false, Bool.false_eq_true, reduceIte, ite_ap, at20, at21, at30, at31, at32, true_and, dec_true, mNext, mgName, mgTup, mgCons, mgNil, asEnum, asI, mSl, wipeD, setAll, startC, asPerm, mMulL, unP, mTupP]
  refine fun f => kept_pu (p := p) (c := c) (m := m) (fun Qk Ed z => ?_) ?_
  · show _ ∧ sp_PurseE C.InvalidPeople C.InvalidClaims C.InvalidNumber [p, c, m] _ _
    exact ⟨rfl, p, c, m, rfl, hp, hc, hm, z⟩
  refine fun f => kept_pu (p := p) (c := c) (m := m) (fun Qk Ed z => ?_) ?_
  · show _ ∧ sp_PurseE C.InvalidPeople C.InvalidClaims C.InvalidNumber [p, c, m] _ _
    exact ⟨rfl, p, c, m, rfl, hp, hc, hm, z⟩
  refine ⟨two_le, two_le, _, rfl, ⟨by simp, fun x hx => ?_⟩, k⟩
  simp only [List.mem_cons, List.not_mem_nil, or_false] at hx
  rcases hx with rfl | rfl <;> exact PTa_up hpt
theorem ok__law_by_all (T : Txt P w K mg base C) (g : GG) (hg : GOk K C g) : GF P w K mg base g "_law_by_all" 4 15 sp_by_all := by
  obtain ⟨f, fd, F, hm⟩ := T.F__law_by_all
  exact gf_of F hm (F.binds (ps := ["people", "claims", "money", "due"]) fun _ _ _ _ _ _ us hl => match us, hl with | [_, _, _, _], _ => rfl) (okf__law_by_all T g hg F hm)

end
end T1

namespace T1
open PySem PySem.Spec PyProof.Rows L2 DL LamX NdefX
section
variable {P : Program} {w : World} {K : PySem.W.Frag} {mg : Str → Option Value} {base : Heap} {C : Cons}
abbrev s__law_well : Stmt := top 27
theorem sc__law_well : FnScope ["script", "lap", "stirred", "cell", "own"] ["script", "lap"] (defScope s__law_well) := ⟨rfl, rfl, rfl, by decide +kernel, rfl, by decide +kernel, by decide +kernel⟩
theorem okf__law_well (T : Txt P w K mg base C) (g : GG) {sa : Addr} {ns : List Int} (hS : ScrJ g K sa ns) {f : Addr} {fd : FuncData} (F : Fun K "_law_well" "_law_well" (top 27) f fd) : FnOk P w K mg base (L2.CX P w) 1 f fd ["script", "lap"] (spOf K g 2 (sp_well sa ns)) := by
  refine fun_okD F sc__law_well rfl [] (by decide) (fun cdv A outer s H E U Ed hr => ⟨_, (dss_cons (ds_set (i := 2) sc__law_well.nd (de_op opAdd rmAdd de_int (de_op opMul rmMul de_int (dv 1))))
      (dss_cons (ds_for bPass rfl (di_any rfl (de_sliceS hS rfl (dv 0) do_none (do_some de_int))) (dg_name 3 sc__law_well.nd) (dss_one (ds_set (i := 2) sc__law_well.nd (de_op op_modN rmMod (de_ct crInt rmInt T.n_int rfl (da_cons (de_op opAdd rmAdd (de_op opAdd rmAdd (de_op opMul rmMul (dv 2) de_int) (de_op op_modN rmMod (de_ct crInt rmInt T.n_int rfl (da_cons (dv 3) da_nil)) de_int)) de_int) da_nil)) de_int))) (fun _ => rfl))
      (dss_cons (ds_set (i := 4) sc__law_well.nd (de_if (dt_cmp opLt rmOrd (dv 1) (de_cb crLen (rmLenS hS) T.n_len rfl (da_cons (dv 0) da_nil))) (de_ct crInt rmInt T.n_int rfl (da_cons (de_ixS hS rfl (dv 0) (dv 1)) da_nil)) de_int))
      (dss_cons (ds_set (i := 2) sc__law_well.nd (de_op op_modN rmMod (de_ct crInt rmInt T.n_int rfl (da_cons (de_op opAdd rmAdd (de_op opAdd rmAdd (de_op opMul rmMul (dv 2) de_int) (de_op opMul rmMul (de_op op_modN rmMod (de_ct crInt rmInt T.n_int rfl (da_cons (dv 4) da_nil)) de_int) de_int)) de_int) da_nil)) de_int))
      (dss_one (ds_ret (de_lst (da_cons (de_if (dt_w (dw_or (dt_cmp opLt rmOrd (dv 4) de_int) (dw_or1 (dt_cmp opGe rmOrd (dv 4) (de_op op_pow rmPow de_int de_int))))) (de_cb crAbs rmAbs T.n_abs rfl (da_cons (dv 4) da_nil)) de_int) (da_cons (dv 2) (da_cons de_int da_nil))))))))))⟩) ?_
  intro ds Q E hl h
  obtain ⟨lap, rfl, h0, h1, k⟩ := h
  refine seqI fun N hN => ?_
  simp only [mSeq, bnd, gv, DL.ret, hide, startD, asB, List.foldr_nil, List.foldr_cons, List.map_nil, List.map_cons, List.length_cons, List.length_nil, List.nil_append, List.cons_append, List.getD_cons_zero, List.getD_cons_succ, List.set_cons_zero, List.set_cons_succ, List.replicate_succ, List.replicate_zero, Nat.reduceAdd, Nat.reduceSub, m1, m2, mOrd, mGcd, mLcmD, mNeg, mDiv, mI2, mJ2, mAdd, mSub, mMul, mMulD, mMod, mIx, mTup, mLst, mCall, mLen, mEq, mNe, if_true, if_false, Bool.false_eq_true, reduceIte, ite_ap, at20, at21, at30, at31, at32, true_and, dec_true, mNext, mgName, mgTup, mgCons, mgNil, asEnum, asI, mSl, wipeD, setAll, startC, asPerm, mMulL, unP, mTupP]
  refine ⟨mulOk_of (k := 20) (l := 20) (by decide) (by omega) (by decide), hN _ (seqI fun N hN => ?_)⟩
  simp only [mSeq, bnd, gv, DL.ret, hide, startD, asB, List.foldr_nil, List.foldr_cons, List.map_nil, List.map_cons, List.length_cons, List.length_nil, List.nil_append, List.cons_append, List.getD_cons_zero, List.getD_cons_succ, List.set_cons_zero, List.set_cons_succ, List.replicate_succ, List.replicate_zero, Nat.reduceAdd, Nat.reduceSub, m1, m2, mOrd, mGcd, mLcmD, mNeg, mDiv, mI2, mJ2, mAdd, mSub, mMul, mMulD, mMod, mIx, mTup, mLst, mCall, mLen, mEq, mNe, if_true, if_false, Bool.false_eq_true, reduceIte, ite_ap, at20, at21, at30, at31, at32, true_and, dec_true, mNext, mgName, mgTup, mgCons, mgNil, asEnum, asI, mSl, wipeD, setAll, startC, asPerm, mMulL, unP, mTupP, asItems, mSlS, mInt]
  refine (forW_ind (fun n ρ => ∃ (s : Int) (o : Option D), ρ = [some (.obj sa), some (.int lap), some (.int s), o, none] ∧ 0 ≤ s ∧ s < 10000000000) _ 0 _ ⟨_, none, rfl, by omega, by omega⟩ (fun i e ρ κ hie hI hk => ?_) (fun ρ hI => ?_))
  · obtain ⟨s, o, rfl, hs0, hs1⟩ := hI
    obtain ⟨c, hc, rfl⟩ := List.mem_map.mp (List.mem_of_getElem? hie)
    simp only [mSeq, bnd, gv, DL.ret, hide, startD, asB, List.foldr_nil, List.foldr_cons, List.map_nil, List.map_cons, List.length_cons, List.length_nil, List.nil_append, List.cons_append, List.getD_cons_zero, List.getD_cons_succ, List.set_cons_zero, List.set_cons_succ, List.replicate_succ, List.replicate_zero, Nat.reduceAdd, Nat.reduceSub, m1, m2, mOrd, mGcd, mLcmD, mNeg, mDiv, mI2, mJ2, mAdd, mSub, mMul, mMulD, mMod, mIx, mTup, mLst, mCall, mLen, mEq, mNe, if_true, if_false, Bool.false_eq_true, reduceIte, ite_ap, at20, at21, at30, at31, at32, true_and, dec_true, mNext, mgName, mgTup, mgCons, mgNil, asEnum, asI, mSl, wipeD, setAll, startC, asPerm, mMulL, unP, mTupP, mInt]
    refine ⟨mulOk_of (k := 40) (l := 40) (by omega) (by decide) (by decide), by decide, by decide, hk _ ⟨_, _, rfl, ?_, ?_⟩⟩
    · exact fmod_lo (by decide)
    · exact Int.lt_of_lt_of_le (fmod_hi (by decide)) (by decide)
  · obtain ⟨s, o, rfl, hs0, hs1⟩ := hI
    refine hN _ (seqI fun N hN => ?_)
    have fin : ∀ own : Int, N [some (.obj sa), some (.int lap), some (.int s), o, some (.int own)] := fun own => by
      refine hN _ (seqI fun N hN => ?_)
      simp only [mSeq, bnd, gv, DL.ret, hide, startD, asB, List.foldr_nil, List.foldr_cons, List.map_nil, List.map_cons, List.length_cons, List.length_nil, List.nil_append, List.cons_append, List.getD_cons_zero, List.getD_cons_succ, List.set_cons_zero, List.set_cons_succ, List.replicate_succ, List.replicate_zero, Nat.reduceAdd, Nat.reduceSub, m1, m2, mOrd, mGcd, mLcmD, mNeg, mDiv, mI2, mJ2, mAdd, mSub, mMul, mMulD, mMod, mIx, mTup, mLst, mCall, mLen, mEq, mNe, if_true, if_false, Bool.false_eq_true, reduceIte, ite_ap, at20, at21, at30, at31, at32, true_and, dec_true, mNext, mgName, mgTup, mgCons, mgNil, asEnum, asI, mSl, wipeD, setAll, startC, asPerm, mMulL, unP, mTupP, mInt]
      have h3 := fmod_lo (a := own) (b := 2147483549) (by decide)
      have h4 := fmod_hi (a := own) (b := 2147483549) (by decide)
      refine ⟨mulOk_of (k := 40) (l := 40) (by omega) (by decide) (by decide), by decide, mulOk_of (k := 40) (l := 40) (by omega) (by decide) (by decide), by decide, hN _ ?_⟩
      simp only [mSeq, bnd, gv, DL.ret, hide, startD, asB, List.foldr_nil, List.foldr_cons, List.map_nil, List.map_cons, List.length_cons, List.length_nil, List.nil_append, List.cons_append, List.getD_cons_zero, List.getD_cons_succ, List.set_cons_zero, List.set_cons_succ, List.replicate_succ, List.replicate_zero, Nat.reduceAdd, Nat.reduceSub, m1, m2, mOrd, mGcd, mLcmD, mNeg, mDiv, mI2, mJ2, mAdd, mSub, mMul, mMulD, mMod, mIx, mTup, mLst, mCall, mLen, mEq, mNe, if_true, if_false, Bool.false_eq_true, reduceIte, ite_ap, at20, at21, at30, at31, at32, true_and, dec_true, mNext, mgName, mgTup, mgCons, mgNil, asEnum, asI, mSl, wipeD, setAll, startC, asPerm, mMulL, unP, mTupP, mAbs]
      by_cases h5 : own < 0
      · rw [if_pos h5]
        exact ⟨three_le, k _ _ _⟩
      rw [if_neg h5]
      refine ⟨⟨by decide, by decide, by decide⟩, ?_⟩
      simp only [mSeq, bnd, gv, DL.ret, hide, startD, asB, List.foldr_nil, List.foldr_cons, List.map_nil, List.map_cons, List.length_cons, List.length_nil, List.nil_append, List.cons_append, List.getD_cons_zero, List.getD_cons_succ, List.set_cons_zero, List.set_cons_succ, List.replicate_succ, List.replicate_zero, Nat.reduceAdd, Nat.reduceSub, m1, m2, mOrd, mGcd, mLcmD, mNeg, mDiv, mI2, mJ2, mAdd, mSub, mMul, mMulD, mMod, mIx, mTup, mLst, mCall, mLen, mEq, mNe, if_true, if_false, Bool.false_eq_true, reduceIte, ite_ap, at20, at21, at30, at31, at32, true_and, dec_true, mNext, mgName, mgTup, mgCons, mgNil, asEnum, asI, mSl, wipeD, setAll, startC, asPerm, mMulL, unP, mTupP]
      by_cases h6 : (10 : Int) ^ (15 : Int).toNat ≤ own
      · rw [if_pos h6]
        exact ⟨three_le, k _ _ _⟩
      · rw [if_neg h6]
        exact ⟨three_le, k _ _ _⟩
    simp only [mSeq, bnd, gv, DL.ret, hide, startD, asB, List.foldr_nil, List.foldr_cons, List.map_nil, List.map_cons, List.length_cons, List.length_nil, List.nil_append, List.cons_append, List.getD_cons_zero, List.getD_cons_succ, List.set_cons_zero, List.set_cons_succ, List.replicate_succ, List.replicate_zero, Nat.reduceAdd, Nat.reduceSub, m1, m2, mOrd, mGcd, mLcmD, mNeg, mDiv, mI2, mJ2, mAdd, mSub, mMul, mMulD, mMod, mIx, mTup, mLst, mCall, mLen, mEq, mNe, if_true, if_false, Bool.false_eq_true, reduceIte, ite_ap, at20, at21, at30, at31, at32, true_and, dec_true, mNext, mgName, mgTup, mgCons, mgNil, asEnum, asI, mSl, wipeD, setAll, startC, asPerm, mMulL, unP, mTupP, mIxS, mLenS, mInt]
    by_cases h2 : lap < (ns.length : Int)
    · rw [if_pos h2]
      obtain ⟨v, _, _, e⟩ := atI_nat h0 h2
      rw [e]
      exact fin _
    · rw [if_neg h2]
      exact fin _
theorem ok__law_well (T : Txt P w K mg base C) (g : GG) {sa : Addr} {ns : List Int} (hS : ScrJ g K sa ns) : GF P w K mg base g "_law_well" 2 1 (sp_well sa ns) := by
  obtain ⟨f, fd, F, hm⟩ := T.F__law_well
  exact gf_of F hm (F.binds (ps := ["script", "lap"]) fun _ _ _ _ _ _ us hl => match us, hl with | [_, _], _ => rfl) (okf__law_well T g hS F)
abbrev s__law_right : Stmt := top 37
theorem sc__law_right : FnScope ["well", "parts", "people", "claims", "money", "odds", "odd", "at"] ["well"] (defScope s__law_right) := ⟨rfl, rfl, rfl, by decide +kernel, rfl, by decide +kernel, by decide +kernel⟩
theorem okf__law_right (T : Txt P w K mg base C) (g : GG) (hg : GOk K C g) {f : Addr} {fd : FuncData} (F : Fun K "_law_right" "_law_right" (top 37) f fd) : FnOk P w K mg base (L2.CX P w) 16 f fd ["well"] (spOf K g 1 (sp_right C.Wl)) := by
  have G__law_purse := ok__law_purse (base := base) T g hg
  have G__law_draw := ok__law_draw (base := base) T g hg
  have G__law_by_all := ok__law_by_all (base := base) T g hg
  refine fun_okD F sc__law_right rfl [] (by decide) (fun cdv A outer s H E U Ed hr => ⟨_, (dss_cons (ds_set (i := 1) sc__law_right.nd (de_call G__law_purse hr (by omega) bTakes rfl (da_cons (dv 0) (da_cons (de_op opAdd rmAdd de_int (de_call G__law_draw hr (by omega) bTakes rfl (da_cons (dv 0) (da_cons de_int da_nil)))) da_nil))))
      (dss_cons (ds_asg (dv 1) (dg_tup (n := 3) rfl rfl (dgs_cons 2 sc__law_right.nd (dgs_cons 3 sc__law_right.nd (dgs_cons 4 sc__law_right.nd dgs_nil)))))
      (dss_cons (ds_set (i := 5) sc__law_right.nd (de_lst (da_cons (de_tup (da_cons de_non (da_cons de_non da_nil))) (da_cons (de_tup (da_cons (de_tup da_nil) (da_cons de_non da_nil))) (da_cons (de_tup (da_cons (de_lst (da_cons de_str da_nil)) (da_cons de_non da_nil))) (da_cons (de_tup (da_cons de_str (da_cons de_non da_nil))) (da_cons (de_tup (da_cons de_int (da_cons de_non da_nil))) (da_cons (de_tup (da_cons (de_tup (da_cons de_str (da_cons de_str da_nil))) (da_cons de_int da_nil))) (da_cons (de_tup (da_cons (de_tup (da_cons de_str (da_cons de_str da_nil))) (da_cons de_int da_nil))) (da_cons (de_tup (da_cons (de_tup (da_cons de_str da_nil)) (da_cons de_int da_nil))) (da_cons (de_tup (da_cons (de_tup (da_cons de_str (da_cons de_non da_nil))) (da_cons de_int da_nil))) (da_cons (de_tup (da_cons (de_tup (da_cons de_str da_nil)) (da_cons de_int da_nil))) da_nil))))))))))))
      (dss_cons (ds_for bPass rfl (di_any rfl (de_op opAdd rmAdd (dv 5) (de_lst (da_cons (de_tup (da_cons (de_ct (crTupStr rfl) rmTupStr T.n_tuple rfl (da_cons de_str da_nil)) (da_cons de_int da_nil))) (da_cons (de_tup (da_cons (de_tup (da_cons de_int da_nil)) (da_cons de_int da_nil))) (da_cons (de_tup (da_cons (de_tup (da_cons de_str da_nil)) (da_cons de_int da_nil))) (da_cons (de_tup (da_cons (de_tup (da_cons de_str da_nil)) (da_cons de_int da_nil))) (da_cons (de_tup (da_cons (de_tup (da_cons de_str (da_cons de_str da_nil))) (da_cons de_int da_nil))) (da_cons (de_tup (da_cons (de_tup (da_cons de_str (da_cons (de_tup (da_cons de_str da_nil)) da_nil))) (da_cons de_int da_nil))) da_nil))))))))) (dg_tup (n := 2) rfl rfl (dgs_cons 6 sc__law_right.nd (dgs_cons 7 sc__law_right.nd dgs_nil))) (dss_one (ds_if (dt_not (dt_val (de_call G__law_by_all hr (by omega) bTakes rfl (da_cons (dv 6) (da_cons de_non (da_cons de_non (da_cons (de_tup (da_cons de_str (da_cons (dv 7) da_nil))) da_nil))))))) (dss_one (ds_ret de_bl)) dss_nil)) (fun _ => rfl))
      (dss_cons (ds_set (i := 5) sc__law_right.nd (de_lst (da_cons (de_tup (da_cons de_non (da_cons de_non da_nil))) (da_cons (de_tup (da_cons (de_ct crLst rmLst T.n_list rfl (da_cons (dv 3) da_nil)) (da_cons de_non da_nil))) (da_cons (de_tup (da_cons (de_op opAdd rmAdd (dv 3) (de_tup (da_cons de_int da_nil))) (da_cons de_non da_nil))) (da_cons (de_tup (da_cons (de_slice rfl (dv 3) (do_some de_int) do_none) (da_cons de_non da_nil))) (da_cons (de_tup (da_cons de_int (da_cons de_non da_nil))) da_nil)))))))
      (dss_cons (ds_set (i := 5) sc__law_right.nd (de_op opAdd rmAdd (dv 5) (DF.de (df_lc rfl sc__law_right.nd (di_any rfl (de_tup (da_cons de_int (da_cons (de_op op_sub rmSub de_int de_int) (da_cons de_bl (da_cons de_str (da_cons (de_tup (da_cons de_int (da_cons de_int da_nil))) (da_cons de_non da_nil)))))))) (own := [("odd", 6)]) (blk_of (N := ["well", "parts", "people", "claims", "money", "odds", "odd", "at"]) (sc := defScope s__law_right) (by decide +kernel)) (fun s H C cl fp => (dge_name 6 sc__law_right.nd)) (fun s H C cl fp => dts_nil) (fun s H C cl fp => (de_tup (da_cons (de_op opAdd rmAdd (de_op opAdd rmAdd (de_slice rfl (dv 3) do_none (do_some de_int)) (de_tup (da_cons (dv 6) da_nil))) (de_op opMulE rmMulE (de_tup (da_cons de_non da_nil)) (de_op op_sub rmSub (de_cb crLen rmLen T.n_len rfl (da_cons (dv 3) da_nil)) de_int))) (da_cons de_int da_nil)))) (fun _ => rfl)))))
      (dss_cons (ds_for bPass rfl (di_any rfl (dv 5)) (dg_tup (n := 2) rfl rfl (dgs_cons 6 sc__law_right.nd (dgs_cons 7 sc__law_right.nd dgs_nil))) (dss_one (ds_if (dt_not (dt_val (de_call G__law_by_all hr (by omega) bTakes rfl (da_cons (de_weak (dv 2)) (da_cons (dv 6) (da_cons de_non (da_cons (de_tup (da_cons de_str (da_cons (dv 7) da_nil))) da_nil))))))) (dss_one (ds_ret de_bl)) dss_nil)) (fun _ => rfl))
      (dss_cons (ds_for bPass rfl (di_any rfl (de_tup (da_cons (de_op opAdd rmAdd (de_cb (crSum rfl) rmInts T.n_sum rfl (da_cons (dv 3) da_nil)) de_int) (da_cons (de_op op_sub rmSub de_int de_int) (da_cons de_non (da_cons de_bl (da_cons de_str (da_cons (de_tup (da_cons de_int (da_cons de_int da_nil))) (da_cons (de_op op_pow rmPow de_int de_int) da_nil))))))))) (dg_name 6 sc__law_right.nd) (dss_one (ds_if (dt_not (dt_val (de_call G__law_by_all hr (by omega) bTakes rfl (da_cons (de_weak (dv 2)) (da_cons (dv 3) (da_cons (dv 6) (da_cons (de_tup (da_cons de_str (da_cons (dv 6) da_nil))) da_nil))))))) (dss_one (ds_ret de_bl)) dss_nil)) (fun _ => rfl))
      (dss_one (ds_ret (de_and (de_call G__law_by_all hr (by omega) bTakes rfl (da_cons (de_ct (crTupStr rfl) rmTupStr T.n_tuple rfl (da_cons de_str da_nil)) (da_cons (de_op opMulE rmMulE (de_tup (da_cons de_int da_nil)) de_int) (da_cons de_int (da_cons (de_tup (da_cons de_str (da_cons de_non da_nil))) da_nil))))) (de_and (de_call G__law_by_all hr (by omega) bTakes rfl (da_cons (de_tup (da_cons de_str da_nil)) (da_cons (de_tup (da_cons de_int da_nil)) (da_cons de_int (da_cons (de_tup (da_cons de_str (da_cons de_non da_nil))) da_nil))))) (de_one (de_call G__law_by_all hr (by omega) bTakes rfl (da_cons (de_tup (da_cons de_str da_nil)) (da_cons (de_tup (da_cons de_int da_nil)) (da_cons de_int (da_cons (de_tup (da_cons de_str (da_cons de_int da_nil))) da_nil))))))))))))))))))⟩) ?_
  intro ds Q E hl h
  obtain ⟨a, rfl, hW, k⟩ := h
  refine seqI fun N hN => ?_
  simp only [mSeq, bnd, gv, DL.ret, hide, startD, asB, List.foldr_nil, List.foldr_cons, List.map_nil, List.map_cons, List.length_cons, List.length_nil, List.nil_append, List.cons_append, List.getD_cons_zero, List.getD_cons_succ, List.set_cons_zero, List.set_cons_succ, List.replicate_succ, List.replicate_zero, Nat.reduceAdd, Nat.reduceSub, m1, m2, mOrd, mGcd, mLcmD, mNeg, mDiv, mI2, mJ2, mAdd, mSub, mMul, mMulD, mMod, mIx, mTup, mLst, mCall, mLen, mEq, mNe, if_true, if_false, Bool.false_eq_true, reduceIte, ite_ap, at20, at21, at30, at31, at32, true_and, dec_true, mNext, mgName, mgTup, mgCons, mgNil, asEnum, asI, mSl, wipeD, setAll, startC, asPerm, mMulL, unP, mTupP]
  refine ⟨a, 5, rfl, hW, by decide, by decide, fun r r0 r1 => ?_⟩
  refine ⟨a, 2 + r.toNat, ?_, hW, by omega, by omega, fun ns cs m hp hn => hN _ ?_⟩
  · congr 3
    omega
  clear hN N
  have h4 := hp.cl
  have h6 := hp.pe.l
  have h1 := hp.pe.p
  have hbc := hp.bdc
  refine seqI fun N hN => ?_
  simp only [mSeq, bnd, gv, DL.ret, hide, startD, asB, List.foldr_nil, List.foldr_cons, List.map_nil, List.map_cons, List.length_cons, List.length_nil, List.nil_append, List.cons_append, List.getD_cons_zero, List.getD_cons_succ, List.set_cons_zero, List.set_cons_succ, List.replicate_succ, List.replicate_zero, Nat.reduceAdd, Nat.reduceSub, m1, m2, mOrd, mGcd, mLcmD, mNeg, mDiv, mI2, mJ2, mAdd, mSub, mMul, mMulD, mMod, mIx, mTup, mLst, mCall, mLen, mEq, mNe, if_true, if_false, Bool.false_eq_true, reduceIte, ite_ap, at20, at21, at30, at31, at32, true_and, dec_true, mNext, mgName, mgTup, mgCons, mgNil, asEnum, asI, mSl, wipeD, setAll, startC, asPerm, mMulL, unP, mTupP]
  refine hN _ ?_
  clear hN N
  have one_le : 1 ≤ sizeLine := Nat.le_trans (by decide) two_le
  have lots : ∀ n : Nat, n ≤ 1000 → n ≤ sizeLine := fun n h => by rw [sizeLine_eq]; omega
  refine seqI fun N hN => ?_
  simp only [mSeq, bnd, gv, DL.ret, hide, startD, asB, List.foldr_nil, List.foldr_cons, List.map_nil, List.map_cons, List.length_cons, List.length_nil, List.nil_append, List.cons_append, List.getD_cons_zero, List.getD_cons_succ, List.set_cons_zero, List.set_cons_succ, List.replicate_succ, List.replicate_zero, Nat.reduceAdd, Nat.reduceSub, m1, m2, mOrd, mGcd, mLcmD, mNeg, mDiv, mI2, mJ2, mAdd, mSub, mMul, mMulD, mMod, mIx, mTup, mLst, mCall, mLen, mEq, mNe, if_true, if_false, Bool.false_eq_true, reduceIte, ite_ap, at20, at21, at30, at31, at32, true_and, dec_true, mNext, mgName, mgTup, mgCons, mgNil, asEnum, asI, mSl, wipeD, setAll, startC, asPerm, mMulL, unP, mTupP]
  repeat refine ⟨lots _ (by decide), ?_⟩
  refine hN _ ?_
  clear hN N
  refine seqI fun N hN => ?_
  simp only [mSeq, bnd, gv, DL.ret, hide, startD, asB, List.foldr_nil, List.foldr_cons, List.map_nil, List.map_cons, List.length_cons, List.length_nil, List.nil_append, List.cons_append, List.getD_cons_zero, List.getD_cons_succ, List.set_cons_zero, List.set_cons_succ, List.replicate_succ, List.replicate_zero, Nat.reduceAdd, Nat.reduceSub, m1, m2, mOrd, mGcd, mLcmD, mNeg, mDiv, mI2, mJ2, mAdd, mSub, mMul, mMulD, mMod, mIx, mTup, mLst, mCall, mLen, mEq, mNe, if_true, if_false, Bool.false_eq_true, reduceIte, ite_ap, at20, at21, at30, at31, at32, true_and, dec_true, mNext, mgName, mgTup, mgCons, mgNil, asEnum, asI, mSl, wipeD, setAll, startC, asPerm, mMulL, unP, mTupP]
  repeat refine ⟨lots _ (by decide), ?_⟩
  refine forW_ind (fun _ ρ => ∃ o6 o7, ρ = [some (.obj a), some (partsD ns cs m), some (.ptup (ns.map D.str)), some (.tup (cs.map D.int)), some (.int m), some (D.lst [D.tup [D.non, D.non], D.tup [D.tup [], D.non], D.tup [D.lst [D.str "a"], D.non], D.tup [D.str "a", D.non], D.tup [D.int 5, D.non], D.tup [D.tup [D.str "b", D.str "a"], D.int 1], D.tup [D.tup [D.str "a", D.str "a"], D.int 1], D.tup [D.tup [D.str "A"], D.int 0], D.tup [D.tup [D.str "a", D.non], D.int 1], D.tup [D.tup [D.str "even"], D.int 0]]), o6, o7]) _ 0 _ ⟨none, none, rfl⟩ (fun i d ρ κ hie hI hk => ?_) (fun ρ hI => ?_)
  · obtain ⟨o6, o7, rfl⟩ := hI
    have hd : pePairB d = true := List.all_eq_true.mp (show ([D.tup [D.non, D.non], D.tup [D.tup [], D.non], D.tup [D.lst [D.str "a"], D.non], D.tup [D.str "a", D.non], D.tup [D.int 5, D.non],
        D.tup [D.tup [D.str "b", D.str "a"], D.int 1], D.tup [D.tup [D.str "a", D.str "a"], D.int 1], D.tup [D.tup [D.str "A"], D.int 0], D.tup [D.tup [D.str "a", D.non], D.int 1],
        D.tup [D.tup [D.str "even"], D.int 0], D.tup [D.tup (DL.signs "abcdefg"), D.int 6], D.tup [D.tup [D.int 5], D.int 0], D.tup [D.tup [D.str ""], D.int 0], D.tup [D.tup [D.str "abcdefghi"], D.int 0],
        D.tup [D.tup [D.str "a", D.str "yes"], D.int 1], D.tup [D.tup [D.str "a", D.tup [D.str "b"]], D.int 1]] : List D).all pePairB = true by decide +kernel) d (List.mem_of_getElem? hie)
    obtain ⟨p, j, rfl, hw, hj, hok⟩ := pePair_ok hd
    simp only [mSeq, bnd, gv, DL.ret, hide, startD, asB, List.foldr_nil, List.foldr_cons, List.map_nil, List.map_cons, List.length_cons, List.length_nil, List.nil_append, List.cons_append, List.getD_cons_zero, List.getD_cons_succ, List.set_cons_zero, List.set_cons_succ, List.replicate_succ, List.replicate_zero, Nat.reduceAdd, Nat.reduceSub, m1, m2, mOrd, mGcd, mLcmD, mNeg, mDiv, mI2, mJ2, mAdd, mSub, mMul, mMulD, mMod, mIx, mTup, mLst, mCall, mLen, mEq, mNe, if_true, if_false, Bool.false_eq_true, reduceIte, ite_ap, at20, at21, at30, at31, at32, true_and, dec_true, mNext, mgName, mgTup, mgCons, mgNil, asEnum, asI, mSl, wipeD, setAll, startC, asPerm, mMulL, unP, mTupP]
    refine ⟨two_le, by_all (puOut_pe hw).symm hok okC_non rfl (PTa_pair ?_) ?_⟩
    · rcases hj with rfl | ⟨_, rfl⟩ <;> trivial
    · exact hk _ ⟨_, _, rfl⟩
  obtain ⟨o6, o7, rfl⟩ := hI
  refine hN _ ?_
  clear hN N
  refine seqI fun N hN => ?_
  simp only [mSeq, bnd, gv, DL.ret, hide, startD, asB, List.foldr_nil, List.foldr_cons, List.map_nil, List.map_cons, List.length_cons, List.length_nil, List.nil_append, List.cons_append, List.getD_cons_zero, List.getD_cons_succ, List.set_cons_zero, List.set_cons_succ, List.replicate_succ, List.replicate_zero, Nat.reduceAdd, Nat.reduceSub, m1, m2, mOrd, mGcd, mLcmD, mNeg, mDiv, mI2, mJ2, mAdd, mSub, mMul, mMulD, mMod, mIx, mTup, mLst, mCall, mLen, mEq, mNe, if_true, if_false, Bool.false_eq_true, reduceIte, ite_ap, at20, at21, at30, at31, at32, true_and, dec_true, mNext, mgName, mgTup, mgCons, mgNil, asEnum, asI, mSl, wipeD, setAll, startC, asPerm, mMulL, unP, mTupP]
  refine ⟨two_le, ?_⟩
  simp only [mLstOf]
  have hcm : (cs.map D.int).length ≤ 6 := by rw [List.length_map]; omega
  repeat (first | refine ⟨lots _ (by decide), ?_⟩ | refine ⟨lots _ (by omega), ?_⟩)
  refine hN _ ?_
  clear hN N
  refine seqI fun N hN => ?_
  simp only [mSeq, bnd, gv, DL.ret, hide, startD, asB, List.foldr_nil, List.foldr_cons, List.map_nil, List.map_cons, List.length_cons, List.length_nil, List.nil_append, List.cons_append, List.getD_cons_zero, List.getD_cons_succ, List.set_cons_zero, List.set_cons_succ, List.replicate_succ, List.replicate_zero, Nat.reduceAdd, Nat.reduceSub, m1, m2, mOrd, mGcd, mLcmD, mNeg, mDiv, mI2, mJ2, mAdd, mSub, mMul, mMulD, mMod, mIx, mTup, mLst, mCall, mLen, mEq, mNe, if_true, if_false, Bool.false_eq_true, reduceIte, ite_ap, at20, at21, at30, at31, at32, true_and, dec_true, mNext, mgName, mgTup, mgCons, mgNil, asEnum, asI, mSl, wipeD, setAll, startC, asPerm, mMulL, unP, mTupP, asItems, mLc]
  obtain ⟨c0, cr, hcs, hcr⟩ : ∃ (c0 : Int) (cr : List Int), cs = c0 :: cr ∧ 1 ≤ cr.length := by
    cases cs with
    | nil => simp only [List.length_nil] at h4; omega
    | cons c0 cr => exact ⟨c0, cr, rfl, by simp only [List.length_cons] at h4; omega⟩
  have hc0 := hp.c c0 (by rw [hcs]; exact List.mem_cons_self)
  have hcl2 : cs.length = cr.length + 1 := by rw [hcs]; rfl
  have ecut : DL.cutD (cs.map D.int) none (some 1) = [.int c0] := by
    have e1 : DL.cutD (cs.map D.int) none (some 1) = (cs.map D.int).take 1 := cut_to (xs := cs.map D.int) (i := 1) (by rw [List.length_map]; omega)
    rw [e1, hcs]
    rfl
  have erep : (List.replicate (((cs.map D.int).length : Int) - 2).toNat [D.non]).flatten = List.replicate (cs.length - 2) D.non := by
    rw [List.flatten_replicate_singleton, List.length_map]
    congr 1
    omega
  have hcut1 : (DL.cutD (cs.map D.int) (some 1) none).length = cs.length - 1 := by
    unfold DL.cutD
    have e1 : HT.sIx (cs.map D.int).length 0 (some 1) = min 1 (cs.map D.int).length := HT.sIx_nat _ _ 1
    rw [e1, HT.sIx_none, List.length_take, List.length_drop, List.length_map]
    omega
  have cut_in : ∀ {x : D}, x ∈ DL.cutD (cs.map D.int) (some 1) none → x ∈ cs.map D.int := fun hx => by
    unfold DL.cutD at hx
    exact List.mem_of_mem_drop (List.mem_of_mem_take hx)
  refine ⟨two_le, lots _ (by decide), lots _ (by decide), ?_⟩
  refine lcW_map (f := fun d => .tup [.tup (.int c0 :: d :: List.replicate (cs.length - 2) .non), .int 1]) _ _ (fun d hd κ hk => ?_) ?_
  · simp only [mSeq, bnd, gv, DL.ret, hide, startD, asB, List.foldr_nil, List.foldr_cons, List.map_nil, List.map_cons, List.length_cons, List.length_nil, List.nil_append, List.cons_append, List.getD_cons_zero, List.getD_cons_succ, List.set_cons_zero, List.set_cons_succ, List.replicate_succ, List.replicate_zero, Nat.reduceAdd, Nat.reduceSub, m1, m2, mOrd, mGcd, mLcmD, mNeg, mDiv, mI2, mJ2, mAdd, mSub, mMul, mMulD, mMod, mIx, mTup, mLst, mCall, mLen, mEq, mNe, if_true, if_false, Bool.false_eq_true, reduceIte, ite_ap, at20, at21, at30, at31, at32, true_and, dec_true, mNext, mgName, mgTup, mgCons, mgNil, asEnum, asI, mSl, wipeD, setAll, startC, asPerm, mMulL, unP, mTupP, mMulE]
    rw [ecut, erep]
    refine ⟨one_le, lots _ (by simp), one_le, by simp, by rw [List.length_map]; omega, by rw [List.length_map]; omega, by decide, lots _ (by simp; omega), two_le, ?_⟩
    exact hk
  refine ⟨lots _ (by simp), hN _ ?_⟩
  clear hN N
  rw [List.nil_append]
  have hlen : lenT (.tup (ns.map D.str)) = ns.length := (pe_right hp.pe).2.2
  have hpw := (pe_right hp.pe).1
  have hpo := (pe_right hp.pe).2.1
  have tyI : ∀ x ∈ cs.map D.int, (tyD x).isSome = true := fun x hx => by
    obtain ⟨c, _, rfl⟩ := List.mem_map.mp hx
    rfl
  have hI : ∀ d ∈ (D.tup [D.non, D.non] :: D.tup [D.lst (List.map D.int cs), D.non] :: D.tup [D.tup (List.map D.int cs ++ [D.int 0]), D.non] :: D.tup [D.tup (DL.cutD (List.map D.int cs) (some 1) none), D.non] :: D.tup [D.int 5, D.non] ::
      List.map (fun d => D.tup [D.tup (D.int c0 :: d :: List.replicate (cs.length - 2) D.non), D.int 1]) [D.int 100, D.int (0 - 1), D.bl true, D.str "1", D.tup [D.int 1, D.int 1], D.non]),
      ∃ c i, d = .tup [c, i] ∧ clWrong ns.length c = some i ∧ OkC c ∧ (i = .non ∨ ∃ k, i = .int k) := fun d hd => by
    rcases List.mem_cons.mp hd with rfl | hd
    · exact ⟨_, _, rfl, rfl, okC_non, .inl rfl⟩
    rcases List.mem_cons.mp hd with rfl | hd
    · exact ⟨_, _, rfl, rfl, ⟨rfl, fun _ e => D.noConfusion e, fun _ e => D.noConfusion e⟩, .inl rfl⟩
    rcases List.mem_cons.mp hd with rfl | hd
    · refine ⟨_, _, rfl, cl_len (by simp; omega), okC_tup (by simp; omega) fun x hx => ?_, .inl rfl⟩
      rcases List.mem_append.mp hx with hx | hx
      · exact tyI x hx
      · rw [List.mem_singleton.mp hx]
        rfl
    rcases List.mem_cons.mp hd with rfl | hd
    · refine ⟨_, _, rfl, cl_len (by rw [hcut1]; omega), okC_tup (by rw [hcut1]; omega) fun x hx => tyI x (cut_in hx), .inl rfl⟩
    rcases List.mem_cons.mp hd with rfl | hd
    · exact ⟨_, _, rfl, rfl, ⟨rfl, fun _ e => D.noConfusion e, fun _ e => D.noConfusion e⟩, .inl rfl⟩
    obtain ⟨z, hz, rfl⟩ := List.mem_map.mp hd
    have hb : betB 0 99 z = false ∧ (tyD z).isSome = true := by
      simp only [List.mem_cons, List.not_mem_nil, or_false] at hz
      rcases hz with rfl | rfl | rfl | rfl | rfl | rfl <;> exact ⟨by decide, rfl⟩
    refine ⟨_, _, rfl, cl_one hc0 hb.1 (by rw [List.length_replicate]; omega), okC_tup (by simp; omega) fun x hx => ?_, .inr ⟨1, rfl⟩⟩
    rcases List.mem_cons.mp hx with rfl | hx
    · rfl
    rcases List.mem_cons.mp hx with rfl | hx
    · exact hb.2
    rw [List.eq_of_mem_replicate hx]
    rfl
  refine seqI fun N hN => ?_
  refine forI fun F hF => ?_
  simp only [mSeq, bnd, gv, DL.ret, hide, startD, asB, List.foldr_nil, List.foldr_cons, List.map_nil, List.map_cons, List.length_cons, List.length_nil, List.nil_append, List.cons_append, List.getD_cons_zero, List.getD_cons_succ, List.set_cons_zero, List.set_cons_succ, List.replicate_succ, List.replicate_zero, Nat.reduceAdd, Nat.reduceSub, m1, m2, mOrd, mGcd, mLcmD, mNeg, mDiv, mI2, mJ2, mAdd, mSub, mMul, mMulD, mMod, mIx, mTup, mLst, mCall, mLen, mEq, mNe, if_true, if_false, Bool.false_eq_true, reduceIte, ite_ap, at20, at21, at30, at31, at32, true_and, dec_true, mNext, mgName, mgTup, mgCons, mgNil, asEnum, asI, mSl, wipeD, setAll, startC, asPerm, mMulL, unP, mTupP, asItems]
  refine hF _ (forW_ind (fun _ ρ => ∃ o5 o6 o7, ρ = [some (.obj a), some (partsD ns cs m), some (.ptup (ns.map D.str)), some (.tup (cs.map D.int)), some (.int m), o5, o6, o7]) _ 0 _ ⟨_, _, _, rfl⟩ (fun i d ρ κ hie hρ hk => ?_) (fun ρ hρ => ?_))
  · obtain ⟨o5, o6, o7, rfl⟩ := hρ
    obtain ⟨c, j, rfl, hw, hok, hj⟩ := hI d (show d ∈ _ from List.mem_of_getElem? hie)
    simp only [mSeq, bnd, gv, DL.ret, hide, startD, asB, List.foldr_nil, List.foldr_cons, List.map_nil, List.map_cons, List.length_cons, List.length_nil, List.nil_append, List.cons_append, List.getD_cons_zero, List.getD_cons_succ, List.set_cons_zero, List.set_cons_succ, List.replicate_succ, List.replicate_zero, Nat.reduceAdd, Nat.reduceSub, m1, m2, mOrd, mGcd, mLcmD, mNeg, mDiv, mI2, mJ2, mAdd, mSub, mMul, mMulD, mMod, mIx, mTup, mLst, mCall, mLen, mEq, mNe, if_true, if_false, Bool.false_eq_true, reduceIte, ite_ap, at20, at21, at30, at31, at32, true_and, dec_true, mNext, mgName, mgTup, mgCons, mgNil, asEnum, asI, mSl, wipeD, setAll, startC, asPerm, mMulL, unP, mTupP]
    refine ⟨two_le, by_all (puOut_cl hpw (by rw [hlen]; exact hw)).symm hpo hok rfl (PTa_pair ?_) ?_⟩
    · rcases hj with rfl | ⟨_, rfl⟩ <;> trivial
    · exact hk _ ⟨_, _, _, rfl⟩
  obtain ⟨o5, o6, o7, rfl⟩ := hρ
  refine hN _ ?_
  clear hF F hN N
  refine seqI fun N hN => ?_
  refine forI fun F hF => ?_
  simp only [mSeq, bnd, gv, DL.ret, hide, startD, asB, List.foldr_nil, List.foldr_cons, List.map_nil, List.map_cons, List.length_cons, List.length_nil, List.nil_append, List.cons_append, List.getD_cons_zero, List.getD_cons_succ, List.set_cons_zero, List.set_cons_succ, List.replicate_succ, List.replicate_zero, Nat.reduceAdd, Nat.reduceSub, m1, m2, mOrd, mGcd, mLcmD, mNeg, mDiv, mI2, mJ2, mAdd, mSub, mMul, mMulD, mMod, mIx, mTup, mLst, mCall, mLen, mEq, mNe, if_true, if_false, Bool.false_eq_true, reduceIte, ite_ap, at20, at21, at30, at31, at32, true_and, dec_true, mNext, mgName, mgTup, mgCons, mgNil, asEnum, asI, mSl, wipeD, setAll, startC, asPerm, mMulL, unP, mTupP, asItems, mInts_tup]
  intro z hz
  subst hz
  refine ⟨two_le, ?_⟩
  have hI8 : ∀ d ∈ [D.int (cs.sum + 1), D.int (0 - 1), D.non, D.bl true, D.str "0", D.tup [D.int 0, D.int 1], D.int (10 ^ (40 : Int).toNat)], betB 0 cs.sum d = false ∧ (tyD d).isSome = true ∧ PTa 1 d := fun d hd => by
    simp only [List.mem_cons, List.not_mem_nil, or_false] at hd
    have hs6 : cs.sum ≤ 600 := by
      have := sum_bound hp.c
      omega
    rcases hd with rfl | rfl | rfl | rfl | rfl | rfl | rfl
    · exact ⟨decide_eq_false (by omega), rfl, trivial⟩
    · exact ⟨show decide (0 ≤ (0 - 1 : Int) ∧ (0 - 1 : Int) ≤ cs.sum) = false from decide_eq_false fun h => absurd h.1 (by decide), rfl, trivial⟩
    · exact ⟨rfl, rfl, trivial⟩
    · exact ⟨rfl, rfl, trivial⟩
    · exact ⟨rfl, rfl, trivial⟩
    · refine ⟨rfl, rfl, ⟨by simp, fun x hx => ?_⟩⟩
      simp only [List.mem_cons, List.not_mem_nil, or_false] at hx
      rcases hx with rfl | rfl <;> trivial
    · have e : (601 : Int) ≤ 10 ^ (40 : Int).toNat := by decide
      exact ⟨decide_eq_false (by omega), rfl, trivial⟩
  have hcw : clWrong ns.length (.tup (cs.map D.int)) = none := cl_right h4 hp.c
  refine ⟨⟨by decide, by decide, by decide⟩, lots _ (by decide), ?_⟩
  refine hF _ (forW_ind (fun _ ρ => ∃ o5 o6 o7, ρ = [some (.obj a), some (partsD ns cs m), some (.ptup (ns.map D.str)), some (.tup (cs.map D.int)), some (.int m), o5, o6, o7]) _ 0 _ ⟨_, _, _, rfl⟩ (fun i d ρ κ hie hρ hk => ?_) (fun ρ hρ => ?_))
  · obtain ⟨o5, o6, o7, rfl⟩ := hρ
    obtain ⟨hb, ht, hpt⟩ := hI8 d (show d ∈ _ from List.mem_of_getElem? hie)
    simp only [mSeq, bnd, gv, DL.ret, hide, startD, asB, List.foldr_nil, List.foldr_cons, List.map_nil, List.map_cons, List.length_cons, List.length_nil, List.nil_append, List.cons_append, List.getD_cons_zero, List.getD_cons_succ, List.set_cons_zero, List.set_cons_succ, List.replicate_succ, List.replicate_zero, Nat.reduceAdd, Nat.reduceSub, m1, m2, mOrd, mGcd, mLcmD, mNeg, mDiv, mI2, mJ2, mAdd, mSub, mMul, mMulD, mMod, mIx, mTup, mLst, mCall, mLen, mEq, mNe, if_true, if_false, Bool.false_eq_true, reduceIte, ite_ap, at20, at21, at30, at31, at32, true_and, dec_true, mNext, mgName, mgTup, mgCons, mgNil, asEnum, asI, mSl, wipeD, setAll, startC, asPerm, mMulL, unP, mTupP]
    refine ⟨two_le, by_all (puOut_no hpw (by rw [hlen]; exact hcw) (by rw [sumT_ints]; exact hb)).symm hpo (okC_tup (by rw [List.length_map]; omega) tyI) ht (PTa_pair hpt) ?_⟩
    exact hk _ ⟨_, _, _, rfl⟩
  obtain ⟨o5, o6, o7, rfl⟩ := hρ
  refine hN _ ?_
  clear hF F hN N
  simp only [mSeq, bnd, gv, DL.ret, hide, startD, asB, List.foldr_nil, List.foldr_cons, List.map_nil, List.map_cons, List.length_cons, List.length_nil, List.nil_append, List.cons_append, List.getD_cons_zero, List.getD_cons_succ, List.set_cons_zero, List.set_cons_succ, List.replicate_succ, List.replicate_zero, Nat.reduceAdd, Nat.reduceSub, m1, m2, mOrd, mGcd, mLcmD, mNeg, mDiv, mI2, mJ2, mAdd, mSub, mMul, mMulD, mMod, mIx, mTup, mLst, mCall, mLen, mEq, mNe, if_true, if_false, Bool.false_eq_true, reduceIte, ite_ap, at20, at21, at30, at31, at32, true_and, dec_true, mNext, mgName, mgTup, mgCons, mgNil, asEnum, asI, mSl, wipeD, setAll, startC, asPerm, mMulL, unP, mTupP, mMulE]
  simp only [mTupStr]
  have f1 : peWrong (.tup (DL.signs "abcdef")) = none := Option.isNone_iff_eq_none.mp (by decide +kernel)
  have f2 : okPB (.tup (DL.signs "abcdef")) = true := by decide +kernel
  have f3 : lenT (.tup (DL.signs "abcdef")) = 6 := by decide +kernel
  have a1 : peWrong (.tup [.str "a"]) = none := Option.isNone_iff_eq_none.mp (by decide +kernel)
  have a2 : okPB (.tup [.str "a"]) = true := by decide +kernel
  have a3 : lenT (.tup [.str "a"]) = 1 := rfl
  have e6 : (List.replicate (Int.toNat 6) [D.int 99]).flatten = ([99, 99, 99, 99, 99, 99] : List Int).map D.int := rfl
  have okI : ∀ cs : List Int, cs.length ≤ 1000 → OkC (.tup (cs.map D.int)) := fun cs h => okC_tup (by rw [List.length_map]; exact h) fun x hx => by
    obtain ⟨c, _, rfl⟩ := List.mem_map.mp hx
    rfl
  rw [e6]
  refine ⟨lots _ (by decide +kernel), one_le, by simp, by decide, by decide, by decide, two_le, ?_⟩
  refine by_all (puOut_let f1 (by rw [f3]; exact cl_right rfl (by decide)) (by rw [sumT_ints]; rfl)).symm (okPB_ok f2) (okI _ (by decide)) rfl (PTa_pair trivial) ?_
  simp only [mSeq, bnd, gv, DL.ret, hide, startD, asB, List.foldr_nil, List.foldr_cons, List.map_nil, List.map_cons, List.length_cons, List.length_nil, List.nil_append, List.cons_append, List.getD_cons_zero, List.getD_cons_succ, List.set_cons_zero, List.set_cons_succ, List.replicate_succ, List.replicate_zero, Nat.reduceAdd, Nat.reduceSub, m1, m2, mOrd, mGcd, mLcmD, mNeg, mDiv, mI2, mJ2, mAdd, mSub, mMul, mMulD, mMod, mIx, mTup, mLst, mCall, mLen, mEq, mNe, if_true, if_false, Bool.false_eq_true, reduceIte, ite_ap, at20, at21, at30, at31, at32, true_and, dec_true, mNext, mgName, mgTup, mgCons, mgNil, asEnum, asI, mSl, wipeD, setAll, startC, asPerm, mMulL, unP, mTupP]
  refine ⟨one_le, one_le, two_le, ?_⟩
  refine by_all (puOut_let a1 (by rw [a3]; exact cl_right (cs := [0]) rfl (by decide)) (by rfl)).symm (okPB_ok a2) (okI [0] (by decide)) rfl (PTa_pair trivial) ?_
  simp only [mSeq, bnd, gv, DL.ret, hide, startD, asB, List.foldr_nil, List.foldr_cons, List.map_nil, List.map_cons, List.length_cons, List.length_nil, List.nil_append, List.cons_append, List.getD_cons_zero, List.getD_cons_succ, List.set_cons_zero, List.set_cons_succ, List.replicate_succ, List.replicate_zero, Nat.reduceAdd, Nat.reduceSub, m1, m2, mOrd, mGcd, mLcmD, mNeg, mDiv, mI2, mJ2, mAdd, mSub, mMul, mMulD, mMod, mIx, mTup, mLst, mCall, mLen, mEq, mNe, if_true, if_false, Bool.false_eq_true, reduceIte, ite_ap, at20, at21, at30, at31, at32, true_and, dec_true, mNext, mgName, mgTup, mgCons, mgNil, asEnum, asI, mSl, wipeD, setAll, startC, asPerm, mMulL, unP, mTupP]
  refine ⟨one_le, one_le, two_le, ?_⟩
  exact by_all (puOut_no a1 (by rw [a3]; exact cl_right (cs := [0]) rfl (by decide)) (by rfl)).symm (okPB_ok a2) (okI [0] (by decide)) rfl (PTa_pair trivial) k
theorem ok__law_right (T : Txt P w K mg base C) (g : GG) (hg : GOk K C g) : GF P w K mg base g "_law_right" 1 16 (sp_right C.Wl) := by
  obtain ⟨f, fd, F, hm⟩ := T.F__law_right
  exact gf_of F hm (F.binds (ps := ["well"]) fun _ _ _ _ _ _ us hl => match us, hl with | [_], _ => rfl) (okf__law_right T g hg F)

end
end T1

namespace T1
open PySem PySem.Spec PyProof.Rows L2 DL LamX NdefX
section
variable {P : Program} {w : World} {K : PySem.W.Frag} {mg : Str → Option Value} {base : Heap} {C : Cons}
abbrev s_law : Stmt := top 38
theorem sc_law : FnScope ["script", "lap"] ["script"] (defScope s_law) := ⟨rfl, rfl, rfl, by decide +kernel, rfl, by decide +kernel, by decide +kernel⟩
structure WIx (K : PySem.W.Frag) where
  g : GG
  a : Addr
  ns : List Int
  hS : ScrJ g K a ns
theorem gok {K : PySem.W.Frag} {C : Cons} (A : List Addr) : GOk K (C.at (· ∈ A)) (wellG C.L.tabs A) := ⟨fun H j => j.2, fun p hp => .inr ⟨p, hp, rfl⟩, fun p hp H H1 j e t => wellG_j hp j e t, fun H a φ j h => wellG_x j h, wellG_w⟩
theorem fn_law (T : ∀ Wl, Txt P w K mg base (C.at Wl)) {f : Addr} {fd : FuncData} (F : Fun K "law" "law" s_law f fd) : FnOk P w K mg base (L2.CX P w) 17 f fd ["script"] (fun vs H Q E => ∃ (a : Addr) (ns : List Int), vs = [.ref a] ∧ ns.length ≤ 63 ∧ SqL K H a (ns.map V.int) ∧ (∀ p ∈ C.L.tabs, H p.1 = some (.tbl #[])) ∧ ∀ H', Q (.bl true) H') := by
  have T0 := T fun _ => False
  obtain ⟨fW, fdW, FW, hmW⟩ := T0.F__law_well
  obtain ⟨fR, fdR, FR, hmR⟩ := T0.F__law_right
  have GW : FnOk P w K mg base (L2.CX P w) 1 fW fdW ["script", "lap"] (fun vs H Q E => ∃ i : WIx K, spOf K i.g 2 (sp_well i.a i.ns) vs H Q E) := fn_any fun i => okf__law_well T0 i.g i.hS FW
  have GR : FnOk P w K mg base (L2.CX P w) 16 fR fdR ["well"] (fun vs H Q E => ∃ A : List Addr, spOf K (wellG C.L.tabs A) 1 (sp_right (· ∈ A)) vs H Q E) := fn_any fun A => okf__law_right (T (· ∈ A)) _ (gok A) FR
  refine F.okX sc_law (fun vs H Q E h => ?_) fun cdv A outer s H vs Q E hr hsp => ⟨tLaw4 K _ _ 2,
    pss_one (ps_ret (pe_callB (cr_all rfl) rfl T0.n_all (by decide +kernel) (pa_cons (pe_lc (own := [("lap", 1)]) (g := gName 1) (tt := tYes) rfl sc_law.nd (pi_range1 rfl T0.n_range (pa_cons (pe_callB (call_max2 rfl) rfl T0.n_max (by decide +kernel) (pa_cons pe_int (pa_cons (pe_callB (call_min2 rfl) rfl T0.n_min (by decide +kernel) (pa_cons (pe_callB crLen rfl T0.n_len (by decide +kernel) (pa_cons (pv 0) pa_nil)) (pa_cons pe_int pa_nil))) pa_nil))) pa_nil))
        (blk_of (N := ["script", "lap"]) (sc := defScope s_law) (by decide +kernel)) (fun _ _ _ _ _ => pg_name (i := 1) sc_law.nd rfl (Or.inl rfl)) (fun _ _ _ _ _ => pts_nil)
        (fun _ _ _ _ _ => pe_call GR hr rfl hmR FR.kp (FR.binds (ps := ["well"]) fun _ _ _ _ _ _ us hl => match us, hl with | [_], _ => rfl) .nil passL (pa_cons (pe_call GW (hr.mono (by decide)) rfl hmW FW.kp (FW.binds (ps := ["script", "lap"]) fun _ _ _ _ _ _ us hl => match us, hl with | [_, _], _ => rfl) .nil passL (pa_cons (pv 0) (pa_cons (pv 1) pa_nil))) pa_nil))) pa_nil))), ?_⟩
  · obtain ⟨a, ns, rfl, _⟩ := h
    rfl
  · obtain ⟨a, ns, rfl, hl, hS, hT, hQ⟩ := hsp
    exact law4_read (T := C.L.tabs) hS hl (by decide) (fun vs H Q E h => ⟨⟨_, a, ns, scrG_s hS⟩, h⟩) hT (fun A vs H Q E h => ⟨A, h⟩) hQ


end
end T1

namespace T1
open PySem PySem.Spec PyProof.Rows L2 DL LamX NdefX
section
variable {P : Program} {w : World} {K : PySem.W.Frag} {mg : Str → Option Value} {base : Heap} {C : Cons}
theorem eT_InvalidPeople : ErrT ⟨"InvalidPeople", "index", inClass (top 3) 0⟩ := ⟨rfl, rfl, rfl, rfl, rfl, by decide +kernel, by decide +kernel, rfl, rfl, by decide, by decide, by decide, ⟨_, rfl, rfl⟩, fun _ _ _ _ _ _ _ us hl => match us, hl with | [_, _], _ => rfl, ⟨_, _, _, _, _, _, _, _, _, _, rfl, fun _ _ _ _ => rfl, fun _ _ _ _ => rfl, fun _ _ _ _ => rfl, fun _ _ _ _ => rfl⟩⟩
theorem eT_InvalidClaims : ErrT ⟨"InvalidClaims", "index", inClass (top 4) 0⟩ := ⟨rfl, rfl, rfl, rfl, rfl, by decide +kernel, by decide +kernel, rfl, rfl, by decide, by decide, by decide, ⟨_, rfl, rfl⟩, fun _ _ _ _ _ _ _ us hl => match us, hl with | [_, _], _ => rfl, ⟨_, _, _, _, _, _, _, _, _, _, rfl, fun _ _ _ _ => rfl, fun _ _ _ _ => rfl, fun _ _ _ _ => rfl, fun _ _ _ _ => rfl⟩⟩
theorem eT_InvalidNumber : ErrT ⟨"InvalidNumber", "given", inClass (top 2) 0⟩ := ⟨rfl, rfl, rfl, rfl, rfl, by decide +kernel, by decide +kernel, rfl, rfl, by decide, by decide, by decide, ⟨_, rfl, rfl⟩, fun _ _ _ _ _ _ _ us hl => match us, hl with | [_, _], _ => rfl, ⟨_, _, _, _, _, _, _, _, _, _, rfl, fun _ _ _ _ => rfl, fun _ _ _ _ => rfl, fun _ _ _ _ => rfl, fun _ _ _ _ => rfl⟩⟩
theorem glo_in {x : Str} (h : x ∈ gls) : He.Fa.glo x ∈ fas := List.mem_append_right _ (List.mem_append_left _ (List.mem_map.mpr ⟨x, h, rfl⟩))
theorem free_in {x : Str} (h : x ∈ frs) : He.Fa.free x ∈ fas := List.mem_append_right _ (List.mem_append_right _ (List.mem_map.mpr ⟨x, h, rfl⟩))
abbrev Says (w : World) (h : Heap) (K : PySem.W.Frag) : Prop := SaysZ fas fn tss tfs exs gss ers w h K
section
variable {w : World} {h : Heap} {K : PySem.W.Frag} {mg : Str → Option Value}
theorem df_ok (c : Says w h K) (i : Nat) {x : Str} {st : Stmt} (e : fn[i]? = some (dD x st)) : ∃ fd, Fun K x x st (He.ga K x) fd := by
  obtain ⟨fd, F⟩ := c.x.t.d.def_ i e
  exact ⟨fd, funD_fun F⟩
theorem dm_ok (c : Says w h K) (i : Nat) {C x : Str} {st : Stmt} (e : fn[i]? = some (dM C x st)) : ∃ fd, Fun K x (C ++ "." ++ x) st (He.ma K (He.ga K C) x) fd := by
  obtain ⟨fd, F⟩ := c.x.t.d.def_ i e
  exact ⟨fd, funD_fun F⟩
def consOf (K : PySem.W.Frag) (Wl : Addr → Prop) : Cons := { ClaimError := He.ga K "ClaimError", InvalidPeople := He.ga K "InvalidPeople", InvalidClaims := He.ga K "InvalidClaims", InvalidNumber := He.ga K "InvalidNumber", Purse := He.ga K "Purse", f_Purse_init := He.ma K (He.ga K "Purse") "__init__", AWARDS := He.ga K "AWARDS", L := { c_wrong_in_people := (He.cT K ("wrong_in_people", none)).1, p_wrong_in_people := (He.cT K ("wrong_in_people", none)).2, c_wrong_in_claims := (He.cT K ("wrong_in_claims", none)).1, p_wrong_in_claims := (He.cT K ("wrong_in_claims", none)).2, c_wrong_in_all := (He.cT K ("wrong_in_all", none)).1, p_wrong_in_all := (He.cT K ("wrong_in_all", none)).2, c__law_by_all := (He.cT K ("_law_by_all", none)).1, p__law_by_all := (He.cT K ("_law_by_all", none)).2 }, Wl := Wl }
theorem code_ok {x : Str} {st : Stmt} {f : Addr} {fd : FuncData} (F : Fun K x x st f fd) (e : f = He.ga K x) : fd.code = .ref (He.codeOf K (x, none)) := by
  obtain ⟨oc, od, kV, doc, pm, an, cdv, ct, osl, rfl, lk, hcd⟩ := F.ex
  obtain ⟨c, hc⟩ := He.codeIn_ref hcd
  subst e
  have hc2 : (PySem.W.fnOf x x (defArgs st) (defBody st) (defScope st) .none kV doc pm an cdv ct).code = .ref c := hc
  rw [He.codeOf_eq (p := (x, none)) lk hc2]
  exact hc2
theorem fun_one {x y : Str} {st : Stmt} {f : Addr} {fd : FuncData} (F : Fun K x x st f fd) (hb : ∀ (kV doc pm : Value) (an : Option Addr) (cdv ct : Value) (us : List Value), us.length = 1 → bindArgs (PySem.W.fnOf x x (defArgs st) (defBody st) (defScope st) .none kV doc pm an cdv ct) ⟨us, []⟩ = pure ([y].zip us)) (s : Shared) (u : Value) : BindsTo s fd ⟨[u], []⟩ [(y, u)] := by
  obtain ⟨oc, od, kV, doc, pm, an, cdv, ct, osl, rfl, lk, hcd⟩ := F.ex
  exact .of_eq (hb kV doc pm an cdv ct [u] rfl)
theorem same_ref {a b : Addr} (h : (some (Value.ref a) : Option Value) = some (.ref b)) : a = b := by
  cases h
  rfl
theorem txt_ok {base : Heap} {P : Program} (X : K.In base) (G : base.Ns mainGlobals mg) (c : Says w h K) (tb : ∀ p ∈ tfs, TabB base mg (He.cT K p).1 (He.cT K p).2) (Wl : Addr → Prop) (pf : ((P.main.file : Str) == errFile) = true) (pt : (P.main.scope.names.lookup ("super" : Str)).isSome = false) : Txt P w K mg base (consOf K Wl) := by
  have glo : ∀ x, x ∈ gls → mg x = some (.ref (He.ga K x)) := fun x hx => He.glo_ok X G (c.x.t.d.facts (glo_in hx))
  have fre : ∀ x, x ∈ frs → mg x = none := fun x hx => He.free_ok X G (c.x.t.d.facts (free_in hx))
  obtain ⟨x0, e⟩ := He.ba c.x.more
  obtain ⟨x1, x2⟩ := He.ba x0
  obtain ⟨x2, x3⟩ := He.ba x2
  obtain ⟨e1, e⟩ := He.ba e
  obtain ⟨e2, e⟩ := He.ba e
  obtain ⟨e3, e⟩ := He.ba e
  obtain ⟨e4, e⟩ := He.ba e
  obtain ⟨e5, e⟩ := He.ba e
  obtain ⟨e6, e7⟩ := He.ba e
  have cs := csfB_ok e3
  have con : ∀ (i : Nat) (x : Str) (d : D), consts[i]? = some (x, d) → GK K mg x d := fun i x d hi => gkB_ok X G (List.all_eq_true.mp e1 _ (List.mem_of_getElem? hi))
  have bf : ∀ (i : Nat) (x : Str) (v : Value), bfs[i]? = some (x, v) → mg x = some v := fun i x v hi => bvB_ok X G (List.all_eq_true.mp e2 _ (List.mem_of_getElem? hi))
  have dis : ∀ p ∈ tfs, ∀ q ∈ tfs, p ≠ q → (He.cT K p).2 ≠ (He.cT K q).2 := fun p hp q hq n e => by
    have z := List.all_eq_true.mp (List.all_eq_true.mp e7 p hp) q hq
    simp [n, e] at z
  exact {
    c_ClaimError := glo _ (by decide +kernel),
    et := errTabB_ok x2,
    c_InvalidPeople := glo _ (by decide +kernel),
    ne_InvalidPeople_InvalidClaims := by have z : (!(He.ga K "InvalidPeople" == He.ga K "InvalidClaims")) = true := List.all_eq_true.mp x3 (He.ga K "InvalidPeople", He.ga K "InvalidClaims") (by simp); exact (Bool.not_eq_true' _).mp z,
    ne_InvalidPeople_InvalidNumber := by have z : (!(He.ga K "InvalidPeople" == He.ga K "InvalidNumber")) = true := List.all_eq_true.mp x3 (He.ga K "InvalidPeople", He.ga K "InvalidNumber") (by simp); exact (Bool.not_eq_true' _).mp z,
    X_InvalidPeople := gerr_of (d := ⟨"InvalidPeople", "index", inClass (top 3) 0⟩) eT_InvalidPeople (List.all_eq_true.mp x1 _ (by simp [ers])) (c.one (i := 0) rfl) (glo _ (by decide +kernel)) pf (fre "super" (by decide +kernel)) pt,
    c_InvalidClaims := glo _ (by decide +kernel),
    ne_InvalidClaims_InvalidPeople := by have z : (!(He.ga K "InvalidClaims" == He.ga K "InvalidPeople")) = true := List.all_eq_true.mp x3 (He.ga K "InvalidClaims", He.ga K "InvalidPeople") (by simp); exact (Bool.not_eq_true' _).mp z,
    ne_InvalidClaims_InvalidNumber := by have z : (!(He.ga K "InvalidClaims" == He.ga K "InvalidNumber")) = true := List.all_eq_true.mp x3 (He.ga K "InvalidClaims", He.ga K "InvalidNumber") (by simp); exact (Bool.not_eq_true' _).mp z,
    X_InvalidClaims := gerr_of (d := ⟨"InvalidClaims", "index", inClass (top 4) 0⟩) eT_InvalidClaims (List.all_eq_true.mp x1 _ (by simp [ers])) (c.one (i := 1) rfl) (glo _ (by decide +kernel)) pf (fre "super" (by decide +kernel)) pt,
    c_InvalidNumber := glo _ (by decide +kernel),
    ne_InvalidNumber_InvalidPeople := by have z : (!(He.ga K "InvalidNumber" == He.ga K "InvalidPeople")) = true := List.all_eq_true.mp x3 (He.ga K "InvalidNumber", He.ga K "InvalidPeople") (by simp); exact (Bool.not_eq_true' _).mp z,
    ne_InvalidNumber_InvalidClaims := by have z : (!(He.ga K "InvalidNumber" == He.ga K "InvalidClaims")) = true := List.all_eq_true.mp x3 (He.ga K "InvalidNumber", He.ga K "InvalidClaims") (by simp); exact (Bool.not_eq_true' _).mp z,
    X_InvalidNumber := gerr_of (d := ⟨"InvalidNumber", "given", inClass (top 2) 0⟩) eT_InvalidNumber (List.all_eq_true.mp x1 _ (by simp [ers])) (c.one (i := 2) rfl) (glo _ (by decide +kernel)) pf (fre "super" (by decide +kernel)) pt,
    cs := cs,
    c_Purse := glo _ (by decide +kernel),
    cl_Purse := (cs.cls _ (List.mem_singleton.mpr rfl)).cl,
    a_all_told := fun D hD => by rw [List.mem_singleton.mp hD]; exact ⟨(cs.cls _ (List.mem_singleton.mpr rfl)).cl, He.noat_ok (c.x.t.d.facts (f := .noat "Purse" "all_told") (List.mem_append_left _ (by simp)))⟩,
    n_ValueError := fre _ (by decide +kernel),
    n_abs := fre _ (by decide +kernel),
    n_all := fre _ (by decide +kernel),
    n_bool := fre _ (by decide +kernel),
    n_dict := fre _ (by decide +kernel),
    n_divmod := fre _ (by decide +kernel),
    n_enumerate := fre _ (by decide +kernel),
    n_int := fre _ (by decide +kernel),
    n_isinstance := fre _ (by decide +kernel),
    n_len := fre _ (by decide +kernel),
    n_list := fre _ (by decide +kernel),
    n_max := fre _ (by decide +kernel),
    n_min := fre _ (by decide +kernel),
    n_range := fre _ (by decide +kernel),
    n_sorted := fre _ (by decide +kernel),
    n_str := fre _ (by decide +kernel),
    n_sum := fre _ (by decide +kernel),
    n_super := fre _ (by decide +kernel),
    n_tuple := fre _ (by decide +kernel),
    g_LETTERS := con 0 _ _ rfl,
    g_MOST_CLAIM := con 1 _ _ rfl,
    g_MOST_LETTERS := con 2 _ _ rfl,
    g_MOST_PEOPLE := con 3 _ _ rfl,
    g_WORDS := con 4 _ _ rfl,
    F_is_whole := by obtain ⟨fd, F⟩ := df_ok c 0 (x := "is_whole") (st := top 9) rfl; exact ⟨_, fd, F, glo _ (by decide +kernel)⟩,
    F_is_between := by obtain ⟨fd, F⟩ := df_ok c 1 (x := "is_between") (st := top 10) rfl; exact ⟨_, fd, F, glo _ (by decide +kernel)⟩,
    F_is_up_to := by obtain ⟨fd, F⟩ := df_ok c 2 (x := "is_up_to") (st := top 11) rfl; exact ⟨_, fd, F, glo _ (by decide +kernel)⟩,
    F_is_word := by obtain ⟨fd, F⟩ := df_ok c 3 (x := "is_word") (st := top 12) rfl; exact ⟨_, fd, F, glo _ (by decide +kernel)⟩,
    F_is_name := by obtain ⟨fd, F⟩ := df_ok c 4 (x := "is_name") (st := top 13) rfl; exact ⟨_, fd, F, glo _ (by decide +kernel)⟩,
    F_are_below := by obtain ⟨fd, F⟩ := df_ok c 5 (x := "are_below") (st := top 17) rfl; exact ⟨_, fd, F, glo _ (by decide +kernel)⟩,
    F_is_tuple_of := by obtain ⟨fd, F⟩ := df_ok c 6 (x := "is_tuple_of") (st := top 14) rfl; exact ⟨_, fd, F, glo _ (by decide +kernel)⟩,
    F_wrong_in := by obtain ⟨fd, F⟩ := df_ok c 7 (x := "wrong_in") (st := top 15) rfl; exact ⟨_, fd, F, glo _ (by decide +kernel)⟩,
    F_wrong_in_all := by obtain ⟨fd, F⟩ := df_ok c 8 (x := "wrong_in_all") (st := top 16) rfl; exact ⟨_, fd, F, glo _ (by decide +kernel)⟩,
    F_wrong_in_people := by obtain ⟨fd, F⟩ := df_ok c 9 (x := "wrong_in_people") (st := top 21) rfl; exact ⟨_, fd, F, glo _ (by decide +kernel)⟩,
    F_wrong_in_claims := by obtain ⟨fd, F⟩ := df_ok c 10 (x := "wrong_in_claims") (st := top 22) rfl; exact ⟨_, fd, F, glo _ (by decide +kernel)⟩,
    F_check_number := by obtain ⟨fd, F⟩ := df_ok c 11 (x := "check_number") (st := top 24) rfl; exact ⟨_, fd, F, glo _ (by decide +kernel)⟩,
    F__law_draw := by obtain ⟨fd, F⟩ := df_ok c 12 (x := "_law_draw") (st := top 28) rfl; exact ⟨_, fd, F, glo _ (by decide +kernel)⟩,
    F__law_of := by obtain ⟨fd, F⟩ := df_ok c 13 (x := "_law_of") (st := top 29) rfl; exact ⟨_, fd, F, glo _ (by decide +kernel)⟩,
    F__law_words := by obtain ⟨fd, F⟩ := df_ok c 14 (x := "_law_words") (st := top 31) rfl; exact ⟨_, fd, F, glo _ (by decide +kernel)⟩,
    F__law_own := by obtain ⟨fd, F⟩ := df_ok c 15 (x := "_law_own") (st := top 32) rfl; exact ⟨_, fd, F, glo _ (by decide +kernel)⟩,
    F__law_names := by obtain ⟨fd, F⟩ := df_ok c 16 (x := "_law_names") (st := top 33) rfl; exact ⟨_, fd, F, glo _ (by decide +kernel)⟩,
    F__law_purse := by obtain ⟨fd, F⟩ := df_ok c 17 (x := "_law_purse") (st := top 34) rfl; exact ⟨_, fd, F, glo _ (by decide +kernel)⟩,
    F__law_same := by obtain ⟨fd, F⟩ := df_ok c 18 (x := "_law_same") (st := top 30) rfl; exact ⟨_, fd, F, glo _ (by decide +kernel)⟩,
    F__law_kept_by := by obtain ⟨fd, F⟩ := df_ok c 19 (x := "_law_kept_by") (st := top 35) rfl; exact ⟨_, fd, F, glo _ (by decide +kernel)⟩,
    F__law_by_all := by obtain ⟨fd, F⟩ := df_ok c 20 (x := "_law_by_all") (st := top 36) rfl; exact ⟨_, fd, F, glo _ (by decide +kernel)⟩,
    F__law_well := by obtain ⟨fd, F⟩ := df_ok c 21 (x := "_law_well") (st := top 27) rfl; exact ⟨_, fd, F, glo _ (by decide +kernel)⟩,
    F__law_right := by obtain ⟨fd, F⟩ := df_ok c 22 (x := "_law_right") (st := top 37) rfl; exact ⟨_, fd, F, glo _ (by decide +kernel)⟩,
    F_Purse_init := dm_ok c 24 (C := "Purse") (x := "__init__") (st := inClass (top 25) 0) rfl,
    M_Purse := He.mkr_ok (c.x.t.d.facts (f := .mkr "Purse") (List.mem_append_left _ (by simp))),
    tb_wrong_in_people := tb ("wrong_in_people", none) (by simp [tfs]),
    cd_wrong_in_people := fun {f fd} hf F => code_ok F (same_ref (hf.symm.trans (glo "wrong_in_people" (by decide +kernel)))),
    hu_wrong_in_people := fun p hp e => by
      have hp : p ∈ [((consOf K Wl).L.p_wrong_in_people, lamName "wrong_in_people"), ((consOf K Wl).L.p_wrong_in_claims, lamName "wrong_in_claims"), ((consOf K Wl).L.p_wrong_in_all, lamName "wrong_in_all"), ((consOf K Wl).L.p__law_by_all, lamName "_law_by_all")] := hp
      simp only [List.mem_cons, List.not_mem_nil, or_false] at hp
      rcases hp with rfl | rfl | rfl | rfl
      · exact rfl
      · exact absurd e (dis ("wrong_in_claims", none) (by simp [tfs]) ("wrong_in_people", none) (by simp [tfs]) (by decide +kernel))
      · exact absurd e (dis ("wrong_in_all", none) (by simp [tfs]) ("wrong_in_people", none) (by simp [tfs]) (by decide +kernel))
      · exact absurd e (dis ("_law_by_all", none) (by simp [tfs]) ("wrong_in_people", none) (by simp [tfs]) (by decide +kernel)),
    tb_wrong_in_claims := tb ("wrong_in_claims", none) (by simp [tfs]),
    cd_wrong_in_claims := fun {f fd} hf F => code_ok F (same_ref (hf.symm.trans (glo "wrong_in_claims" (by decide +kernel)))),
    hu_wrong_in_claims := fun p hp e => by
      have hp : p ∈ [((consOf K Wl).L.p_wrong_in_people, lamName "wrong_in_people"), ((consOf K Wl).L.p_wrong_in_claims, lamName "wrong_in_claims"), ((consOf K Wl).L.p_wrong_in_all, lamName "wrong_in_all"), ((consOf K Wl).L.p__law_by_all, lamName "_law_by_all")] := hp
      simp only [List.mem_cons, List.not_mem_nil, or_false] at hp
      rcases hp with rfl | rfl | rfl | rfl
      · exact absurd e (dis ("wrong_in_people", none) (by simp [tfs]) ("wrong_in_claims", none) (by simp [tfs]) (by decide +kernel))
      · exact rfl
      · exact absurd e (dis ("wrong_in_all", none) (by simp [tfs]) ("wrong_in_claims", none) (by simp [tfs]) (by decide +kernel))
      · exact absurd e (dis ("_law_by_all", none) (by simp [tfs]) ("wrong_in_claims", none) (by simp [tfs]) (by decide +kernel)),
    tb_wrong_in_all := tb ("wrong_in_all", none) (by simp [tfs]),
    cd_wrong_in_all := fun {f fd} hf F => code_ok F (same_ref (hf.symm.trans (glo "wrong_in_all" (by decide +kernel)))),
    hu_wrong_in_all := fun p hp e => by
      have hp : p ∈ [((consOf K Wl).L.p_wrong_in_people, lamName "wrong_in_people"), ((consOf K Wl).L.p_wrong_in_claims, lamName "wrong_in_claims"), ((consOf K Wl).L.p_wrong_in_all, lamName "wrong_in_all"), ((consOf K Wl).L.p__law_by_all, lamName "_law_by_all")] := hp
      simp only [List.mem_cons, List.not_mem_nil, or_false] at hp
      rcases hp with rfl | rfl | rfl | rfl
      · exact absurd e (dis ("wrong_in_people", none) (by simp [tfs]) ("wrong_in_all", none) (by simp [tfs]) (by decide +kernel))
      · exact absurd e (dis ("wrong_in_claims", none) (by simp [tfs]) ("wrong_in_all", none) (by simp [tfs]) (by decide +kernel))
      · exact rfl
      · exact absurd e (dis ("_law_by_all", none) (by simp [tfs]) ("wrong_in_all", none) (by simp [tfs]) (by decide +kernel)),
    tb__law_by_all := tb ("_law_by_all", none) (by simp [tfs]),
    cd__law_by_all := fun {f fd} hf F => code_ok F (same_ref (hf.symm.trans (glo "_law_by_all" (by decide +kernel)))),
    hu__law_by_all := fun p hp e => by
      have hp : p ∈ [((consOf K Wl).L.p_wrong_in_people, lamName "wrong_in_people"), ((consOf K Wl).L.p_wrong_in_claims, lamName "wrong_in_claims"), ((consOf K Wl).L.p_wrong_in_all, lamName "wrong_in_all"), ((consOf K Wl).L.p__law_by_all, lamName "_law_by_all")] := hp
      simp only [List.mem_cons, List.not_mem_nil, or_false] at hp
      rcases hp with rfl | rfl | rfl | rfl
      · exact absurd e (dis ("wrong_in_people", none) (by simp [tfs]) ("_law_by_all", none) (by simp [tfs]) (by decide +kernel))
      · exact absurd e (dis ("wrong_in_claims", none) (by simp [tfs]) ("_law_by_all", none) (by simp [tfs]) (by decide +kernel))
      · exact absurd e (dis ("wrong_in_all", none) (by simp [tfs]) ("_law_by_all", none) (by simp [tfs]) (by decide +kernel))
      · exact rfl }
theorem law_at (X : K.In h) (G : h.Ns mainGlobals mg) {fa : Addr} (hfa : mg "law" = some (.ref fa)) (c : Says w h K) : LawAtS PySem.Challenge.rw_claimpurse_k02_purses_refused w K (L2.CX (PySem.Challenge.rw_claimpurse_k02_purses_refused).prog w) 17 63 "script" mg fa h := by
  have e := same_ref (hfa.symm.trans (He.glo_ok X G (c.x.t.d.facts (glo_in (x := "law") (by decide +kernel)))))
  subst e
  obtain ⟨fd, F⟩ := df_ok c 23 (x := "law") (st := top 38) rfl
  have hL : ∀ (Wl : Addr → Prop), ∀ q ∈ (consOf K Wl).L.tabs, ∃ p ∈ tfs, q.1 = (He.cT K p).2 := fun Wl q hq => by
    have hq : q ∈ [((consOf K Wl).L.p_wrong_in_people, lamName "wrong_in_people"), ((consOf K Wl).L.p_wrong_in_claims, lamName "wrong_in_claims"), ((consOf K Wl).L.p_wrong_in_all, lamName "wrong_in_all"), ((consOf K Wl).L.p__law_by_all, lamName "_law_by_all")] := hq
    simp only [List.mem_cons, List.not_mem_nil, or_false] at hq
    rcases hq with rfl | rfl | rfl | rfl
    · exact ⟨("wrong_in_people", none), by simp [tfs], rfl⟩
    · exact ⟨("wrong_in_claims", none), by simp [tfs], rfl⟩
    · exact ⟨("wrong_in_all", none), by simp [tfs], rfl⟩
    · exact ⟨("_law_by_all", none), by simp [tfs], rfl⟩
  refine ⟨fd, tfs.map (He.cT K), _, fun p hp => ?_, fun p hp => ?_, fun p hp => ?_, fun s u => ?_, fun H a ns hl hb hT hS => ?_, fun base hK hN hB => fn_law (C := consOf K fun _ => False) (fun Wl => txt_ok hK hN c (fun p hp => hB _ (List.mem_map.mpr ⟨p, hp, rfl⟩)) Wl rfl rfl) F⟩
  · obtain ⟨q, hq, e⟩ := List.mem_map.mp hp
    rw [← e]
    exact c.x.empty q hq
  · obtain ⟨q, hq, e⟩ := List.mem_map.mp hp
    rw [← e]
    exact c.x.out q hq
  · obtain ⟨q, hq, e⟩ := List.mem_map.mp hp
    rw [← e]
    exact PySem.W.codeHd_of_K X (c.x.hd q hq)
  · exact fun_one F (fun _ _ _ _ _ _ us hl => match us, hl with | [_], _ => rfl) s u
  · exact ⟨a, ns, rfl, hl, hS, fun q hq => by
      obtain ⟨p, hp, e⟩ := hL _ q hq
      rw [e]
      exact hT _ (List.mem_map.mpr ⟨p, hp, rfl⟩), fun H' => rfl⟩
end


end
end T1

namespace T1
open PySem PySem.Spec PyProof.Rows L2 DL LamX NdefX
section
variable {P : Program} {w : World} {K : PySem.W.Frag} {mg : Str → Option Value} {base : Heap} {C : Cons}


end
end T1

namespace T1
open PySem PySem.Spec PyProof.Rows L2 DL LamX NdefX
section
variable {P : Program} {w : World} {K : PySem.W.Frag} {mg : Str → Option Value} {base : Heap} {C : Cons}

end
end T1
open PySem PySem.W PySem.Calls PyProof.Rows in
theorem PySem.Challenge.cw_claimpurse_k02_purses_refused_holds : PySem.Challenge.rw_claimpurse_k02_purses_refused.Holds := by
  w_on; o_law
  refine HandSHeadRun.head_imp (r := OpenLaw.row PySem.Challenge.rw_claimpurse_k02_purses_refused) (q := view (OpenLaw.row PySem.Challenge.rw_claimpurse_k02_purses_refused).prog [38]) (H := T1.hk) (ob := T1.ob) (M := 8000) (loose := T1.loose) (d := HandSHeadRun.topDef (OpenLaw.row PySem.Challenge.rw_claimpurse_k02_purses_refused).prog 38) (kwd := []) T1.ob_eq T1.run
    (by kernel_rfl) (by kernel_rfl) (by kernel_rfl) (by rfl) (by first | assumption | decide +kernel) (by decide +kernel) ⟨rfl, rfl, rfl, rfl, rfl, by decide +kernel⟩ ?hw ?hc
  case hw => w_witness2
  case hc =>
    refine LamX.walk_ofTsE (l := PySem.Challenge.rw_claimpurse_k02_purses_refused) (n := 63) (k := 17) (x := "script") (CX := L2.CX (PySem.Challenge.rw_claimpurse_k02_purses_refused).prog) rfl (by decide) (by kernel_rfl) ⟨rfl, by decide, by decide⟩ ?F ?E
    case F =>
      intro w mg fa h Y G hmg0
      obtain ⟨K, KX, c⟩ := Y
      have hmg : mg ("law" : PySem.Str) = some (.ref fa) := by
        have e : (HandSHeadRun.topDef (OpenLaw.row PySem.Challenge.rw_claimpurse_k02_purses_refused).prog 38).name = ("law" : PySem.Str) := by kernel_rfl
        rw [← e]
        exact hmg0
      exact ⟨K, KX, T1.law_at KX G hmg c⟩
    case E =>
      intro w H s e s' z
      obtain ⟨_, _, _, _, _, _, _, _, _, _, _, _, q⟩ := z
      exact q.elim
namespace T1
section

end
end T1

