import PyProof.Rows.All
import Wide.All
import OpenK.AllK
import Wide.FinOn
import HandS.ForMost
import HandS.ForExc
import HandS.IsInst
import HandS.ExcIs
import HandS.ExcField
import HandS.ExcInit
import HandS.HotCalls
import HandS.More
import HandS.Star
import HandS.Flow
import HandS.Property
import HandS.ExcCtx
import HandS.ExcInitHot
import KE.KExcIs
import HandS.Small
import HandS.TupAny
import HandS.Text
import HandS.Exc
import HandS.ExcOwn
import HandS.TryOnly
import HandS.WordsDict
import HandS.RaiseMore
import HandS.Defaults
import HandS.HeadHook4
import HandS.HeadEnd
import HandS.Head2
import HandS.Nested
import KE.KExcSuper
import HandS.ExcSuper
import HandS.EndBits
import PySem.Challenge.RW_describedonce_k93_history
set_option Elab.async false
set_option linter.all false
set_option maxRecDepth 100000
set_option maxHeartbeats 4000000
/-! A layer over the hand layer: values without a heap. P: what does not change any more; O: what its holder may change (a list, a dict, an instance that no one else holds). -/
namespace DL
open PySem PySem.Spec L2

inductive Tg where
  | tup | lst | slst
  | dct (ks : List Key)
  | ins (c : Str) (fs : List Str)
  | exc
  deriving DecidableEq
inductive P where
  | s (v : V)
  | nd (t : Tg) (ks : List P)
inductive O where
  | p (d : P)
  | nd (t : Tg) (ks : List O)
abbrev Env := List (Option O)
def Tg.mut : Tg → Bool
  | .lst => true
  | .dct _ => true
  | .ins _ _ => true
  | _ => false

/-! ### what stands at an address -/
def Ho (cl : Str → Addr) (H : Hp) (a : Addr) : Tg → List V → Prop
  | .tup, vs => Rd H a (.tup vs)
  | .slst, vs => Rd H a (.lst vs)
  | .lst, vs => H a = some (.lst vs)
  | .dct ks, vs => ks.length = vs.length ∧ ks.Nodup ∧ H a = some (.dK (ks.zip vs))
  | .exc, _ => False
  | .ins c fs, vs => fs.length = vs.length ∧ fs.Nodup ∧ ∃ dx, H a = some (.ins (cl c) dx (fs.zip vs))
/-- the exception whose suite runs: where it is, its data's place, the attributes there and what they are -/
structure Ev where
  a : Addr
  d : Option Addr
  fvs : List (Str × V)
  fs : List (Str × P)
structure Gx where
  K : PySem.W.Frag
  cl : Str → Addr
  ev : Option Ev := none
def HoK (g : Gx) (a : Addr) : Tg → List V → Prop
  | .tup, vs => SqT g.K (fun _ => none) a vs
  | .slst, vs => SqL g.K (fun _ => none) a vs
  | .exc, _ => ∃ e, g.ev = some e ∧ e.a = a
  | _, _ => False

theorem Ho.keep {cl : Str → Addr} {H H' : Hp} {a : Addr} {t : Tg} {vs : List V} (h : Ho cl H a t vs) (k : ∀ o, H a = some o → H' a = some o) : Ho cl H' a t vs := by
  cases t with
  | tup => exact h.elim (fun q => .inl (k _ q)) fun ⟨o, q⟩ => .inr ⟨o, k _ q⟩
  | slst => exact h.elim (fun q => .inl (k _ q)) fun ⟨o, q⟩ => .inr ⟨o, k _ q⟩
  | lst => exact k _ h
  | dct ks => exact ⟨h.1, h.2.1, k _ h.2.2⟩
  | exc => exact h.elim
  | ins c fs =>
    obtain ⟨h1, h2, dx, h3⟩ := h
    exact ⟨h1, h2, dx, k _ h3⟩
theorem Ho.some {cl : Str → Addr} {H : Hp} {a : Addr} {t : Tg} {vs : List V} (h : Ho cl H a t vs) : ∃ o, H a = some o := by
  cases t with
  | tup => exact h.elim (fun q => ⟨_, q⟩) fun ⟨o, q⟩ => ⟨_, q⟩
  | slst => exact h.elim (fun q => ⟨_, q⟩) fun ⟨o, q⟩ => ⟨_, q⟩
  | lst => exact ⟨_, h⟩
  | dct ks => exact ⟨_, h.2.2⟩
  | exc => exact h.elim
  | ins c fs =>
    obtain ⟨h1, h2, dx, h3⟩ := h
    exact ⟨_, h3⟩
theorem zip_inj {α β : Type} : ∀ {ks : List α} {xs ys : List β}, ks.length = xs.length → ks.length = ys.length → ks.zip xs = ks.zip ys → xs = ys
  | [], [], [], _, _, _ => rfl
  | k :: ks, x :: xs, y :: ys, h1, h2, h => by
    simp only [List.zip_cons_cons, List.cons.injEq, Prod.mk.injEq, true_and] at h
    rw [h.1, zip_inj (ks := ks) (by simpa using h1) (by simpa using h2) h.2]
theorem Ho.inj {cl : Str → Addr} {H : Hp} {a : Addr} {t : Tg} {vs ws : List V} (m : t.mut = true) (h : Ho cl H a t vs) (h' : Ho cl H a t ws) : vs = ws := by
  cases t with
  | tup => cases m
  | slst => cases m
  | exc => cases m
  | lst =>
    have e : H a = Option.some (.lst vs) := h
    have e' : H a = Option.some (.lst ws) := h'
    rw [e] at e'
    cases e'
    rfl
  | dct ks =>
    obtain ⟨h1, _, h3⟩ := h
    obtain ⟨g1, _, g3⟩ := h'
    rw [h3] at g3
    injection g3 with g3
    injection g3 with g3
    exact zip_inj h1 g1 g3
  | ins c fs =>
    obtain ⟨h1, _, dx, h3⟩ := h
    obtain ⟨g1, _, dy, g3⟩ := h'
    rw [h3] at g3
    injection g3 with g3
    injection g3 with _ _ g3
    exact zip_inj h1 g1 g3

/-! ### values and what they mean -/
mutual
inductive PDn (g : Gx) (H : Hp) (B : Addr → Prop) : V → P → Prop
  | s (v : V) : PDn g H B v (.s v)
  | nd {a : Addr} {t : Tg} {vs : List V} {ks : List P} : ¬ B a → Ho g.cl H a t vs → PAll g H B vs ks → PDn g H B (.ref a) (.nd t ks)
  | k {a : Addr} {t : Tg} {vs : List V} {ks : List P} : HoK g a t vs → PAll g H B vs ks → PDn g H B (.ref a) (.nd t ks)
inductive PAll (g : Gx) (H : Hp) (B : Addr → Prop) : List V → List P → Prop
  | nil : PAll g H B [] []
  | cons {v : V} {vs : List V} {d : P} {ds : List P} : PDn g H B v d → PAll g H B vs ds → PAll g H B (v :: vs) (d :: ds)
end
mutual
inductive ODn (g : Gx) (H : Hp) (B : Addr → Prop) : V → O → List Addr → Prop
  | p {v : V} {d : P} : PDn g H B v d → ODn g H B v (.p d) []
  | nd {a : Addr} {t : Tg} {vs : List V} {ks : List O} {fp : List Addr} : t.mut = true → Ho g.cl H a t vs → OAll g H B vs ks fp → ODn g H B (.ref a) (.nd t ks) (a :: fp)
inductive OAll (g : Gx) (H : Hp) (B : Addr → Prop) : List V → List O → List Addr → Prop
  | nil : OAll g H B [] [] []
  | cons {v : V} {vs : List V} {d : O} {ds : List O} {f1 f2 : List Addr} : ODn g H B v d f1 → OAll g H B vs ds f2 → OAll g H B (v :: vs) (d :: ds) (f1 ++ f2)
end
inductive SlAll (g : Gx) (H : Hp) (B : Addr → Prop) : St → Env → List Addr → Prop
  | nil : SlAll g H B [] [] []
  | cons {v : V} {σ : St} {o : O} {ρ : Env} {f1 f2 : List Addr} : ODn g H B v o f1 → SlAll g H B σ ρ f2 → SlAll g H B (some v :: σ) (some o :: ρ) (f1 ++ f2)
  | any {x : Option V} {σ : St} {ρ : Env} {f : List Addr} : SlAll g H B σ ρ f → SlAll g H B (x :: σ) (none :: ρ) f

section
variable {g : Gx} {H H' : Hp} {B B' : Addr → Prop}
mutual
theorem PDn.mono (k : ∀ a o, ¬ B a → H a = some o → H' a = some o ∧ ¬ B' a) : ∀ (d : P) {v : V}, PDn g H B v d → PDn g H' B' v d
  | .s _, _, h => by
    cases h
    exact .s _
  | .nd t ks, _, h => by
    cases h with
    | nd hb ho ha =>
      obtain ⟨o, e⟩ := ho.some
      exact .nd (k _ _ hb e).2 (ho.keep fun o e => (k _ _ hb e).1) (PAll.mono k ks ha)
    | k ho ha => exact .k ho (PAll.mono k ks ha)
theorem PAll.mono (k : ∀ a o, ¬ B a → H a = some o → H' a = some o ∧ ¬ B' a) : ∀ (ds : List P) {vs : List V}, PAll g H B vs ds → PAll g H' B' vs ds
  | [], _, h => by
    cases h
    exact .nil
  | d :: ds, _, h => by
    cases h with
    | cons h1 h2 => exact .cons (PDn.mono k d h1) (PAll.mono k ds h2)
end
mutual
theorem ODn.mono (k : ∀ a o, ¬ B a → H a = some o → H' a = some o ∧ ¬ B' a) : ∀ (d : O) {v : V} {fp : List Addr}, (∀ a ∈ fp, ∀ o, H a = some o → H' a = some o) → ODn g H B v d fp → ODn g H' B' v d fp
  | .p d, _, _, _, h => by
    cases h with
    | p h => exact .p (PDn.mono k d h)
  | .nd t ks, _, _, w, h => by
    cases h with
    | nd m ho ha => exact .nd m (ho.keep (w _ List.mem_cons_self)) (OAll.mono k ks (fun a q => w a (List.mem_cons_of_mem _ q)) ha)
theorem OAll.mono (k : ∀ a o, ¬ B a → H a = some o → H' a = some o ∧ ¬ B' a) : ∀ (ds : List O) {vs : List V} {fp : List Addr}, (∀ a ∈ fp, ∀ o, H a = some o → H' a = some o) → OAll g H B vs ds fp → OAll g H' B' vs ds fp
  | [], _, _, _, h => by
    cases h
    exact .nil
  | d :: ds, _, _, w, h => by
    cases h with
    | cons h1 h2 => exact .cons (ODn.mono k d (fun a q => w a (List.mem_append_left _ q)) h1) (OAll.mono k ds (fun a q => w a (List.mem_append_right _ q)) h2)
end
theorem SlAll.mono (k : ∀ a o, ¬ B a → H a = some o → H' a = some o ∧ ¬ B' a) {σ : St} {ρ : Env} {W : List Addr} (h : SlAll g H B σ ρ W) : (∀ a ∈ W, ∀ o, H a = some o → H' a = some o) → SlAll g H' B' σ ρ W := by
  induction h with
  | nil => exact fun _ => .nil
  | cons h1 _ ih => exact fun w => .cons (ODn.mono k _ (fun a q => w a (List.mem_append_left _ q)) h1) (ih fun a q => w a (List.mem_append_right _ q))
  | any _ ih => exact fun w => .any (ih w)
theorem SlAll.length {σ : St} {ρ : Env} {W : List Addr} (h : SlAll g H B σ ρ W) : σ.length = ρ.length := by
  induction h with
  | nil => rfl
  | cons _ _ ih => simp [ih]
  | any _ ih => simp [ih]
theorem PAll.length : ∀ {vs : List V} {ds : List P}, PAll g H B vs ds → vs.length = ds.length
  | _, [], h => by cases h; rfl
  | _, _ :: ds, h => by
    cases h with
    | cons _ h2 => simp [PAll.length h2]
theorem OAll.length : ∀ {vs : List V} {ds : List O} {fp : List Addr}, OAll g H B vs ds fp → vs.length = ds.length
  | _, [], _, h => by cases h; rfl
  | _, _ :: ds, _, h => by
    cases h with
    | cons _ h2 => simp [OAll.length h2]
/-! what is owned is there -/
mutual
theorem ODn.there : ∀ (d : O) {v : V} {fp : List Addr}, ODn g H B v d fp → ∀ a ∈ fp, H a ≠ none
  | .p d, _, _, h, a, q => by
    cases h
    cases q
  | .nd t ks, _, _, h, a, q => by
    cases h with
    | nd m ho ha =>
      rcases List.mem_cons.mp q with e | q
      · obtain ⟨o, e'⟩ := ho.some
        rw [e, e']
        exact fun z => nomatch z
      · exact OAll.there ks ha a q
theorem OAll.there : ∀ (ds : List O) {vs : List V} {fp : List Addr}, OAll g H B vs ds fp → ∀ a ∈ fp, H a ≠ none
  | [], _, _, h, a, q => by
    cases h
    cases q
  | d :: ds, _, _, h, a, q => by
    cases h with
    | cons h1 h2 =>
      rcases List.mem_append.mp q with q | q
      · exact ODn.there d h1 a q
      · exact OAll.there ds h2 a q
end
theorem SlAll.there {σ : St} {ρ : Env} {W : List Addr} (h : SlAll g H B σ ρ W) : ∀ a ∈ W, H a ≠ none := by
  induction h with
  | nil => exact fun a q => nomatch q
  | cons h1 _ ih =>
    intro a q
    rcases List.mem_append.mp q with q | q
    · exact ODn.there _ h1 a q
    · exact ih a q
  | any _ ih => exact ih
theorem PAll.get : ∀ {ds : List P} {vs : List V} {i : Nat} {d : P}, PAll g H B vs ds → ds[i]? = some d → ∃ v, vs[i]? = some v ∧ PDn g H B v d
  | [], _, _, _, _, e => by simp at e
  | _ :: ds, _, i, _, h, e => by
    cases h with
    | cons h1 h2 =>
      cases i with
      | zero => exact ⟨_, rfl, by simp at e; exact e ▸ h1⟩
      | succ i =>
        obtain ⟨v, h3, h4⟩ := PAll.get (i := i) h2 (by simpa using e)
        exact ⟨v, by simpa using h3, h4⟩
theorem PAll.append : ∀ {ds es : List P} {vs ws : List V}, PAll g H B vs ds → PAll g H B ws es → PAll g H B (vs ++ ws) (ds ++ es)
  | [], _, _, _, h, k => by
    cases h
    exact k
  | _ :: _, _, _, _, h, k => by
    cases h with
    | cons h1 h2 => exact .cons h1 (PAll.append h2 k)
theorem PAll.take : ∀ {ds : List P} {vs : List V} (n : Nat), PAll g H B vs ds → PAll g H B (vs.take n) (ds.take n)
  | _, _, 0, _ => by simp; exact .nil
  | [], _, n + 1, h => by
    cases h
    exact .nil
  | _ :: _, _, n + 1, h => by
    cases h with
    | cons h1 h2 => exact .cons h1 (PAll.take n h2)
theorem PAll.drop : ∀ {ds : List P} {vs : List V} (n : Nat), PAll g H B vs ds → PAll g H B (vs.drop n) (ds.drop n)
  | _, _, 0, h => h
  | [], _, n + 1, h => by
    cases h
    exact .nil
  | _ :: _, _, n + 1, h => by
    cases h with
    | cons h1 h2 => exact PAll.drop n h2
theorem OAll.append : ∀ {ds es : List O} {vs ws : List V} {f1 f2 : List Addr}, OAll g H B vs ds f1 → OAll g H B ws es f2 → OAll g H B (vs ++ ws) (ds ++ es) (f1 ++ f2)
  | [], _, _, _, _, _, h, k => by
    cases h
    exact k
  | _ :: _, _, _, _, _, _, h, k => by
    cases h with
    | cons h1 h2 => rw [List.append_assoc]; exact .cons h1 (OAll.append h2 k)
/-- kid i of owned kids -/
theorem OAll.at : ∀ {ds : List O} {vs : List V} {fp : List Addr} {i : Nat} {d : O}, OAll g H B vs ds fp → ds[i]? = some d →
    ∃ v f1 fk f2, vs[i]? = some v ∧ fp = f1 ++ fk ++ f2 ∧ ODn g H B v d fk ∧
      (∀ {H' B' d' v' fk'}, (∀ a o, ¬ B a → H a = some o → H' a = some o ∧ ¬ B' a) → (∀ a ∈ f1 ++ f2, ∀ o, H a = some o → H' a = some o) → ODn g H' B' v' d' fk' → OAll g H' B' (vs.set i v') (ds.set i d') (f1 ++ fk' ++ f2))
  | [], _, _, _, _, _, e => by simp at e
  | x :: ds, _, _, i, d, h, e => by
    cases h with
    | @cons v vs _ _ g1 g2 h1 h2 =>
      cases i with
      | zero =>
        have e' : x = d := by simpa using e
        subst e'
        exact ⟨v, [], g1, g2, rfl, rfl, h1, fun k w h => by simpa using OAll.cons h (OAll.mono k ds (fun a q => w a (by simpa using q)) h2)⟩
      | succ i =>
        obtain ⟨w, f1, fk, f2, e1, e2, h3, r⟩ := OAll.at (i := i) h2 (by simpa using e)
        refine ⟨w, g1 ++ f1, fk, f2, by simpa using e1, by rw [e2]; simp, h3, fun k w h => ?_⟩
        have a1 := ODn.mono k x (fun a q => w a (by simp [q])) h1
        have a2 := r k (fun a q => w a (by simp only [List.append_assoc, List.mem_append] at q ⊢; exact .inr q)) h
        simpa using OAll.cons a1 a2
theorem SlAll.at : ∀ {ρ : Env} {σ : St} {W : List Addr} {i : Nat} {d : O}, SlAll g H B σ ρ W → ρ[i]? = some (some d) →
    ∃ v f1 fk f2, σ[i]? = some (some v) ∧ W = f1 ++ fk ++ f2 ∧ ODn g H B v d fk ∧
      (∀ {H' B'}, (∀ a o, ¬ B a → H a = some o → H' a = some o ∧ ¬ B' a) → (∀ a ∈ f1 ++ f2, ∀ o, H a = some o → H' a = some o) →
        (∀ {d' v' fk'}, ODn g H' B' v' d' fk' → SlAll g H' B' (σ.set i (some v')) (ρ.set i (some d')) (f1 ++ fk' ++ f2)) ∧ ∀ x, SlAll g H' B' (σ.set i x) (ρ.set i none) (f1 ++ f2))
  | [], _, _, _, _, _, e => by simp at e
  | x :: ρ, _, _, i, d, h, e => by
    cases h with
    | @cons v σ o _ g1 g2 h1 h2 =>
      cases i with
      | zero =>
        have e' : o = d := by simpa using e
        subst e'
        refine ⟨v, [], g1, g2, rfl, rfl, h1, fun k w => ⟨fun h => ?_, fun x => ?_⟩⟩
        · simpa using SlAll.cons h (SlAll.mono k h2 fun a q => w a (by simpa using q))
        · simpa using SlAll.any (SlAll.mono k h2 fun a q => w a (by simpa using q))
      | succ i =>
        obtain ⟨w, f1, fk, f2, e1, e2, h3, r⟩ := SlAll.at (i := i) h2 (by simpa using e)
        refine ⟨w, g1 ++ f1, fk, f2, by simpa using e1, by rw [e2]; simp, h3, fun k w => ?_⟩
        have a1 := ODn.mono k o (fun a q => w a (by simp [q])) h1
        have a2 := r k (fun a q => w a (by simp only [List.append_assoc, List.mem_append] at q ⊢; exact .inr q))
        refine ⟨fun h => ?_, fun y => ?_⟩
        · simpa using SlAll.cons a1 (a2.1 h)
        · simpa using SlAll.cons a1 (a2.2 y)
    | @any y σ _ f h2 =>
      cases i with
      | zero => simp at e
      | succ i =>
        obtain ⟨w, f1, fk, f2, e1, e2, h3, r⟩ := SlAll.at (i := i) h2 (by simpa using e)
        refine ⟨w, f1, fk, f2, by simpa using e1, e2, h3, fun k w => ?_⟩
        have a2 := r k w
        exact ⟨fun h => by simpa using SlAll.any (x := y) (a2.1 h), fun z => by simpa using SlAll.any (x := y) (a2.2 z)⟩
/-- a place of which nothing is told takes anything -/
theorem SlAll.put : ∀ {ρ : Env} {σ : St} {W : List Addr} {i : Nat}, SlAll g H B σ ρ W → ρ[i]? = some none → ∃ f1 f2, W = f1 ++ f2 ∧
    (∀ {d' v' fk'}, ODn g H B v' d' fk' → SlAll g H B (σ.set i (some v')) (ρ.set i (some d')) (f1 ++ fk' ++ f2)) ∧ ∀ x, SlAll g H B (σ.set i x) ρ W
  | [], _, _, _, _, e => by simp at e
  | x :: ρ, _, _, i, h, e => by
    cases h with
    | @cons v σ o _ g1 g2 h1 h2 =>
      cases i with
      | zero => simp at e
      | succ i =>
        obtain ⟨f1, f2, e2, r1, r2⟩ := SlAll.put (i := i) h2 (by simpa using e)
        exact ⟨g1 ++ f1, f2, by rw [e2]; simp, fun h => by simpa using SlAll.cons h1 (r1 h), fun y => by simpa using SlAll.cons h1 (r2 y)⟩
    | @any y σ _ f h2 =>
      cases i with
      | zero => exact ⟨[], _, rfl, fun h => by simpa using SlAll.cons h h2, fun y => by simpa using SlAll.any (x := y) h2⟩
      | succ i =>
        obtain ⟨f1, f2, e2, r1, r2⟩ := SlAll.put (i := i) h2 (by simpa using e)
        exact ⟨f1, f2, e2, fun h => by simpa using SlAll.any (x := y) (r1 h), fun z => by simpa using SlAll.any (x := y) (r2 z)⟩
theorem SlAll.app : ∀ {ρ θ : Env} {σ τ : St} {f1 f2 : List Addr}, SlAll g H B σ ρ f1 → SlAll g H B τ θ f2 → SlAll g H B (σ ++ τ) (ρ ++ θ) (f1 ++ f2)
  | [], _, _, _, _, _, h, k => by
    cases h
    exact k
  | _ :: _, _, _, _, _, _, h, k => by
    cases h with
    | cons h1 h2 => rw [List.append_assoc]; exact .cons h1 (SlAll.app h2 k)
    | any h2 => exact .any (SlAll.app h2 k)
theorem SlAll.split : ∀ {ρ θ : Env} {σ τ : St} {W : List Addr}, σ.length = ρ.length → SlAll g H B (σ ++ τ) (ρ ++ θ) W → ∃ f1 f2, W = f1 ++ f2 ∧ SlAll g H B σ ρ f1 ∧ SlAll g H B τ θ f2
  | [], _, [], _, W, _, h => ⟨[], W, rfl, .nil, h⟩
  | [], _, _ :: _, _, _, l, _ => by simp at l
  | _ :: _, _, [], _, _, l, _ => by simp at l
  | x :: ρ, θ, y :: σ, τ, W, l, h => by
    simp only [List.cons_append] at h
    cases h with
    | cons h1 h2 =>
      obtain ⟨f1, f2, e, k1, k2⟩ := SlAll.split (by simpa using l) h2
      exact ⟨_ ++ f1, f2, by rw [e]; simp, .cons h1 k1, k2⟩
    | any h2 =>
      obtain ⟨f1, f2, e, k1, k2⟩ := SlAll.split (by simpa using l) h2
      exact ⟨f1, f2, e, .any k1, k2⟩
end
end DL

/-! states, steps, results, the judgements -/
namespace DL
open PySem PySem.Spec L2

/-! ### places within an owned value -/
def O.get : O → List Nat → Option O
  | o, [] => some o
  | .p _, _ :: _ => none
  | .nd _ ks, i :: r => (ks[i]?).bind fun k => k.get r
def O.put : O → List Nat → O → O
  | _, [], x => x
  | .p d, _ :: _, _ => .p d
  | .nd t ks, i :: r, x => match ks[i]? with
    | some k => .nd t (ks.set i (k.put r x))
    | none => .nd t ks
/-- the value at such a place -/
inductive Reach (g : Gx) (H : Hp) : V → O → List Nat → V → Prop
  | here {v : V} {o : O} : Reach g H v o [] v
  | step {a : Addr} {t : Tg} {vs : List V} {ks : List O} {i : Nat} {w : V} {k : O} {π : List Nat} {x : V} : t.mut = true → Ho g.cl H a t vs → vs[i]? = some w → ks[i]? = some k → Reach g H w k π x → Reach g H (.ref a) (.nd t ks) (i :: π) x
section
variable {g : Gx} {H H' : Hp} {B B' : Addr → Prop}
theorem Reach.inj {v : V} {o : O} {π : List Nat} {x y : V} (h : Reach g H v o π x) (h' : Reach g H v o π y) : x = y := by
  induction h with
  | here => cases h'; rfl
  | step m ho e1 e2 _ ih =>
    cases h' with
    | step m' ho' e1' e2' r =>
      have e := ho.inj m ho'
      subst e
      rw [e1] at e1'
      rw [e2] at e2'
      cases e1'
      cases e2'
      exact ih r
theorem ODn.focus : ∀ {π : List Nat} {o : O} {v : V} {fp : List Addr} {o' : O}, ODn g H B v o fp → o.get π = some o' →
    ∃ x f1 fk f2, fp = f1 ++ fk ++ f2 ∧ Reach g H v o π x ∧ ODn g H B x o' fk ∧
      (∀ {H' B' n fk'}, (∀ a o, ¬ B a → H a = some o → H' a = some o ∧ ¬ B' a) → (∀ a ∈ f1 ++ f2, ∀ o, H a = some o → H' a = some o) → ODn g H' B' x n fk' → ODn g H' B' v (o.put π n) (f1 ++ fk' ++ f2))
  | [], o, v, fp, o', h, e => by
    have e' : o = o' := by simpa [O.get] using e
    subst e'
    exact ⟨v, [], fp, [], by simp, .here, h, fun _ _ h => by simpa [O.put] using h⟩
  | i :: π, .p _, _, _, _, _, e => by simp [O.get] at e
  | i :: π, .nd t ks, _, _, o', h, e => by
    cases h with
    | @nd a _ vs _ fp m ho ha =>
      cases ek : ks[i]? with
      | none => simp [O.get, ek] at e
      | some k =>
        have e1 : k.get π = some o' := by simpa [O.get, ek] using e
        obtain ⟨w, f1, fk, f2, ew, ef, hk, r⟩ := ha.at ek
        obtain ⟨x, g1, gk, g2, ef2, re, hx, r2⟩ := ODn.focus hk e1
        refine ⟨x, a :: (f1 ++ g1), gk, g2 ++ f2, by rw [ef, ef2]; simp, .step m ho ew ek re, hx, fun kk ww h => ?_⟩
        have q2 := r2 kk (fun a q => ww a (by simp only [List.mem_append, List.cons_append, List.mem_cons] at q ⊢; rcases q with q | q <;> simp [q])) h
        have q1 := r kk (fun a q => ww a (by simp only [List.mem_append, List.cons_append, List.mem_cons] at q ⊢; rcases q with q | q <;> simp [q])) q2
        have e3 : vs.set i w = vs := by
          apply List.ext_getElem?
          intro j
          by_cases hj : i = j
          · subst hj
            rw [ew]
            rw [List.getElem?_set_self (List.getElem?_eq_some_iff.mp ew).1]
          · rw [List.getElem?_set_ne hj]
        rw [e3] at q1
        have q := ODn.nd (a := a) m (ho.keep (ww a (by simp))) q1
        simpa [O.put, ek] using q
end

/-! ### states -/
abbrev AP := Addr → Prop
abbrev bad (W Z : AP) : AP := fun a => W a ∨ Z a
def EvOk (g : Gx) (H : Hp) (B : AP) : Prop := match g.ev with
  | none => True
  | some e => (∀ dd, e.d = some dd → H dd = some (.xd e.fvs) ∧ ¬ B dd) ∧ ∀ f p, e.fs.lookup f = some p → ∃ v, e.fvs.lookup f = some v ∧ PDn g H B v p
theorem EvOk.mono {g : Gx} {H H' : Hp} {B B' : AP} (h : EvOk g H B) (k : ∀ a o, ¬ B a → H a = some o → H' a = some o ∧ ¬ B' a) : EvOk g H' B' := by
  unfold EvOk at h ⊢
  split at h
  · trivial
  · obtain ⟨h1, h3⟩ := h
    refine ⟨fun dd e => k _ _ (h1 dd e).2 (h1 dd e).1, fun f p e => ?_⟩
    obtain ⟨v, h4, h5⟩ := h3 f p e
    exact ⟨v, h4, PDn.mono k p h5⟩
structure Sta (g : Gx) (H : Hp) (Z : AP) (σ : St) (ρ : Env) (W : AP) : Prop where
  all : ∃ fp, SlAll g H (bad W Z) σ ρ fp ∧ fp.Nodup ∧ ∀ a, W a ↔ a ∈ fp
  dj : ∀ a, W a → ¬ Z a
  zt : ∀ a, Z a → H a ≠ none
  ev : EvOk g H (bad W Z)
structure Fr (W : AP) (H : Hp) (W' : AP) (H' : Hp) : Prop where
  keep : ∀ a o, H a = some o → ¬ W a → H' a = some o
  from_ : ∀ a, W' a → W a ∨ H a = none
theorem Fr.refl {W : AP} {H : Hp} : Fr W H W H := ⟨fun _ _ h _ => h, fun _ h => .inl h⟩
theorem Fr.trans {W W1 W2 : AP} {H H1 H2 : Hp} (a : Fr W H W1 H1) (b : Fr W1 H1 W2 H2) : Fr W H W2 H2 where
  keep := fun c o h n => b.keep c o (a.keep c o h n) fun q => (a.from_ c q).elim n fun z => by rw [h] at z; cases z
  from_ := fun c q => by
    rcases b.from_ c q with q | q
    · exact a.from_ c q
    · cases e : H c with
      | none => exact .inr rfl
      | some o =>
        by_cases n : W c
        · exact .inl n
        · rw [a.keep c o e n] at q; cases q
theorem Fr.same {W : AP} {H H' : Hp} (s : Same H H') : Fr W H W H' := ⟨fun a o h _ => s a o h, fun _ h => .inl h⟩
section
variable {g : Gx} {H H' H1 : Hp} {Z W W' W1 : AP} {σ τ : St} {ρ θ : Env}
theorem Sta.there (s : Sta g H Z σ ρ W) : ∀ a, W a → H a ≠ none := fun a q => by
  obtain ⟨fp, h, _, e⟩ := s.all
  exact h.there a ((e a).mp q)
theorem Sta.bt (s : Sta g H Z σ ρ W) : ∀ a, bad W Z a → H a ≠ none := fun a q => q.elim (s.there a) (s.zt a)
theorem Sta.length (s : Sta g H Z σ ρ W) : σ.length = ρ.length := by
  obtain ⟨fp, h, _, e⟩ := s.all
  exact h.length
/-- what stands firm stays firm -/
theorem fr_k (f : Fr W H W' H') : ∀ a o, ¬ bad W Z a → H a = some o → H' a = some o ∧ ¬ bad W' Z a := fun a o n e =>
  ⟨f.keep a o e fun q => n (.inl q), fun q => q.elim (fun q => (f.from_ a q).elim (fun q => n (.inl q)) fun z => by rw [e] at z; cases z) fun q => n (.inr q)⟩
theorem PDn.fr {v : V} {d : P} (h : PDn g H (bad W Z) v d) (f : Fr W H W' H') : PDn g H' (bad W' Z) v d := PDn.mono (fr_k f) d h
theorem PAll.fr {vs : List V} {ds : List P} (h : PAll g H (bad W Z) vs ds) (f : Fr W H W' H') : PAll g H' (bad W' Z) vs ds := PAll.mono (fr_k f) ds h
theorem Sta.same (s : Sta g H Z σ ρ W) (m : Same H H') : Sta g H' Z σ ρ W := by
  obtain ⟨fp, h, nd, e⟩ := s.all
  refine ⟨⟨fp, h.mono (fun a o n q => ⟨m a o q, n⟩) fun a _ o q => m a o q, nd, e⟩, s.dj, fun a q z => ?_, s.ev.mono fun a o n e => ⟨m a o e, n⟩⟩
  cases e : H a with
  | none => exact s.zt a q e
  | some o => rw [m a o e] at z; cases z
theorem same_fr {W : AP} (m : Same H H') : Fr W H W H' := Fr.same m
/-- a value of an owned place -/
theorem Sta.slot {i : Nat} {o : O} (s : Sta g H Z σ ρ W) (e : ρ[i]? = some (some o)) : ∃ v fk, σ[i]? = some (some v) ∧ ODn g H (bad W Z) v o fk ∧ ∀ a ∈ fk, W a := by
  obtain ⟨fp, h, nd, em⟩ := s.all
  obtain ⟨v, f1, fk, f2, ev, ef, ho, _⟩ := h.at e
  exact ⟨v, fk, ev, ho, fun a q => (em a).mpr (by rw [ef]; simp [q])⟩
theorem Sta.slotP {i : Nat} {d : P} (s : Sta g H Z σ ρ W) (e : ρ[i]? = some (some (.p d))) : ∃ v, σ[i]? = some (some v) ∧ PDn g H (bad W Z) v d := by
  obtain ⟨v, fk, ev, ho, _⟩ := s.slot e
  cases ho with
  | p h => exact ⟨v, ev, h⟩
end
theorem upd_fr {W : AP} {H : Hp} {a : Addr} {o : HO} (h : W a) : Fr W H W (upd H a o) :=
  ⟨fun b u e n => by
    rw [upd_ne (fun z => n (by rw [z]; exact h))]
    exact e, fun _ h => .inl h⟩
theorem same_new {H : Hp} {p : Addr} {o : HO} (h : H p = none) : Same H (upd H p o) := fun b x e => by
  rw [upd_ne (ne_of_none e h)]
  exact e

/-! ### freezing -/
mutual
def O.frz : O → P
  | .p d => d
  | .nd t ks => .nd t (O.frzs ks)
def O.frzs : List O → List P
  | [] => []
  | k :: ks => k.frz :: O.frzs ks
end
theorem O.frzs_eq : ∀ ks : List O, O.frzs ks = ks.map O.frz
  | [] => rfl
  | k :: ks => by simp [O.frzs, O.frzs_eq ks]
section
variable {g : Gx} {H : Hp} {B B' : AP}
mutual
theorem ODn.frz (k : ∀ a, ¬ B a → ¬ B' a) : ∀ (o : O) {v : V} {fp : List Addr}, (∀ a ∈ fp, ¬ B' a) → ODn g H B v o fp → PDn g H B' v o.frz
  | .p d, _, _, _, h => by
    cases h with
    | p h => exact PDn.mono (fun a o n e => ⟨e, k a n⟩) d h
  | .nd t ks, _, _, w, h => by
    cases h with
    | nd m ho ha =>
      unfold O.frz
      exact .nd (w _ List.mem_cons_self) ho (OAll.frz k ks (fun a q => w a (List.mem_cons_of_mem _ q)) ha)
theorem OAll.frz (k : ∀ a, ¬ B a → ¬ B' a) : ∀ (os : List O) {vs : List V} {fp : List Addr}, (∀ a ∈ fp, ¬ B' a) → OAll g H B vs os fp → PAll g H B' vs (O.frzs os)
  | [], _, _, _, h => by
    cases h
    exact .nil
  | o :: os, _, _, w, h => by
    cases h with
    | cons h1 h2 =>
      unfold O.frzs
      exact .cons (ODn.frz k o (fun a q => w a (List.mem_append_left _ q)) h1) (OAll.frz k os (fun a q => w a (List.mem_append_right _ q)) h2)
end
end
section
variable {g : Gx} {H : Hp} {Z W : AP} {σ τ : St} {ρ θ : Env}
/-- slot i is frozen -/
theorem Sta.freeze {i : Nat} {o : O} (s : Sta g H Z σ ρ W) (e : ρ[i]? = some (some o)) :
    ∃ v W', σ[i]? = some (some v) ∧ Fr W H W' H ∧ PDn g H (bad W' Z) v o.frz ∧ Sta g H Z σ (ρ.set i (some (.p o.frz))) W' := by
  obtain ⟨fp, h, nd, em⟩ := s.all
  obtain ⟨v, f1, fk, f2, ev, ef, ho, r⟩ := h.at e
  subst ef
  have sub : ∀ a, a ∈ f1 ++ f2 → W a := fun a q => (em a).mpr (by simp only [List.mem_append] at q ⊢; rcases q with q | q <;> simp [q])
  have kk : ∀ a, ¬ bad W Z a → ¬ bad (fun a => a ∈ f1 ++ f2) Z a := fun a n q => n (q.elim (fun q => .inl (sub a q)) .inr)
  have hp : PDn g H (bad (fun a => a ∈ f1 ++ f2) Z) v o.frz := ho.frz kk _ fun a q z => by
    rcases z with z | z
    · have n1 : (f1 ++ fk ++ f2).Nodup := nd
      rw [List.nodup_append] at n1
      obtain ⟨n2, n3, n4⟩ := n1
      rw [List.nodup_append] at n2
      rcases List.mem_append.mp z with z | z
      · exact n2.2.2 a z a q rfl
      · exact n4 a (List.mem_append_right _ q) a z rfl
    · exact s.dj a ((em a).mpr (by simp [q])) z
  refine ⟨v, fun a => a ∈ f1 ++ f2, ev, ⟨fun a o h _ => h, fun a q => .inl (sub a q)⟩, hp, ⟨⟨f1 ++ f2, ?_, ?_, fun a => Iff.rfl⟩, fun a q => s.dj a (sub a q), s.zt, s.ev.mono fun a o n e => ⟨e, kk a n⟩⟩⟩
  · have q := (r (H' := H) (B' := bad (fun a => a ∈ f1 ++ f2) Z) (fun a o n e => ⟨e, kk a n⟩) fun a _ o q => q).1 (.p hp)
    have e3 : σ.set i (some v) = σ := by
      apply List.ext_getElem?
      intro j
      by_cases hj : i = j
      · subst hj
        rw [ev, List.getElem?_set_self (List.getElem?_eq_some_iff.mp ev).1]
      · rw [List.getElem?_set_ne hj]
    rw [e3] at q
    simpa using q
  · have n1 : (f1 ++ fk ++ f2).Nodup := nd
    exact n1.sublist (by simp)
end

/-! ### slots that stay -/
def hasN (i : Nat) : List Nat → Bool
  | [] => false
  | j :: r => Nat.beq i j || hasN i r
def Pin (io : List Nat) (σ' σ : St) : Prop := ∀ i, hasN i io = true → σ'[i]? = σ[i]?
theorem Pin.refl {io : List Nat} {σ : St} : Pin io σ σ := fun _ _ => rfl
theorem Pin.trans {io : List Nat} {σ1 σ2 σ3 : St} (a : Pin io σ1 σ2) (b : Pin io σ2 σ3) : Pin io σ1 σ3 := fun i h => (a i h).trans (b i h)
theorem Pin.set {io : List Nat} {σ : St} {i : Nat} {v : Option V} (h : hasN i io = false) : Pin io (σ.set i v) σ := fun j hj => by
  rw [List.getElem?_set_ne]
  intro e
  rw [e] at h
  rw [h] at hj
  cases hj
/-! ### results -/
inductive Res (α : Type) where
  | ok (a : α)
  | ex (c : Str) (fs : List (Str × P)) (ρ : Env)
  | bad
def Res.bind {α β : Type} : Res α → (α → Res β) → Res β
  | .ok a, f => f a
  | .ex c fs ρ, _ => .ex c fs ρ
  | .bad, _ => .bad
inductive FR where
  | ok (r : O) (out : List (Nat × O))
  | ex (c : Str) (fs : List (Str × P)) (out : List (Nat × O))
  | bad
inductive Fl where
  | nx | rt (o : O) | bk | ct
/-- an exception's data -/
def ExD (g : Gx) (H : Hp) (B : AP) (c : Str) (fs : List (Str × P)) (cls : Value) (d : Option Addr) : Prop :=
  cls = .ref (g.cl c) ∧ ((fs = [] ∧ d = none) ∨ ∃ dd fvs, d = some dd ∧ H dd = some (.xd fvs) ∧ ¬ B dd ∧ ∀ f p, fs.lookup f = some p → ∃ v, fvs.lookup f = some v ∧ PDn g H B v p)
/-- the top may be owned, what is in it stands firm -/
inductive PDt (g : Gx) (H : Hp) (B : AP) : V → P → Prop
  | f {v : V} {d : P} : PDn g H B v d → PDt g H B v d
  | t {a : Addr} {t : Tg} {vs : List V} {ks : List P} : t.mut = true → Ho g.cl H a t vs → PAll g H B vs ks → PDt g H B (.ref a) (.nd t ks)
def PDx (fz : Bool) (g : Gx) (H : Hp) (B : AP) (v : V) (d : P) : Prop := if fz then PDn g H B v d else PDt g H B v d
theorem PDx.t {fz : Bool} {g : Gx} {H : Hp} {B : AP} {v : V} {d : P} (h : PDx fz g H B v d) : PDt g H B v d := by
  cases fz with
  | true => exact .f h
  | false => exact h
structure Bx where
  cl : Str → Addr
  io : List Nat
  wx : WX
  ev : Option Ev := none
abbrev Bx.g (x : Bx) (X : Cx) : Gx := ⟨X.K, x.cl, x.ev⟩
/-- what is wanted behind an expression -/
def PostE (b fz : Bool) (g : Gx) (wx : WX) (Z : AP) (σ τ : St) (θ : Env) (H : Hp) (W : AP) : Res (P × Env) → VK → Prop
  | .ok (d, ρ'), Q => ∀ v H' W', Fr W H W' H' → (b = true → W' = W ∧ Same H H') → Sta g H' Z (σ ++ τ) (ρ' ++ θ) W' → PDx fz g H' (bad W' Z) v d → Q v H'
  | .ex c fs ρ', _ => ∀ cls d H' W', Fr W H W' H' → Sta g H' Z (σ ++ τ) (ρ' ++ θ) W' → ExD g H' (bad W' Z) c fs cls d → wx cls d σ H'
  | .bad, _ => False
def SE (b fz : Bool) (g : Gx) (wx : WX) (t : TE) (f : Env → Res (P × Env)) : Prop :=
  ∀ (Z : AP) (σ τ : St) (ρ θ : Env) (H : Hp) (W : AP) (Q : VK), σ.length = ρ.length → Sta g H Z (σ ++ τ) (ρ ++ θ) W → PostE b fz g wx Z σ τ θ H W (f ρ) Q → t σ H Q
def tE (b fz : Bool) (g : Gx) (wx : WX) (f : Env → Res (P × Env)) : TE := fun σ H Q => ∃ (Z : AP) (τ : St) (ρ θ : Env) (W : AP), σ.length = ρ.length ∧ Sta g H Z (σ ++ τ) (ρ ++ θ) W ∧ PostE b fz g wx Z σ τ θ H W (f ρ) Q
theorem se_self {b fz : Bool} {g : Gx} {wx : WX} {f : Env → Res (P × Env)} : SE b fz g wx (tE b fz g wx f) f := fun Z _ τ ρ θ _ W _ hl st post => ⟨Z, τ, ρ, θ, W, hl, st, post⟩
structure DE (X : Cx) (x : Bx) (b fz : Bool) (e : Expr) (f : Env → Res (P × Env)) : Prop where
  pe : PE X e (tE b fz (x.g X) x.wx f)
theorem PE.imp {X : Cx} {e : Expr} {t t' : TE} (h : PE X e t) (k : ∀ σ H Q, t' σ H Q → t σ H Q) : PE X e t' := ⟨fun pins s σ H Q I q => h.run pins s σ H Q I (k σ H Q q)⟩
theorem DE.of {X : Cx} {x : Bx} {b fz : Bool} {e : Expr} {t : TE} {f : Env → Res (P × Env)} (pe : PE X e t) (se : SE b fz (x.g X) x.wx t f) : DE X x b fz e f :=
  ⟨PE.imp pe fun _ _ _ ⟨Z, τ, ρ, θ, W, hl, st, post⟩ => se Z _ τ ρ θ _ W _ hl st post⟩
def PostT (b : Bool) (g : Gx) (wx : WX) (Z : AP) (σ τ : St) (θ : Env) (H : Hp) (W : AP) : Res (Bool × Env) → (Bool → Hp → Prop) → Prop
  | .ok (d, ρ'), Q => ∀ H' W', Fr W H W' H' → (b = true → W' = W ∧ Same H H') → Sta g H' Z (σ ++ τ) (ρ' ++ θ) W' → Q d H'
  | .ex c fs ρ', _ => ∀ cls d H' W', Fr W H W' H' → Sta g H' Z (σ ++ τ) (ρ' ++ θ) W' → ExD g H' (bad W' Z) c fs cls d → wx cls d σ H'
  | .bad, _ => False
def STt (b : Bool) (g : Gx) (wx : WX) (t : TT) (f : Env → Res (Bool × Env)) : Prop :=
  ∀ (Z : AP) (σ τ : St) (ρ θ : Env) (H : Hp) (W : AP) (Q : Bool → Hp → Prop), σ.length = ρ.length → Sta g H Z (σ ++ τ) (ρ ++ θ) W → PostT b g wx Z σ τ θ H W (f ρ) Q → t σ H Q
def tT (b : Bool) (g : Gx) (wx : WX) (f : Env → Res (Bool × Env)) : TT := fun σ H Q => ∃ (Z : AP) (τ : St) (ρ θ : Env) (W : AP), σ.length = ρ.length ∧ Sta g H Z (σ ++ τ) (ρ ++ θ) W ∧ PostT b g wx Z σ τ θ H W (f ρ) Q
theorem st_self {b : Bool} {g : Gx} {wx : WX} {f : Env → Res (Bool × Env)} : STt b g wx (tT b g wx f) f := fun Z _ τ ρ θ _ W _ hl st post => ⟨Z, τ, ρ, θ, W, hl, st, post⟩
structure DT (X : Cx) (x : Bx) (b : Bool) (e : Expr) (f : Env → Res (Bool × Env)) : Prop where
  pt : PT X e (tT b (x.g X) x.wx f)
theorem PT.imp {X : Cx} {e : Expr} {t t' : TT} (h : PT X e t) (k : ∀ σ H Q, t' σ H Q → t σ H Q) : PT X e t' := ⟨fun pins s σ H Q I q => h.run pins s σ H Q I (k σ H Q q)⟩
theorem DT.of {X : Cx} {x : Bx} {b : Bool} {e : Expr} {t : TT} {f : Env → Res (Bool × Env)} (pt : PT X e t) (st : STt b (x.g X) x.wx t f) : DT X x b e f :=
  ⟨PT.imp pt fun _ _ _ ⟨Z, τ, ρ, θ, W, hl, st', post⟩ => st Z _ τ ρ θ _ W _ hl st' post⟩
inductive PAllt (g : Gx) (H : Hp) (B : AP) : List V → List P → Prop
  | nil : PAllt g H B [] []
  | cons {v : V} {vs : List V} {d : P} {ds : List P} : PDt g H B v d → PAllt g H B vs ds → PAllt g H B (v :: vs) (d :: ds)
def PAx (fz : Bool) (g : Gx) (H : Hp) (B : AP) (vs : List V) (ds : List P) : Prop := if fz then PAll g H B vs ds else PAllt g H B vs ds
def PostA (b fz : Bool) (g : Gx) (wx : WX) (Z : AP) (σ τ : St) (θ : Env) (H : Hp) (W : AP) : Res (List P × Env) → (List V → Hp → Prop) → Prop
  | .ok (ds, ρ'), Q => ∀ vs H' W', Fr W H W' H' → (b = true → W' = W ∧ Same H H') → Sta g H' Z (σ ++ τ) (ρ' ++ θ) W' → PAx fz g H' (bad W' Z) vs ds → Q vs H'
  | .ex c fs ρ', _ => ∀ cls d H' W', Fr W H W' H' → Sta g H' Z (σ ++ τ) (ρ' ++ θ) W' → ExD g H' (bad W' Z) c fs cls d → wx cls d σ H'
  | .bad, _ => False
def SA (b fz : Bool) (g : Gx) (wx : WX) (t : TA) (f : Env → Res (List P × Env)) : Prop :=
  ∀ (Z : AP) (σ τ : St) (ρ θ : Env) (H : Hp) (W : AP) (Q : List V → Hp → Prop), σ.length = ρ.length → Sta g H Z (σ ++ τ) (ρ ++ θ) W → PostA b fz g wx Z σ τ θ H W (f ρ) Q → t σ H Q
def tA (b fz : Bool) (g : Gx) (wx : WX) (f : Env → Res (List P × Env)) : TA := fun σ H Q => ∃ (Z : AP) (τ : St) (ρ θ : Env) (W : AP), σ.length = ρ.length ∧ Sta g H Z (σ ++ τ) (ρ ++ θ) W ∧ PostA b fz g wx Z σ τ θ H W (f ρ) Q
theorem sa_self {b fz : Bool} {g : Gx} {wx : WX} {f : Env → Res (List P × Env)} : SA b fz g wx (tA b fz g wx f) f := fun Z _ τ ρ θ _ W _ hl st post => ⟨Z, τ, ρ, θ, W, hl, st, post⟩
structure DA (X : Cx) (x : Bx) (b fz : Bool) (es : List Expr) (f : Env → Res (List P × Env)) : Prop where
  pa : PA X es (tA b fz (x.g X) x.wx f)
theorem DA.of {X : Cx} {x : Bx} {b fz : Bool} {es : List Expr} {t : TA} {f : Env → Res (List P × Env)} (pa : PA X es t) (sa : SA b fz (x.g X) x.wx t f) : DA X x b fz es f :=
  ⟨⟨fun pos pins s σ H Q I ⟨Z, τ, ρ, θ, W, hl, st, post⟩ => pa.run pos pins s σ H Q I (sa Z _ τ ρ θ _ W _ hl st post)⟩⟩
/-- a place (slot and path), asked for where something stands -/
def PostL (g : Gx) (σ τ : St) (ρ : Env) (H : Hp) (l : Nat × List Nat) (o : O) (Q : VK) : Prop :=
  ∀ v w o0 H', Same H H' → σ[l.1]? = some (some w) → ρ[l.1]? = some (some o0) → o0.get l.2 = some o → Reach g H' w o0 l.2 v → Q v H'
def at_ (ρ : Env) (l : Nat × List Nat) : Option O := (ρ[l.1]?.bind id).bind fun o => o.get l.2
def SLx (g : Gx) (t : TE) (f : Env → Option (Nat × List Nat)) : Prop :=
  ∀ (Z : AP) (σ τ : St) (ρ θ : Env) (H : Hp) (W : AP) (Q : VK) (l : Nat × List Nat) (o : O), σ.length = ρ.length → Sta g H Z (σ ++ τ) (ρ ++ θ) W → f ρ = some l → at_ ρ l = some o → PostL g σ τ ρ H l o Q → t σ H Q
def tL (g : Gx) (f : Env → Option (Nat × List Nat)) : TE := fun σ H Q => ∃ (Z : AP) (τ : St) (ρ θ : Env) (W : AP) (l : Nat × List Nat) (o : O), σ.length = ρ.length ∧ Sta g H Z (σ ++ τ) (ρ ++ θ) W ∧ f ρ = some l ∧ at_ ρ l = some o ∧ PostL g σ τ ρ H l o Q
structure DLx (X : Cx) (x : Bx) (e : Expr) (f : Env → Option (Nat × List Nat)) : Prop where
  pe : PE X e (tL (x.g X) f)
/-- an owned result: one more place behind the slots -/
def PostO (g : Gx) (wx : WX) (Z : AP) (σ τ : St) (θ : Env) (H : Hp) (W : AP) : Res (O × Env) → VK → Prop
  | .ok (o, ρ'), Q => ∀ v H' W', Fr W H W' H' → Sta g H' Z (σ ++ some v :: τ) (ρ' ++ some o :: θ) W' → Q v H'
  | .ex c fs ρ', _ => ∀ cls d H' W', Fr W H W' H' → Sta g H' Z (σ ++ τ) (ρ' ++ θ) W' → ExD g H' (bad W' Z) c fs cls d → wx cls d σ H'
  | .bad, _ => False
def SO (g : Gx) (wx : WX) (t : TE) (f : Env → Res (O × Env)) : Prop :=
  ∀ (Z : AP) (σ τ : St) (ρ θ : Env) (H : Hp) (W : AP) (Q : VK), σ.length = ρ.length → Sta g H Z (σ ++ τ) (ρ ++ θ) W → PostO g wx Z σ τ θ H W (f ρ) Q → t σ H Q
def tO (g : Gx) (wx : WX) (f : Env → Res (O × Env)) : TE := fun σ H Q => ∃ (Z : AP) (τ : St) (ρ θ : Env) (W : AP), σ.length = ρ.length ∧ Sta g H Z (σ ++ τ) (ρ ++ θ) W ∧ PostO g wx Z σ τ θ H W (f ρ) Q
theorem so_self {g : Gx} {wx : WX} {f : Env → Res (O × Env)} : SO g wx (tO g wx f) f := fun Z _ τ ρ θ _ W _ hl st post => ⟨Z, τ, ρ, θ, W, hl, st, post⟩
structure DO (X : Cx) (x : Bx) (e : Expr) (f : Env → Res (O × Env)) : Prop where
  pe : PE X e (tO (x.g X) x.wx f)
theorem DO.of {X : Cx} {x : Bx} {e : Expr} {t : TE} {f : Env → Res (O × Env)} (pe : PE X e t) (so : SO (x.g X) x.wx t f) : DO X x e f :=
  ⟨PE.imp pe fun _ _ _ ⟨Z, τ, ρ, θ, W, hl, st, post⟩ => so Z _ τ ρ θ _ W _ hl st post⟩
theorem DLx.of {X : Cx} {x : Bx} {e : Expr} {t : TE} {f : Env → Option (Nat × List Nat)} (pe : PE X e t) (sl : SLx (x.g X) t f) : DLx X x e f :=
  ⟨PE.imp pe fun _ _ _ ⟨Z, τ, ρ, θ, W, l, o, hl, st, e1, e2, post⟩ => sl Z _ τ ρ θ _ W _ l o hl st e1 e2 post⟩
theorem sl_self {g : Gx} {f : Env → Option (Nat × List Nat)} : SLx g (tL g f) f := fun Z _ τ ρ θ _ W _ l o hl st e1 e2 post => ⟨Z, τ, ρ, θ, W, l, o, hl, st, e1, e2, post⟩
/-- statements -/
def FlP (g : Gx) (Z : AP) (D : Ends) (σ' : St) (ρ' : Env) (H' : Hp) (W' : AP) : Fl → Prop
  | .nx => Sta g H' Z σ' ρ' W' → D.nx σ' H'
  | .bk => Sta g H' Z σ' ρ' W' → D.bk σ' H'
  | .ct => Sta g H' Z σ' ρ' W' → D.ct σ' H'
  | .rt o => ∀ v, Sta g H' Z (σ' ++ [some v]) (ρ' ++ [some o]) W' → D.rt v H'
def PostS (io : List Nat) (g : Gx) (wx : WX) (Z : AP) (σ : St) (H : Hp) (W : AP) : Res (Fl × Env) → Ends → Prop
  | .ok (fl, ρ'), D => ∀ σ' H' W', Fr W H W' H' → Pin io σ' σ → σ'.length = σ.length → FlP g Z D σ' ρ' H' W' fl
  | .ex c fs ρ', _ => ∀ σ' cls d H' W', Fr W H W' H' → Pin io σ' σ → σ'.length = σ.length → Sta g H' Z σ' ρ' W' → ExD g H' (bad W' Z) c fs cls d → wx cls d σ' H'
  | .bad, _ => False
def SS (io : List Nat) (g : Gx) (wx : WX) (t : TS) (f : Env → Res (Fl × Env)) : Prop :=
  ∀ (Z : AP) (σ : St) (ρ : Env) (H : Hp) (W : AP) (D : Ends), Sta g H Z σ ρ W → PostS io g wx Z σ H W (f ρ) D → t D σ H
def tSt (io : List Nat) (g : Gx) (wx : WX) (f : Env → Res (Fl × Env)) : TS := fun D σ H => ∃ (Z : AP) (ρ : Env) (W : AP), Sta g H Z σ ρ W ∧ PostS io g wx Z σ H W (f ρ) D
theorem ss_self {io : List Nat} {g : Gx} {wx : WX} {f : Env → Res (Fl × Env)} : SS io g wx (tSt io g wx f) f := fun Z _ ρ _ W _ st post => ⟨Z, ρ, W, st, post⟩
structure DS (X : Cx) (x : Bx) (s : Stmt) (f : Env → Res (Fl × Env)) : Prop where
  ps : PS X s (tSt x.io (x.g X) x.wx f)
structure DSs (X : Cx) (x : Bx) (s : List Stmt) (f : Env → Res (Fl × Env)) : Prop where
  ps : PSs X s (tSt x.io (x.g X) x.wx f)
theorem DS.of {X : Cx} {x : Bx} {s : Stmt} {t : TS} {f : Env → Res (Fl × Env)} (ps : PS X s t) (ss : SS x.io (x.g X) x.wx t f) : DS X x s f :=
  ⟨⟨fun pins s σ H D I ⟨Z, ρ, W, st, post⟩ => ps.run pins s σ H D I (ss Z σ ρ H W D st post)⟩⟩
theorem DSs.of {X : Cx} {x : Bx} {s : List Stmt} {t : TS} {f : Env → Res (Fl × Env)} (ps : PSs X s t) (ss : SS x.io (x.g X) x.wx t f) : DSs X x s f :=
  ⟨⟨fun pins s σ H D I ⟨Z, ρ, W, st, post⟩ => ps.run pins s σ H D I (ss Z σ ρ H W D st post)⟩⟩
end DL

/-! expressions -/
namespace DL
open PySem PySem.Spec L2

section
variable {g : Gx} {H H' : Hp} {B : AP} {Z W : AP} {σ τ : St} {ρ θ : Env} {wx : WX}
theorem len_tail (hl : σ.length = ρ.length) (st : Sta g H Z (σ ++ τ) (ρ ++ θ) W) {ρ' : Env} {H' : Hp} {W' : AP} (st' : Sta g H' Z (σ ++ τ) (ρ' ++ θ) W') : σ.length = ρ'.length := by
  have a := st.length
  have b := st'.length
  simp only [List.length_append] at a b
  omega
theorem PDt.same {v : V} {d : P} (h : PDt g H B v d) (s : Same H H') : PDt g H' B v d := by
  cases h with
  | f h => exact .f (PDn.mono (fun a o n e => ⟨s a o e, n⟩) d h)
  | t m ho ha => exact .t m (ho.keep fun o e => s _ o e) (PAll.mono (fun a o n e => ⟨s a o e, n⟩) _ ha)
theorem PDn.same {v : V} {d : P} (h : PDn g H B v d) (s : Same H H') : PDn g H' B v d := PDn.mono (fun a o n e => ⟨s a o e, n⟩) d h
theorem PAll.same {vs : List V} {ds : List P} (h : PAll g H B vs ds) (s : Same H H') : PAll g H' B vs ds := PAll.mono (fun a o n e => ⟨s a o e, n⟩) ds h
theorem PDt.s {v w : V} (h : PDt g H B v (.s w)) : v = w := by
  cases h with
  | f h => cases h; rfl
theorem PDt.nd {v : V} {t : Tg} {ks : List P} (h : PDt g H B v (.nd t ks)) : ∃ a vs, v = .ref a ∧ (Ho g.cl H a t vs ∨ HoK g a t vs) ∧ PAll g H B vs ks := by
  cases h with
  | f h =>
    cases h with
    | nd _ ho ha => exact ⟨_, _, rfl, .inl ho, ha⟩
    | k ho ha => exact ⟨_, _, rfl, .inr ho, ha⟩
  | t _ ho ha => exact ⟨_, _, rfl, .inl ho, ha⟩
theorem sqL_none {K : PySem.W.Frag} {a : Addr} {vs : List V} (h : SqL K (fun _ => none) a vs) : SqL K H a vs := by
  rcases h with (h | ⟨o, h⟩) | h
  · cases h
  · cases h
  · exact .inr h
theorem sqT_none {K : PySem.W.Frag} {a : Addr} {vs : List V} (h : SqT K (fun _ => none) a vs) : SqT K H a vs := by
  rcases h with (h | ⟨o, h⟩) | h
  · cases h
  · cases h
  · exact .inr h
def Tg.isL : Tg → Bool
  | .lst => true
  | .slst => true
  | _ => false
theorem PDt.lst {v : V} {ks : List P} (h : PDt g H B v (.nd .lst ks)) : ∃ a vs, v = .ref a ∧ H a = some (.lst vs) ∧ PAll g H B vs ks := by
  obtain ⟨a, vs, e, ho, ha⟩ := h.nd
  exact ⟨a, vs, e, ho.elim (fun q => q) fun q => q.elim, ha⟩
theorem PDt.seqL {v : V} {t : Tg} {ks : List P} (h : PDt g H B v (.nd t ks)) (ht : t.isL = true) : ∃ a vs, v = .ref a ∧ SqL g.K H a vs ∧ PAll g H B vs ks := by
  obtain ⟨a, vs, e, ho, ha⟩ := h.nd
  refine ⟨a, vs, e, ?_, ha⟩
  cases t with
  | lst => exact ho.elim (fun q => .inl (.inl q)) fun q => q.elim
  | slst => exact ho.elim (fun q => .inl q) fun q => sqL_none q
  | tup => cases ht
  | dct _ => cases ht
  | ins _ _ => cases ht
  | exc => cases ht
theorem PDt.tup {v : V} {ks : List P} (h : PDt g H B v (.nd .tup ks)) : ∃ a vs, v = .ref a ∧ SqT g.K H a vs ∧ PAll g H B vs ks := by
  obtain ⟨a, vs, e, ho, ha⟩ := h.nd
  exact ⟨a, vs, e, ho.elim (fun q => .inl q) fun q => sqT_none q, ha⟩
theorem PDt.dct {v : V} {ks : List Key} {ds : List P} (h : PDt g H B v (.nd (.dct ks) ds)) : ∃ a vs, v = .ref a ∧ ks.length = vs.length ∧ ks.Nodup ∧ H a = some (.dK (ks.zip vs)) ∧ PAll g H B vs ds := by
  obtain ⟨a, vs, e, ho, ha⟩ := h.nd
  exact ⟨a, vs, e, ho.elim (fun q => q.1) fun q => q.elim, ho.elim (fun q => q.2.1) fun q => q.elim, ho.elim (fun q => q.2.2) fun q => q.elim, ha⟩
theorem PDt.ins {v : V} {c : Str} {fs : List Str} {ds : List P} (h : PDt g H B v (.nd (.ins c fs) ds)) : ∃ a dx vs, v = .ref a ∧ fs.length = vs.length ∧ fs.Nodup ∧ H a = some (.ins (g.cl c) dx (fs.zip vs)) ∧ PAll g H B vs ds := by
  obtain ⟨a, vs, e, ho, ha⟩ := h.nd
  rcases ho with ho | ho
  · obtain ⟨h1, h2, dx, h3⟩ := ho
    exact ⟨a, dx, vs, e, h1, h2, h3, ha⟩
  · exact ho.elim
/-- a new node -/
theorem PDn.new {p : Addr} {t : Tg} {vs : List V} {ks : List P} {o : HO} (hb : ∀ a, B a → H a ≠ none) (np : H p = none) (ho : Ho g.cl (upd H p o) p t vs) (ha : PAll g H B vs ks) : PDn g (upd H p o) B (.ref p) (.nd t ks) :=
  .nd (fun q => hb p q np) ho (ha.same (same_new np))
end

/-! ### the shape of two operands -/
def OpS (g : Gx) (r : R2) (op : P → P → Option P) : Prop :=
  ∀ (H : Hp) (B : AP) (x y : V) (dx dy z : P) (Q : VK), (∀ a, B a → H a ≠ none) → PDt g H B x dx → PDt g H B y dy → op dx dy = some z → (∀ v H', Same H H' → PDn g H' B v z → Q v H') → r x y H Q
def dBin (op : P → P → Option P) (fa fb : Env → Res (P × Env)) : Env → Res (P × Env) := fun ρ =>
  (fa ρ).bind fun a => (fb a.2).bind fun b => match op a.1 b.1 with
    | some z => .ok (z, b.2)
    | none => .bad
def oSt (o : Option α) (ρ : Env) : Res (α × Env) := match o with
  | some z => .ok (z, ρ)
  | none => .bad
section
variable {g : Gx} {wx : WX} {ta tb : TE} {fa fb : Env → Res (P × Env)} {b1 b2 z1 z2 : Bool}
/-- two operands, then what k wants -/
theorem se_two {r : R2} {k : P → P → Env → Res (P × Env)} (sa : SE b1 z1 g wx ta fa) (sb : SE b2 z2 g wx tb fb) (hz : (z1 || b2) = true)
    (hk : ∀ (Z : AP) (σ τ : St) (ρ θ : Env) (H : Hp) (W : AP) (Q : VK) (x y : V) (dx dy : P), σ.length = ρ.length → Sta g H Z (σ ++ τ) (ρ ++ θ) W → PDt g H (bad W Z) x dx → PDx z2 g H (bad W Z) y dy → (z1 = true → PDn g H (bad W Z) x dx) →
      PostE true true g wx Z σ τ θ H W (k dx dy ρ) Q → r x y H Q) : SE (b1 && b2) true g wx (tOp r ta tb) (fun ρ => (fa ρ).bind fun a => (fb a.2).bind fun b => k a.1 b.1 b.2) := by
  intro Z σ τ ρ θ H W Q hl st post
  dsimp only at post
  refine sa Z σ τ ρ θ H W _ hl st ?_
  cases ea : fa ρ with
  | bad => rw [ea] at post; exact post
  | ex c fs ρ1 => rw [ea] at post; exact post
  | ok p =>
    obtain ⟨dx, ρ1⟩ := p
    rw [ea] at post
    intro x H1 W1 f1 q1 st1 px
    have l1 := len_tail hl st st1
    refine sb Z σ τ ρ1 θ H1 W1 _ l1 st1 ?_
    have post1 : PostE (b1 && b2) true g wx Z σ τ θ H W ((fb ρ1).bind fun b => k dx b.1 b.2) Q := post
    cases eb : fb ρ1 with
    | bad => rw [eb] at post1; exact post1
    | ex c fs ρ2 =>
      rw [eb] at post1
      intro cls d H2 W2 f2 st2 ed
      exact post1 cls d H2 W2 (f1.trans f2) st2 ed
    | ok p =>
      obtain ⟨dy, ρ2⟩ := p
      rw [eb] at post1
      intro y H2 W2 f2 q2 st2 py
      have post2 : PostE (b1 && b2) true g wx Z σ τ θ H W (k dx dy ρ2) Q := post1
      have l2 := len_tail l1 st1 st2
      have px2 : PDt g H2 (bad W2 Z) x dx := by
        cases z1 with
        | true => exact .f (PDn.fr (show PDn g H1 (bad W1 Z) x dx from px) f2)
        | false =>
          have e2 : b2 = true := by simpa using hz
          obtain ⟨eW, sm⟩ := q2 e2
          subst eW
          exact (show PDt g H1 (bad W2 Z) x dx from px).same sm
      refine hk Z σ τ ρ2 θ H2 W2 Q x y dx dy l2 st2 px2 py (fun e => by subst e; exact PDn.fr (show PDn g H1 (bad W1 Z) x dx from px) f2) ?_
      cases ek : k dx dy ρ2 with
      | bad => rw [ek] at post2; exact post2
      | ex c fs ρ3 =>
        rw [ek] at post2
        intro cls d H3 W3 f3 st3 ed
        exact post2 cls d H3 W3 ((f1.trans f2).trans f3) st3 ed
      | ok p =>
        obtain ⟨z, ρ3⟩ := p
        rw [ek] at post2
        intro v H3 W3 f3 q3 st3 pv
        refine post2 v H3 W3 ((f1.trans f2).trans f3) (fun hb => ?_) st3 pv
        obtain ⟨e1, e2⟩ := Bool.and_eq_true_iff.mp hb
        obtain ⟨a1, a2⟩ := q1 e1
        obtain ⟨c1, c2⟩ := q2 e2
        obtain ⟨d1, d2⟩ := q3 rfl
        exact ⟨d1.trans (c1.trans a1), (a2.trans c2).trans d2⟩
theorem se_bin {r : R2} {op : P → P → Option P} (sa : SE b1 z1 g wx ta fa) (sb : SE b2 z2 g wx tb fb) (hz : (z1 || b2) = true) (ho : OpS g r op) : SE (b1 && b2) true g wx (tOp r ta tb) (dBin op fa fb) := by
  refine se_two (k := fun dx dy ρ => match op dx dy with | some z => .ok (z, ρ) | none => .bad) sa sb hz fun Z σ τ ρ θ H W Q x y dx dy l st px py _ post => ?_
  cases e : op dx dy with
  | none => simp only [e] at post; exact post.elim
  | some z =>
    simp only [e] at post
    exact ho H _ x y dx dy z Q st.bt px py.t e fun v H' s pv => post v H' W (.same s) (fun _ => ⟨rfl, s⟩) (st.same s) pv
/-- one operand, then what k wants -/
theorem se_one {r : V → Hp → VK → Prop} {k : P → Env → Res (P × Env)} (sa : SE b1 z1 g wx ta fa)
    (hk : ∀ (Z : AP) (σ τ : St) (ρ θ : Env) (H : Hp) (W : AP) (Q : VK) (x : V) (dx : P), σ.length = ρ.length → Sta g H Z (σ ++ τ) (ρ ++ θ) W → PDx z1 g H (bad W Z) x dx →
      PostE true true g wx Z σ τ θ H W (k dx ρ) Q → r x H Q) : SE b1 true g wx (fun σ H Q => ta σ H fun x H1 => r x H1 Q) (fun ρ => (fa ρ).bind fun a => k a.1 a.2) := by
  intro Z σ τ ρ θ H W Q hl st post
  dsimp only at post
  refine sa Z σ τ ρ θ H W _ hl st ?_
  cases ea : fa ρ with
  | bad => rw [ea] at post; exact post
  | ex c fs ρ1 => rw [ea] at post; exact post
  | ok p =>
    obtain ⟨dx, ρ1⟩ := p
    rw [ea] at post
    intro x H1 W1 f1 q1 st1 px
    have l1 := len_tail hl st st1
    have post1 : PostE b1 true g wx Z σ τ θ H W (k dx ρ1) Q := post
    refine hk Z σ τ ρ1 θ H1 W1 Q x dx l1 st1 px ?_
    cases ek : k dx ρ1 with
    | bad => rw [ek] at post1; exact post1
    | ex c fs ρ3 =>
      rw [ek] at post1
      intro cls d H3 W3 f3 st3 ed
      exact post1 cls d H3 W3 (f1.trans f3) st3 ed
    | ok p =>
      obtain ⟨z, ρ3⟩ := p
      rw [ek] at post1
      intro v H3 W3 f3 q3 st3 pv
      refine post1 v H3 W3 (f1.trans f3) (fun hb => ?_) st3 pv
      obtain ⟨a1, a2⟩ := q1 hb
      obtain ⟨d1, d2⟩ := q3 rfl
      exact ⟨d1.trans a1, a2.trans d2⟩
end

/-! ### names and constants -/
def dConst (d : P) : Env → Res (P × Env) := fun ρ => .ok (d, ρ)
def dVarF (i : Nat) : Env → Res (P × Env) := fun ρ => match ρ[i]? with
  | some (some (.p d)) => .ok (d, ρ)
  | _ => .bad
def dVarZ (i : Nat) : Env → Res (P × Env) := fun ρ => match ρ[i]? with
  | some (some o) => .ok (o.frz, ρ.set i (some (.p o.frz)))
  | _ => .bad
def allP : List O → Option (List P)
  | [] => some []
  | .p d :: ks => (allP ks).map (d :: ·)
  | .nd _ _ :: _ => none
def O.top : O → Option P
  | .p d => some d
  | .nd t ks => (allP ks).map (.nd t)
def dVarT (i : Nat) : Env → Res (P × Env) := fun ρ => match ρ[i]? with
  | some (some o) => oSt o.top ρ
  | _ => .bad
section
variable {g : Gx} {H : Hp} {B : AP} {Z W : AP} {σ τ : St} {ρ θ : Env} {wx : WX}
theorem sc_const (v : V) : SE true true g wx (tC v) (dConst (.s v)) := by
  intro Z σ τ ρ θ H W Q hl st post
  exact post v H W .refl (fun _ => ⟨rfl, Same.refl H⟩) st (.s v)
theorem get_l (hl : σ.length = ρ.length) {i : Nat} {o : Option O} (e : ρ[i]? = some o) : (ρ ++ θ)[i]? = some o ∧ (σ ++ τ)[i]? = σ[i]? := by
  have h := (List.getElem?_eq_some_iff.mp e).1
  exact ⟨by rw [List.getElem?_append_left h]; exact e, by rw [List.getElem?_append_left (by omega)]⟩
theorem sv_p (i : Nat) : SE true true g wx (tVar i) (dVarF i) := by
  intro Z σ τ ρ θ H W Q hl st post
  unfold dVarF at post
  split at post
  · rename_i d e
    obtain ⟨e1, e2⟩ := get_l (τ := τ) (θ := θ) hl e
    obtain ⟨v, ev, pv⟩ := st.slotP e1
    rw [e2] at ev
    exact ⟨v, ev, post v H W .refl (fun _ => ⟨rfl, Same.refl H⟩) st pv⟩
  · exact post.elim
theorem set_l (hl : σ.length = ρ.length) {i : Nat} {o : Option O} {x : Option O} (e : ρ[i]? = some o) : (ρ ++ θ).set i x = ρ.set i x ++ θ := by
  have h := (List.getElem?_eq_some_iff.mp e).1
  rw [List.set_append_left _ _ h]
theorem sv_z (i : Nat) : SE false true g wx (tVar i) (dVarZ i) := by
  intro Z σ τ ρ θ H W Q hl st post
  unfold dVarZ at post
  split at post
  · rename_i o e
    obtain ⟨e1, e2⟩ := get_l (τ := τ) (θ := θ) hl e
    obtain ⟨v, W', ev, f, pv, st'⟩ := st.freeze e1
    rw [e2] at ev
    rw [set_l (θ := θ) hl e] at st'
    exact ⟨v, ev, post v H W' f (fun z => nomatch z) st' pv⟩
  · exact post.elim
theorem allP_ok : ∀ {ks : List O} {ds : List P} {vs : List V} {fp : List Addr}, allP ks = some ds → OAll g H B vs ks fp → PAll g H B vs ds
  | [], _, _, _, e, h => by
    cases e
    cases h
    exact .nil
  | .p d :: ks, _, _, _, e, h => by
    unfold allP at e
    obtain ⟨es, e1, e2⟩ := Option.map_eq_some_iff.mp e
    subst e2
    cases h with
    | cons h1 h2 =>
      cases h1 with
      | p h1 => exact .cons h1 (allP_ok e1 h2)
theorem ODn.top {o : O} {d : P} {v : V} {fp : List Addr} (h : ODn g H B v o fp) (e : o.top = some d) : PDt g H B v d := by
  cases o with
  | p d' =>
    cases e
    cases h with
    | p h => exact .f h
  | nd t ks =>
    unfold O.top at e
    obtain ⟨es, e1, e2⟩ := Option.map_eq_some_iff.mp e
    subst e2
    cases h with
    | nd m ho ha => exact .t m ho (allP_ok e1 ha)
theorem sv_t (i : Nat) : SE true false g wx (tVar i) (dVarT i) := by
  intro Z σ τ ρ θ H W Q hl st post
  unfold dVarT at post
  split at post
  · rename_i o e
    obtain ⟨e1, e2⟩ := get_l (τ := τ) (θ := θ) hl e
    obtain ⟨v, fk, ev, ho, _⟩ := st.slot e1
    rw [e2] at ev
    cases et : o.top with
    | none => rw [et] at post; exact post.elim
    | some d =>
      rw [et] at post
      exact ⟨v, ev, post v H W .refl (fun _ => ⟨rfl, Same.refl H⟩) st (ho.top et)⟩
  · exact post.elim
end

/-! ### places -/
def lName (i : Nat) : Env → Option (Nat × List Nat) := fun _ => some (i, [])
def ixOf (f : Str) : List Str → Option Nat
  | [] => none
  | x :: xs => if x = f then some 0 else (ixOf f xs).map (· + 1)
def lAttr (c f : Str) (fl : Env → Option (Nat × List Nat)) : Env → Option (Nat × List Nat) := fun ρ => (fl ρ).bind fun l => match at_ ρ l with
  | some (.nd (.ins c' fs) _) => if c' = c then (ixOf f fs).map fun j => (l.1, l.2 ++ [j]) else none
  | _ => none
def lIx (fl : Env → Option (Nat × List Nat)) (fi : Env → Res (P × Env)) : Env → Option (Nat × List Nat) := fun ρ => (fl ρ).bind fun l => match fi ρ, at_ ρ l with
  | .ok (.s (.int n), _), some (.nd .lst ks) => (ixN ks.length n).map fun j => (l.1, l.2 ++ [j])
  | _, _ => none
theorem Reach.app {g : Gx} {H : Hp} {v : V} {o : O} {π : List Nat} {x : V} (h : Reach g H v o π x) : ∀ {o' : O} {ω : List Nat} {y : V}, o.get π = some o' → Reach g H x o' ω y → Reach g H v o (π ++ ω) y := by
  induction h with
  | here => intro o' ω y e r; simp [O.get] at e; subst e; exact r
  | step m ho e1 e2 _ ih =>
    intro o' ω y e r
    simp [O.get, e2] at e
    exact .step m ho e1 e2 (ih e r)
theorem Reach.same {g : Gx} {H H' : Hp} (s : Same H H') {v : V} {o : O} {π : List Nat} {x : V} (h : Reach g H v o π x) : Reach g H' v o π x := by
  induction h with
  | here => exact .here
  | step m ho e1 e2 _ ih => exact .step m (ho.keep fun o e => s _ o e) e1 e2 ih
theorem ixOf_lookup {α : Type} {f : Str} : ∀ {fs : List Str} {vs : List α} {j : Nat}, fs.length = vs.length → ixOf f fs = some j → ∃ v, vs[j]? = some v ∧ (fs.zip vs).lookup f = some v
  | [], _, _, _, e => by simp [ixOf] at e
  | x :: fs, [], _, h, _ => by simp at h
  | x :: fs, v :: vs, j, h, e => by
    unfold ixOf at e
    by_cases hx : x = f
    · rw [if_pos hx] at e
      cases e
      subst hx
      exact ⟨v, rfl, by simp [List.lookup]⟩
    · rw [if_neg hx] at e
      obtain ⟨k, e1, e2⟩ := Option.map_eq_some_iff.mp e
      subst e2
      obtain ⟨w, h1, h2⟩ := ixOf_lookup (vs := vs) (by simpa using h) e1
      refine ⟨w, by simpa using h1, ?_⟩
      have hb : (f == x) = false := by simpa using fun q => hx q.symm
      simp [List.lookup, hb, h2]
section
variable {g : Gx} {H : Hp} {Z W : AP} {σ τ : St} {ρ θ : Env} {wx : WX} {t tb : TE} {fl : Env → Option (Nat × List Nat)}
/-- what stands at a place -/
theorem Sta.place {i : Nat} {π : List Nat} {o' : O} (hl : σ.length = ρ.length) (st : Sta g H Z (σ ++ τ) (ρ ++ θ) W) (e : at_ ρ (i, π) = some o') :
    ∃ w o x fk, σ[i]? = some (some w) ∧ ρ[i]? = some (some o) ∧ o.get π = some o' ∧ Reach g H w o π x ∧ ODn g H (bad W Z) x o' fk ∧ ∀ a ∈ fk, W a := by
  unfold at_ at e
  cases e1 : ρ[i]? with
  | none => simp [e1] at e
  | some q =>
    cases q with
    | none => simp [e1] at e
    | some o =>
      have e2 : o.get π = some o' := by simpa [e1] using e
      obtain ⟨e3, e4⟩ := get_l (τ := τ) (θ := θ) hl e1
      obtain ⟨w, fk, ev, ho, hw⟩ := st.slot e3
      rw [e4] at ev
      obtain ⟨x, f1, f2, f3, ef, re, hx, _⟩ := ho.focus e2
      exact ⟨w, o, x, f2, ev, rfl, e2, re, hx, fun a q => hw a (by rw [ef]; simp [q])⟩
theorem slx_name (i : Nat) : SLx g (tVar i) (lName i) := by
  intro Z σ τ ρ θ H W Q l o hl st e1 e2 post
  cases e1
  obtain ⟨w, o0, x, fk, ev, eo, eg, re, _⟩ := st.place hl e2
  cases re
  exact ⟨w, ev, post w w o0 H (Same.refl H) ev eo eg .here⟩
theorem slx_attr {K : PySem.W.Frag} {c f : Str} (hK : g.K = K) (sl : SLx g t fl) (hc : Cls K (g.cl c)) (hn : NoAttr K (g.cl c) f) : SLx g (tFld K t f) (lAttr c f fl) := by
  intro Z σ τ ρ θ H W Q l o hl st e1 e2 post
  unfold lAttr at e1
  obtain ⟨l0, el, e3⟩ := Option.bind_eq_some_iff.mp e1
  split at e3
  · rename_i c' fs ks ea
    split at e3
    · rename_i ec
      subst ec
      obtain ⟨j, ej, e4⟩ := Option.map_eq_some_iff.mp e3
      subst e4
      refine sl Z σ τ ρ θ H W _ l0 _ hl st el ea fun v w o0 H' s ew eo eg re => ?_
      obtain ⟨w', o0', x, fk, ev', eo', eg', re', hx, _⟩ := (st.same s).place hl ea
      have z1 : w' = w := by rw [ev'] at ew; cases ew; rfl
      have z2 : o0' = o0 := by rw [eo'] at eo; cases eo; rfl
      subst z1 z2
      have z3 := re.inj re'
      subst z3
      cases hx with
      | @nd a _ vs _ fp m ho ha =>
        obtain ⟨h1, h2, dx, h3⟩ := id ho
        obtain ⟨u, hu, hlk⟩ := ixOf_lookup h1 ej
        refine ⟨a, g.cl c', dx, fs.zip vs, u, rfl, h3, hc, hn, hlk, ?_⟩
        have ek : ∃ k, ks[j]? = some k := by
          have := ha.length
          have hj := (List.getElem?_eq_some_iff.mp hu).1
          exact ⟨ks[j], List.getElem?_eq_getElem (by omega)⟩
        obtain ⟨k, ek⟩ := ek
        have r2 : Reach g H' w' o0' (l0.2 ++ [j]) u := re.app eg (.step m ho hu ek .here)
        refine post u w' o0' H' s ev' eo' ?_ r2
        have e2' := e2
        unfold at_ at e2'
        simpa [eo'] using e2'
    · cases e3
  · cases e3
/-- a subscript of an owned list as a place -/
theorem slx_ix {K : PySem.W.Frag} {z1 : Bool} {fi : Env → Res (P × Env)} {wx : WX} {r : R2} (hK : g.K = K) (sl : SLx g t fl) (si : SE true z1 g wx tb fi) (hr : ∀ x y H Q, rIxL K x y H Q → r x y H Q) : SLx g (tOp r t tb) (lIx fl fi) := by
  intro Z σ τ ρ θ H W Q l o hl st e1 e2 post
  subst hK
  unfold lIx at e1
  obtain ⟨l0, el, e3⟩ := Option.bind_eq_some_iff.mp e1
  split at e3
  · rename_i n ρ1 ks ei ea
    obtain ⟨j, ej, e4⟩ := Option.map_eq_some_iff.mp e3
    subst e4
    refine sl Z σ τ ρ θ H W _ l0 _ hl st el ea fun v w o0 H' s ew eo eg re => ?_
    refine si Z σ τ ρ θ H' W _ hl (st.same s) ?_
    rw [ei]
    intro y H2 W2 f2 q2 st2 py
    obtain ⟨eW, s2⟩ := q2 rfl
    subst eW
    obtain ⟨w', o0', x, fk, ev', eo', eg', re', hx, _⟩ := ((st.same s).same s2).place hl ea
    have z1 : w' = w := by rw [ev'] at ew; cases ew; rfl
    have z2 : o0' = o0 := by rw [eo'] at eo; cases eo; rfl
    subst z1 z2
    have re2 := re.same s2
    have z3 := re2.inj re'
    subst z3
    cases hx with
    | @nd a _ vs _ fp m ho ha =>
      have eh : H2 a = some (.lst vs) := ho
      have ey := py.t.s
      subst ey
      have hj : j < ks.length := (ixN_seq ej).2.1
      obtain ⟨u, hu⟩ : ∃ u, vs[j]? = some u := ⟨vs[j]'(by rw [ha.length]; exact hj), List.getElem?_eq_getElem _⟩
      have r2 : Reach g H2 w' o0' (l0.2 ++ [j]) u := re2.app eg (.step m ho hu (List.getElem?_eq_getElem hj) .here)
      refine hr _ _ _ _ ⟨a, vs, n, u, rfl, rfl, .inl (.inl eh), by unfold atI; rw [ha.length, ej]; exact hu, ?_⟩
      refine post u w' o0' H2 (s.trans s2) ev' eo' ?_ r2
      have e2' := e2
      unfold at_ at e2'
      simpa [eo'] using e2'
  · cases e3
end
end DL

/-! operators by value -/
namespace DL
open PySem PySem.Spec L2

/-! ### operators -/
def pOr (f h : P → P → Option P) : P → P → Option P := fun x y => match f x y with
  | some z => some z
  | none => h x y
def pI0 (f : Int → Int → V) : P → P → Option P
  | .s (.int i), .s (.int j) => some (.s (f i j))
  | _, _ => none
def pIc (C : Int → Int → Prop) [∀ i j, Decidable (C i j)] (f : Int → Int → V) : P → P → Option P
  | .s (.int i), .s (.int j) => if C i j then some (.s (f i j)) else none
  | _, _ => none
def pCatS : P → P → Option P
  | .s (.str a), .s (.str b) => if a.length + b.length ≤ sizeLine then some (.s (.str (a ++ b))) else none
  | _, _ => none
def pCatL : P → P → Option P
  | .nd .lst xs, .nd .lst ys => if xs.length + ys.length ≤ sizeLine then some (.nd .lst (xs ++ ys)) else none
  | _, _ => none
def pCatT : P → P → Option P
  | .nd .tup (x :: xs), .nd .tup ys => if (x :: xs).length + ys.length ≤ sizeLine then some (.nd .tup (x :: xs ++ ys)) else none
  | _, _ => none
def pRepL : P → P → Option P
  | .nd .lst xs, .s (.int k) => if -(2 ^ 63) ≤ k ∧ k < 2 ^ 63 ∧ xs.length * k.toNat ≤ sizeLine then some (.nd .lst (List.replicate k.toNat xs).flatten) else none
  | _, _ => none
mutual
def P.dat : P → Option PyData
  | .s .non => some .none
  | .s (.bl b) => some (.bool b)
  | .s (.int i) => some (.int i)
  | .s (.str z) => some (.str z)
  | .nd .lst ks => (P.dats ks).map .list
  | .nd .slst ks => (P.dats ks).map .list
  | .nd .tup ks => (P.dats ks).map .tuple
  | _ => none
def P.dats : List P → Option (List PyData)
  | [] => some []
  | k :: ks => match k.dat, P.dats ks with
    | some d, some ds => some (d :: ds)
    | _, _ => none
end
def pEq (neg : Bool) : P → P → Option P := fun x y => match x.dat, y.dat with
  | some d, some e => if SeqAt.shaped d = true ∧ SeqAt.shaped e = true then some (.s (.bl (neg ^^ PyData.eqv d e))) else none
  | _, _ => none
def pIsN (neg : Bool) : P → P → Option P
  | .s v, .s .non => some (.s (.bl (neg ^^ decide (v = .non))))
  | .nd _ _, .s .non => some (.s (.bl neg))
  | _, _ => none
def pLtS : P → P → Option P
  | .s (.str a), .s (.str b) => some (.s (.bl (decide (a.cps.toList < b.cps.toList))))
  | _, _ => none
def pLeS : P → P → Option P
  | .s (.str a), .s (.str b) => some (.s (.bl (!decide (b.cps.toList < a.cps.toList))))
  | _, _ => none
def flats : List P → Option (List V)
  | [] => some []
  | .s v :: ks => if flatV v = true then (flats ks).map (v :: ·) else none
  | .nd _ _ :: _ => none
def pInF (neg : Bool) : P → P → Option P
  | .s v, .nd t ks => if flatV v = true ∧ (t = .lst ∨ t = .slst ∨ t = .tup) then (flats ks).map fun vs => .s (.bl (neg ^^ inV v vs)) else none
  | _, _ => none
def pInS (neg : Bool) : P → P → Option P
  | .s (.str a), .s (.str b) => (match a.cps.toList with
    | [c] => some (.s (.bl (neg ^^ decide (c ∈ b.cps.toList))))
    | _ => some (.s (.bl (neg ^^ !(Builtin.Str.occurrences b a 0 b.length 1).isEmpty))))
  | _, _ => none

section
variable {g : Gx} {H : Hp} {B : AP}
theorem ops_or {r1 r2 : R2} {f h : P → P → Option P} (a : OpS g r1 f) (b : OpS g r2 h) : OpS g (fun x y H Q => r1 x y H Q ∨ r2 x y H Q) (pOr f h) := by
  intro H B x y dx dy z Q hb px py e k
  unfold pOr at e
  cases ef : f dx dy with
  | some w =>
    rw [ef] at e
    cases e
    exact .inl (a H B x y dx dy _ Q hb px py ef k)
  | none =>
    rw [ef] at e
    exact .inr (b H B x y dx dy z Q hb px py e k)
theorem ops_int0 (f : Int → Int → V) : OpS g (rI0 f) (pI0 f) := by
  intro H B x y dx dy z Q hb px py e k
  unfold pI0 at e
  split at e
  · cases e
    exact ⟨_, _, px.s, py.s, k _ H (Same.refl H) (.s _)⟩
  · cases e
theorem ops_intc (C : Int → Int → Prop) [∀ i j, Decidable (C i j)] (f : Int → Int → V) : OpS g (rI C f) (pIc C f) := by
  intro H B x y dx dy z Q hb px py e k
  unfold pIc at e
  split at e
  · split at e
    · rename_i hc
      cases e
      exact ⟨_, _, px.s, py.s, hc, k _ H (Same.refl H) (.s _)⟩
    · cases e
  · cases e
theorem ops_catS : OpS g (fun x y H Q => ∃ i j, x = .str i ∧ y = .str j ∧ i.length + j.length ≤ sizeLine ∧ Q (.str (i ++ j)) H) pCatS := by
  intro H B x y dx dy z Q hb px py e k
  unfold pCatS at e
  split at e
  · split at e
    · rename_i hc
      cases e
      exact ⟨_, _, px.s, py.s, hc, k _ H (Same.refl H) (.s _)⟩
    · cases e
  · cases e
theorem ops_catL : OpS g rCat pCatL := by
  intro H B x y dx dy z Q hb px py e k
  unfold pCatL at e
  split at e
  · split at e
    · rename_i hc
      cases e
      obtain ⟨a, vs, rfl, ea, pa⟩ := px.lst
      obtain ⟨c, ws, rfl, ec, pc⟩ := py.lst
      refine ⟨a, c, vs, ws, rfl, rfl, ea, ec, by rw [pa.length, pc.length]; exact hc, fun p np => k _ _ (same_new np) ?_⟩
      exact PDn.new hb np upd_same (pa.append pc)
    · cases e
  · cases e
theorem ops_catT {K : PySem.W.Frag} (hK : g.K = K) : OpS g (rCatT K) pCatT := by
  intro H B x y dx dy z Q hb px py e k
  subst hK
  unfold pCatT at e
  split at e
  · rename_i d ds ys
    split at e
    · rename_i hc
      cases e
      obtain ⟨a, vs, rfl, ea, pa⟩ := px.tup
      obtain ⟨c, ws, rfl, ec, pc⟩ := py.tup
      refine ⟨a, c, vs, ws, rfl, rfl, ea, ec, ?_, by rw [pa.length, pc.length]; exact hc, fun hw => ?_, fun hw p np => k _ _ (same_new np) ?_⟩
      · intro z
        subst z
        have := pa.length
        simp at this
      · subst hw
        have e1 : ys = [] := by
          have := pc.length
          cases ys with
          | nil => rfl
          | cons _ _ => simp at this
        subst e1
        cases px with
        | f h => exact k _ H (Same.refl H) (by simpa using h)
        | t m _ _ => cases m
      · exact PDn.new hb np (.inl upd_same) (pa.append pc)
    · cases e
  · cases e
theorem PAll.flatten : ∀ (n : Nat) {vs : List V} {ds : List P}, PAll g H B vs ds → PAll g H B (List.replicate n vs).flatten (List.replicate n ds).flatten
  | 0, _, _, _ => .nil
  | n + 1, _, _, h => by
    simp only [List.replicate_succ, List.flatten_cons]
    exact h.append (PAll.flatten n h)
theorem ops_repL : OpS g rRep pRepL := by
  intro H B x y dx dy z Q hb px py e k
  unfold pRepL at e
  split at e
  · split at e
    · rename_i hc
      cases e
      obtain ⟨a, vs, rfl, ea, pa⟩ := px.lst
      obtain ⟨h1, h2, h3⟩ := hc
      refine ⟨a, _, vs, rfl, py.s, ea, h1, h2, by rw [pa.length]; exact h3, fun p np => k _ _ (same_new np) ?_⟩
      exact PDn.new hb np upd_same (PAll.flatten _ pa)
    · cases e
  · cases e
mutual
theorem PDn.dat : ∀ (d : P) {v : V} {e : PyData}, PDn g H B v d → d.dat = some e → Dp g.K H v e
  | .s w, v, e, h, q => by
    cases h
    cases w <;> simp [P.dat] at q <;> subst q
    · exact .non
    · exact .bl _
    · exact .int _
    · exact .str _
  | .nd t ks, v, e, h, q => by
    obtain ⟨a, vs, rfl, ho, ha⟩ := (PDt.f h).nd
    have key : ∀ {es}, P.dats ks = some es → DpAll g.K H vs es := fun z => PAll.dat ks ha z
    cases t with
    | lst =>
      simp only [P.dat, Option.map_eq_some_iff] at q
      obtain ⟨es, q1, rfl⟩ := q
      exact .lst (ho.elim (fun q => .inl (.inl q)) fun q => q.elim) (key q1)
    | slst =>
      simp only [P.dat, Option.map_eq_some_iff] at q
      obtain ⟨es, q1, rfl⟩ := q
      exact .lst (ho.elim (fun q => .inl q) fun q => sqL_none q) (key q1)
    | tup =>
      simp only [P.dat, Option.map_eq_some_iff] at q
      obtain ⟨es, q1, rfl⟩ := q
      exact .tup (ho.elim (fun q => .inl q) fun q => sqT_none q) (key q1)
    | dct _ => simp [P.dat] at q
    | ins _ _ => simp [P.dat] at q
    | exc => simp [P.dat] at q
theorem PAll.dat : ∀ (ds : List P) {vs : List V} {es : List PyData}, PAll g H B vs ds → P.dats ds = some es → DpAll g.K H vs es
  | [], _, _, h, q => by
    cases h
    simp [P.dats] at q
    subst q
    exact .nil
  | d :: ds, _, _, h, q => by
    cases h with
    | cons h1 h2 =>
      unfold P.dats at q
      split at q
      · rename_i e es q1 q2
        cases q
        exact .cons (PDn.dat d h1 q1) (PAll.dat ds h2 q2)
      · cases q
end
theorem PDt.dat {d : P} {v : V} {e : PyData} (h : PDt g H B v d) (q : d.dat = some e) : Dp g.K H v e := by
  cases h with
  | f h => exact h.dat _ q
  | @t a t vs ks m ho ha =>
    cases t with
    | lst =>
      simp only [P.dat, Option.map_eq_some_iff] at q
      obtain ⟨es, q1, rfl⟩ := q
      exact .lst (.inl (.inl ho)) (ha.dat _ q1)
    | slst => cases m
    | tup => cases m
    | dct _ => simp [P.dat] at q
    | ins _ _ => simp [P.dat] at q
    | exc => simp [P.dat] at q
theorem ops_eq {K : PySem.W.Frag} (hK : g.K = K) : OpS g (rEqD K) (pEq false) := by
  intro H B x y dx dy z Q hb px py e k
  subst hK
  unfold pEq at e
  split at e
  · rename_i d1 d2 q1 q2
    split at e
    · rename_i hc
      cases e
      exact ⟨d1, d2, px.dat q1, py.dat q2, hc.1, hc.2, k _ H (Same.refl H) (by simpa using PDn.s _)⟩
    · cases e
  · cases e
theorem ops_ne {K : PySem.W.Frag} (hK : g.K = K) : OpS g (rNeD K) (pEq true) := by
  intro H B x y dx dy z Q hb px py e k
  subst hK
  unfold pEq at e
  split at e
  · rename_i d1 d2 q1 q2
    split at e
    · rename_i hc
      cases e
      exact ⟨d1, d2, px.dat q1, py.dat q2, hc.1, hc.2, k _ H (Same.refl H) (by simpa using PDn.s _)⟩
    · cases e
  · cases e
theorem PDt.isN {x : V} {d : P} (h : PDt g H B x d) : decide (x = .non) = (match d with | .s v => decide (v = .non) | .nd _ _ => false) := by
  cases d with
  | s v =>
    have e := h.s
    subst e
    rfl
  | nd t ks =>
    obtain ⟨a, vs, rfl, _⟩ := h.nd
    rfl
theorem ops_isN : OpS g (fun x y H Q => y = .non ∧ Q (.bl (decide (x = .non))) H) (pIsN false) := by
  intro H B x y dx dy z Q hb px py e k
  unfold pIsN at e
  split at e
  · cases e
    exact ⟨py.s, by rw [px.isN]; exact k _ H (Same.refl H) (by simpa using PDn.s _)⟩
  · cases e
    exact ⟨py.s, by rw [px.isN]; exact k _ H (Same.refl H) (by simpa using PDn.s _)⟩
  · cases e
theorem ops_notN : OpS g (fun x y H Q => y = .non ∧ Q (.bl (!decide (x = .non))) H) (pIsN true) := by
  intro H B x y dx dy z Q hb px py e k
  unfold pIsN at e
  split at e
  · cases e
    exact ⟨py.s, by rw [px.isN]; exact k _ H (Same.refl H) (by simpa using PDn.s _)⟩
  · cases e
    exact ⟨py.s, by rw [px.isN]; exact k _ H (Same.refl H) (by simpa using PDn.s _)⟩
  · cases e
theorem ops_ltS : OpS g (fun x y H Q => ∃ i j, x = .str i ∧ y = .str j ∧ Q (.bl (decide (i.cps.toList < j.cps.toList))) H) pLtS := by
  intro H B x y dx dy z Q hb px py e k
  unfold pLtS at e
  split at e
  · cases e
    exact ⟨_, _, px.s, py.s, k _ H (Same.refl H) (.s _)⟩
  · cases e
theorem ops_leS : OpS g (fun x y H Q => ∃ i j, x = .str i ∧ y = .str j ∧ Q (.bl (!decide (j.cps.toList < i.cps.toList))) H) pLeS := by
  intro H B x y dx dy z Q hb px py e k
  unfold pLeS at e
  split at e
  · cases e
    exact ⟨_, _, px.s, py.s, k _ H (Same.refl H) (.s _)⟩
  · cases e
theorem flats_ok : ∀ {ks : List P} {vs ws : List V}, PAll g H B vs ks → flats ks = some ws → vs = ws ∧ vs.all flatV = true
  | [], _, _, h, e => by
    cases h
    simp [flats] at e
    subst e
    exact ⟨rfl, rfl⟩
  | .s v :: ks, _, _, h, e => by
    cases h with
    | cons h1 h2 =>
      cases h1
      unfold flats at e
      split at e
      · rename_i hf
        obtain ⟨us, e1, rfl⟩ := Option.map_eq_some_iff.mp e
        obtain ⟨r1, r2⟩ := flats_ok h2 e1
        subst r1
        exact ⟨rfl, by simp [hf, r2]⟩
      · cases e
theorem ops_inF {K : PySem.W.Frag} (hK : g.K = K) (neg : Bool) : OpS g (rIn K neg) (pInF neg) := by
  intro H B x y dx dy z Q hb px py e k
  subst hK
  unfold pInF at e
  split at e
  · rename_i v t ks
    split at e
    · rename_i hc
      obtain ⟨ws, e1, rfl⟩ := Option.map_eq_some_iff.mp e
      obtain ⟨a, vs, rfl, ho, ha⟩ := py.nd
      obtain ⟨rfl, hfl⟩ := flats_ok ha e1
      have hs : SqL g.K H a vs ∨ SqT g.K H a vs := by
        rcases hc.2 with rfl | rfl | rfl
        · exact .inl (ho.elim (fun q => .inl (.inl q)) fun q => q.elim)
        · exact .inl (ho.elim (fun q => .inl q) fun q => sqL_none q)
        · exact .inr (ho.elim (fun q => .inl q) fun q => sqT_none q)
      refine ⟨a, vs, rfl, hs, by rw [px.s]; exact hc.1, hfl, ?_⟩
      rw [px.s]
      have q := k (.bl (if neg = true then !inV v vs else inV v vs)) H (Same.refl H) (by cases neg <;> simpa using PDn.s _)
      exact q
    · cases e
  · cases e
theorem ops_inS : OpS g (fun x y H Q => (∃ (c : Nat) (z : Str), x = .str ⟨#[c]⟩ ∧ y = .str z ∧ Q (.bl (decide (c ∈ z.cps.toList))) H) ∨ ∃ i j, x = .str i ∧ y = .str j ∧ Q (.bl (!(Builtin.Str.occurrences j i 0 j.length 1).isEmpty)) H) (pInS false) := by
  intro H B x y dx dy z Q hb px py e k
  unfold pInS at e
  split at e
  · rename_i a b
    split at e
    · rename_i c ec
      cases e
      have ea : a = ⟨#[c]⟩ := by
        cases a with
        | mk l =>
          cases l with
          | mk l =>
            have : l = [c] := ec
            subst this
            rfl
      exact .inl ⟨c, b, by rw [px.s, ea], py.s, k _ H (Same.refl H) (by simpa using PDn.s _)⟩
    · cases e
      exact .inr ⟨_, _, px.s, py.s, k _ H (Same.refl H) (by simpa using PDn.s _)⟩
  · cases e
theorem ops_notInS : OpS g (fun x y H Q => (∃ (c : Nat) (z : Str), x = .str ⟨#[c]⟩ ∧ y = .str z ∧ Q (.bl (!decide (c ∈ z.cps.toList))) H) ∨ ∃ i j, x = .str i ∧ y = .str j ∧ Q (.bl (!(!(Builtin.Str.occurrences j i 0 j.length 1).isEmpty))) H) (pInS true) := by
  intro H B x y dx dy z Q hb px py e k
  unfold pInS at e
  split at e
  · rename_i a b
    split at e
    · rename_i c ec
      cases e
      have ea : a = ⟨#[c]⟩ := by
        cases a with
        | mk l =>
          cases l with
          | mk l =>
            have : l = [c] := ec
            subst this
            rfl
      exact .inl ⟨c, b, by rw [px.s, ea], py.s, k _ H (Same.refl H) (by simpa using PDn.s _)⟩
    · cases e
      exact .inr ⟨_, _, px.s, py.s, k _ H (Same.refl H) (by simpa using PDn.s _)⟩
  · cases e
end
end DL

/-! rules of expressions -/
namespace DL
open PySem PySem.Spec L2

abbrev bset : List Str := ["len", "range", "int", "str", "isinstance", "tuple", "list", "dict", "min", "max", "sum", "sorted", "zip", "enumerate", "reversed", "any", "all", "iter", "next", "bool", "set", "abs", "repr"]
structure Cb (X : Cx) (x : Bx) : Prop where
  hu : X.A.units + 64 < cLine
  nd : X.N.Nodup
  fr : ∀ n ∈ bset, X.mg n = none
/-- outside of except suites -/
structure Ct (X : Cx) (x : Bx) : Prop where
  b : Cb X x
  calm : X.calm = true
  tk : L2N.Takes X x.wx
  pass : PassesOwn (model X.prog X.w) X.A X.env X.xe
instance decCMul : ∀ i j, Decidable (CMul i j) := fun i j => by unfold CMul; infer_instance
instance decCDiv : ∀ i j, Decidable (CDiv i j) := fun i j => by unfold CDiv; infer_instance
instance decCDivN : ∀ i j, Decidable (CDivN i j) := fun i j => by unfold CDivN; infer_instance
instance decCPow : ∀ i j, Decidable (CPow i j) := fun i j => by unfold CPow; infer_instance

def pAdd : P → P → Option P := pOr (pI0 fun i j => .int (i + j)) (pOr pCatS (pOr pCatL pCatT))
def pSub : P → P → Option P := pI0 fun i j => .int (i - j)
def pMul : P → P → Option P := pOr (pIc CMul fun i j => .int (i * j)) pRepL
def pDiv : P → P → Option P := pOr (pIc CDiv fun i j => .int (i / j)) (pIc CDivN fun i j => .int (i.fdiv j))
def pMod : P → P → Option P := pOr (pIc (fun _ j => 0 < j) fun i j => .int (i % j)) (pIc (fun _ j => j ≠ 0) fun i j => .int (i.fmod j))
def pPow : P → P → Option P := pIc CPow fun i j => .int (i ^ j.toNat)
def pShl : P → P → Option P := pIc CPow fun i j => .int (i * 2 ^ j.toNat)
def pShr : P → P → Option P := pIc (fun _ j => 0 ≤ j) fun i j => .int (i / 2 ^ j.toNat)
def pAnd : P → P → Option P := pI0 fun i j => .int (Builtin.bitAnd i j)
def pBor : P → P → Option P := pI0 fun i j => .int (Builtin.bitOr i j)
def pXor : P → P → Option P := pI0 fun i j => .int (Builtin.bitXor i j)
def pLt : P → P → Option P := pOr (pI0 fun i j => .bl (decide (i < j))) pLtS
def pLe : P → P → Option P := pOr (pI0 fun i j => .bl (decide (i ≤ j))) pLeS
def pGt : P → P → Option P := pOr (pI0 fun i j => .bl (decide (j < i))) fun x y => pLtS y x
def pGe : P → P → Option P := pOr (pI0 fun i j => .bl (decide (j ≤ i))) fun x y => pLeS y x

/-! ### subscripts -/
def pIxL : P → P → Option P
  | .nd t ks, .s (.int i) => if t = .lst ∨ t = .slst then atI ks i else none
  | _, _ => none
def pIxT : P → P → Option P
  | .nd .tup ks, .s (.int i) => atI ks i
  | _, _ => none
def pIxS : P → P → Option P
  | .s (.str z), .s (.int i) => if z.length ≤ sizeLine then (atI z.cps.toList i).map fun c => .s (.str ⟨#[c]⟩) else none
  | _, _ => none
def kix (k : Key) : List Key → Option Nat
  | [] => none
  | x :: xs => if x = k then some 0 else (kix k xs).map (· + 1)
def P.key : P → Option Key
  | .s (.int i) => some (.inl i)
  | .s (.str z) => some (.inr z)
  | _ => none
def pDGet : P → P → Option P
  | .nd (.dct ks) ds, y => y.key.bind fun k => (kix k ks).bind fun j => ds[j]?
  | _, _ => none
def pDIn (neg : Bool) : P → P → Option P
  | y, .nd (.dct ks) _ => y.key.map fun k => .s (.bl (neg ^^ (kix k ks).isSome))
  | _, _ => none
def pSubs : P → P → Option P := pOr pIxL (pOr pIxT (pOr pIxS pDGet))
def pIn (neg : Bool) : P → P → Option P := pOr (pInS neg) (pOr (pInF neg) (pDIn neg))
def rDG : R2 := fun x y H Q => ∃ a v, x = .ref a ∧ DGet H a y (some v) ∧ Q v H
def rDIn (neg : Bool) : R2 := fun x y H Q => ∃ a ov, y = .ref a ∧ DGet H a x ov ∧ Q (.bl (neg ^^ ov.isSome)) H
theorem ixr_dict {X : Cx} (hu : X.A.units + 1 < cLine) : IxR X rDG := by
  intro value slice pins s σ H x y v u Q I rx ry h hs
  obtain ⟨a, w, rfl, g, q⟩ := h
  obtain rfl : v = Value.ref a := rx
  have hT := dict_typeIs I g
  unfold PyProof.Rows.subscriptTail
  refine wpAny_bind ?_
  rw [getitemInPython_of_ne hT.not_modules]
  refine wpAny_bind (wpAny_specialOf hT PySem.F.slot_dict_getitem.lookup ?_)
  have fin : wpAny (model X.prog X.w) X.A (subscripted slice false (.ref a) u) (fun r s₃ => wpAny (model X.prog X.w) X.A (letTemporaryGo value (.ref a) r >>= fun _ => pure r) (EP X pins σ Q) X.xe s₃) X.xe s := by
    rw [hs]
    exact wpAny_operating (wpAny_mono (d_getItem (Q := EP X pins σ Q) hu I g ry fun w' s3 I3 rw' => ⟨w, H, I3, rw', q⟩) (fun r s₃ h₃ => wpAny_bind (wpAny_letTemporaryGo (wpAny_pure h₃))) fun _ _ x => x)
  first
    | exact wpAny_pure (wpAny_bind fin)
    | exact wpAny_pure fin
    | exact wpAny_bind fin
    | exact fin
theorem opr_in {X : Cx} (hu : X.A.units + 1 < cLine) : OpR X (compareOp .In) (rDIn false) := by
  intro pins s σ H x y v u Q I rx ry h
  obtain ⟨a, ov, rfl, g, q⟩ := h
  obtain rfl : u = Value.ref a := ry
  exact d_in hu I g rx fun s3 I3 => ⟨.bl ov.isSome, H, I3, rfl, by simpa using q⟩
theorem opr_notIn {X : Cx} (hu : X.A.units + 1 < cLine) : OpR X (compareOp .NotIn) (rDIn true) := by
  intro pins s σ H x y v u Q I rx ry h
  obtain ⟨a, ov, rfl, g, q⟩ := h
  obtain rfl : u = Value.ref a := ry
  exact d_notIn hu I g rx fun s3 I3 => ⟨.bl (!ov.isSome), H, I3, rfl, by simpa using q⟩
section
variable {g : Gx} {H : Hp} {B : AP}
theorem atI_all {ks : List P} {vs : List V} {i : Int} {d : P} (h : PAll g H B vs ks) (e : atI ks i = some d) : ∃ v, atI vs i = some v ∧ PDn g H B v d := by
  unfold atI at e ⊢
  obtain ⟨j, e1, e2⟩ := Option.bind_eq_some_iff.mp e
  obtain ⟨v, e3, hv⟩ := h.get e2
  exact ⟨v, by rw [h.length, e1]; exact e3, hv⟩
theorem ops_ixL {K : PySem.W.Frag} (hK : g.K = K) : OpS g (rIxL K) pIxL := by
  intro H B x y dx dy z Q hb px py e k
  subst hK
  unfold pIxL at e
  split at e
  · rename_i t ks i
    split at e
    · rename_i hc
      obtain ⟨a, vs, rfl, hs, ha⟩ := px.seqL (by rcases hc with rfl | rfl <;> rfl)
      obtain ⟨v, ev, hv⟩ := atI_all ha e
      exact ⟨a, vs, i, v, rfl, py.s, hs, ev, k v H (Same.refl H) hv⟩
    · cases e
  · cases e
theorem ops_ixT {K : PySem.W.Frag} (hK : g.K = K) : OpS g (rIxT K) pIxT := by
  intro H B x y dx dy z Q hb px py e k
  subst hK
  unfold pIxT at e
  split at e
  · rename_i ks i
    obtain ⟨a, vs, rfl, hs, ha⟩ := px.tup
    obtain ⟨v, ev, hv⟩ := atI_all ha e
    exact ⟨a, vs, i, v, rfl, py.s, hs, ev, k v H (Same.refl H) hv⟩
  · cases e
theorem ops_ixS : OpS g rIxS pIxS := by
  intro H B x y dx dy z Q hb px py e k
  unfold pIxS at e
  split at e
  · split at e
    · rename_i hc
      obtain ⟨c, e1, rfl⟩ := Option.map_eq_some_iff.mp e
      exact ⟨_, _, c, px.s, py.s, hc, e1, k _ H (Same.refl H) (.s _)⟩
    · cases e
  · cases e
theorem kix_get {α : Type} {k : Key} : ∀ {ks : List Key} {vs : List V} {j : Nat}, ks.length = vs.length → kix k ks = some j → ∃ v, vs[j]? = some v ∧ valV (ks.zip vs) k = some v
  | [], _, _, _, e => by simp [kix] at e
  | x :: ks, [], _, h, _ => by simp at h
  | x :: ks, v :: vs, j, h, e => by
    unfold kix at e
    by_cases hx : x = k
    · rw [if_pos hx] at e
      cases e
      exact ⟨v, rfl, valV_pos (p := (x, v)) hx⟩
    · rw [if_neg hx] at e
      obtain ⟨i, e1, rfl⟩ := Option.map_eq_some_iff.mp e
      obtain ⟨w, h1, h2⟩ := kix_get (α := α) (vs := vs) (by simpa using h) e1
      exact ⟨w, by simpa using h1, by rw [List.zip_cons_cons, valV_neg (p := (x, v)) hx]; exact h2⟩
theorem kix_none {k : Key} : ∀ {ks : List Key} {vs : List V}, ks.length = vs.length → kix k ks = none → valV (ks.zip vs) k = none
  | [], _, _, _ => by simp [valV]
  | x :: ks, [], h, _ => by simp at h
  | x :: ks, v :: vs, h, e => by
    unfold kix at e
    by_cases hx : x = k
    · rw [if_pos hx] at e
      cases e
    · rw [if_neg hx] at e
      rw [List.zip_cons_cons, valV_neg (p := (x, v)) hx]
      exact kix_none (by simpa using h) (by simpa using e)
theorem P.key_v {d : P} {k : Key} {y : V} (h : PDt g H B y d) (e : d.key = some k) : y = kV k := by
  cases d with
  | nd t ks => simp [P.key] at e
  | s v =>
    have e2 := h.s
    subst e2
    cases y <;> simp [P.key] at e <;> subst e <;> rfl
theorem ops_dget : OpS g rDG pDGet := by
  intro H B x y dx dy z Q hb px py e k
  unfold pDGet at e
  split at e
  · rename_i ks ds
    obtain ⟨kk, e1, e2⟩ := Option.bind_eq_some_iff.mp e
    obtain ⟨j, e3, e4⟩ := Option.bind_eq_some_iff.mp e2
    obtain ⟨a, vs, rfl, hl, _, ea, ha⟩ := px.dct
    obtain ⟨v, ev, hv⟩ := ha.get e4
    obtain ⟨w, ew, hw⟩ := kix_get (α := Unit) hl e3
    have : v = w := by rw [ev] at ew; cases ew; rfl
    subst this
    refine ⟨a, v, rfl, ?_, k v H (Same.refl H) hv⟩
    rw [P.key_v py e1, ← hw]
    exact DGet.k ea
  · cases e
theorem ops_din (neg : Bool) : OpS g (rDIn neg) (pDIn neg) := by
  intro H B x y dx dy z Q hb px py e k
  unfold pDIn at e
  split at e
  · rename_i ks ds
    obtain ⟨kk, e1, rfl⟩ := Option.map_eq_some_iff.mp e
    obtain ⟨a, vs, rfl, hl, _, ea, ha⟩ := py.dct
    refine ⟨a, valV (ks.zip vs) kk, rfl, by rw [P.key_v px e1]; exact DGet.k ea, ?_⟩
    have e3 : (valV (ks.zip vs) kk).isSome = (kix kk ks).isSome := by
      cases q : kix kk ks with
      | none => rw [kix_none hl q]; rfl
      | some j =>
        obtain ⟨w, _, hw⟩ := kix_get (α := Unit) hl q
        rw [hw]; rfl
    rw [e3]
    exact k _ H (Same.refl H) (.s _)
  · cases e
theorem ops_flip {r : R2} {f : P → P → Option P} (a : OpS g r f) : OpS g (fun x y H Q => r y x H Q) (fun x y => f y x) := fun H B x y dx dy z Q hb px py e k => a H B y x dy dx z Q hb py px e k
end

/-! ### the rules -/
section
variable {X : Cx} {x : Bx} {a b : Expr} {fa fb : Env → Res (P × Env)} {b1 b2 z1 z2 : Bool} {pos : Pos}
theorem dOp {op : Operator} {r : R2} {f : P → P → Option P} (ho : OpR X (binaryOp op) r) (hs : OpS (x.g X) r f) (ha : DE X x b1 z1 a fa) (hb : DE X x b2 z2 b fb) (hz : (z1 || b2) = true := by rfl) :
    DE X x (b1 && b2) true (.BinOp a op b pos) (dBin f fa fb) := .of (pe_op ho ha.pe hb.pe) (se_bin se_self se_self hz hs)
theorem dAdd (ha : DE X x b1 z1 a fa) (hb : DE X x b2 z2 b fb) (hz : (z1 || b2) = true := by rfl) : DE X x (b1 && b2) true (.BinOp a .Add b pos) (dBin pAdd fa fb) :=
  dOp (op_add.or (op_add_str.or (op_cat.or op_catT))) (ops_or (ops_int0 _) (ops_or ops_catS (ops_or ops_catL (ops_catT rfl)))) ha hb hz
theorem dSub (ha : DE X x b1 z1 a fa) (hb : DE X x b2 z2 b fb) (hz : (z1 || b2) = true := by rfl) : DE X x (b1 && b2) true (.BinOp a .Sub b pos) (dBin pSub fa fb) := dOp op_sub (ops_int0 _) ha hb hz
theorem dMul (ha : DE X x b1 z1 a fa) (hb : DE X x b2 z2 b fb) (hz : (z1 || b2) = true := by rfl) : DE X x (b1 && b2) true (.BinOp a .Mult b pos) (dBin pMul fa fb) := dOp (op_mul.or op_rep) (ops_or (ops_intc _ _) ops_repL) ha hb hz
theorem dDiv (ha : DE X x b1 z1 a fa) (hb : DE X x b2 z2 b fb) (hz : (z1 || b2) = true := by rfl) : DE X x (b1 && b2) true (.BinOp a .FloorDiv b pos) (dBin pDiv fa fb) := dOp (op_fdiv.or op_fdivN) (ops_or (ops_intc _ _) (ops_intc _ _)) ha hb hz
theorem dMod (ha : DE X x b1 z1 a fa) (hb : DE X x b2 z2 b fb) (hz : (z1 || b2) = true := by rfl) : DE X x (b1 && b2) true (.BinOp a .Mod b pos) (dBin pMod fa fb) := dOp (op_mod.or op_modN) (ops_or (ops_intc _ _) (ops_intc _ _)) ha hb hz
theorem dPow (ha : DE X x b1 z1 a fa) (hb : DE X x b2 z2 b fb) (hz : (z1 || b2) = true := by rfl) : DE X x (b1 && b2) true (.BinOp a .Pow b pos) (dBin pPow fa fb) := dOp op_pow (ops_intc _ _) ha hb hz
theorem dShl (ha : DE X x b1 z1 a fa) (hb : DE X x b2 z2 b fb) (hz : (z1 || b2) = true := by rfl) : DE X x (b1 && b2) true (.BinOp a .LShift b pos) (dBin pShl fa fb) := dOp op_shl (ops_intc _ _) ha hb hz
theorem dShr (ha : DE X x b1 z1 a fa) (hb : DE X x b2 z2 b fb) (hz : (z1 || b2) = true := by rfl) : DE X x (b1 && b2) true (.BinOp a .RShift b pos) (dBin pShr fa fb) := dOp op_shr (ops_intc _ _) ha hb hz
theorem dAnd (ha : DE X x b1 z1 a fa) (hb : DE X x b2 z2 b fb) (hz : (z1 || b2) = true := by rfl) : DE X x (b1 && b2) true (.BinOp a .BitAnd b pos) (dBin pAnd fa fb) := dOp op_and (ops_int0 _) ha hb hz
theorem dBor (ha : DE X x b1 z1 a fa) (hb : DE X x b2 z2 b fb) (hz : (z1 || b2) = true := by rfl) : DE X x (b1 && b2) true (.BinOp a .BitOr b pos) (dBin pBor fa fb) := dOp op_or (ops_int0 _) ha hb hz
theorem dXor (ha : DE X x b1 z1 a fa) (hb : DE X x b2 z2 b fb) (hz : (z1 || b2) = true := by rfl) : DE X x (b1 && b2) true (.BinOp a .BitXor b pos) (dBin pXor fa fb) := dOp op_xor (ops_int0 _) ha hb hz
/-- a comparison, as a value and as a test -/
structure DC (X : Cx) (x : Bx) (bb : Bool) (e : Expr) (f : Env → Res (P × Env)) : Prop where
  de : DE X x bb true e f
  pt : PT X e (tTest (tE bb true (x.g X) x.wx f))
theorem dCmp {op : CmpOp} {r : R2} {f : P → P → Option P} (ho : OpR X (compareOp op) r) (hs : OpS (x.g X) r f) (ha : DE X x b1 z1 a fa) (hb : DE X x b2 z2 b fb) (hm : behindInMarks op b = false) (hz : (z1 || b2) = true := by rfl) :
    DC X x (b1 && b2) (.Compare a [op] [b] pos) (dBin f fa fb) := ⟨.of (pe_cmpR ho ha.pe hb.pe hm) (se_bin se_self se_self hz hs), PT.imp (pt_cmpR ho ha.pe hb.pe hm) fun σ H Q ⟨Z, τ, ρ, θ, W, hl, st, post⟩ => se_bin se_self se_self hz hs Z σ τ ρ θ H W _ hl st post⟩
theorem dEq (c : Cb X x) (ha : DE X x b1 z1 a fa) (hb : DE X x b2 z2 b fb) (hz : (z1 || b2) = true := by rfl) : DC X x (b1 && b2) (.Compare a [.Eq] [b] pos) (dBin (pEq false) fa fb) := dCmp (op_eqD c.hu) (ops_eq rfl) ha hb (nomark _) hz
theorem dNe (c : Cb X x) (ha : DE X x b1 z1 a fa) (hb : DE X x b2 z2 b fb) (hz : (z1 || b2) = true := by rfl) : DC X x (b1 && b2) (.Compare a [.NotEq] [b] pos) (dBin (pEq true) fa fb) := dCmp (op_neD c.hu) (ops_ne rfl) ha hb (nomark _) hz
theorem dLt (ha : DE X x b1 z1 a fa) (hb : DE X x b2 z2 b fb) (hz : (z1 || b2) = true := by rfl) : DC X x (b1 && b2) (.Compare a [.Lt] [b] pos) (dBin pLt fa fb) := dCmp (op_lt.or op_lt_str) (ops_or (ops_int0 _) ops_ltS) ha hb (nomark _) hz
theorem dLe (ha : DE X x b1 z1 a fa) (hb : DE X x b2 z2 b fb) (hz : (z1 || b2) = true := by rfl) : DC X x (b1 && b2) (.Compare a [.LtE] [b] pos) (dBin pLe fa fb) := dCmp (op_le.or op_le_str) (ops_or (ops_int0 _) ops_leS) ha hb (nomark _) hz
def rGtS : R2 := fun x y H Q => ∃ i j, x = .str i ∧ y = .str j ∧ Q (.bl (decide (j.cps.toList < i.cps.toList))) H
def rGeS : R2 := fun x y H Q => ∃ i j, x = .str i ∧ y = .str j ∧ Q (.bl (!decide (i.cps.toList < j.cps.toList))) H
theorem ops_gtS {g : Gx} : OpS g rGtS (fun x y => pLtS y x) := fun H B x y dx dy z Q hb px py e k => by
  obtain ⟨i, j, e1, e2, q⟩ := ops_ltS (g := g) H B y x dy dx z Q hb py px e k
  exact ⟨j, i, e2, e1, q⟩
theorem ops_geS {g : Gx} : OpS g rGeS (fun x y => pLeS y x) := fun H B x y dx dy z Q hb px py e k => by
  obtain ⟨i, j, e1, e2, q⟩ := ops_leS (g := g) H B y x dy dx z Q hb py px e k
  exact ⟨j, i, e2, e1, q⟩
theorem dGt (ha : DE X x b1 z1 a fa) (hb : DE X x b2 z2 b fb) (hz : (z1 || b2) = true := by rfl) : DC X x (b1 && b2) (.Compare a [.Gt] [b] pos) (dBin pGt fa fb) := dCmp (op_gt.or op_gt_str) (ops_or (ops_int0 _) ops_gtS) ha hb (nomark _) hz
theorem dGe (ha : DE X x b1 z1 a fa) (hb : DE X x b2 z2 b fb) (hz : (z1 || b2) = true := by rfl) : DC X x (b1 && b2) (.Compare a [.GtE] [b] pos) (dBin pGe fa fb) := dCmp (op_ge.or op_ge_str) (ops_or (ops_int0 _) ops_geS) ha hb (nomark _) hz
theorem dIsN (ha : DE X x b1 z1 a fa) (hb : DE X x b2 z2 b fb) (hz : (z1 || b2) = true := by rfl) : DC X x (b1 && b2) (.Compare a [.Is] [b] pos) (dBin (pIsN false) fa fb) := dCmp op_isN ops_isN ha hb (nomark _) hz
theorem dNotN (ha : DE X x b1 z1 a fa) (hb : DE X x b2 z2 b fb) (hz : (z1 || b2) = true := by rfl) : DC X x (b1 && b2) (.Compare a [.IsNot] [b] pos) (dBin (pIsN true) fa fb) := dCmp op_notN ops_notN ha hb (nomark _) hz
theorem dIn (c : Cb X x) (ha : DE X x b1 z1 a fa) (hb : DE X x b2 z2 b fb) (hz : (z1 || b2) = true := by rfl) (hm : behindInMarks .In b = false := by rfl) : DC X x (b1 && b2) (.Compare a [.In] [b] pos) (dBin (pIn false) fa fb) :=
  dCmp ((op_in_sign.or op_in_str).or (op_in_seq.or (opr_in (by have := c.hu; omega)))) (ops_or ops_inS (ops_or (ops_inF rfl false) (ops_din false))) ha hb hm hz
theorem dNotIn (c : Cb X x) (ha : DE X x b1 z1 a fa) (hb : DE X x b2 z2 b fb) (hz : (z1 || b2) = true := by rfl) (hm : behindInMarks .NotIn b = false := by rfl) : DC X x (b1 && b2) (.Compare a [.NotIn] [b] pos) (dBin (pIn true) fa fb) :=
  dCmp ((op_notIn_sign.or op_notin_str).or (op_notIn_seq.or (opr_notIn (by have := c.hu; omega)))) (ops_or ops_notInS (ops_or (ops_inF rfl true) (ops_din true))) ha hb hm hz
theorem dIx (c : Cb X x) (ha : DE X x b1 z1 a fa) (hb : DE X x b2 z2 b fb) (hz : (z1 || b2) = true := by rfl) (hs : PlainIx b := by exact fun _ _ => rfl) : DE X x (b1 && b2) true (.Subscript a b pos) (dBin pSubs fa fb) :=
    .of (pe_ix (ix_list.or (ix_tup.or (ix_str.or (ixr_dict (by have := c.hu; omega))))) ha.pe hb.pe hs) (se_bin se_self se_self hz (ops_or (ops_ixL rfl) (ops_or (ops_ixT rfl) (ops_or ops_ixS ops_dget))))
end
end DL

/-! more rules of expressions -/
namespace DL
open PySem PySem.Spec L2

section
variable {g : Gx} {wx : WX} {Z W W1 : AP} {σ τ : St} {ρ θ : Env} {H H1 : Hp} {b1 b2 fz : Bool}
theorem PostE.shift {r : Res (P × Env)} {Q : VK} (p : PostE (b1 && b2) fz g wx Z σ τ θ H W r Q) (f : Fr W H W1 H1) (q : b1 = true → W1 = W ∧ Same H H1) : PostE b2 fz g wx Z σ τ θ H1 W1 r Q := by
  cases r with
  | bad => exact p
  | ex c fs ρ' => exact fun cls d H' W' f' st e => p cls d H' W' (f.trans f') st e
  | ok a =>
    intro v H' W' f' q' st pv
    refine p v H' W' (f.trans f') (fun hb => ?_) st pv
    obtain ⟨e1, e2⟩ := Bool.and_eq_true_iff.mp hb
    obtain ⟨a1, a2⟩ := q e1
    obtain ⟨d1, d2⟩ := q' e2
    exact ⟨d1.trans a1, a2.trans d2⟩
theorem PostT.shift {r : Res (Bool × Env)} {Q : Bool → Hp → Prop} (p : PostT (b1 && b2) g wx Z σ τ θ H W r Q) (f : Fr W H W1 H1) (q : b1 = true → W1 = W ∧ Same H H1) : PostT b2 g wx Z σ τ θ H1 W1 r Q := by
  cases r with
  | bad => exact p
  | ex c fs ρ' => exact fun cls d H' W' f' st e => p cls d H' W' (f.trans f') st e
  | ok a =>
    intro H' W' f' q' st
    refine p H' W' (f.trans f') (fun hb => ?_) st
    obtain ⟨e1, e2⟩ := Bool.and_eq_true_iff.mp hb
    obtain ⟨a1, a2⟩ := q e1
    obtain ⟨d1, d2⟩ := q' e2
    exact ⟨d1.trans a1, a2.trans d2⟩
theorem PostA.shift {r : Res (List P × Env)} {Q : List V → Hp → Prop} (p : PostA (b1 && b2) fz g wx Z σ τ θ H W r Q) (f : Fr W H W1 H1) (q : b1 = true → W1 = W ∧ Same H H1) : PostA b2 fz g wx Z σ τ θ H1 W1 r Q := by
  cases r with
  | bad => exact p
  | ex c fs ρ' => exact fun cls d H' W' f' st e => p cls d H' W' (f.trans f') st e
  | ok a =>
    intro vs H' W' f' q' st pv
    refine p vs H' W' (f.trans f') (fun hb => ?_) st pv
    obtain ⟨e1, e2⟩ := Bool.and_eq_true_iff.mp hb
    obtain ⟨a1, a2⟩ := q e1
    obtain ⟨d1, d2⟩ := q' e2
    exact ⟨d1.trans a1, a2.trans d2⟩
/-- the start of a composition: the first part, then what k wants -/
theorem se_then {t : TE} {f : Env → Res (P × Env)} {z1 : Bool} (sa : SE b1 z1 g wx t f) {R : VK} (hl : σ.length = ρ.length) (st : Sta g H Z (σ ++ τ) (ρ ++ θ) W)
    (hb : f ρ = .bad → False) (hx : ∀ c fs ρ1, f ρ = .ex c fs ρ1 → ∀ cls d H' W', Fr W H W' H' → Sta g H' Z (σ ++ τ) (ρ1 ++ θ) W' → ExD g H' (bad W' Z) c fs cls d → wx cls d σ H')
    (hk : ∀ d ρ1 v H1 W1, f ρ = .ok (d, ρ1) → σ.length = ρ1.length → Fr W H W1 H1 → (b1 = true → W1 = W ∧ Same H H1) → Sta g H1 Z (σ ++ τ) (ρ1 ++ θ) W1 → PDx z1 g H1 (bad W1 Z) v d → R v H1) : t σ H R := by
  refine sa Z σ τ ρ θ H W R hl st ?_
  cases e : f ρ with
  | bad => exact hb e
  | ex c fs ρ1 => exact hx c fs ρ1 e
  | ok p => exact fun v H1 W1 f1 q1 st1 pv => hk p.1 p.2 v H1 W1 e (len_tail hl st st1) f1 q1 st1 pv
theorem st_then {t : TT} {f : Env → Res (Bool × Env)} (sa : STt b1 g wx t f) {R : Bool → Hp → Prop} (hl : σ.length = ρ.length) (st : Sta g H Z (σ ++ τ) (ρ ++ θ) W)
    (hb : f ρ = .bad → False) (hx : ∀ c fs ρ1, f ρ = .ex c fs ρ1 → ∀ cls d H' W', Fr W H W' H' → Sta g H' Z (σ ++ τ) (ρ1 ++ θ) W' → ExD g H' (bad W' Z) c fs cls d → wx cls d σ H')
    (hk : ∀ d ρ1 H1 W1, f ρ = .ok (d, ρ1) → σ.length = ρ1.length → Fr W H W1 H1 → (b1 = true → W1 = W ∧ Same H H1) → Sta g H1 Z (σ ++ τ) (ρ1 ++ θ) W1 → R d H1) : t σ H R := by
  refine sa Z σ τ ρ θ H W R hl st ?_
  cases e : f ρ with
  | bad => exact hb e
  | ex c fs ρ1 => exact hx c fs ρ1 e
  | ok p => exact fun H1 W1 f1 q1 st1 => hk p.1 p.2 H1 W1 e (len_tail hl st st1) f1 q1 st1
theorem sa_then {t : TA} {f : Env → Res (List P × Env)} (sa : SA b1 fz g wx t f) {R : List V → Hp → Prop} (hl : σ.length = ρ.length) (st : Sta g H Z (σ ++ τ) (ρ ++ θ) W)
    (hb : f ρ = .bad → False) (hx : ∀ c fs ρ1, f ρ = .ex c fs ρ1 → ∀ cls d H' W', Fr W H W' H' → Sta g H' Z (σ ++ τ) (ρ1 ++ θ) W' → ExD g H' (bad W' Z) c fs cls d → wx cls d σ H')
    (hk : ∀ d ρ1 vs H1 W1, f ρ = .ok (d, ρ1) → σ.length = ρ1.length → Fr W H W1 H1 → (b1 = true → W1 = W ∧ Same H H1) → Sta g H1 Z (σ ++ τ) (ρ1 ++ θ) W1 → PAx fz g H1 (bad W1 Z) vs d → R vs H1) : t σ H R := by
  refine sa Z σ τ ρ θ H W R hl st ?_
  cases e : f ρ with
  | bad => exact hb e
  | ex c fs ρ1 => exact hx c fs ρ1 e
  | ok p => exact fun v H1 W1 f1 q1 st1 pv => hk p.1 p.2 v H1 W1 e (len_tail hl st st1) f1 q1 st1 pv
end

/-! ### constants, names -/
section
variable {X : Cx} {x : Bx} {pos : Pos}
theorem dInt {i j} : DE X x true true (.Constant (.int i) j pos) (dConst (.s (.int i))) := .of pe_int (sc_const _)
theorem dStr {z j} : DE X x true true (.Constant (.str z) j pos) (dConst (.s (.str z))) := .of pe_str (sc_const _)
theorem dBl {b j} : DE X x true true (.Constant (.bool b) j pos) (dConst (.s (.bl b))) := .of pe_bl (sc_const _)
theorem dNon {j} : DE X x true true (.Constant .none j pos) (dConst (.s .non)) := .of pe_non (sc_const _)
theorem dGlob {nm : Str} {v : V} {u : Value} (hg : Gl X nm) (hm : X.mg nm = some u) (r : RelV v u) (hd : (nm == ("__debug__" : Str)) = false := by decide) : DE X x true true (.Name nm pos) (dConst (.s v)) := .of (pe_glob hg hm r hd) (sc_const _)
theorem dBltn {nm : Str} {v : V} {u : Value} (hg : Gl X nm) (hm : X.mg nm = none) (hv : bootBuiltins nm = some u) (r : RelV v u) (hn : nm ≠ "__name__" := by decide) (hd : (nm == ("__debug__" : Str)) = false := by decide) : DE X x true true (.Name nm pos) (dConst (.s v)) := .of (pe_bltn hg hm hv r hn hd) (sc_const _)
theorem dVar (i : Nat) {nm : Str} (hN : X.N[i]? = some nm := by rfl) (hv : Vis X.env.scope nm := by first | exact Or.inl rfl | exact Or.inr (Or.inl rfl) | exact Or.inr (Or.inr rfl)) (hd : (nm == ("__debug__" : Str)) = false := by decide)
    (hcd : (nm == ("__classdict__" : Str)) = false := by decide) : DE X x true true (.Name nm pos) (dVarF i) := .of (pe_var hN hv hd hcd) (sv_p i)
theorem dVarz (i : Nat) {nm : Str} (hN : X.N[i]? = some nm := by rfl) (hv : Vis X.env.scope nm := by first | exact Or.inl rfl | exact Or.inr (Or.inl rfl) | exact Or.inr (Or.inr rfl)) (hd : (nm == ("__debug__" : Str)) = false := by decide)
    (hcd : (nm == ("__classdict__" : Str)) = false := by decide) : DE X x false true (.Name nm pos) (dVarZ i) := .of (pe_var hN hv hd hcd) (sv_z i)
theorem dVart (i : Nat) {nm : Str} (hN : X.N[i]? = some nm := by rfl) (hv : Vis X.env.scope nm := by first | exact Or.inl rfl | exact Or.inr (Or.inl rfl) | exact Or.inr (Or.inr rfl)) (hd : (nm == ("__debug__" : Str)) = false := by decide)
    (hcd : (nm == ("__classdict__" : Str)) = false := by decide) : DE X x true false (.Name nm pos) (dVarT i) := .of (pe_var hN hv hd hcd) (sv_t i)
/-! places -/
theorem lVar (i : Nat) {nm : Str} (hN : X.N[i]? = some nm := by rfl) (hv : Vis X.env.scope nm := by first | exact Or.inl rfl | exact Or.inr (Or.inl rfl) | exact Or.inr (Or.inr rfl)) (hd : (nm == ("__debug__" : Str)) = false := by decide)
    (hcd : (nm == ("__classdict__" : Str)) = false := by decide) : DLx X x (.Name nm pos) (lName i) := .of (pe_var hN hv hd hcd) (slx_name i)
theorem lAtt {e : Expr} {c f : Str} {fl : Env → Option (Nat × List Nat)} (h : DLx X x e fl) (hc : Cls X.K (x.cl c)) (hn : NoAttr X.K (x.cl c) f) (hb : attributeBase e f X.env (eval e X.env) = eval e X.env := by rfl) :
    DLx X x (.Attribute e f pos) (lAttr c f fl) := .of (pe_fld h.pe hb) (slx_attr rfl sl_self hc hn)
end
def atL (fl : Env → Option (Nat × List Nat)) (ρ : Env) : Option O := (fl ρ).bind (at_ ρ)
def dAtF (fl : Env → Option (Nat × List Nat)) : Env → Res (P × Env) := fun ρ => match atL fl ρ with
  | some (.p d) => .ok (d, ρ)
  | _ => .bad
def dAtT (fl : Env → Option (Nat × List Nat)) : Env → Res (P × Env) := fun ρ => oSt ((atL fl ρ).bind O.top) ρ
section
variable {g : Gx} {wx : WX} {Z W : AP} {σ τ : St} {ρ θ : Env} {H : Hp}
/-- what is reached at a place -/
theorem Sta.reached {l : Nat × List Nat} {o o0 : O} {w v : V} (hl : σ.length = ρ.length) (st : Sta g H Z (σ ++ τ) (ρ ++ θ) W) (ea : at_ ρ l = some o) (ew : σ[l.1]? = some (some w)) (eo : ρ[l.1]? = some (some o0)) (re : Reach g H w o0 l.2 v) :
    ∃ fk, ODn g H (bad W Z) v o fk ∧ ∀ a ∈ fk, W a := by
  obtain ⟨w', o0', x', fk, ev', eo', eg', re', hx, hw⟩ := st.place (i := l.1) (π := l.2) hl ea
  have z1 : w' = w := by rw [ev'] at ew; cases ew; rfl
  have z2 : o0' = o0 := by rw [eo'] at eo; cases eo; rfl
  subst z1 z2
  have z3 := re.inj re'
  subst z3
  exact ⟨fk, hx, hw⟩
theorem se_at {fl : Env → Option (Nat × List Nat)} : SE true true g wx (tL g fl) (dAtF fl) := by
  intro Z σ τ ρ θ H W Q hl st post
  unfold dAtF at post
  split at post
  · rename_i d e
    obtain ⟨l, el, ea⟩ := Option.bind_eq_some_iff.mp e
    refine ⟨Z, τ, ρ, θ, W, l, .p d, hl, st, el, ea, fun v w o0 H' s ew eo eg re => ?_⟩
    obtain ⟨fk, hx, _⟩ := (st.same s).reached hl ea ew eo re
    cases hx with
    | p h => exact post v H' W (.same s) (fun _ => ⟨rfl, s⟩) (st.same s) h
  · exact post.elim
theorem se_att {fl : Env → Option (Nat × List Nat)} : SE true false g wx (tL g fl) (dAtT fl) := by
  intro Z σ τ ρ θ H W Q hl st post
  unfold dAtT oSt at post
  split at post
  · rename_i d e
    obtain ⟨o, e, et⟩ := Option.bind_eq_some_iff.mp e
    obtain ⟨l, el, ea⟩ := Option.bind_eq_some_iff.mp e
    refine ⟨Z, τ, ρ, θ, W, l, o, hl, st, el, ea, fun v w o0 H' s ew eo eg re => ?_⟩
    obtain ⟨fk, hx, _⟩ := (st.same s).reached hl ea ew eo re
    exact post v H' W (.same s) (fun _ => ⟨rfl, s⟩) (st.same s) (hx.top et)
  · exact post.elim
end
section
variable {X : Cx} {x : Bx} {pos : Pos} {e : Expr} {fl : Env → Option (Nat × List Nat)}
theorem dAt (h : DLx X x e fl) : DE X x true true e (dAtF fl) := .of h.pe se_at
theorem dAtt (h : DLx X x e fl) : DE X x true false e (dAtT fl) := .of h.pe se_att
end
end DL

/-! tests, truth, arguments, displays, chains -/
namespace DL
open PySem PySem.Spec L2

def pNeg : P → Option P
  | .s (.int i) => some (.s (.int (-i)))
  | _ => none
def pTru : P → Option Bool
  | .s .non => some false
  | .s (.bl b) => some b
  | .s (.int i) => some (i != 0)
  | .s (.str y) => if y.length ≤ sizeLine then some ((y.length : Int) != 0) else none
  | .nd .lst ks => some (!ks.isEmpty)
  | .nd .slst ks => some (!ks.isEmpty)
  | .nd .tup ks => some (!ks.isEmpty)
  | .nd (.dct ks) _ => some (!ks.isEmpty)
  | _ => none
def dUn (op : P → Option P) (fa : Env → Res (P × Env)) : Env → Res (P × Env) := fun ρ => (fa ρ).bind fun a => match op a.1 with
  | some z => .ok (z, a.2)
  | none => .bad
def dNotF (fa : Env → Res (P × Env)) : Env → Res (P × Env) := fun ρ => (fa ρ).bind fun a => match pTru a.1 with
  | some k => .ok (.s (.bl (!k)), a.2)
  | none => .bad
def dAndF (fa fb : Env → Res (P × Env)) : Env → Res (P × Env) := fun ρ => (fa ρ).bind fun a => match pTru a.1 with
  | some true => fb a.2
  | some false => .ok a
  | none => .bad
def dOrF (fa fb : Env → Res (P × Env)) : Env → Res (P × Env) := fun ρ => (fa ρ).bind fun a => match pTru a.1 with
  | some true => .ok a
  | some false => fb a.2
  | none => .bad
def dIteF (ft : Env → Res (Bool × Env)) (fa fb : Env → Res (P × Env)) : Env → Res (P × Env) := fun ρ => (ft ρ).bind fun c => if c.1 = true then fa c.2 else fb c.2
def tTru (fa : Env → Res (P × Env)) : Env → Res (Bool × Env) := fun ρ => (fa ρ).bind fun a => match pTru a.1 with
  | some k => .ok (k, a.2)
  | none => .bad
def tBl (fa : Env → Res (P × Env)) : Env → Res (Bool × Env) := fun ρ => (fa ρ).bind fun a => match a.1 with
  | .s (.bl k) => .ok (k, a.2)
  | _ => .bad
def tAndF (fa fb : Env → Res (Bool × Env)) : Env → Res (Bool × Env) := fun ρ => (fa ρ).bind fun a => if a.1 = true then fb a.2 else .ok (false, a.2)
def tOrF (fa fb : Env → Res (Bool × Env)) : Env → Res (Bool × Env) := fun ρ => (fa ρ).bind fun a => if a.1 = true then .ok (true, a.2) else fb a.2
def tNotF (fa : Env → Res (Bool × Env)) : Env → Res (Bool × Env) := fun ρ => (fa ρ).bind fun a => .ok (!a.1, a.2)
def aNil : Env → Res (List P × Env) := fun ρ => .ok ([], ρ)
def aCons (fa : Env → Res (P × Env)) (fr : Env → Res (List P × Env)) : Env → Res (List P × Env) := fun ρ => (fa ρ).bind fun a => (fr a.2).bind fun r => .ok (a.1 :: r.1, r.2)
def dSeqF (t : Tg) (fa : Env → Res (List P × Env)) : Env → Res (P × Env) := fun ρ => (fa ρ).bind fun a => if a.1.length ≤ sizeLine then .ok (.nd t a.1, a.2) else .bad
def dChainF (op op' : P → P → Option P) (fa fb fc : Env → Res (P × Env)) : Env → Res (P × Env) := fun ρ => (fa ρ).bind fun a => (fb a.2).bind fun b => match op a.1 b.1 with
  | some (.s (.bl true)) => (fc b.2).bind fun c => match op' b.1 c.1 with
    | some z => .ok (z, c.2)
    | none => .bad
  | some (.s (.bl false)) => .ok (.s (.bl false), b.2)
  | _ => .bad

section
variable {g : Gx} {wx : WX} {b1 b2 z1 z2 : Bool} {ta tb tc : TE} {fa fb fc : Env → Res (P × Env)} {H : Hp} {B : AP}
theorem isE {α β : Type} {xs : List α} {ys : List β} (h : xs.length = ys.length) : xs.isEmpty = ys.isEmpty := by
  cases xs <;> cases ys <;> simp at h ⊢
theorem PDt.tru {x : V} {d : P} {k : Bool} (h : PDt g H B x d) (e : pTru d = some k) : TruV g.K x H k := by
  cases d with
  | s v =>
    have q := h.s
    subst q
    cases x <;> simp [pTru, TruV] at e ⊢
    · exact e
    · exact e.symm
    · exact e.symm
    · exact ⟨e.1, e.2.symm⟩
  | nd t ks =>
    obtain ⟨a, vs, rfl, ho, ha⟩ := h.nd
    cases t with
    | lst =>
      obtain rfl : (!ks.isEmpty) = k := Option.some.inj e
      exact .inl ⟨vs, ho.elim (fun q => .inl (.inl q)) fun q => q.elim, by rw [isE ha.length]⟩
    | slst =>
      obtain rfl : (!ks.isEmpty) = k := Option.some.inj e
      exact .inl ⟨vs, ho.elim (fun q => .inl q) fun q => sqL_none q, by rw [isE ha.length]⟩
    | tup =>
      obtain rfl : (!ks.isEmpty) = k := Option.some.inj e
      exact .inr (.inl ⟨vs, ho.elim (fun q => .inl q) fun q => sqT_none q, by rw [isE ha.length]⟩)
    | dct kk =>
      obtain rfl : (!kk.isEmpty) = k := Option.some.inj e
      obtain ⟨h1, h2, h3⟩ := ho.elim (fun q => q) fun q => q.elim
      refine .inr (.inr ⟨_, h3, ?_⟩)
      rw [isE (xs := kk) (ys := kk.zip vs) (by rw [List.length_zip, h1, Nat.min_self])]
    | ins _ _ => simp [pTru] at e
    | exc => simp [pTru] at e
theorem se_un {r : V → Hp → VK → Prop} {op : P → Option P} (sa : SE b1 z1 g wx ta fa) (ho : ∀ H B x d z Q, (∀ a, B a → H a ≠ none) → PDt g H B x d → op d = some z → (∀ v H', Same H H' → PDn g H' B v z → Q v H') → r x H Q) : SE b1 true g wx (tUn r ta) (dUn op fa) := by
  show SE b1 true g wx (fun σ H Q => ta σ H fun x H1 => r x H1 Q) _
  refine se_one (r := r) (k := fun d ρ => match op d with | some z => .ok (z, ρ) | none => .bad) sa fun Z σ τ ρ θ H W Q x dx l st px post => ?_
  cases e : op dx with
  | none => simp only [e] at post; exact post.elim
  | some z =>
    simp only [e] at post
    exact ho H _ x dx z Q st.bt px.t e fun v H' s pv => post v H' W (.same s) (fun _ => ⟨rfl, s⟩) (st.same s) pv
theorem se_notT {K : PySem.W.Frag} (hK : g.K = K) (sa : SE b1 z1 g wx ta fa) : SE b1 true g wx (tNotT K ta) (dNotF fa) := by
  refine se_one (k := fun d ρ => match pTru d with | some k => .ok (.s (.bl (!k)), ρ) | none => .bad) (r := fun x H1 Q => ∃ k, TruV K x H1 k ∧ Q (.bl (!k)) H1) sa fun Z σ τ ρ θ H W Q x dx l st px post => ?_
  subst hK
  cases e : pTru dx with
  | none => simp only [e] at post; exact post.elim
  | some k =>
    simp only [e] at post
    exact ⟨k, px.t.tru e, post _ H W .refl (fun _ => ⟨rfl, Same.refl H⟩) st (.s _)⟩
theorem se_andT {K : PySem.W.Frag} (hK : g.K = K) (sa : SE b1 true g wx ta fa) (sb : SE b2 true g wx tb fb) : SE (b1 && b2) true g wx (tAndT K ta tb) (dAndF fa fb) := by
  intro Z σ τ ρ θ H W Q hl st post
  subst hK
  refine se_then sa hl st (fun e => by unfold dAndF at post; rw [e] at post; exact post) (fun c fs ρ1 e => by unfold dAndF at post; rw [e] at post; exact post) fun d ρ1 v H1 W1 e l1 f1 q1 st1 pv => ?_
  unfold dAndF at post
  rw [e] at post
  have post1 : PostE (b1 && b2) true g wx Z σ τ θ H W (match pTru d with | some true => fb ρ1 | some false => .ok (d, ρ1) | none => .bad) Q := post
  have pv' : PDn g H1 (bad W1 Z) v d := pv
  cases ek : pTru d with
  | none => rw [ek] at post1; exact post1.elim
  | some k =>
    rw [ek] at post1
    refine ⟨k, (PDt.f pv').tru ek, ?_⟩
    have p2 := post1.shift f1 q1
    cases k with
    | true => exact iteT (sb Z σ τ ρ1 θ H1 W1 Q l1 st1 p2)
    | false => exact iteF (p2 v H1 W1 .refl (fun _ => ⟨rfl, Same.refl H1⟩) st1 pv')
theorem se_orT {K : PySem.W.Frag} (hK : g.K = K) (sa : SE b1 true g wx ta fa) (sb : SE b2 true g wx tb fb) : SE (b1 && b2) true g wx (tOrT K ta tb) (dOrF fa fb) := by
  intro Z σ τ ρ θ H W Q hl st post
  subst hK
  refine se_then sa hl st (fun e => by unfold dOrF at post; rw [e] at post; exact post) (fun c fs ρ1 e => by unfold dOrF at post; rw [e] at post; exact post) fun d ρ1 v H1 W1 e l1 f1 q1 st1 pv => ?_
  unfold dOrF at post
  rw [e] at post
  have post1 : PostE (b1 && b2) true g wx Z σ τ θ H W (match pTru d with | some true => .ok (d, ρ1) | some false => fb ρ1 | none => .bad) Q := post
  have pv' : PDn g H1 (bad W1 Z) v d := pv
  cases ek : pTru d with
  | none => rw [ek] at post1; exact post1.elim
  | some k =>
    rw [ek] at post1
    refine ⟨k, (PDt.f pv').tru ek, ?_⟩
    have p2 := post1.shift f1 q1
    cases k with
    | false => exact iteF (sb Z σ τ ρ1 θ H1 W1 Q l1 st1 p2)
    | true => exact iteT (p2 v H1 W1 .refl (fun _ => ⟨rfl, Same.refl H1⟩) st1 pv')
theorem se_ite {tt : TT} {ft : Env → Res (Bool × Env)} (sc : STt b1 g wx tt ft) (sa : SE b2 true g wx ta fa) (sb : SE b2 true g wx tb fb) : SE (b1 && b2) true g wx (tIf tt ta tb) (dIteF ft fa fb) := by
  intro Z σ τ ρ θ H W Q hl st post
  refine st_then sc hl st (fun e => by unfold dIteF at post; rw [e] at post; exact post) (fun c fs ρ1 e => by unfold dIteF at post; rw [e] at post; exact post) fun d ρ1 H1 W1 e l1 f1 q1 st1 => ?_
  unfold dIteF at post
  rw [e] at post
  have post1 : PostE (b1 && b2) true g wx Z σ τ θ H W (if d = true then fa ρ1 else fb ρ1) Q := post
  have p2 := post1.shift f1 q1
  cases d with
  | true => exact iteT (sa Z σ τ ρ1 θ H1 W1 Q l1 st1 p2)
  | false => exact iteF (sb Z σ τ ρ1 θ H1 W1 Q l1 st1 p2)
/-! tests -/
theorem st_tru {K : PySem.W.Frag} (hK : g.K = K) (sa : SE b1 z1 g wx ta fa) : STt b1 g wx (fun σ H Q => ta σ H fun x H' => ∃ k, TruV K x H' k ∧ Q k H') (tTru fa) := by
  intro Z σ τ ρ θ H W Q hl st post
  subst hK
  refine se_then sa hl st (fun e => by unfold tTru at post; rw [e] at post; exact post) (fun c fs ρ1 e => by unfold tTru at post; rw [e] at post; exact post) fun d ρ1 v H1 W1 e l1 f1 q1 st1 pv => ?_
  unfold tTru at post
  rw [e] at post
  have post1 : PostT b1 g wx Z σ τ θ H W (match pTru d with | some k => .ok (k, ρ1) | none => .bad) Q := post
  cases ek : pTru d with
  | none => rw [ek] at post1; exact post1.elim
  | some k =>
    rw [ek] at post1
    exact ⟨k, pv.t.tru ek, post1 H1 W1 f1 q1 st1⟩
theorem st_bl (sa : SE b1 true g wx ta fa) : STt b1 g wx (tTest ta) (tBl fa) := by
  intro Z σ τ ρ θ H W Q hl st post
  refine se_then sa hl st (fun e => by unfold tBl at post; rw [e] at post; exact post) (fun c fs ρ1 e => by unfold tBl at post; rw [e] at post; exact post) fun d ρ1 v H1 W1 e l1 f1 q1 st1 pv => ?_
  unfold tBl at post
  rw [e] at post
  have post1 : PostT b1 g wx Z σ τ θ H W (match (generalizing := false) d with | .s (.bl k) => .ok (k, ρ1) | _ => .bad) Q := post
  split at post1
  · exact ⟨_, (PDt.f (show PDn g H1 (bad W1 Z) v _ from pv)).s, post1 H1 W1 f1 q1 st1⟩
  · exact post1.elim
theorem st_and {t1 t2 : TT} {f1 f2 : Env → Res (Bool × Env)} (sa : STt b1 g wx t1 f1) (sb : STt b2 g wx t2 f2) : STt (b1 && b2) g wx (tAnd t1 t2) (tAndF f1 f2) := by
  intro Z σ τ ρ θ H W Q hl st post
  refine st_then sa hl st (fun e => by unfold tAndF at post; rw [e] at post; exact post) (fun c fs ρ1 e => by unfold tAndF at post; rw [e] at post; exact post) fun d ρ1 H1 W1 e l1 fr q1 st1 => ?_
  unfold tAndF at post
  rw [e] at post
  have post1 : PostT (b1 && b2) g wx Z σ τ θ H W (if d = true then f2 ρ1 else .ok (false, ρ1)) Q := post
  have p2 := post1.shift fr q1
  cases d with
  | true => exact iteT (sb Z σ τ ρ1 θ H1 W1 Q l1 st1 p2)
  | false => exact iteF (p2 H1 W1 .refl (fun _ => ⟨rfl, Same.refl H1⟩) st1)
theorem st_or {t1 t2 : TT} {f1 f2 : Env → Res (Bool × Env)} (sa : STt b1 g wx t1 f1) (sb : STt b2 g wx t2 f2) : STt (b1 && b2) g wx (L2.tOr t1 t2) (tOrF f1 f2) := by
  intro Z σ τ ρ θ H W Q hl st post
  refine st_then sa hl st (fun e => by unfold tOrF at post; rw [e] at post; exact post) (fun c fs ρ1 e => by unfold tOrF at post; rw [e] at post; exact post) fun d ρ1 H1 W1 e l1 fr q1 st1 => ?_
  unfold tOrF at post
  rw [e] at post
  have post1 : PostT (b1 && b2) g wx Z σ τ θ H W (if d = true then .ok (true, ρ1) else f2 ρ1) Q := post
  have p2 := post1.shift fr q1
  cases d with
  | false => exact iteF (sb Z σ τ ρ1 θ H1 W1 Q l1 st1 p2)
  | true => exact iteT (p2 H1 W1 .refl (fun _ => ⟨rfl, Same.refl H1⟩) st1)
theorem st_not {t1 : TT} {f1 : Env → Res (Bool × Env)} (sa : STt b1 g wx t1 f1) : STt b1 g wx (tNot t1) (tNotF f1) := by
  intro Z σ τ ρ θ H W Q hl st post
  refine st_then sa hl st (fun e => by unfold tNotF at post; rw [e] at post; exact post) (fun c fs ρ1 e => by unfold tNotF at post; rw [e] at post; exact post) fun d ρ1 H1 W1 e l1 fr q1 st1 => ?_
  unfold tNotF at post
  rw [e] at post
  exact post H1 W1 fr q1 st1
/-! arguments -/
theorem sa_nil : SA true true g wx tNil aNil := by
  intro Z σ τ ρ θ H W Q hl st post
  exact post [] H W .refl (fun _ => ⟨rfl, Same.refl H⟩) st .nil
theorem PAllt.same {vs : List V} {ds : List P} {H' : Hp} (h : PAllt g H B vs ds) (s : Same H H') : PAllt g H' B vs ds := by
  induction h with
  | nil => exact .nil
  | cons h1 _ ih => exact .cons (h1.same s) ih
theorem PAll.t : ∀ {ds : List P} {vs : List V}, PAll g H B vs ds → PAllt g H B vs ds
  | [], _, h => by
    cases h
    exact .nil
  | _ :: _, _, h => by
    cases h with
    | cons h1 h2 => exact .cons (.f h1) (PAll.t h2)
theorem PAx.t {fz : Bool} {vs : List V} {ds : List P} (h : PAx fz g H B vs ds) : PAllt g H B vs ds := by
  cases fz with
  | true => exact PAll.t h
  | false => exact h
theorem sa_cons {tr : TA} {fr : Env → Res (List P × Env)} (sa : SE b1 z1 g wx ta fa) (sr : SA b2 z2 g wx tr fr) (hz : (z1 || b2) = true) : SA (b1 && b2) (z1 && z2) g wx (tCons ta tr) (aCons fa fr) := by
  intro Z σ τ ρ θ H W Q hl st post
  refine se_then sa hl st (fun e => by unfold aCons at post; rw [e] at post; exact post) (fun c fs ρ1 e => by unfold aCons at post; rw [e] at post; exact post) fun d ρ1 v H1 W1 e l1 f1 q1 st1 pv => ?_
  unfold aCons at post
  rw [e] at post
  have post1 : PostA (b1 && b2) (z1 && z2) g wx Z σ τ θ H W ((fr ρ1).bind fun r => .ok (d :: r.1, r.2)) Q := post
  have p1 := post1.shift f1 q1
  refine sa_then sr l1 st1 (fun e => by rw [e] at p1; exact p1) (fun c fs ρ2 e => by rw [e] at p1; exact p1) fun ds ρ2 vs H2 W2 e2 l2 f2 q2 st2 pvs => ?_
  rw [e2] at p1
  refine p1 (v :: vs) H2 W2 f2 q2 st2 ?_
  have pv2 : PDt g H2 (bad W2 Z) v d := by
    cases z1 with
    | true => exact .f (PDn.fr (show PDn g H1 (bad W1 Z) v d from pv) f2)
    | false =>
      have e3 : b2 = true := by simpa using hz
      obtain ⟨eW, sm⟩ := q2 e3
      subst eW
      exact (show PDt g H1 (bad W2 Z) v d from pv).same sm
  cases z1 with
  | false => exact PAllt.cons pv2 pvs.t
  | true =>
    have pv3 := PDn.fr (show PDn g H1 (bad W1 Z) v d from pv) f2
    cases z2 with
    | true => exact PAll.cons pv3 pvs
    | false => exact PAllt.cons pv2 pvs.t
theorem se_tup {tr : TA} {fr : Env → Res (List P × Env)} (sr : SA b1 true g wx tr fr) : SE b1 true g wx (tTup tr) (dSeqF .tup fr) := by
  intro Z σ τ ρ θ H W Q hl st post
  refine sa_then sr hl st (fun e => by unfold dSeqF at post; rw [e] at post; exact post) (fun c fs ρ1 e => by unfold dSeqF at post; rw [e] at post; exact post) fun ds ρ1 vs H1 W1 e l1 f1 q1 st1 pv => ?_
  unfold dSeqF at post
  rw [e] at post
  have post1 : PostE b1 true g wx Z σ τ θ H W (if ds.length ≤ sizeLine then .ok (.nd .tup ds, ρ1) else .bad) Q := post
  have pv' : PAll g H1 (bad W1 Z) vs ds := pv
  split at post1
  · rename_i hc
    refine ⟨by rw [pv'.length]; exact hc, fun p np => post1 (.ref p) _ W1 (f1.trans (.same (same_new np))) (fun hb => ⟨(q1 hb).1, (q1 hb).2.trans (same_new np)⟩) (st1.same (same_new np)) (PDn.new st1.bt np (.inl upd_same) pv')⟩
  · exact post1.elim
theorem se_lst {tr : TA} {fr : Env → Res (List P × Env)} (sr : SA b1 true g wx tr fr) : SE b1 true g wx (tLst tr) (dSeqF .lst fr) := by
  intro Z σ τ ρ θ H W Q hl st post
  refine sa_then sr hl st (fun e => by unfold dSeqF at post; rw [e] at post; exact post) (fun c fs ρ1 e => by unfold dSeqF at post; rw [e] at post; exact post) fun ds ρ1 vs H1 W1 e l1 f1 q1 st1 pv => ?_
  unfold dSeqF at post
  rw [e] at post
  have post1 : PostE b1 true g wx Z σ τ θ H W (if ds.length ≤ sizeLine then .ok (.nd .lst ds, ρ1) else .bad) Q := post
  have pv' : PAll g H1 (bad W1 Z) vs ds := pv
  split at post1
  · rename_i hc
    refine ⟨by rw [pv'.length]; exact hc, fun p np => post1 (.ref p) _ W1 (f1.trans (.same (same_new np))) (fun hb => ⟨(q1 hb).1, (q1 hb).2.trans (same_new np)⟩) (st1.same (same_new np)) (PDn.new st1.bt np upd_same pv')⟩
  · exact post1.elim
theorem se_chain {r r' : R2} {op op' : P → P → Option P} (sa : SE b1 true g wx ta fa) (sb : SE b2 true g wx tb fb) {b3 z3 : Bool} (sc : SE b3 z3 g wx tc fc) (ho : OpS g r op) (ho' : OpS g r' op') : SE (b1 && (b2 && b3)) true g wx (tChain r r' ta tb tc) (dChainF op op' fa fb fc) := by
  intro Z σ τ ρ θ H W Q hl st post
  refine se_then sa hl st (fun e => by unfold dChainF at post; rw [e] at post; exact post) (fun c fs ρ1 e => by unfold dChainF at post; rw [e] at post; exact post) fun d ρ1 v H1 W1 e l1 f1 q1 st1 pv => ?_
  unfold dChainF at post
  rw [e] at post
  have p1 := PostE.shift (b1 := b1) (b2 := b2 && b3) (r := (fb ρ1).bind fun b => match op d b.1 with
    | some (.s (.bl true)) => (fc b.2).bind fun c => match op' b.1 c.1 with
      | some z => .ok (z, c.2)
      | none => .bad
    | some (.s (.bl false)) => .ok (.s (.bl false), b.2)
    | _ => .bad) post f1 q1
  refine se_then sb l1 st1 (fun e => by rw [e] at p1; exact p1) (fun c fs ρ2 e => by rw [e] at p1; exact p1) fun d2 ρ2 v2 H2 W2 e2 l2 f2 q2 st2 pv2 => ?_
  rw [e2] at p1
  have p2 := PostE.shift (b1 := b2) (b2 := b3) (r := match op d d2 with
    | some (.s (.bl true)) => (fc ρ2).bind fun c => match op' d2 c.1 with
      | some z => .ok (z, c.2)
      | none => .bad
    | some (.s (.bl false)) => .ok (.s (.bl false), ρ2)
    | _ => .bad) p1 f2 q2
  have pa : PDn g H2 (bad W2 Z) v d := PDn.fr (show PDn g H1 (bad W1 Z) v d from pv) f2
  have pb : PDn g H2 (bad W2 Z) v2 d2 := pv2
  split at p2
  · rename_i eo
    refine ho H2 _ v v2 d d2 _ _ st2.bt (.f pa) (.f pb) eo fun z H3 s3 pz => ?_
    refine ⟨true, (PDt.f pz).s, iteT ?_⟩
    have p3 := PostE.shift (b1 := true) (b2 := b3) (W1 := W2) (H1 := H3) (by simpa using p2) (.same s3) fun _ => ⟨rfl, s3⟩
    refine se_then sc l2 (st2.same s3) (fun e => by rw [e] at p3; exact p3) (fun c fs ρ4 e => by rw [e] at p3; exact p3) fun d4 ρ4 v4 H4 W4 e4 l4 f4 q4 st4 pv4 => ?_
    rw [e4] at p3
    have p4 : PostE b3 true g wx Z σ τ θ H3 W2 (match op' d2 d4 with | some z => .ok (z, ρ4) | none => .bad) Q := p3
    cases eo2 : op' d2 d4 with
    | none => rw [eo2] at p4; exact p4.elim
    | some z2 =>
      rw [eo2] at p4
      exact ho' H4 _ v2 v4 d2 d4 z2 Q st4.bt (.f ((pb.same s3).fr f4)) pv4.t eo2 fun w H5 s5 pw => p4 w H5 W4 (f4.trans (.same s5)) (fun hb => ⟨(q4 hb).1, (q4 hb).2.trans s5⟩) (st4.same s5) pw
  · rename_i eo
    refine ho H2 _ v v2 d d2 _ _ st2.bt (.f pa) (.f pb) eo fun z H3 s3 pz => ?_
    exact ⟨false, (PDt.f pz).s, iteF (p2 _ H3 W2 (.same s3) (fun _ => ⟨rfl, s3⟩) (st2.same s3) (.s _))⟩
  · exact p2.elim
end

section
variable {X : Cx} {x : Bx} {a b e : Expr} {es rest : List Expr} {fa fb fc : Env → Res (P × Env)} {ft fu : Env → Res (Bool × Env)} {fr : Env → Res (List P × Env)} {fl : Env → Option (Nat × List Nat)} {b1 b2 z1 z2 : Bool} {pos : Pos}
theorem lIxx (h : DLx X x a fl) (hi : DE X x true z1 b fa) (hs : PlainIx b := by exact fun _ _ => rfl) : DLx X x (.Subscript a b pos) (lIx fl fa) := .of (pe_ix ix_list h.pe hi.pe hs) (slx_ix rfl sl_self se_self fun _ _ _ _ h => h)
theorem dNeg (ha : DE X x b1 z1 a fa) : DE X x b1 true (.UnaryOp .USub a pos) (dUn pNeg fa) := .of (pe_un un_neg ha.pe) (se_un se_self fun H B y d z Q _ py e k => by
  unfold pNeg at e
  split at e
  · cases e
    exact ⟨_, py.s, k _ H (Same.refl H) (.s _)⟩
  · cases e)
theorem dNot (ha : DE X x b1 z1 a fa) : DE X x b1 true (.UnaryOp .Not a pos) (dNotF fa) := .of (pe_notT ha.pe) (se_notT rfl se_self)
theorem dOne {op} (ha : DE X x b1 z1 a fa) : DE X x b1 z1 (.BoolOp op [a] pos) fa := ⟨pe_one ha.pe⟩
theorem dAndV (ha : DE X x b1 true a fa) (hb : DE X x b2 true (.BoolOp .And (b :: rest) pos) fb) : DE X x (b1 && b2) true (.BoolOp .And (a :: b :: rest) pos) (dAndF fa fb) := .of (pe_andT ha.pe hb.pe) (se_andT rfl se_self se_self)
theorem dOrV (ha : DE X x b1 true a fa) (hb : DE X x b2 true (.BoolOp .Or (b :: rest) pos) fb) : DE X x (b1 && b2) true (.BoolOp .Or (a :: b :: rest) pos) (dOrF fa fb) := .of (pe_orT ha.pe hb.pe) (se_orT rfl se_self se_self)
theorem dIfE {c : Expr} (hc : DT X x b1 c ft) (ha : DE X x b2 true a fa) (hb : DE X x b2 true b fb) : DE X x (b1 && b2) true (.IfExp c a b pos) (dIteF ft fa fb) := .of (pe_ifExp hc.pt ha.pe hb.pe) (se_ite st_self se_self se_self)
/-- a value as a test -/
theorem tV (ha : DE X x b1 z1 a fa) (he : ∀ whole, isTrue a X.env whole = (do let v ← whole; standAt a.pos; holding [v] (truthy v)) := by intro _; rfl) : DT X x b1 a (tTru fa) := .of (pt_truth ha.pe he) (st_tru rfl se_self)
theorem tC (ha : DC X x b1 a fa) : DT X x b1 a (tBl fa) := .of ha.pt (st_bl se_self)
structure DW (X : Cx) (x : Bx) (b : Bool) (e : Expr) (f : Env → Res (Bool × Env)) : Prop where
  pw : PW X e (tT b (x.g X) x.wx f)
theorem PW.imp {t t' : TT} (h : PW X e t) (k : ∀ σ H Q, t' σ H Q → t σ H Q) : PW X e t' := ⟨fun wh pins s σ H Q I q => h.run wh pins s σ H Q I (k σ H Q q)⟩
theorem DW.of {t : TT} (pw : PW X e t) (st : STt b1 (x.g X) x.wx t ft) : DW X x b1 e ft := ⟨PW.imp pw fun _ _ _ ⟨Z, τ, ρ, θ, W, hl, st', post⟩ => st Z _ τ ρ θ _ W _ hl st' post⟩
theorem DW.t (h : DW X x b1 e ft) : DT X x b1 e ft := ⟨h.pw.pt⟩
theorem wAnd1 (ha : DT X x b1 a ft) : DW X x b1 (.BoolOp .And [a] pos) ft := ⟨pw_and1 ha.pt⟩
theorem wOr1 (ha : DT X x b1 a ft) : DW X x b1 (.BoolOp .Or [a] pos) ft := ⟨pw_or1 ha.pt⟩
theorem wAnd (ha : DT X x b1 a ft) (hb : DW X x b2 (.BoolOp .And (b :: rest) pos) fu) : DW X x (b1 && b2) (.BoolOp .And (a :: b :: rest) pos) (tAndF ft fu) := .of (pw_and ha.pt hb.pw) (st_and st_self st_self)
theorem wOr (ha : DT X x b1 a ft) (hb : DW X x b2 (.BoolOp .Or (b :: rest) pos) fu) : DW X x (b1 && b2) (.BoolOp .Or (a :: b :: rest) pos) (tOrF ft fu) := .of (pw_or ha.pt hb.pw) (st_or st_self st_self)
theorem tNo (ha : DT X x b1 a ft) : DT X x b1 (.UnaryOp .Not a pos) (tNotF ft) := .of (pt_not ha.pt) (st_not st_self)
theorem aN : DA X x true true [] aNil := .of pa_nil sa_nil
theorem aC (ha : DE X x b1 z1 e fa) (hr : DA X x b2 z2 es fr) (hz : (z1 || b2) = true := by rfl) (hs : starEach (e :: es) X.env = (false, eval e X.env) :: starEach es X.env := by rfl) : DA X x (b1 && b2) (z1 && z2) (e :: es) (aCons fa fr) := .of (pa_cons ha.pe hr.pa hs) (sa_cons se_self sa_self hz)
theorem dTup {k} (h : DA X x b1 true es fr) : DE X x b1 true (.Tuple es k pos) (dSeqF .tup fr) := .of (pe_tup h.pa) (se_tup sa_self)
theorem dLst (h : DA X x b1 true es fr) : DE X x b1 true (.List es pos) (dSeqF .lst fr) := .of (pe_lst h.pa) (se_lst sa_self)
theorem dChain {op op' : CmpOp} {r r' : R2} {o o' : P → P → Option P} {b3 z3 : Bool} {c : Expr} (ho : OpR X (compareOp op) r) (hs : OpS (x.g X) r o) (ho' : OpR X (compareOp op') r') (hs' : OpS (x.g X) r' o') (ha : DE X x b1 true a fa) (hb : DE X x b2 true b fb) (hc : DE X x b3 z3 c fc)
    (hm : lastMarks [op, op'] [b, c] = false := by with_unfolding_all rfl) : DC X x (b1 && (b2 && b3)) (.Compare a [op, op'] [b, c] pos) (dChainF o o' fa fb fc) :=
  ⟨.of (pe_chain ho ho' ha.pe hb.pe hc.pe hm) (se_chain se_self se_self se_self hs hs'), PT.imp (pt_chain ho ho' ha.pe hb.pe hc.pe hm) fun σ H Q ⟨Z, τ, ρ, θ, W, hl, st, post⟩ => se_chain se_self se_self se_self hs hs' Z σ τ ρ θ H W _ hl st post⟩
theorem dLeLe {b3 z3 : Bool} {c : Expr} (ha : DE X x b1 true a fa) (hb : DE X x b2 true b fb) (hc : DE X x b3 z3 c fc) (hm : lastMarks [.LtE, .LtE] [b, c] = false := by with_unfolding_all rfl) : DC X x (b1 && (b2 && b3)) (.Compare a [.LtE, .LtE] [b, c] pos) (dChainF pLe pLe fa fb fc) :=
  dChain (op_le.or op_le_str) (ops_or (ops_int0 _) ops_leS) (op_le.or op_le_str) (ops_or (ops_int0 _) ops_leS) ha hb hc hm
theorem dLeLt {b3 z3 : Bool} {c : Expr} (ha : DE X x b1 true a fa) (hb : DE X x b2 true b fb) (hc : DE X x b3 z3 c fc) (hm : lastMarks [.LtE, .Lt] [b, c] = false := by with_unfolding_all rfl) : DC X x (b1 && (b2 && b3)) (.Compare a [.LtE, .Lt] [b, c] pos) (dChainF pLe pLt fa fb fc) :=
  dChain (op_le.or op_le_str) (ops_or (ops_int0 _) ops_leS) (op_lt.or op_lt_str) (ops_or (ops_int0 _) ops_ltS) ha hb hc hm
theorem dLtLt {b3 z3 : Bool} {c : Expr} (ha : DE X x b1 true a fa) (hb : DE X x b2 true b fb) (hc : DE X x b3 z3 c fc) (hm : lastMarks [.Lt, .Lt] [b, c] = false := by with_unfolding_all rfl) : DC X x (b1 && (b2 && b3)) (.Compare a [.Lt, .Lt] [b, c] pos) (dChainF pLt pLt fa fb fc) :=
  dChain (op_lt.or op_lt_str) (ops_or (ops_int0 _) ops_ltS) (op_lt.or op_lt_str) (ops_or (ops_int0 _) ops_ltS) ha hb hc hm
end
end DL

/-! owned values: made, moved, changed in place -/
namespace DL
open PySem PySem.Spec L2

def putAt (ρ : Env) (l : Nat × List Nat) (n : O) : Env := match ρ[l.1]? with
  | some (some o) => ρ.set l.1 (some (o.put l.2 n))
  | _ => ρ
theorem putAt_length (ρ : Env) (l : Nat × List Nat) (n : O) : (putAt ρ l n).length = ρ.length := by
  unfold putAt
  split
  · rw [List.length_set]
  · rfl
theorem set_same {α : Type} {σ : List α} {i : Nat} {v : α} (ev : σ[i]? = some v) : σ.set i v = σ := by
  apply List.ext_getElem?
  intro j
  by_cases hj : i = j
  · subst hj
    rw [ev, List.getElem?_set_self (List.getElem?_eq_some_iff.mp ev).1]
  · rw [List.getElem?_set_ne hj]
section
variable {g : Gx} {wx : WX} {Z W W1 : AP} {σ τ : St} {ρ θ : Env} {H H1 : Hp} {B : AP}
/-- the place l, and how the state looks when its content is another one -/
theorem Sta.focus {l : Nat × List Nat} {o : O} (hl : σ.length = ρ.length) (st : Sta g H Z (σ ++ τ) (ρ ++ θ) W) (e : at_ ρ l = some o) :
    ∃ w o0 x F1 fk F2, σ[l.1]? = some (some w) ∧ ρ[l.1]? = some (some o0) ∧ o0.get l.2 = some o ∧ Reach g H w o0 l.2 x ∧ ODn g H (bad W Z) x o fk ∧ (F1 ++ fk ++ F2).Nodup ∧ (∀ a, W a ↔ a ∈ F1 ++ fk ++ F2) ∧
      ∀ {H' : Hp} {W' : AP} {n : O} {fk' : List Addr}, (∀ a o, ¬ bad W Z a → H a = some o → H' a = some o ∧ ¬ bad W' Z a) → (∀ a ∈ F1 ++ F2, ∀ o, H a = some o → H' a = some o) → ODn g H' (bad W' Z) x n fk' →
        (F1 ++ fk' ++ F2).Nodup → (∀ a, W' a ↔ a ∈ F1 ++ fk' ++ F2) → (∀ a ∈ fk', ¬ Z a) → (∀ a, Z a → H' a ≠ none) → Sta g H' Z (σ ++ τ) (putAt ρ l n ++ θ) W' := by
  unfold at_ at e
  cases e1 : ρ[l.1]? with
  | none => simp [e1] at e
  | some q =>
    cases q with
    | none => simp [e1] at e
    | some o0 =>
      have e2 : o0.get l.2 = some o := by simpa [e1] using e
      obtain ⟨e3, e4⟩ := get_l (τ := τ) (θ := θ) hl e1
      obtain ⟨fp, h, nd, em⟩ := st.all
      obtain ⟨w, g1, gk, g2, ev, ef, ho, r⟩ := h.at e3
      obtain ⟨x, f1, fk, f2, ef2, re, hx, r2⟩ := ho.focus e2
      have ev' : σ[l.1]? = some (some w) := by rw [← e4]; exact ev
      have efp : fp = (g1 ++ f1) ++ fk ++ (f2 ++ g2) := by rw [ef, ef2]; simp
      subst efp
      refine ⟨w, o0, x, g1 ++ f1, fk, f2 ++ g2, ev', rfl, e2, re, hx, nd, em, fun {H' W' n fk'} k1 k2 h' nd' em' nz zt => ?_⟩
      have q2 := r2 k1 (fun a q => k2 a (by simp only [List.mem_append] at q ⊢; rcases q with q | q <;> simp [q])) h'
      have q1 := (r (H' := H') (B' := bad W' Z) k1 (fun a q => k2 a (by simp only [List.mem_append] at q ⊢; rcases q with q | q <;> simp [q]))).1 q2
      rw [set_same ev, set_l (θ := θ) hl e1] at q1
      refine ⟨⟨_, ?_, nd', em'⟩, fun a q => ?_, zt, st.ev.mono k1⟩
      · have ep : putAt ρ l n = ρ.set l.1 (some (o0.put l.2 n)) := by unfold putAt; rw [e1]
        rw [ep]
        have el : g1 ++ f1 ++ fk' ++ (f2 ++ g2) = g1 ++ (f1 ++ fk' ++ f2) ++ g2 := by simp
        rw [el]
        exact q1
      · have q' := (em' a).mp q
        simp only [List.mem_append] at q'
        by_cases hk : a ∈ fk'
        · exact nz a hk
        · exact st.dj a ((em a).mpr (by simp only [List.mem_append]; simp only [hk, or_false] at q'; rcases q' with (q | q) | q | q <;> simp [q]))
theorem nodup_mid {α : Type} {A B C D : List α} (h : (A ++ B ++ C).Nodup) (s : D.Sublist B) : (A ++ D ++ C).Nodup := h.sublist ((List.Sublist.append_left s A).append_right C)
/-- a node is changed in place, its kids stay or go -/
theorem Sta.mutate {l : Nat × List Nat} {t : Tg} {ks : List O} (hl : σ.length = ρ.length) (st : Sta g H Z (σ ++ τ) (ρ ++ θ) W) (e : at_ ρ l = some (.nd t ks)) :
    ∃ w o0 a vs fpk, σ[l.1]? = some (some w) ∧ ρ[l.1]? = some (some o0) ∧ o0.get l.2 = some (.nd t ks) ∧ Reach g H w o0 l.2 (.ref a) ∧ t.mut = true ∧ Ho g.cl H a t vs ∧ OAll g H (bad W Z) vs ks fpk ∧ W a ∧ (∀ b ∈ fpk, W b ∧ b ≠ a) ∧
      ∀ {t' : Tg} {ks' : List O} {vs' : List V} {u : HO} {fpk' : List Addr}, t'.mut = true → Ho g.cl (upd H a u) a t' vs' → fpk'.Sublist fpk → OAll g H (bad W Z) vs' ks' fpk' →
        ∃ W', Fr W H W' (upd H a u) ∧ (∀ b, W' b → W b) ∧ Sta g (upd H a u) Z (σ ++ τ) (putAt ρ l (.nd t' ks') ++ θ) W' := by
  obtain ⟨w, o0, x, F1, fk, F2, ew, eo, eg, re, hx, nd, em, r⟩ := st.focus hl e
  cases hx with
  | @nd a _ vs _ fpk m ho ha =>
    have hW : W a := (em a).mpr (by simp)
    have nda : ∀ b ∈ fpk, b ≠ a := fun b q z => by
      subst z
      have n1 := (List.nodup_append.mp (List.nodup_append.mp nd).1).2.1
      exact (List.nodup_cons.mp n1).1 q
    have ndF : ∀ b ∈ F1 ++ F2, b ≠ a := fun b q z => by
      subst z
      have n1 := List.nodup_append.mp nd
      have n2 := List.nodup_append.mp n1.1
      rcases List.mem_append.mp q with q | q
      · exact n2.2.2 b q b (by simp) rfl
      · exact n1.2.2 b (by simp) b q rfl
    refine ⟨w, o0, a, vs, fpk, ew, eo, eg, re, m, ho, ha, hW, fun b q => ⟨(em b).mpr (by simp [q]), nda b q⟩, fun {t' ks' vs' u fpk'} m' ho' sl ha' => ?_⟩
    have nd' := nodup_mid (D := a :: fpk') nd (sl.cons_cons a)
    have sub : ∀ b, b ∈ F1 ++ (a :: fpk') ++ F2 → W b := fun b q => (em b).mpr (by
      simp only [List.mem_append, List.mem_cons] at q ⊢
      rcases q with (q | q | q) | q
      · simp [q]
      · simp [q]
      · simp [sl.subset q]
      · simp [q])
    have k1 : ∀ b o, ¬ bad W Z b → H b = some o → (upd H a u) b = some o ∧ ¬ bad (fun c => c ∈ F1 ++ (a :: fpk') ++ F2) Z b := fun b o n q =>
      ⟨by rw [upd_ne (fun z => n (.inl (by rw [z]; exact hW)))]; exact q, fun z => n (z.elim (fun z => .inl (sub b z)) .inr)⟩
    refine ⟨fun c => c ∈ F1 ++ (a :: fpk') ++ F2, ⟨fun b o q n => by rw [upd_ne (fun z => n (by rw [z]; exact hW))]; exact q, fun b q => .inl (sub b q)⟩, sub, ?_⟩
    refine r k1 (fun b q o e => by rw [upd_ne (ndF b q)]; exact e) (.nd m' ho' (OAll.mono k1 _ (fun b q o e => by rw [upd_ne (nda b (sl.subset q))]; exact e) ha')) nd' (fun _ => Iff.rfl) (fun b q => ?_) (fun b q => ?_)
    · rcases List.mem_cons.mp q with q | q
      · rw [q]; exact st.dj a hW
      · exact st.dj b ((em b).mpr (by simp [sl.subset q]))
    · by_cases hb : b = a
      · exact absurd q (by rw [hb]; exact st.dj a hW)
      · rw [upd_ne hb]; exact st.zt b q
/-! ### one more place -/
theorem Sta.push {v : V} {d : P} (hl : σ.length = ρ.length) (st : Sta g H Z (σ ++ τ) (ρ ++ θ) W) (h : PDn g H (bad W Z) v d) : Sta g H Z (σ ++ some v :: τ) (ρ ++ some (.p d) :: θ) W := by
  obtain ⟨fp, hh, nd, em⟩ := st.all
  obtain ⟨f1, f2, ef, h1, h2⟩ := hh.split hl
  subst ef
  exact ⟨⟨f1 ++ f2, by simpa using h1.app (SlAll.cons (.p h) h2), nd, em⟩, st.dj, st.zt, st.ev⟩
theorem PAll.own : ∀ {ds : List P} {vs : List V}, PAll g H B vs ds → OAll g H B vs (ds.map .p) []
  | [], _, h => by
    cases h
    exact .nil
  | _ :: _, _, h => by
    cases h with
    | cons h1 h2 => simpa using OAll.cons (.p h1) (PAll.own h2)
/-- something owned and new beside all else -/
theorem Sta.beside {v : V} {o : O} {fp : List Addr} {H' : Hp} (hl : σ.length = ρ.length) (st : Sta g H Z (σ ++ τ) (ρ ++ θ) W) (s : Same H H') (nd : fp.Nodup) (fresh : ∀ a ∈ fp, H a = none)
    (h : ODn g H' (bad (fun a => W a ∨ a ∈ fp) Z) v o fp) : Sta g H' Z (σ ++ some v :: τ) (ρ ++ some o :: θ) (fun a => W a ∨ a ∈ fp) := by
  obtain ⟨gp, hh, nd0, em⟩ := st.all
  have nz : ∀ a ∈ fp, ¬ Z a := fun a q z => st.zt a z (fresh a q)
  have nw : ∀ a ∈ fp, ¬ W a := fun a q z => st.there a z (fresh a q)
  have kk : ∀ a o, ¬ bad W Z a → H a = some o → H' a = some o ∧ ¬ bad (fun a => W a ∨ a ∈ fp) Z a := fun a o n e => ⟨s a o e, fun z => by
    rcases z with (z | z) | z
    · exact n (.inl z)
    · rw [fresh a z] at e; cases e
    · exact n (.inr z)⟩
  have hh' : SlAll g H' (bad (fun a => W a ∨ a ∈ fp) Z) (σ ++ τ) (ρ ++ θ) gp := hh.mono kk fun a _ o e => s a o e
  obtain ⟨f1, f2, ef, h1, h2⟩ := hh'.split hl
  subst ef
  refine ⟨⟨f1 ++ (fp ++ f2), h1.app (SlAll.cons h h2), ?_, fun a => ?_⟩, fun a q => q.elim (st.dj a) (nz a), fun a q z => ?_, st.ev.mono kk⟩
  · have n1 := List.nodup_append.mp nd0
    rw [List.nodup_append, List.nodup_append]
    refine ⟨n1.1, ⟨nd, n1.2.1, fun a q b q' z => ?_⟩, fun a q b q' z => ?_⟩
    · subst z; exact nw a q ((em a).mpr (by simp [q']))
    · subst z
      rcases List.mem_append.mp q' with q' | q'
      · exact nw a q' ((em a).mpr (by simp [q]))
      · exact n1.2.2 a q a q' rfl
  · rw [em a]
    simp only [List.mem_append]
    constructor
    · rintro ((h | h) | h) <;> simp [h]
    · rintro (h | h | h) <;> simp [h]
  · cases e : H a with
    | none => exact st.zt a q e
    | some o => rw [s a o e] at z; cases z
theorem Sta.new {t : Tg} {vs : List V} {ds : List P} {p : Addr} {u : HO} (hl : σ.length = ρ.length) (st : Sta g H Z (σ ++ τ) (ρ ++ θ) W) (np : H p = none) (m : t.mut = true) (ho : Ho g.cl (upd H p u) p t vs) (ha : PAll g H (bad W Z) vs ds) :
    ∃ W', Fr W H W' (upd H p u) ∧ Sta g (upd H p u) Z (σ ++ some (.ref p) :: τ) (ρ ++ some (.nd t (ds.map .p)) :: θ) W' := by
  refine ⟨fun a => W a ∨ a ∈ [p], ⟨fun a o e n => same_new np a o e, fun a q => q.elim .inl fun q => .inr (by rw [List.mem_singleton.mp q]; exact np)⟩, ?_⟩
  refine st.beside hl (same_new np) (by simp) (fun a q => by rw [List.mem_singleton.mp q]; exact np) (.nd m ho ?_)
  refine PAll.own (PAll.mono (fun a o n e => ⟨same_new np a o e, fun z => ?_⟩) _ ha)
  rcases z with (z | z) | z
  · exact n (.inl z)
  · rw [List.mem_singleton.mp z, np] at e; cases e
  · exact n (.inr z)
/-- the last place goes to slot i -/
theorem Sta.move {v : V} {o : O} {i : Nat} (hl : σ.length = ρ.length) (hi : i < σ.length) (st : Sta g H Z (σ ++ [some v]) (ρ ++ [some o]) W) :
    ∃ W', Fr W H W' H ∧ (∀ a, W' a → W a) ∧ Sta g H Z (σ.set i (some v)) (ρ.set i (some o)) W' := by
  obtain ⟨fp, hh, nd, em⟩ := st.all
  obtain ⟨f1, f2, ef, h1, h2⟩ := hh.split hl
  subst ef
  cases h2 with
  | @cons _ _ _ _ fo fn ho hn =>
    cases hn
    rw [List.append_nil] at nd em
    cases e : ρ[i]? with
    | none => exact absurd (List.getElem?_eq_none_iff.mp e) (by omega)
    | some q =>
      cases q with
      | none =>
        obtain ⟨g1, g2, e2, r, _⟩ := h1.put e
        subst e2
        have pm : (g1 ++ g2 ++ fo).Perm (g1 ++ fo ++ g2) := by
          rw [List.append_assoc, List.append_assoc]
          exact List.Perm.append_left g1 List.perm_append_comm
        exact ⟨W, .refl, fun _ h => h, ⟨g1 ++ fo ++ g2, r ho, pm.nodup nd, fun a => (em a).trans pm.mem_iff⟩, st.dj, st.zt, st.ev⟩
      | some o' =>
        obtain ⟨w, g1, gk, g2, ew, e2, hk, r⟩ := h1.at e
        subst e2
        have sub : ∀ a, a ∈ g1 ++ fo ++ g2 → W a := fun a q => (em a).mpr (by
          simp only [List.mem_append] at q ⊢
          rcases q with (q | q) | q <;> simp [q])
        have k1 : ∀ a o, ¬ bad W Z a → H a = some o → H a = some o ∧ ¬ bad (fun a => a ∈ g1 ++ fo ++ g2) Z a := fun a o n e => ⟨e, fun z => n (z.elim (fun z => .inl (sub a z)) .inr)⟩
        refine ⟨fun a => a ∈ g1 ++ fo ++ g2, ⟨fun a o h _ => h, fun a q => .inl (sub a q)⟩, sub, ⟨g1 ++ fo ++ g2, (r k1 fun a _ o e => e).1 (ODn.mono k1 _ (fun a _ o e => e) ho), ?_, fun _ => Iff.rfl⟩, fun a q => st.dj a (sub a q), st.zt, st.ev.mono k1⟩
        have pm : (g1 ++ g2 ++ fo).Perm (g1 ++ fo ++ g2) := by
          rw [List.append_assoc, List.append_assoc]
          exact List.Perm.append_left g1 List.perm_append_comm
        exact pm.nodup (nd.sublist (by simp))
end
end DL

/-! statements -/
namespace DL
open PySem PySem.Spec L2

/-! ### owned results -/
def oP (fa : Env → Res (P × Env)) : Env → Res (O × Env) := fun ρ => (fa ρ).bind fun a => .ok (.p a.1, a.2)
def oMv (i : Nat) : Env → Res (O × Env) := fun ρ => match ρ[i]? with
  | some (some o) => .ok (o, ρ.set i none)
  | _ => .bad
def oLst (fr : Env → Res (List P × Env)) : Env → Res (O × Env) := fun ρ => (fr ρ).bind fun r => if r.1.length ≤ sizeLine then .ok (.nd .lst (r.1.map .p), r.2) else .bad
def oDct : Env → Res (O × Env) := fun ρ => .ok (.nd (.dct []) [], ρ)
section
variable {g : Gx} {wx : WX} {Z W W1 : AP} {σ τ : St} {ρ θ : Env} {H H1 : Hp} {b1 b2 fz : Bool} {t : TE} {fa : Env → Res (P × Env)}
theorem PostO.shift {r : Res (O × Env)} {Q : VK} (p : PostO g wx Z σ τ θ H W r Q) (f : Fr W H W1 H1) : PostO g wx Z σ τ θ H1 W1 r Q := by
  cases r with
  | bad => exact p
  | ex c fs ρ' => exact fun cls d H' W' f' st e => p cls d H' W' (f.trans f') st e
  | ok a => exact fun v H' W' f' st => p v H' W' (f.trans f') st
theorem so_p (sa : SE b1 true g wx t fa) : SO g wx t (oP fa) := by
  intro Z σ τ ρ θ H W Q hl st post
  refine se_then sa hl st (fun e => by unfold oP at post; rw [e] at post; exact post) (fun c fs ρ1 e => by unfold oP at post; rw [e] at post; exact post) fun d ρ1 v H1 W1 e l1 f1 q1 st1 pv => ?_
  unfold oP at post
  rw [e] at post
  exact post v H1 W1 f1 (st1.push l1 pv)
theorem so_lst {tr : TA} {fr : Env → Res (List P × Env)} (sr : SA b1 true g wx tr fr) : SO g wx (tLst tr) (oLst fr) := by
  intro Z σ τ ρ θ H W Q hl st post
  refine sa_then sr hl st (fun e => by unfold oLst at post; rw [e] at post; exact post) (fun c fs ρ1 e => by unfold oLst at post; rw [e] at post; exact post) fun ds ρ1 vs H1 W1 e l1 f1 q1 st1 pv => ?_
  unfold oLst at post
  rw [e] at post
  have post1 : PostO g wx Z σ τ θ H W (if ds.length ≤ sizeLine then .ok (.nd .lst (ds.map .p), ρ1) else .bad) Q := post
  have pv' : PAll g H1 (bad W1 Z) vs ds := pv
  split at post1
  · rename_i hc
    refine ⟨by rw [pv'.length]; exact hc, fun p np => ?_⟩
    obtain ⟨W', f', st'⟩ := st1.new (t := .lst) (u := .lst vs) l1 np rfl upd_same pv'
    exact post1 _ _ W' (f1.trans f') st'
  · exact post1.elim
theorem so_dct : SO g wx tDNewK oDct := by
  intro Z σ τ ρ θ H W Q hl st post p np
  obtain ⟨W', f', st'⟩ := st.new (t := .dct []) (u := .dK []) (vs := []) (ds := []) hl np rfl ⟨rfl, List.nodup_nil, upd_same⟩ .nil
  exact post _ _ W' f' st'
/-- slot i goes to the last place -/
theorem Sta.take {i : Nat} {o : O} (hl : σ.length = ρ.length) (st : Sta g H Z (σ ++ τ) (ρ ++ θ) W) (e : ρ[i]? = some (some o)) : ∃ v, σ[i]? = some (some v) ∧ Sta g H Z (σ ++ some v :: τ) (ρ.set i none ++ some o :: θ) W := by
  obtain ⟨fp, hh, nd, em⟩ := st.all
  obtain ⟨f1, f2, ef, h1, h2⟩ := hh.split hl
  subst ef
  obtain ⟨v, g1, gk, g2, ev, e2, hk, r⟩ := h1.at e
  subst e2
  have q := (r (H' := H) (B' := bad W Z) (fun a o n e => ⟨e, n⟩) fun a _ o e => e).2 (some v)
  rw [set_same ev] at q
  have pm : (g1 ++ gk ++ g2 ++ f2).Perm ((g1 ++ g2) ++ (gk ++ f2)) := by
    rw [List.append_assoc g1 gk g2, List.append_assoc g1 (gk ++ g2) f2, List.append_assoc g1 g2]
    refine List.Perm.append_left g1 ?_
    rw [← List.append_assoc g2 gk f2]
    exact List.Perm.append_right f2 List.perm_append_comm
  exact ⟨v, ev, ⟨(g1 ++ g2) ++ (gk ++ f2), q.app (SlAll.cons hk h2), pm.nodup nd, fun a => (em a).trans pm.mem_iff⟩, st.dj, st.zt, st.ev⟩
theorem so_mv (i : Nat) : SO g wx (tVar i) (oMv i) := by
  intro Z σ τ ρ θ H W Q hl st post
  unfold oMv at post
  split at post
  · rename_i o e
    obtain ⟨v, ev, st'⟩ := st.take hl e
    exact ⟨v, ev, post v H W .refl st'⟩
  · exact post.elim
/-- slot i is given a firm value -/
theorem Sta.setP {v : V} {d : P} {i : Nat} (hl : σ.length = ρ.length) (hi : i < ρ.length) (st : Sta g H Z (σ ++ τ) (ρ ++ θ) W) (h : PDn g H (bad W Z) v d) :
    ∃ W', Fr W H W' H ∧ (∀ a, W' a → W a) ∧ Sta g H Z (σ.set i (some v) ++ τ) (ρ.set i (some (.p d)) ++ θ) W' := by
  obtain ⟨fp, hh, nd, em⟩ := st.all
  obtain ⟨f1, f2, ef, h1, h2⟩ := hh.split hl
  subst ef
  cases e : ρ[i]? with
  | none => exact absurd (List.getElem?_eq_none_iff.mp e) (by omega)
  | some q =>
    cases q with
    | none =>
      obtain ⟨g1, g2, e2, r, _⟩ := h1.put e
      subst e2
      exact ⟨W, .refl, fun _ h => h, ⟨(g1 ++ [] ++ g2) ++ f2, (r (.p h)).app h2, by simpa using nd, by simpa using em⟩, st.dj, st.zt, st.ev⟩
    | some o' =>
      obtain ⟨w, g1, gk, g2, ew, e2, hk, r⟩ := h1.at e
      subst e2
      have sub : ∀ a, a ∈ g1 ++ [] ++ g2 ++ f2 → W a := fun a q => (em a).mpr (by
        simp only [List.append_nil, List.mem_append] at q ⊢
        rcases q with (q | q) | q <;> simp [q])
      have k1 : ∀ a o, ¬ bad W Z a → H a = some o → H a = some o ∧ ¬ bad (fun a => a ∈ g1 ++ [] ++ g2 ++ f2) Z a := fun a o n e => ⟨e, fun z => n (z.elim (fun z => .inl (sub a z)) .inr)⟩
      refine ⟨fun a => a ∈ g1 ++ [] ++ g2 ++ f2, ⟨fun a o h _ => h, fun a q => .inl (sub a q)⟩, sub, ⟨_, ((r k1 fun a _ o e => e).1 (.p (PDn.mono k1 _ h))).app (h2.mono k1 fun a _ o e => e), nd.sublist (by simp), fun _ => Iff.rfl⟩, fun a q => st.dj a (sub a q), st.zt, st.ev.mono k1⟩
end

/-! ### targets -/
def PostG (io : List Nat) (g : Gx) (Z : AP) (σ τ : St) (θ : Env) (H : Hp) (W : AP) : Option Env → (St → Hp → Prop) → Prop
  | some ρ', Q => ∀ σ' W', Fr W H W' H → (∀ a, W' a → W a) → Pin io σ' σ → σ'.length = σ.length → Sta g H Z (σ' ++ τ) (ρ' ++ θ) W' → Q σ' H
  | none, _ => False
def SG (io : List Nat) (g : Gx) (t : TG) (f : P → Env → Option Env) : Prop :=
  ∀ (Z : AP) (σ τ : St) (ρ θ : Env) (H : Hp) (W : AP) (v : V) (d : P) (Q : St → Hp → Prop), σ.length = ρ.length → Sta g H Z (σ ++ τ) (ρ ++ θ) W → PDn g H (bad W Z) v d → PostG io g Z σ τ θ H W (f d ρ) Q → t v σ H Q
def tGt (io : List Nat) (g : Gx) (f : P → Env → Option Env) : TG := fun v σ H Q => ∃ (Z : AP) (τ : St) (ρ θ : Env) (W : AP) (d : P), σ.length = ρ.length ∧ Sta g H Z (σ ++ τ) (ρ ++ θ) W ∧ PDn g H (bad W Z) v d ∧ PostG io g Z σ τ θ H W (f d ρ) Q
theorem sg_self {io : List Nat} {g : Gx} {f : P → Env → Option Env} : SG io g (tGt io g f) f := fun Z _ τ ρ θ _ W _ d _ hl st pv post => ⟨Z, τ, ρ, θ, W, d, hl, st, pv, post⟩
structure DG (X : Cx) (x : Bx) (tg : Expr) (f : P → Env → Option Env) : Prop where
  pg : PG X tg (tGt x.io (x.g X) f)
theorem DG.of {X : Cx} {x : Bx} {tg : Expr} {t : TG} {f : P → Env → Option Env} (pg : PG X tg t) (sg : SG x.io (x.g X) t f) : DG X x tg f :=
  ⟨⟨fun pins s σ H v u Q I r ⟨Z, τ, ρ, θ, W, d, hl, st, pv, post⟩ => pg.run pins s σ H v u Q I r (sg Z σ τ ρ θ H W v d Q hl st pv post)⟩⟩
def gNm (i : Nat) : P → Env → Option Env := fun d ρ => if i < ρ.length then some (ρ.set i (some (.p d))) else none
theorem sg_name {io : List Nat} {g : Gx} {i : Nat} (hi : hasN i io = false) : SG io g (gName i) (gNm i) := by
  intro Z σ τ ρ θ H W v d Q hl st pv post
  unfold gNm at post
  split at post
  · rename_i hc
    obtain ⟨W', f, sub, st'⟩ := st.setP hl hc pv
    exact post _ W' f sub (.set hi) (by simp) st'
  · exact post.elim
structure DGs (X : Cx) (x : Bx) (ts : List Expr) (t : TGs) (f : List P → Env → Option Env) : Prop where
  pg : PGs X ts t
  sg : ∀ (Z : AP) (σ τ : St) (ρ θ : Env) (H : Hp) (W : AP) (vs : List V) (ds : List P) (Q : St → Hp → Prop), σ.length = ρ.length → Sta (x.g X) H Z (σ ++ τ) (ρ ++ θ) W → PAll (x.g X) H (bad W Z) vs ds → PostG x.io (x.g X) Z σ τ θ H W (f ds ρ) Q → t vs σ H Q
def gsNil : List P → Env → Option Env
  | [], ρ => some ρ
  | _ :: _, _ => none
def gsCons (f : P → Env → Option Env) (fr : List P → Env → Option Env) : List P → Env → Option Env
  | [], _ => none
  | d :: ds, ρ => (f d ρ).bind (fr ds)
def gTupF (n : Nat) (f : List P → Env → Option Env) : P → Env → Option Env
  | .nd .tup ds, ρ => if ds.length = n then f ds ρ else none
  | _, _ => none
section
variable {X : Cx} {x : Bx} {pos : Pos} {e : Expr} {es : List Expr} {f : P → Env → Option Env} {fr : List P → Env → Option Env} {t u : TGs}
theorem gNam (c : Cb X x) (i : Nat) {nm : Str} (hi : X.N[i]? = some nm := by rfl) (hx : Loc X.env.scope nm := by first | exact Or.inl rfl | exact Or.inr rfl) (hp : hasN i x.io = false := by rfl)
    (hf : X.fn nm = true ∨ X.env.scope.names.lookup nm = some .local := by first | exact .inl rfl | exact .inr rfl) : DG X x (.Name nm pos) (gNm i) := .of (pg_name c.nd hi hx hf) (sg_name hp)
theorem gsN : DGs X x [] gNil gsNil := ⟨pgs_nil, fun Z σ τ ρ θ H W vs ds Q hl st pv post => by
  cases pv with
  | nil => exact ⟨rfl, post σ W .refl (fun _ h => h) (.refl) rfl st⟩
  | cons _ _ => exact post.elim⟩
theorem gsC (h : DG X x e f) (hr : DGs X x es u fr) (hs : (assignEach (e :: es) X.env).map (·.2) = assign e X.env :: (assignEach es X.env).map (·.2) := by rfl) : DGs X x (e :: es) (gCons (tGt x.io (x.g X) f) u) (gsCons f fr) := ⟨pgs_cons h.pg hr.pg hs, fun Z σ τ ρ θ H W vs ds Q hl st pv post => by
  cases pv with
  | nil => exact post.elim
  | @cons v vs d ds h1 h2 =>
    refine ⟨v, vs, rfl, ⟨Z, τ, ρ, θ, W, d, hl, st, h1, ?_⟩⟩
    have post1 : PostG x.io (x.g X) Z σ τ θ H W ((f d ρ).bind (fr ds)) Q := post
    cases ef : f d ρ with
    | none => rw [ef] at post1; exact post1.elim
    | some ρ1 =>
      rw [ef] at post1
      intro σ1 W1 f1 sub1 p1 l1 st1
      have post2 : PostG x.io (x.g X) Z σ τ θ H W (fr ds ρ1) Q := post1
      have hl1 : σ1.length = ρ1.length := by
        have a := st1.length
        have b := st.length
        simp only [List.length_append] at a b
        omega
      refine hr.sg Z σ1 τ ρ1 θ H W1 vs ds Q hl1 st1 (h2.fr f1) ?_
      cases er : fr ds ρ1 with
      | none => rw [er] at post2; exact post2.elim
      | some ρ2 =>
        rw [er] at post2
        exact fun σ2 W2 f2 sub2 p2 l2 st2 => post2 σ2 W2 (f1.trans f2) (fun a q => sub1 a (sub2 a q)) (p2.trans p1) (l2.trans l1) st2⟩
theorem gTp {k n : Nat} (c : Ct X x) (h : DGs X x es t fr) (hn : (assignEach es X.env).length = n := by rfl) (hst : (assignEach es X.env).findIdx? (·.1) = none := by rfl) : DG X x (.Tuple es k pos) (gTupF n fr) :=
  .of (pg_tup c.calm h.pg hn hst) fun Z σ τ ρ θ H W v d Q hl st pv post => by
    unfold gTupF at post
    split at post
    · split at post
      · rename_i hc
        obtain ⟨a, vs, rfl, hs, ha⟩ := (PDt.f pv).tup
        exact ⟨a, vs, rfl, hs, by rw [ha.length]; exact hc, h.sg Z σ τ ρ θ H W vs _ Q hl st ha post⟩
      · exact post.elim
    · exact post.elim
end

/-! ### statements -/
def sNx : Env → Res (Fl × Env) := fun ρ => .ok (.nx, ρ)
def sSetF (i : Nat) (fo : Env → Res (O × Env)) : Env → Res (Fl × Env) := fun ρ => (fo ρ).bind fun a => if i < a.2.length then .ok (.nx, a.2.set i (some a.1)) else .bad
def sAsgF (fg : P → Env → Option Env) (fa : Env → Res (P × Env)) : Env → Res (Fl × Env) := fun ρ => (fa ρ).bind fun a => match fg a.1 a.2 with
  | some ρ' => .ok (.nx, ρ')
  | none => .bad
def sAugF (i : Nat) (op : P → P → Option P) (fa : Env → Res (P × Env)) : Env → Res (Fl × Env) := fun ρ => match ρ[i]? with
  | some (some (.p dx)) => (fa ρ).bind fun a => match op dx a.1 with
    | some z => if i < a.2.length then .ok (.nx, a.2.set i (some (.p z))) else .bad
    | none => .bad
  | _ => .bad
def sExprF (fa : Env → Res (P × Env)) : Env → Res (Fl × Env) := fun ρ => (fa ρ).bind fun a => .ok (.nx, a.2)
def sRetF (fo : Env → Res (O × Env)) : Env → Res (Fl × Env) := fun ρ => (fo ρ).bind fun a => .ok (.rt a.1, a.2)
def sRetNF : Env → Res (Fl × Env) := fun ρ => .ok (.rt (.p (.s .non)), ρ)
def sIfF (ft : Env → Res (Bool × Env)) (f h : Env → Res (Fl × Env)) : Env → Res (Fl × Env) := fun ρ => (ft ρ).bind fun c => if c.1 = true then f c.2 else h c.2
def sSeqF (f h : Env → Res (Fl × Env)) : Env → Res (Fl × Env) := fun ρ => (f ρ).bind fun a => match a.1 with
  | .nx => h a.2
  | fl => .ok (fl, a.2)
def sForF (fg : P → Env → Option Env) (body : Env → Res (Fl × Env)) : List P → Env → Res (Fl × Env)
  | [], ρ => .ok (.nx, ρ)
  | d :: ds, ρ => match fg d ρ with
    | none => .bad
    | some ρ1 => (body ρ1).bind fun a => match a.1 with
      | .nx => sForF fg body ds a.2
      | .ct => sForF fg body ds a.2
      | .bk => .ok (.nx, a.2)
      | .rt o => .ok (.rt o, a.2)
def sWhileF (ft : Env → Res (Bool × Env)) (body : Env → Res (Fl × Env)) : Nat → Env → Res (Fl × Env)
  | 0, _ => .bad
  | n + 1, ρ => (ft ρ).bind fun c => if c.1 = true then (body c.2).bind fun a => match a.1 with
      | .nx => sWhileF ft body n a.2
      | .ct => sWhileF ft body n a.2
      | .bk => .ok (.nx, a.2)
      | .rt o => .ok (.rt o, a.2)
    else .ok (.nx, c.2)

section
variable {io : List Nat} {g : Gx} {wx : WX} {Z W W1 : AP} {σ σ1 : St} {ρ : Env} {H H1 : Hp} {b1 z1 : Bool}
theorem PostS.shift {r : Res (Fl × Env)} {D : Ends} (p : PostS io g wx Z σ H W r D) (f : Fr W H W1 H1) (q : Pin io σ1 σ) (l : σ1.length = σ.length) : PostS io g wx Z σ1 H1 W1 r D := by
  cases r with
  | bad => exact p
  | ex c fs ρ' => exact fun σ' cls d H' W' f' q' l' st e => p σ' cls d H' W' (f.trans f') (q'.trans q) (l'.trans l) st e
  | ok a => exact fun σ' H' W' f' q' l' => p σ' H' W' (f.trans f') (q'.trans q) (l'.trans l)
theorem sta0 (st : Sta g H Z σ ρ W) : Sta g H Z (σ ++ []) (ρ ++ []) W := by simpa using st
theorem sta0' (st : Sta g H Z (σ ++ []) (ρ ++ []) W) : Sta g H Z σ ρ W := by simpa using st
/-- from an expression within a statement: what leaves it as an exception -/
theorem PostS.exE {D : Ends} {c : Str} {fs : List (Str × P)} {ρ1 : Env} (p : PostS io g wx Z σ H W (.ex c fs ρ1) D) : ∀ cls d H' W', Fr W H W' H' → Sta g H' Z (σ ++ []) (ρ1 ++ []) W' → ExD g H' (bad W' Z) c fs cls d → wx cls d σ H' :=
  fun cls d H' W' f st e => p σ cls d H' W' f (.refl) rfl (sta0' st) e
theorem ss_nx : SS io g wx tNext sNx := fun Z σ ρ H W D st post => post σ H W .refl (.refl) rfl st
theorem ss_bk : SS io g wx tBreak (fun ρ => .ok (.bk, ρ)) := fun Z σ ρ H W D st post => post σ H W .refl (.refl) rfl st
theorem ss_ct : SS io g wx tCont (fun ρ => .ok (.ct, ρ)) := fun Z σ ρ H W D st post => post σ H W .refl (.refl) rfl st
theorem ss_set {i : Nat} {t : TE} {fo : Env → Res (O × Env)} (so : SO g wx t fo) (hi : hasN i io = false) : SS io g wx (tAsg t (gName i)) (sSetF i fo) := by
  intro Z σ ρ H W D st post
  refine so Z σ [] ρ [] H W _ st.length (sta0 st) ?_
  unfold sSetF at post
  cases e : fo ρ with
  | bad => rw [e] at post; exact post
  | ex c fs ρ1 => rw [e] at post; exact post.exE
  | ok a =>
    rw [e] at post
    have post1 : PostS io g wx Z σ H W (if i < a.2.length then .ok (.nx, a.2.set i (some a.1)) else .bad) D := post
    intro v H1 W1 f1 st1
    split at post1
    · rename_i hc
      have hl : σ.length = a.2.length := by
        have := st1.length
        simpa using this
      obtain ⟨W2, f2, sub, st2⟩ := st1.move (i := i) hl (by omega)
      exact post1 _ H1 W2 (f1.trans f2) (.set hi) (by simp) st2
    · exact post1.elim
theorem ss_asg {t : TE} {tg : TG} {fa : Env → Res (P × Env)} {fg : P → Env → Option Env} (sa : SE b1 true g wx t fa) (sg : SG io g tg fg) : SS io g wx (tAsg t tg) (sAsgF fg fa) := by
  intro Z σ ρ H W D st post
  refine se_then sa st.length (sta0 st) (fun e => by unfold sAsgF at post; rw [e] at post; exact post) (fun c fs ρ1 e => by unfold sAsgF at post; rw [e] at post; exact post.exE) fun d ρ1 v H1 W1 e l1 f1 q1 st1 pv => ?_
  unfold sAsgF at post
  rw [e] at post
  have post1 : PostS io g wx Z σ H W (match fg d ρ1 with | some ρ' => .ok (.nx, ρ') | none => .bad) D := post
  refine sg Z σ [] ρ1 [] H1 W1 v d _ l1 st1 pv ?_
  cases eg : fg d ρ1 with
  | none => rw [eg] at post1; exact post1.elim
  | some ρ2 =>
    rw [eg] at post1
    exact fun σ' W' f' sub p l st' => post1 σ' H1 W' (f1.trans f') p l (sta0' st')
theorem ss_aug {i : Nat} {t : TE} {r : R2} {op : P → P → Option P} {fa : Env → Res (P × Env)} (sa : SE b1 z1 g wx t fa) (ho : OpS g r op) (hi : hasN i io = false) : SS io g wx (tAug i t r) (sAugF i op fa) := by
  intro Z σ ρ H W D st post
  unfold sAugF at post
  split at post
  · rename_i dx ei
    obtain ⟨vx, ev, px⟩ := st.slotP ei
    refine ⟨vx, ev, ?_⟩
    refine se_then sa st.length (sta0 st) (fun e => by rw [e] at post; exact post) (fun c fs ρ1 e => by rw [e] at post; exact post.exE) fun d ρ1 v H1 W1 e l1 f1 q1 st1 pv => ?_
    rw [e] at post
    have post1 : PostS io g wx Z σ H W (match op dx d with | some z => if i < ρ1.length then .ok (.nx, ρ1.set i (some (.p z))) else .bad | none => .bad) D := post
    cases eo : op dx d with
    | none => rw [eo] at post1; exact post1.elim
    | some z =>
      rw [eo] at post1
      have post2 : PostS io g wx Z σ H W (if i < ρ1.length then .ok (.nx, ρ1.set i (some (.p z))) else .bad) D := post1
      split at post2
      · rename_i hc
        refine ho H1 _ vx v dx d z _ st1.bt (.f (px.fr f1)) pv.t eo fun w H2 s2 pw => ?_
        obtain ⟨W3, f3, sub, st3⟩ := (st1.same s2).setP l1 hc pw
        exact post2 _ H2 W3 ((f1.trans (.same s2)).trans f3) (.set hi) (by simp) (sta0' st3)
      · exact post2.elim
  · exact post.elim
theorem ss_expr {t : TE} {fa : Env → Res (P × Env)} (sa : SE b1 z1 g wx t fa) : SS io g wx (tDrop t) (sExprF fa) := by
  intro Z σ ρ H W D st post
  refine se_then sa st.length (sta0 st) (fun e => by unfold sExprF at post; rw [e] at post; exact post) (fun c fs ρ1 e => by unfold sExprF at post; rw [e] at post; exact post.exE) fun d ρ1 v H1 W1 e l1 f1 q1 st1 pv => ?_
  unfold sExprF at post
  rw [e] at post
  exact post σ H1 W1 f1 (.refl) rfl (sta0' st1)
theorem ss_ret {t : TE} {fo : Env → Res (O × Env)} (so : SO g wx t fo) : SS io g wx (tRet t) (sRetF fo) := by
  intro Z σ ρ H W D st post
  refine so Z σ [] ρ [] H W _ st.length (sta0 st) ?_
  unfold sRetF at post
  cases e : fo ρ with
  | bad => rw [e] at post; exact post
  | ex c fs ρ1 => rw [e] at post; exact post.exE
  | ok a =>
    rw [e] at post
    exact fun v H1 W1 f1 st1 => post σ H1 W1 f1 (.refl) rfl v st1
theorem ss_retN : SS io g wx tRetN sRetNF := by
  intro Z σ ρ H W D st post
  refine post σ H W .refl (.refl) rfl .non ?_
  have q := (sta0 st).push (v := .non) (d := .s .non) st.length (.s _)
  exact q
theorem ss_if {tc : TT} {t u : TS} {ft : Env → Res (Bool × Env)} {f h : Env → Res (Fl × Env)} (sc : STt b1 g wx tc ft) (sa : SS io g wx t f) (sb : SS io g wx u h) : SS io g wx (tIfS tc t u) (sIfF ft f h) := by
  intro Z σ ρ H W D st post
  refine st_then sc st.length (sta0 st) (fun e => by unfold sIfF at post; rw [e] at post; exact post) (fun c fs ρ1 e => by unfold sIfF at post; rw [e] at post; exact post.exE) fun d ρ1 H1 W1 e l1 f1 q1 st1 => ?_
  unfold sIfF at post
  rw [e] at post
  have post1 : PostS io g wx Z σ H W (if d = true then f ρ1 else h ρ1) D := post
  have p2 := post1.shift f1 (σ1 := σ) (.refl) rfl
  cases d with
  | true => exact iteT (sa Z σ ρ1 H1 W1 D (sta0' st1) p2)
  | false => exact iteF (sb Z σ ρ1 H1 W1 D (sta0' st1) p2)
theorem ss_seq {t u : TS} {f h : Env → Res (Fl × Env)} (sa : SS io g wx t f) (sb : SS io g wx u h) : SS io g wx (tSeq t u) (sSeqF f h) := by
  intro Z σ ρ H W D st post
  refine sa Z σ ρ H W _ st ?_
  unfold sSeqF at post
  cases e : f ρ with
  | bad => rw [e] at post; exact post
  | ex c fs ρ1 => rw [e] at post; exact post
  | ok a =>
    obtain ⟨fl, ρ1⟩ := a
    rw [e] at post
    cases fl with
    | nx =>
      intro σ1 H1 W1 f1 p1 l1 st1
      exact sb Z σ1 ρ1 H1 W1 D st1 (PostS.shift (r := h ρ1) post f1 p1 l1)
    | bk => exact fun σ1 H1 W1 f1 p1 l1 st1 => post σ1 H1 W1 f1 p1 l1 st1
    | ct => exact fun σ1 H1 W1 f1 p1 l1 st1 => post σ1 H1 W1 f1 p1 l1 st1
    | rt o => exact fun σ1 H1 W1 f1 p1 l1 => post σ1 H1 W1 f1 p1 l1
end
end DL

/-! loops, defs, calls -/
namespace DL
open PySem PySem.Spec L2

/-! ### what is walked -/
def ItS (g : Gx) (Z : AP) (J : It) (ps : List P) (H : Hp) (W : AP) : Prop :=
  ∀ i H2 W2, Fr W H W2 H2 → (∀ a, bad W2 Z a → H2 a ≠ none) → (ps.length ≤ i → J.stop i H2) ∧ (∀ d, ps[i]? = some d → J.go i H2 ∧ ∀ v H3, J.yld i H2 v H3 → Same H2 H3 ∧ PDn g H3 (bad W2 Z) v d)
def PostI (g : Gx) (wx : WX) (Z : AP) (σ τ : St) (θ : Env) (H : Hp) (W : AP) : Res (List P × Env) → (It → Hp → Prop) → Prop
  | .ok (ps, ρ'), R => ∀ J H' W', Fr W H W' H' → Sta g H' Z (σ ++ τ) (ρ' ++ θ) W' → ItS g Z J ps H' W' → R J H'
  | .ex c fs ρ', _ => ∀ cls d H' W', Fr W H W' H' → Sta g H' Z (σ ++ τ) (ρ' ++ θ) W' → ExD g H' (bad W' Z) c fs cls d → wx cls d σ H'
  | .bad, _ => False
def SI (g : Gx) (wx : WX) (t : TI) (f : Env → Res (List P × Env)) : Prop :=
  ∀ (Z : AP) (σ τ : St) (ρ θ : Env) (H : Hp) (W : AP) (R : It → Hp → Prop), σ.length = ρ.length → Sta g H Z (σ ++ τ) (ρ ++ θ) W → PostI g wx Z σ τ θ H W (f ρ) R → t σ H R
def tI (g : Gx) (wx : WX) (f : Env → Res (List P × Env)) : TI := fun σ H R => ∃ (Z : AP) (τ : St) (ρ θ : Env) (W : AP), σ.length = ρ.length ∧ Sta g H Z (σ ++ τ) (ρ ++ θ) W ∧ PostI g wx Z σ τ θ H W (f ρ) R
theorem si_self {g : Gx} {wx : WX} {f : Env → Res (List P × Env)} : SI g wx (tI g wx f) f := fun Z _ τ ρ θ _ W _ hl st post => ⟨Z, τ, ρ, θ, W, hl, st, post⟩
structure DI (X : Cx) (x : Bx) (tg e : Expr) (f : Env → Res (List P × Env)) : Prop where
  pi : PI X tg e (tI (x.g X) x.wx f)
theorem DI.of {X : Cx} {x : Bx} {tg e : Expr} {t : TI} {f : Env → Res (List P × Env)} (pi : PI X tg e t) (si : SI (x.g X) x.wx t f) : DI X x tg e f :=
  ⟨⟨fun pins s σ H R I ⟨Z, τ, ρ, θ, W, hl, st, post⟩ => pi.run pins s σ H R I (si Z σ τ ρ θ H W R hl st post)⟩⟩
def iSeqF (fa : Env → Res (P × Env)) : Env → Res (List P × Env) := fun ρ => (fa ρ).bind fun a => match a.1 with
  | .nd .lst ks => .ok (ks, a.2)
  | .nd .slst ks => .ok (ks, a.2)
  | _ => .bad
def iTupF (fa : Env → Res (P × Env)) : Env → Res (List P × Env) := fun ρ => (fa ρ).bind fun a => match a.1 with
  | .nd .tup ks => .ok (ks, a.2)
  | _ => .bad
def rngP (lo : Int) (n : Nat) : List P := (List.range n).map fun (k : Nat) => .s (.int (lo + (k : Int)))
def iRng1F (fr : Env → Res (List P × Env)) : Env → Res (List P × Env) := fun ρ => (fr ρ).bind fun a => match a.1 with
  | [.s (.int j)] => if -(2 ^ 62) ≤ j ∧ j < 2 ^ 62 then .ok (rngP 0 j.toNat, a.2) else .bad
  | _ => .bad
def iRng2F (fr : Env → Res (List P × Env)) : Env → Res (List P × Env) := fun ρ => (fr ρ).bind fun a => match a.1 with
  | [.s (.int i), .s (.int j)] => if -(2 ^ 62) ≤ i ∧ i < 2 ^ 62 ∧ -(2 ^ 62) ≤ j ∧ j < 2 ^ 62 then .ok (rngP i (j - i).toNat, a.2) else .bad
  | _ => .bad
def iStrF (fa : Env → Res (P × Env)) : Env → Res (List P × Env) := fun ρ => (fa ρ).bind fun a => match a.1 with
  | .s (.str z) => .ok (z.cps.toList.map fun c => .s (.str ⟨#[c]⟩), a.2)
  | _ => .bad
section
variable {g : Gx} {wx : WX} {b1 z1 : Bool} {t : TE} {ta : TA} {fa : Env → Res (P × Env)} {fr : Env → Res (List P × Env)}
theorem its_list {Z : AP} {a : Addr} {tg : Tg} {ks : List P} {H : Hp} {W : AP} (h : PDn g H (bad W Z) (.ref a) (.nd tg ks)) (ht : tg.isL = true) : ItS g Z (Itl g.K a) ks H W := by
  intro i H2 W2 f hb
  obtain ⟨a', vs, e, hs, ha⟩ := (PDt.f (h.fr f)).seqL ht
  cases e
  refine ⟨fun hi => ⟨vs, hs, by rw [ha.length]; exact hi⟩, fun d e => ?_⟩
  obtain ⟨v, ev, pv⟩ := ha.get e
  refine ⟨⟨vs, v, hs, ev⟩, fun w H3 hy => ?_⟩
  obtain ⟨rfl, hy⟩ := hy
  have := hy vs hs
  rw [ev] at this
  cases this
  exact ⟨Same.refl _, pv⟩
theorem its_tup {Z : AP} {a : Addr} {ks : List P} {H : Hp} {W : AP} (h : PDn g H (bad W Z) (.ref a) (.nd .tup ks)) : ItS g Z (Itt g.K a) ks H W := by
  intro i H2 W2 f hb
  obtain ⟨a', vs, e, hs, ha⟩ := (PDt.f (h.fr f)).tup
  cases e
  refine ⟨fun hi => ⟨vs, hs, by rw [ha.length]; exact hi⟩, fun d e => ?_⟩
  obtain ⟨v, ev, pv⟩ := ha.get e
  refine ⟨⟨vs, v, hs, ev⟩, fun w H3 hy => ?_⟩
  obtain ⟨rfl, hy⟩ := hy
  have := hy vs hs
  rw [ev] at this
  cases this
  exact ⟨Same.refl _, pv⟩
theorem its_rng {Z : AP} {lo : Int} {n : Nat} {H : Hp} {W : AP} : ItS g Z (Itr lo n) (rngP lo n) H W := by
  intro i H2 W2 f hb
  refine ⟨fun hi => (by show n ≤ i; simpa [rngP] using hi), fun d e => ?_⟩
  simp only [rngP, List.getElem?_map, Option.map_eq_some_iff] at e
  obtain ⟨k, e, rfl⟩ := e
  obtain ⟨h1, h2⟩ := List.getElem?_eq_some_iff.mp e
  simp at h1 h2
  subst h2
  refine ⟨h1, fun w H3 hy => ?_⟩
  obtain ⟨rfl, rfl⟩ := hy
  exact ⟨Same.refl _, .s _⟩
theorem its_str {Z : AP} {z : Str} {H : Hp} {W : AP} : ItS g Z (Its z) (z.cps.toList.map fun c => .s (.str ⟨#[c]⟩)) H W := by
  intro i H2 W2 f hb
  refine ⟨fun hi => (by show z.cps.size ≤ i; simpa using hi), fun d e => ?_⟩
  simp only [List.getElem?_map, Option.map_eq_some_iff] at e
  obtain ⟨c, e, rfl⟩ := e
  have h1 : i < z.cps.size := by simpa using (List.getElem?_eq_some_iff.mp e).1
  refine ⟨h1, fun w H3 hy => ?_⟩
  obtain ⟨rfl, c', e', rfl⟩ := hy
  have : c' = c := by
    have e2 : z.cps.toList[i]? = some c' := by simpa using e'
    rw [e] at e2
    cases e2
    rfl
  subst this
  exact ⟨Same.refl _, .s _⟩
theorem PostI.shift {Z W W1 : AP} {σ τ : St} {θ : Env} {H H1 : Hp} {r : Res (List P × Env)} {R : It → Hp → Prop} (p : PostI g wx Z σ τ θ H W r R) (f : Fr W H W1 H1) : PostI g wx Z σ τ θ H1 W1 r R := by
  cases r with
  | bad => exact p
  | ex c fs ρ' => exact fun cls d H' W' f' st e => p cls d H' W' (f.trans f') st e
  | ok a => exact fun J H' W' f' st i => p J H' W' (f.trans f') st i
theorem si_seq {K : PySem.W.Frag} (hK : g.K = K) (sa : SE b1 true g wx t fa) : SI g wx (iList K t) (iSeqF fa) := by
  intro Z σ τ ρ θ H W R hl st post
  subst hK
  refine se_then sa hl st (fun e => by unfold iSeqF at post; rw [e] at post; exact post) (fun c fs ρ1 e => by unfold iSeqF at post; rw [e] at post; exact post) fun d ρ1 v H1 W1 e l1 f1 q1 st1 pv => ?_
  unfold iSeqF at post
  rw [e] at post
  have post1 : PostI g wx Z σ τ θ H W (match (generalizing := false) d with | .nd .lst ks => .ok (ks, ρ1) | .nd .slst ks => .ok (ks, ρ1) | _ => .bad) R := post
  have pv' : PDn g H1 (bad W1 Z) v d := pv
  split at post1
  · obtain ⟨a, vs, rfl, hs, _⟩ := (PDt.f pv').seqL rfl
    exact ⟨a, rfl, ⟨vs, hs⟩, post1 _ H1 W1 f1 st1 (its_list pv' rfl)⟩
  · obtain ⟨a, vs, rfl, hs, _⟩ := (PDt.f pv').seqL rfl
    exact ⟨a, rfl, ⟨vs, hs⟩, post1 _ H1 W1 f1 st1 (its_list pv' rfl)⟩
  · exact post1.elim
theorem si_tup {K : PySem.W.Frag} (hK : g.K = K) (sa : SE b1 true g wx t fa) : SI g wx (iTup K t) (iTupF fa) := by
  intro Z σ τ ρ θ H W R hl st post
  subst hK
  refine se_then sa hl st (fun e => by unfold iTupF at post; rw [e] at post; exact post) (fun c fs ρ1 e => by unfold iTupF at post; rw [e] at post; exact post) fun d ρ1 v H1 W1 e l1 f1 q1 st1 pv => ?_
  unfold iTupF at post
  rw [e] at post
  have post1 : PostI g wx Z σ τ θ H W (match (generalizing := false) d with | .nd .tup ks => .ok (ks, ρ1) | _ => .bad) R := post
  have pv' : PDn g H1 (bad W1 Z) v d := pv
  split at post1
  · obtain ⟨a, vs, rfl, hs, _⟩ := (PDt.f pv').tup
    exact ⟨a, rfl, ⟨vs, hs⟩, post1 _ H1 W1 f1 st1 (its_tup pv')⟩
  · exact post1.elim
theorem si_str (sa : SE b1 z1 g wx t fa) : SI g wx (iStr t) (iStrF fa) := by
  intro Z σ τ ρ θ H W R hl st post
  refine se_then sa hl st (fun e => by unfold iStrF at post; rw [e] at post; exact post) (fun c fs ρ1 e => by unfold iStrF at post; rw [e] at post; exact post) fun d ρ1 v H1 W1 e l1 f1 q1 st1 pv => ?_
  unfold iStrF at post
  rw [e] at post
  have post1 : PostI g wx Z σ τ θ H W (match (generalizing := false) d with | .s (.str z) => .ok (z.cps.toList.map fun c => .s (.str ⟨#[c]⟩), ρ1) | _ => .bad) R := post
  split at post1
  · exact ⟨_, pv.t.s, post1 _ H1 W1 f1 st1 its_str⟩
  · exact post1.elim
theorem PAllt.ints1 {H : Hp} {B : AP} {vs : List V} {i : Int} (h : PAllt g H B vs [.s (.int i)]) : vs = [.int i] := by
  cases h with
  | cons h1 h2 =>
    cases h2
    rw [h1.s]
theorem PAllt.ints2 {H : Hp} {B : AP} {vs : List V} {i j : Int} (h : PAllt g H B vs [.s (.int i), .s (.int j)]) : vs = [.int i, .int j] := by
  cases h with
  | cons h1 h2 =>
    cases h2 with
    | cons h2 h3 =>
      cases h3
      rw [h1.s, h2.s]
theorem si_rng1 (sa : SA b1 z1 g wx ta fr) : SI g wx (iRng1 ta) (iRng1F fr) := by
  intro Z σ τ ρ θ H W R hl st post
  refine sa_then sa hl st (fun e => by unfold iRng1F at post; rw [e] at post; exact post) (fun c fs ρ1 e => by unfold iRng1F at post; rw [e] at post; exact post) fun d ρ1 v H1 W1 e l1 f1 q1 st1 pv => ?_
  unfold iRng1F at post
  rw [e] at post
  have post1 : PostI g wx Z σ τ θ H W (match (generalizing := false) d with | [.s (.int j)] => if -(2 ^ 62) ≤ j ∧ j < 2 ^ 62 then .ok (rngP 0 j.toNat, ρ1) else .bad | _ => .bad) R := post
  split at post1
  · split at post1
    · rename_i hc
      exact ⟨_, pv.t.ints1, hc.1, hc.2, post1 _ H1 W1 f1 st1 its_rng⟩
    · exact post1.elim
  · exact post1.elim
theorem si_rng2 (sa : SA b1 z1 g wx ta fr) : SI g wx (iRng2 ta) (iRng2F fr) := by
  intro Z σ τ ρ θ H W R hl st post
  refine sa_then sa hl st (fun e => by unfold iRng2F at post; rw [e] at post; exact post) (fun c fs ρ1 e => by unfold iRng2F at post; rw [e] at post; exact post) fun d ρ1 v H1 W1 e l1 f1 q1 st1 pv => ?_
  unfold iRng2F at post
  rw [e] at post
  have post1 : PostI g wx Z σ τ θ H W (match (generalizing := false) d with | [.s (.int i), .s (.int j)] => if -(2 ^ 62) ≤ i ∧ i < 2 ^ 62 ∧ -(2 ^ 62) ≤ j ∧ j < 2 ^ 62 then .ok (rngP i (j - i).toNat, ρ1) else .bad | _ => .bad) R := post
  split at post1
  · split at post1
    · rename_i hc
      exact ⟨_, _, pv.t.ints2, hc, post1 _ H1 W1 f1 st1 its_rng⟩
    · exact post1.elim
  · exact post1.elim
end

/-! ### for -/
def sForD (fi : Env → Res (List P × Env)) (fg : P → Env → Option Env) (fb : Env → Res (Fl × Env)) : Env → Res (Fl × Env) := fun ρ => (fi ρ).bind fun a => sForF fg fb a.1 a.2
section
variable {io : List Nat} {g : Gx} {wx : WX} {b1 : Bool}
theorem ss_for {wi : TI} {tg : TG} {tb : TS} {fi : Env → Res (List P × Env)} {fg : P → Env → Option Env} {fb : Env → Res (Fl × Env)} (si : SI g wx wi fi) (sg : SG io g tg fg) (sb : SS io g wx tb fb) : SS io g wx (tFor wi tg tb) (sForD fi fg fb) := by
  intro Z σ ρ H W D st post
  refine si Z σ [] ρ [] H W _ st.length (sta0 st) ?_
  unfold sForD at post
  cases e : fi ρ with
  | bad => rw [e] at post; exact post
  | ex c fs ρ1 => rw [e] at post; exact post.exE
  | ok a =>
    obtain ⟨ps, ρ1⟩ := a
    rw [e] at post
    have post1 : PostS io g wx Z σ H W (sForF fg fb ps ρ1) D := post
    intro J H1 W1 f1 st1 it
    have post2 := post1.shift f1 (σ1 := σ) (.refl) rfl
    refine ⟨fun i m σ2 H2 => i + m = ps.length ∧ ∃ ρ2 W2, Fr W1 H1 W2 H2 ∧ Sta g H2 Z σ2 ρ2 W2 ∧ PostS io g wx Z σ2 H2 W2 (sForF fg fb (ps.drop i) ρ2) D,
      ⟨ps.length, by omega, ρ1, W1, .refl, sta0' st1, by simpa using post2⟩, ?_⟩
    rintro i m σ2 H2 ⟨em, ρ2, W2, f2, st2, p2⟩
    obtain ⟨its, itg⟩ := it i H2 W2 f2 st2.bt
    cases ed : ps[i]? with
    | none =>
      have hi : ps.length ≤ i := List.getElem?_eq_none_iff.mp ed
      rw [List.drop_eq_nil_of_le hi] at p2
      exact .inl ⟨its hi, p2 σ2 H2 W2 .refl (.refl) rfl st2⟩
    | some d =>
      obtain ⟨hi, _⟩ := List.getElem?_eq_some_iff.mp ed
      obtain ⟨go, yl⟩ := itg d ed
      have edr : ps.drop i = d :: ps.drop (i + 1) := by
        rw [List.drop_eq_getElem_cons hi]
        rw [List.getElem?_eq_getElem hi] at ed
        cases ed
        rfl
      rw [edr] at p2
      refine .inr ⟨go, fun σ' H' => ∃ ρ' W', Fr W1 H1 W' H' ∧ Sta g H' Z σ' ρ' W' ∧ PostS io g wx Z σ' H' W' (sForF fg fb (ps.drop (i + 1)) ρ') D, fun σ' H' hN => ⟨m - 1, by omega, by omega, hN⟩, fun v H3 hy => ?_⟩
      obtain ⟨s3, pv⟩ := yl v H3 hy
      refine sg Z σ2 [] ρ2 [] H3 W2 v d _ st2.length (sta0 (st2.same s3)) pv ?_
      unfold sForF at p2
      cases eg : fg d ρ2 with
      | none => rw [eg] at p2; exact p2
      | some ρ3 =>
        rw [eg] at p2
        have p3 : PostS io g wx Z σ2 H2 W2 ((fb ρ3).bind fun a => match a.1 with
          | .nx => sForF fg fb (ps.drop (i + 1)) a.2
          | .ct => sForF fg fb (ps.drop (i + 1)) a.2
          | .bk => .ok (.nx, a.2)
          | .rt o => .ok (.rt o, a.2)) D := p2
        intro σ3 W3 f3 sub3 pin3 l3 st3
        have f23 : Fr W2 H2 W3 H3 := (Fr.same s3).trans f3
        refine sb Z σ3 ρ3 H3 W3 _ (sta0' st3) ?_
        cases eb : fb ρ3 with
        | bad => rw [eb] at p3; exact p3
        | ex c fs ρ4 =>
          rw [eb] at p3
          exact fun σ4 cls dd H4 W4 f4 pin4 l4 st4 ed => p3 σ4 cls dd H4 W4 (f23.trans f4) (pin4.trans pin3) (l4.trans l3) st4 ed
        | ok a =>
          obtain ⟨fl, ρ4⟩ := a
          rw [eb] at p3
          have nxt : ∀ (r : PostS io g wx Z σ2 H2 W2 (sForF fg fb (ps.drop (i + 1)) ρ4) D) (σ4 : St) (H4 : Hp) (W4 : AP), Fr W3 H3 W4 H4 → Pin io σ4 σ3 → σ4.length = σ3.length → Sta g H4 Z σ4 ρ4 W4 →
              ∃ ρ' W', Fr W1 H1 W' H4 ∧ Sta g H4 Z σ4 ρ' W' ∧ PostS io g wx Z σ4 H4 W' (sForF fg fb (ps.drop (i + 1)) ρ') D := fun r σ4 H4 W4 f4 pin4 l4 st4 =>
            ⟨ρ4, W4, (f2.trans f23).trans f4, st4, r.shift (f23.trans f4) (pin4.trans pin3) (l4.trans l3)⟩
          cases fl with
          | nx => exact fun σ4 H4 W4 f4 pin4 l4 st4 => nxt p3 σ4 H4 W4 f4 pin4 l4 st4
          | ct => exact fun σ4 H4 W4 f4 pin4 l4 st4 => nxt p3 σ4 H4 W4 f4 pin4 l4 st4
          | bk => exact fun σ4 H4 W4 f4 pin4 l4 st4 => p3 σ4 H4 W4 (f23.trans f4) (pin4.trans pin3) (l4.trans l3) st4
          | rt o => exact fun σ4 H4 W4 f4 pin4 l4 => p3 σ4 H4 W4 (f23.trans f4) (pin4.trans pin3) (l4.trans l3)
/-! while -/
theorem ss_while {tc : TT} {tb : TS} {ft : Env → Res (Bool × Env)} {fb : Env → Res (Fl × Env)} (n : Nat) (sc : STt b1 g wx tc ft) (sb : SS io g wx tb fb) : SS io g wx (tWhile tc tb) (sWhileF ft fb n) := by
  intro Z σ ρ H W D st post
  refine ⟨fun m σ2 H2 => ∃ ρ2 W2, Sta g H2 Z σ2 ρ2 W2 ∧ PostS io g wx Z σ2 H2 W2 (sWhileF ft fb m ρ2) D, ⟨n, ρ, W, st, post⟩, ?_⟩
  rintro m σ2 H2 ⟨ρ2, W2, st2, p2⟩
  cases m with
  | zero => exact p2.elim
  | succ m =>
    unfold sWhileF at p2
    refine st_then sc st2.length (sta0 st2) (fun e => by rw [e] at p2; exact p2) (fun c fs ρ1 e => by rw [e] at p2; exact p2.exE) fun d ρ3 H3 W3 e l3 f3 q3 st3 => ?_
    rw [e] at p2
    have p3 : PostS io g wx Z σ2 H2 W2 (if d = true then (fb ρ3).bind fun a => match a.1 with
      | .nx => sWhileF ft fb m a.2
      | .ct => sWhileF ft fb m a.2
      | .bk => .ok (.nx, a.2)
      | .rt o => .ok (.rt o, a.2)
    else .ok (.nx, ρ3)) D := p2
    cases d with
    | false => exact iteF (p3 σ2 H3 W3 f3 (.refl) rfl (sta0' st3))
    | true =>
      have p4 : PostS io g wx Z σ2 H2 W2 ((fb ρ3).bind fun a => match a.1 with
        | .nx => sWhileF ft fb m a.2
        | .ct => sWhileF ft fb m a.2
        | .bk => .ok (.nx, a.2)
        | .rt o => .ok (.rt o, a.2)) D := p3
      refine iteT ⟨fun σ' H' => ∃ ρ' W', Sta g H' Z σ' ρ' W' ∧ PostS io g wx Z σ' H' W' (sWhileF ft fb m ρ') D, fun σ' H' hN => ⟨m, by omega, hN⟩, ?_⟩
      refine sb Z σ2 ρ3 H3 W3 _ (sta0' st3) ?_
      cases eb : fb ρ3 with
      | bad => rw [eb] at p4; exact p4
      | ex c fs ρ4 =>
        rw [eb] at p4
        exact fun σ4 cls dd H4 W4 f4 pin4 l4 st4 ed => p4 σ4 cls dd H4 W4 (f3.trans f4) pin4 l4 st4 ed
      | ok a =>
        obtain ⟨fl, ρ4⟩ := a
        rw [eb] at p4
        cases fl with
        | nx => exact fun σ4 H4 W4 f4 pin4 l4 st4 => ⟨ρ4, W4, st4, PostS.shift (r := sWhileF ft fb m ρ4) p4 (f3.trans f4) pin4 l4⟩
        | ct => exact fun σ4 H4 W4 f4 pin4 l4 st4 => ⟨ρ4, W4, st4, PostS.shift (r := sWhileF ft fb m ρ4) p4 (f3.trans f4) pin4 l4⟩
        | bk => exact fun σ4 H4 W4 f4 pin4 l4 st4 => p4 σ4 H4 W4 (f3.trans f4) pin4 l4 st4
        | rt o => exact fun σ4 H4 W4 f4 pin4 l4 => p4 σ4 H4 W4 (f3.trans f4) pin4 l4
end
end DL

/-! defs and their calls -/
namespace DL
open PySem PySem.Spec L2

/-- the pinned slots, taken out in turn -/
def outO : List Nat → Env → List (Nat × O) → Option (List (Nat × O))
  | [], _, acc => some acc
  | i :: io, ρ, acc => match ρ[i]? with
    | some (some o) => outO io (ρ.set i none) ((i, o) :: acc)
    | _ => none
def outOf (io : List Nat) (ρ : Env) (k : List (Nat × O) → FR) : FR := match outO io ρ [] with
  | some out => k out
  | none => .bad
/-- a def's body as a function of its arguments: n slots -/
def runB (n : Nat) (io : List Nat) (f : Env → Res (Fl × Env)) : List O → FR := fun os => match f (os.map some ++ List.replicate (n - os.length) none) with
  | .ok (.nx, ρ) => outOf io ρ (.ok (.p (.s .non)))
  | .ok (.rt o, ρ) => outOf io ρ (.ok o)
  | .ok (_, _) => .bad
  | .ex c fs ρ => outOf io ρ (.ex c fs)
  | .bad => .bad
def outE (out : List (Nat × O)) : Env := out.map fun p => some p.2
def outV (vs : List V) (out : List (Nat × O)) : St := out.map fun p => vs[p.1]?
theorem outVE (vs : List V) (out : List (Nat × O)) : (outV vs out).length = (outE out).length := by simp [outV, outE]
def PostF (g : Gx) (Z : AP) (vs : List V) (H : Hp) (W : AP) : FR → VK → XK → Prop
  | .ok r out, Q, _ => ∀ v H' W', Fr W H W' H' → Sta g H' Z (outV vs out ++ [some v]) (outE out ++ [some r]) W' → Q v H'
  | .ex c fs out, _, E => ∀ cls d H' W', Fr W H W' H' → Sta g H' Z (outV vs out) (outE out) W' → ExD g H' (bad W' Z) c fs cls d → E cls d H'
  | .bad, _, _ => False
/-- the promise: what the function F says -/
def spF (g : Gx) (n : Nat) (F : List O → FR) : Sp := fun vs H Q E =>
  vs.length = n ∧ ∃ (Z W : AP) (os : List O), Sta g H Z (vs.map some) (os.map some) W ∧ PostF g Z vs H W (F os) Q E
section
variable {g : Gx} {wx : WX} {Z W W1 : AP} {σ τ : St} {ρ θ : Env} {H H1 : Hp} {b1 z1 : Bool}
theorem SlAll.pad {B : AP} {fp : List Addr} (h : SlAll g H B σ ρ fp) (n : Nat) : SlAll g H B (σ ++ List.replicate n none) (ρ ++ List.replicate n none) fp := by
  have key : ∀ n, SlAll g H B (List.replicate n none) (List.replicate n none) [] := by
    intro n
    induction n with
    | zero => exact .nil
    | succ n ih => exact .any ih
  simpa using h.app (key n)
theorem Sta.pad (st : Sta g H Z σ ρ W) (n : Nat) : Sta g H Z (σ ++ List.replicate n none) (ρ ++ List.replicate n none) W := by
  obtain ⟨fp, h, nd, em⟩ := st.all
  exact ⟨⟨fp, h.pad n, nd, em⟩, st.dj, st.zt, st.ev⟩
theorem Sta.tail (hl : σ.length = ρ.length) (st : Sta g H Z (σ ++ τ) (ρ ++ θ) W) : ∃ W', Fr W H W' H ∧ (∀ a, W' a → W a) ∧ Sta g H Z τ θ W' := by
  obtain ⟨fp, h, nd, em⟩ := st.all
  obtain ⟨f1, f2, e, _, h2⟩ := h.split hl
  subst e
  have sub : ∀ a, a ∈ f2 → W a := fun a q => (em a).mpr (by simp [q])
  exact ⟨fun a => a ∈ f2, ⟨fun a o h _ => h, fun a q => .inl (sub a q)⟩, sub, ⟨f2, h2.mono (fun a o n e => ⟨e, fun z => n (z.elim (fun z => .inl (sub a z)) .inr)⟩) fun a _ o e => e, nd.sublist (by simp), fun _ => Iff.rfl⟩, fun a q => st.dj a (sub a q), st.zt, st.ev.mono fun a o n e => ⟨e, fun z => n (z.elim (fun z => .inl (sub a z)) .inr)⟩⟩
theorem ExD.sub {W' : AP} {c : Str} {fs : List (Str × P)} {cls : Value} {d : Option Addr} (h : ExD g H (bad W Z) c fs cls d) (s : ∀ a, W' a → W a) : ExD g H (bad W' Z) c fs cls d := by
  obtain ⟨h1, h2⟩ := h
  refine ⟨h1, h2.elim .inl fun ⟨dd, fvs, e1, e2, nb, k⟩ => .inr ⟨dd, fvs, e1, e2, fun z => nb (z.elim (fun z => .inl (s _ z)) .inr), fun f p e => ?_⟩⟩
  obtain ⟨v, q, pv⟩ := k f p e
  exact ⟨v, q, PDn.mono (fun a o n e => ⟨e, fun z => n (z.elim (fun z => .inl (s a z)) .inr)⟩) _ pv⟩
/-- pinned slots, at the end -/
theorem Sta.outs : ∀ {io : List Nat} {ρ : Env} {acc out : List (Nat × O)} {σ τ : St} {θ : Env}, σ.length = ρ.length → outO io ρ acc = some out →
    Sta g H Z (σ ++ (acc.map (fun p => (σ[p.1]?).join) ++ τ)) (ρ ++ (outE acc ++ θ)) W → ∃ ρ', σ.length = ρ'.length ∧ (∀ p ∈ out, hasN p.1 io = true ∨ p ∈ acc) ∧ Sta g H Z (σ ++ (out.map (fun p => (σ[p.1]?).join) ++ τ)) (ρ' ++ (outE out ++ θ)) W
  | [], ρ, acc, out, σ, τ, θ, hl, e, st => by
    cases e
    exact ⟨ρ, hl, fun p q => .inr q, st⟩
  | i :: io, ρ, acc, out, σ, τ, θ, hl, e, st => by
    unfold outO at e
    split at e
    · rename_i o eo
      obtain ⟨v, ev, st1⟩ := st.take hl eo
      have h2 : Sta g H Z (σ ++ (((i, o) :: acc).map (fun p => (σ[p.1]?).join) ++ τ)) (ρ.set i none ++ (outE ((i, o) :: acc) ++ θ)) W := by
        simpa [outE, ev] using st1
      obtain ⟨ρ', l', m, st2⟩ := Sta.outs (by simpa using hl) e h2
      refine ⟨ρ', l', fun p q => ?_, st2⟩
      rcases m p q with h | h
      · exact .inl (by simp [hasN, h])
      · rcases List.mem_cons.mp h with h | h
        · exact .inl (by subst h; simp [hasN, Nat.beq_refl])
        · exact .inr h
    · cases e
end
theorem start_get (N : List Str) (vs : List V) (i : Nat) : ((L2.start N vs)[i]?).join = vs[i]? := by
  have es : L2.start N vs = vs.map some ++ List.replicate (N.length - vs.length) none := rfl
  rw [es]
  by_cases h : i < vs.length
  · rw [List.getElem?_append_left (by simpa using h), List.getElem?_map, List.getElem?_eq_getElem h]
    rfl
  · rw [List.getElem?_append_right (by simpa using h), List.getElem?_eq_none (show vs.length ≤ i by omega)]
    by_cases h2 : i - (vs.map some).length < N.length - vs.length
    · rw [List.getElem?_replicate, if_pos h2]
      rfl
    · rw [List.getElem?_replicate, if_neg h2]
      rfl
/-- a body's run, from its slots -/
theorem body_run {K : PySem.W.Frag} {cl : Str → Addr} {N : List Str} {io : List Nat} {fb : Env → Res (Fl × Env)} {vs : List V} {os : List O} {Z W : AP} {H : Hp} {Q : VK} {E : XK} (sta : Sta ⟨K, cl, none⟩ H Z (vs.map some) (os.map some) W) (post : PostF ⟨K, cl, none⟩ Z vs H W (runB N.length io fb os) Q E) :
    tSt io ⟨K, cl, none⟩ (fun cls d _ H => E cls d H) fb { nx := fun _ H' => Q .non H', rt := Q } (L2.start N vs) H := by
  have lo : os.length = vs.length := by
    have := sta.length
    simpa using this.symm
  have es : L2.start N vs = vs.map some ++ List.replicate (N.length - vs.length) none := rfl
  refine ⟨Z, os.map some ++ List.replicate (N.length - os.length) none, W, by rw [es, lo]; exact sta.pad _, ?_⟩
  unfold runB at post
  generalize (os.map some ++ List.replicate (N.length - os.length) none) = ρ0 at post ⊢
  have outs : ∀ {ρ1 : Env} {out : List (Nat × O)} {σ' τ : St} {θ : Env} {H' : Hp} {W' : AP}, outO io ρ1 [] = some out → Pin io σ' (L2.start N vs) → σ'.length = ρ1.length → Sta ⟨K, cl, none⟩ H' Z (σ' ++ τ) (ρ1 ++ θ) W' →
      ∃ W2, Fr W' H' W2 H' ∧ (∀ a, W2 a → W' a) ∧ Sta ⟨K, cl, none⟩ H' Z (outV vs out ++ τ) (outE out ++ θ) W2 := by
    intro ρ1 out σ' τ θ H' W' eo pin hl1 st'
    obtain ⟨ρ2, l2, m, st2⟩ := Sta.outs (acc := []) hl1 eo (by simpa [outE] using st')
    obtain ⟨W2, f2, sub, st3⟩ := st2.tail l2
    refine ⟨W2, f2, sub, ?_⟩
    have ev : out.map (fun p => (σ'[p.1]?).join) = outV vs out := by
      unfold outV
      refine List.map_congr_left fun p q => ?_
      rcases m p q with h | h
      · rw [pin p.1 h]
        exact start_get N vs p.1
      · cases h
    rw [ev] at st3
    exact st3
  cases e : fb ρ0 with
  | bad => rw [e] at post; exact post
  | ex cc fs ρ1 =>
    rw [e] at post
    intro σ' cls d H' W' fr pin len st0 ed
    have post1 : PostF ⟨K, cl, none⟩ Z vs H W (outOf io ρ1 (.ex cc fs)) Q E := post
    unfold outOf at post1
    split at post1
    · rename_i out eo
      obtain ⟨W2, f2, sub, st2⟩ := outs (τ := []) (θ := []) eo pin st0.length (sta0 st0)
      exact post1 cls d H' W2 (fr.trans f2) (by simpa using st2) (ed.sub sub)
    · exact post1.elim
  | ok a =>
    obtain ⟨fl, ρ1⟩ := a
    rw [e] at post
    have fin : ∀ (o : O) (post : PostF ⟨K, cl, none⟩ Z vs H W (outOf io ρ1 (.ok o)) Q E) (σ' : St) (v : V) (H' : Hp) (W' : AP), Fr W H W' H' → Pin io σ' (L2.start N vs) → Sta ⟨K, cl, none⟩ H' Z (σ' ++ [some v]) (ρ1 ++ [some o]) W' → Q v H' := by
      intro o post σ' v H' W' fr pin st'
      have hl1 : σ'.length = ρ1.length := by
        have := st'.length
        simpa using this
      unfold outOf at post
      split at post
      · rename_i out eo
        obtain ⟨W2, f2, sub, st2⟩ := outs eo pin hl1 st'
        exact post v H' W2 (fr.trans f2) st2
      · exact post.elim
    cases fl with
    | bk => exact post.elim
    | ct => exact post.elim
    | rt o => exact fun σ' H' W' fr pin len v st' => fin o post σ' v H' W' fr pin st'
    | nx =>
      intro σ' H' W' fr pin len st'
      refine fin _ post σ' .non H' W' fr pin ?_
      exact (sta0 st').push (v := .non) (d := .s .non) st'.length (.s _)

/-- a body that keeps its judgement makes the def keep its promise -/
theorem fn_ok {P : Program} {w : World} {K : PySem.W.Frag} {mg : Str → Option Value} {base : Heap} {cl : Str → Addr} {nm qual : Str} {params : Arguments} {body : List Stmt} {scope : Scope} {f : Addr} {N ps : List Str} {k : Nat} {io : List Nat} {fb : Env → Res (Fl × Env)} {n : Nat}
    {dV kV doc pm cdv ct oc : Value} {an od : Option Addr} {osl : Array (Option Value)} (lk : K.lookup f = some ⟨oc, od, .func (PySem.W.fnOf nm qual params body scope dV kV doc pm an cdv ct), osl⟩) (hcd : PySem.W.codeIn K cdv qual = true) (S : FnScope N ps scope) (hn : n = N.length)
    (hf : ∀ n ∈ bset, mg n = none)
    (hbody : ∀ (A : Around) (outer : List PySem.Env) (s : Shared) (H : Hp) (E : XK), Room k (A.deeper (PyProof.Rows.envOfC qual scope s.heap.objs.size f cdv)) →
      Ct (cxOf (L2N.CX P w) P w K mg base N qual scope f cdv A outer s H E) ⟨cl, io, fun cls d _ H => E cls d H, none⟩ → DSs (cxOf (L2N.CX P w) P w K mg base N qual scope f cdv A outer s H E) ⟨cl, io, fun cls d _ H => E cls d H, none⟩ body fb) :
    FnOk P w K mg base (L2N.CX P w) (k + 1) f (PySem.W.fnOf nm qual params body scope dV kV doc pm an cdv ct) ps (spF ⟨K, cl, none⟩ ps.length (runB n io fb)) := by
  subst hn
  refine fn_of lk hcd S (fun vs H Q E h => h.1) fun A outer s H vs Q E hr h => ?_
  obtain ⟨hl, Z, W, os, sta, post⟩ := h
  have c : Ct (cxOf (L2N.CX P w) P w K mg base N qual scope f cdv A outer s H E) ⟨cl, io, fun cls d _ H => E cls d H, none⟩ := ⟨⟨hr.units, S.nd, hf⟩, rfl, L2N.takes_of rfl rfl rfl rfl, passes_of rfl⟩
  exact ⟨_, (hbody A outer s H E hr c).ps, body_run sta post⟩

/-! ### a call with firm arguments -/
def dCallF (n : Nat) (F : List O → FR) (fr : Env → Res (List P × Env)) : Env → Res (P × Env) := fun ρ => (fr ρ).bind fun a => if a.1.length = n then (match F (a.1.map .p) with
  | .ok r _ => .ok (r.frz, a.2)
  | .ex c fs _ => .ex c fs a.2
  | .bad => .bad) else .bad
def oCallF (n : Nat) (F : List O → FR) (fr : Env → Res (List P × Env)) : Env → Res (O × Env) := fun ρ => (fr ρ).bind fun a => if a.1.length = n then (match F (a.1.map .p) with
  | .ok r _ => .ok (r, a.2)
  | .ex c fs _ => .ex c fs a.2
  | .bad => .bad) else .bad
section
variable {g : Gx} {wx : WX} {Z W W1 : AP} {σ τ : St} {ρ θ : Env} {H H1 : Hp} {b1 z1 : Bool} {n : Nat} {F : List O → FR}
theorem PAll.slots : ∀ {ds : List P} {vs : List V} {B : AP}, PAll g H B vs ds → SlAll g H B (vs.map some) ((ds.map O.p).map some) []
  | [], _, _, h => by
    cases h
    exact .nil
  | _ :: _, _, _, h => by
    cases h with
    | cons h1 h2 => simpa using SlAll.cons (.p h1) (PAll.slots h2)
/-- the arguments alone, all else held back -/
theorem Sta.args {vs : List V} {ds : List P} (st : Sta g H Z (σ ++ τ) (ρ ++ θ) W) (h : PAll g H (bad W Z) vs ds) : Sta g H (bad W Z) (vs.map some) ((ds.map O.p).map some) (fun _ => False) :=
  ⟨⟨[], (PAll.mono (fun a o n e => ⟨e, fun z => z.elim (fun z => z.elim) n⟩) _ h).slots, List.nodup_nil, fun a => by simp⟩, fun a q => q.elim, st.bt, st.ev.mono fun a o n e => ⟨e, fun z => z.elim (fun z => z.elim) n⟩⟩
theorem Fr.none_same {W' : AP} {H' : Hp} (f : Fr (fun _ => False) H W' H') : Same H H' := fun a o e => f.keep a o e fun q => q
/-- an exception's data behind a call that held back all of ours -/
theorem ExD.back {W' : AP} {c : Str} {fs : List (Str × P)} {cls : Value} {d : Option Addr} (h : ExD g H (bad W' (bad W Z)) c fs cls d) : ExD g H (bad W Z) c fs cls d := by
  obtain ⟨h1, h2⟩ := h
  refine ⟨h1, h2.elim .inl fun ⟨dd, fvs, e1, e2, nb, k⟩ => .inr ⟨dd, fvs, e1, e2, fun z => nb (.inr z), fun f p e => ?_⟩⟩
  obtain ⟨v, q, pv⟩ := k f p e
  exact ⟨v, q, PDn.mono (fun a o n e => ⟨e, fun z => n (.inr z)⟩) _ pv⟩
/-- the owned result of such a call beside our state -/
theorem Sta.result {W' : AP} {H' : Hp} {v : V} {r : O} (hl : σ.length = ρ.length) (st : Sta g H Z (σ ++ τ) (ρ ++ θ) W) (f : Fr (fun _ => False) H W' H') (s : Sta g H' (bad W Z) [some v] [some r] W') :
    ∃ W2, Fr W H W2 H' ∧ Sta g H' Z (σ ++ some v :: τ) (ρ ++ some r :: θ) W2 := by
  obtain ⟨fp, h, nd, em⟩ := s.all
  have sm := f.none_same
  have fresh : ∀ a ∈ fp, H a = none := fun a q => (f.from_ a ((em a).mpr q)).elim (fun z => z.elim) fun z => z
  cases h with
  | @cons _ _ _ _ f1 f2 h1 h2 =>
    cases h2
    rw [List.append_nil] at nd em fresh
    refine ⟨fun a => W a ∨ a ∈ f1, ⟨fun a o e _ => sm a o e, fun a q => q.elim .inl fun q => .inr (fresh a q)⟩, st.beside hl sm nd fresh (ODn.mono (fun a o n e => ⟨e, fun z => n ?_⟩) _ (fun a _ o e => e) h1)⟩
    rcases z with (z | z) | z
    · exact .inr (.inl z)
    · exact .inl ((em a).mpr z)
    · exact .inr (.inr z)
theorem Sta.resultP {W' : AP} {H' : Hp} {v : V} {r : O} (st : Sta g H Z (σ ++ τ) (ρ ++ θ) W) (f : Fr (fun _ => False) H W' H') (s : Sta g H' (bad W Z) [some v] [some r] W') : PDn g H' (bad W Z) v r.frz := by
  obtain ⟨fp, h, nd, em⟩ := s.all
  cases h with
  | @cons _ _ _ _ f1 f2 h1 h2 =>
    cases h2
    rw [List.append_nil] at em
    refine h1.frz (fun a n z => n (.inr z)) _ fun a q z => ?_
    exact s.dj a ((em a).mpr q) z
theorem se_call {ta : TA} {fr : Env → Res (List P × Env)} (sa : SA b1 true g wx ta fr) : SE b1 true g wx (tCallS (spF g n F) (WE wx) ta) (dCallF n F fr) := by
  intro Z σ τ ρ θ H W Q hl st post
  refine sa_then sa hl st (fun e => by unfold dCallF at post; rw [e] at post; exact post) (fun c fs ρ1 e => by unfold dCallF at post; rw [e] at post; exact post) fun ds ρ1 vs H1 W1 e l1 f1 q1 st1 pv => ?_
  unfold dCallF at post
  rw [e] at post
  have post1 : PostE b1 true g wx Z σ τ θ H W (if ds.length = n then (match F (ds.map .p) with | .ok r _ => .ok (r.frz, ρ1) | .ex c fs _ => .ex c fs ρ1 | .bad => .bad) else .bad) Q := post
  have pv' : PAll g H1 (bad W1 Z) vs ds := pv
  split at post1
  · rename_i hc
    refine ⟨by rw [pv'.length]; exact hc, bad W1 Z, fun _ => False, ds.map .p, st1.args pv', ?_⟩
    cases ef : F (ds.map .p) with
    | bad => rw [ef] at post1; exact post1
    | ok r out =>
      rw [ef] at post1
      intro v H2 W2' f2' s2'
      obtain ⟨W2, f2t, _, s2⟩ := s2'.tail (outVE vs out)
      have f2 := f2'.trans f2t
      have sm := f2.none_same
      exact post1 v H2 W1 (f1.trans (.same sm)) (fun hb => ⟨(q1 hb).1, (q1 hb).2.trans sm⟩) (st1.same sm) (st1.resultP f2 s2)
    | ex c fs out =>
      rw [ef] at post1
      intro cls d H2 W2 f2 s2 ed
      have sm := f2.none_same
      exact post1 cls d H2 W1 (f1.trans (.same sm)) (st1.same sm) ed.back
  · exact post1.elim
theorem so_call {ta : TA} {fr : Env → Res (List P × Env)} (sa : SA b1 true g wx ta fr) : SO g wx (tCallS (spF g n F) (WE wx) ta) (oCallF n F fr) := by
  intro Z σ τ ρ θ H W Q hl st post
  refine sa_then sa hl st (fun e => by unfold oCallF at post; rw [e] at post; exact post) (fun c fs ρ1 e => by unfold oCallF at post; rw [e] at post; exact post) fun ds ρ1 vs H1 W1 e l1 f1 q1 st1 pv => ?_
  unfold oCallF at post
  rw [e] at post
  have post1 : PostO g wx Z σ τ θ H W (if ds.length = n then (match F (ds.map .p) with | .ok r _ => .ok (r, ρ1) | .ex c fs _ => .ex c fs ρ1 | .bad => .bad) else .bad) Q := post
  have pv' : PAll g H1 (bad W1 Z) vs ds := pv
  split at post1
  · rename_i hc
    refine ⟨by rw [pv'.length]; exact hc, bad W1 Z, fun _ => False, ds.map .p, st1.args pv', ?_⟩
    cases ef : F (ds.map .p) with
    | bad => rw [ef] at post1; exact post1
    | ok r out =>
      rw [ef] at post1
      intro v H2 W2' f2' s2'
      obtain ⟨W2, f2t, _, s2⟩ := s2'.tail (outVE vs out)
      have f2 := f2'.trans f2t
      obtain ⟨W3, f3, st3⟩ := st1.result l1 f2 s2
      exact post1 v H2 W3 (f1.trans f3) st3
    | ex c fs out =>
      rw [ef] at post1
      intro cls d H2 W2 f2 s2 ed
      have sm := f2.none_same
      exact post1 cls d H2 W1 (f1.trans (.same sm)) (st1.same sm) ed.back
  · exact post1.elim
end
end DL

/-! what is handed in and comes back -/
namespace DL
open PySem PySem.Spec L2

theorem ExD.imp {g : Gx} {H : Hp} {B B' : AP} {c : Str} {fs : List (Str × P)} {cls : Value} {d : Option Addr} (h : ExD g H B c fs cls d) (k : ∀ a, B' a → B a) : ExD g H B' c fs cls d := by
  obtain ⟨h1, h2⟩ := h
  refine ⟨h1, h2.elim .inl fun ⟨dd, fvs, e1, e2, nb, q⟩ => .inr ⟨dd, fvs, e1, e2, fun z => nb (k _ z), fun f p e => ?_⟩⟩
  obtain ⟨v, e3, pv⟩ := q f p e
  exact ⟨v, e3, PDn.mono (fun a o n e => ⟨e, fun z => n (k a z)⟩) _ pv⟩
theorem nodup_parts {α : Type} {A B C : List α} (h : (A ++ B ++ C).Nodup) : (A ++ C).Nodup ∧ B.Nodup ∧ (∀ a ∈ A ++ C, a ∉ B) := by
  have n1 := List.nodup_append.mp h
  have n2 := List.nodup_append.mp n1.1
  refine ⟨h.sublist (by simp), n2.2.1, fun a q z => ?_⟩
  rcases List.mem_append.mp q with q | q
  · exact n2.2.2 a q a z rfl
  · exact n1.2.2 a (List.mem_append_right _ z) a q rfl
theorem nodup_join {α : Type} {A B C : List α} (h1 : (A ++ C).Nodup) (h2 : B.Nodup) (h3 : ∀ a ∈ A ++ C, a ∉ B) : (A ++ B ++ C).Nodup := by
  have n1 := List.nodup_append.mp h1
  rw [List.nodup_append, List.nodup_append]
  refine ⟨⟨n1.1, h2, fun a q b q' z => h3 a (by simp [q]) (by rw [z]; exact q')⟩, n1.2.1, fun a q b q' z => ?_⟩
  rcases List.mem_append.mp q with q | q
  · exact n1.2.2 a q b q' z
  · exact h3 b (by simp [q']) (by rw [← z]; exact q)
section
variable {g : Gx} {wx : WX} {Z W W1 : AP} {σ τ ω : St} {ρ θ η : Env} {H H1 : Hp}
/-- two parts change places -/
theorem Sta.swap (l1 : σ.length = ρ.length) (l2 : τ.length = θ.length) (st : Sta g H Z (σ ++ (τ ++ ω)) (ρ ++ (θ ++ η)) W) : Sta g H Z (σ ++ (ω ++ τ)) (ρ ++ (η ++ θ)) W := by
  obtain ⟨fp, h, nd, em⟩ := st.all
  obtain ⟨f1, f2, e, h1, h2⟩ := h.split l1
  subst e
  obtain ⟨f3, f4, e, h3, h4⟩ := h2.split l2
  subst e
  have pm : (f1 ++ (f3 ++ f4)).Perm (f1 ++ (f4 ++ f3)) := List.Perm.append_left f1 List.perm_append_comm
  exact ⟨⟨_, h1.app (h4.app h3), pm.nodup nd, fun a => (em a).trans pm.mem_iff⟩, st.dj, st.zt, st.ev⟩
/-- a part goes -/
theorem Sta.dropMid (l1 : σ.length = ρ.length) (l2 : τ.length = θ.length) (st : Sta g H Z (σ ++ (τ ++ ω)) (ρ ++ (θ ++ η)) W) : ∃ W', Fr W H W' H ∧ (∀ a, W' a → W a) ∧ Sta g H Z (σ ++ ω) (ρ ++ η) W' := by
  obtain ⟨fp, h, nd, em⟩ := st.all
  obtain ⟨f1, f2, e, h1, h2⟩ := h.split l1
  subst e
  obtain ⟨f3, f4, e, h3, h4⟩ := h2.split l2
  subst e
  have sub : ∀ a, a ∈ f1 ++ f4 → W a := fun a q => (em a).mpr (by simp only [List.mem_append] at q ⊢; rcases q with q | q <;> simp [q])
  have k0 : ∀ a o, ¬ bad W Z a → H a = some o → H a = some o ∧ ¬ bad (fun a => a ∈ f1 ++ f4) Z a := fun a o n e => ⟨e, fun z => n (z.elim (fun z => .inl (sub a z)) .inr)⟩
  exact ⟨fun a => a ∈ f1 ++ f4, ⟨fun a o h _ => h, fun a q => .inl (sub a q)⟩, sub, ⟨f1 ++ f4, (h1.app h4).mono k0 fun a _ o e => e, nd.sublist (by simp), fun _ => Iff.rfl⟩, fun a q => st.dj a (sub a q), st.zt, st.ev.mono k0⟩
/-- the last part alone, all else held back -/
theorem Sta.cut (l1 : σ.length = ρ.length) (st : Sta g H Z (σ ++ τ) (ρ ++ θ) W) : ∃ Zc Wc, Sta g H Zc τ θ Wc ∧ ∀ {H' : Hp} {W' : AP} {τ' : St} {θ' : Env}, Fr Wc H W' H' → Sta g H' Zc τ' θ' W' →
    ∃ W2, Fr W H W2 H' ∧ Sta g H' Z (σ ++ τ') (ρ ++ θ') W2 ∧ ∀ a, bad W2 Z a → bad W' Zc a := by
  obtain ⟨fp, h, nd, em⟩ := st.all
  obtain ⟨f1, f2, e, h1, h2⟩ := h.split l1
  subst e
  have nd' := List.nodup_append.mp nd
  have i1 : ∀ a, a ∈ f1 → W a := fun a q => (em a).mpr (by simp [q])
  have i2 : ∀ a, a ∈ f2 → W a := fun a q => (em a).mpr (by simp [q])
  have k0 : ∀ a o, ¬ bad W Z a → H a = some o → H a = some o ∧ ¬ bad (fun a => a ∈ f2) (fun a => Z a ∨ a ∈ f1) a := fun a o n e => ⟨e, fun z => by
    rcases z with z | z | z
    · exact n (.inl (i2 a z))
    · exact n (.inr z)
    · exact n (.inl (i1 a z))⟩
  refine ⟨fun a => Z a ∨ a ∈ f1, fun a => a ∈ f2, ⟨⟨f2, h2.mono k0 fun a _ o e => e, nd'.2.1, fun _ => Iff.rfl⟩, fun a q z => ?_, fun a z => ?_, st.ev.mono k0⟩, fun {H' W' τ' θ'} f s => ?_⟩
  · rcases z with z | z
    · exact st.dj a (i2 a q) z
    · exact nd'.2.2 a z a q rfl
  · rcases z with z | z
    · exact st.zt a z
    · exact st.there a (i1 a z)
  · obtain ⟨gp, hg, ng, eg⟩ := s.all
    have out1 : ∀ a, a ∈ f1 → ¬ W' a := fun a q z => s.dj a z (.inr q)
    have n2 : ∀ a, a ∈ f1 → a ∉ f2 := fun a q z => nd'.2.2 a q a z rfl
    have k1 : ∀ a o, ¬ bad W Z a → H a = some o → H' a = some o ∧ ¬ bad (fun a => a ∈ f1 ++ gp) Z a := fun a o n e => ⟨f.keep a o e fun z => n (.inl (i2 a z)), fun z => by
      rcases z with z | z
      · rcases List.mem_append.mp z with z | z
        · exact n (.inl (i1 a z))
        · rcases f.from_ a ((eg a).mpr z) with z | z
          · exact n (.inl (i2 a z))
          · rw [e] at z; cases z
      · exact n (.inr z)⟩
    have k2 : ∀ a, bad (fun a => a ∈ f1 ++ gp) Z a → bad W' (fun a => Z a ∨ a ∈ f1) a := fun a z => by
      rcases z with z | z
      · rcases List.mem_append.mp z with z | z
        · exact .inr (.inr z)
        · exact .inl ((eg a).mpr z)
      · exact .inr (.inl z)
    refine ⟨fun a => a ∈ f1 ++ gp, ⟨fun a o e n => f.keep a o e fun z => n (i2 a z), fun a q => ?_⟩, ⟨⟨f1 ++ gp, (h1.mono k1 fun a q o e => f.keep a o e (n2 a q)).app (hg.mono (fun a o n e => ⟨e, fun z => n (k2 a z)⟩) fun a _ o e => e), ?_, fun _ => Iff.rfl⟩, fun a q z => ?_, fun a z => s.zt a (.inl z), st.ev.mono k1⟩, k2⟩
    · rcases List.mem_append.mp q with q | q
      · exact .inl (i1 a q)
      · exact (f.from_ a ((eg a).mpr q)).imp (i2 a) id
    · refine List.nodup_append.mpr ⟨nd'.1, ng, fun a q b q' z => ?_⟩
      subst z
      exact out1 a q ((eg a).mpr q')
    · rcases List.mem_append.mp q with q | q
      · exact st.dj a (i1 a q) z
      · exact s.dj a ((eg a).mpr q) (.inl z)
theorem get_set_none {α : Type} {σ : List α} {i p : Nat} {v : α} : ∀ (h : i ≠ p), (σ.set i v)[p]? = σ[p]? := fun h => List.getElem?_set_ne h
/-- the content of a place goes into the empty place p, what is around it is held back -/
theorem Sta.lend {i p : Nat} {π : List Nat} {o0 o : O} {w x : V} (st : Sta g H Z σ ρ W) (e1 : ρ[i]? = some (some o0)) (e2 : o0.get π = some o) (ew : σ[i]? = some (some w)) (re : Reach g H w o0 π x) (ep : ρ[p]? = some none) (ex : σ[p]? = some (some x)) :
    ∃ Z1 W1, Sta g H Z1 σ ((ρ.set i none).set p (some o)) W1 ∧ ∀ {H' : Hp} {W' : AP} {σ1 : St} {ρ1 : Env} {q : Nat} {o' : O}, Fr W1 H W' H' → Sta g H' Z1 σ1 ρ1 W' → σ1[i]? = some (some w) → ρ1[i]? = some none → σ1[q]? = some (some x) → ρ1[q]? = some (some o') →
      ∃ W2, Fr W H W2 H' ∧ Sta g H' Z σ1 ((ρ1.set q none).set i (some (o0.put π o'))) W2 ∧ ∀ a, bad W2 Z a → bad W' Z1 a := by
  obtain ⟨fp, h, nd, em⟩ := st.all
  obtain ⟨w', g1, gk, g2, ew', eg, ho, r⟩ := h.at e1
  have : w' = w := by rw [ew] at ew'; cases ew'; rfl
  subst this
  obtain ⟨x', f1, fk, f2, ef, re', hx, r2⟩ := ho.focus e2
  have := re'.inj re
  subst this
  subst eg ef
  have npi : p ≠ i := fun z => by rw [z, e1] at ep; cases ep
  -- holes
  have h0 := (r (H' := H) (B' := bad W Z) (fun a o n e => ⟨e, n⟩) fun a _ o e => e).2 (some w')
  rw [set_same ew] at h0
  have ep1 : (ρ.set i none)[p]? = some none := by rw [List.getElem?_set_ne (Ne.symm npi)]; exact ep
  obtain ⟨g3, g4, eg, pu, _⟩ := h0.put ep1
  have h1 := pu hx
  rw [set_same ex] at h1
  have inW : ∀ a, a ∈ g1 ++ (f1 ++ fk ++ f2) ++ g2 → W a := fun a q => (em a).mpr q
  have mg : ∀ a, a ∈ g3 ++ g4 ↔ a ∈ g1 ++ g2 := fun a => by rw [eg]
  have pm0 : (g1 ++ (f1 ++ fk ++ f2) ++ g2).Perm ((f1 ++ f2) ++ ((g1 ++ g2) ++ fk)) := by
    refine List.perm_iff_count.mpr fun a => ?_
    simp only [List.count_append]
    omega
  have pm1 : ((g1 ++ g2) ++ fk).Perm (g3 ++ fk ++ g4) := by
    rw [eg]
    refine List.perm_iff_count.mpr fun a => ?_
    simp only [List.count_append]
    omega
  have nd0 := List.nodup_append.mp (pm0.nodup nd)
  have nd1 : (g3 ++ fk ++ g4).Nodup := pm1.nodup nd0.2.1
  have off : ∀ a, a ∈ f1 ++ f2 → a ∉ g3 ++ fk ++ g4 := fun a q z => nd0.2.2 a q a (pm1.mem_iff.mpr z) rfl
  have iF : ∀ a, a ∈ f1 ++ f2 → W a := fun a q => (em a).mpr (pm0.mem_iff.mpr (List.mem_append_left _ q))
  have iG : ∀ a, a ∈ g3 ++ fk ++ g4 → W a := fun a q => (em a).mpr (pm0.mem_iff.mpr (List.mem_append_right _ (pm1.mem_iff.mpr q)))
  have k0 : ∀ a o, ¬ bad W Z a → H a = some o → H a = some o ∧ ¬ bad (fun a => a ∈ g3 ++ fk ++ g4) (fun a => Z a ∨ a ∈ f1 ++ f2) a := fun a o n e => ⟨e, fun z => by
    rcases z with z | z | z
    · exact n (.inl (iG a z))
    · exact n (.inr z)
    · exact n (.inl (iF a z))⟩
  refine ⟨fun a => Z a ∨ a ∈ f1 ++ f2, fun a => a ∈ g3 ++ fk ++ g4, ⟨⟨_, h1.mono k0 fun a _ o e => e, nd1, fun _ => Iff.rfl⟩, fun a q z => ?_, fun a z => ?_, st.ev.mono k0⟩, fun {H' W' σ1 ρ1 q o'} f s ei eh eq eo => ?_⟩
  · rcases z with z | z
    · exact st.dj a (iG a q) z
    · exact off a z q
  · rcases z with z | z
    · exact st.zt a z
    · exact st.there a (iF a z)
  · obtain ⟨gp, hg, ng, egp⟩ := s.all
    obtain ⟨y, j1, jk, j2, ey, ej, hy, rr⟩ := hg.at eo
    have : y = x' := by rw [ey] at eq; cases eq; rfl
    subst this
    subst ej
    have nqi : q ≠ i := fun z => by rw [z, eh] at eo; cases eo
    have hh0 := (rr (H' := H') (B' := bad W' fun a => Z a ∨ a ∈ f1 ++ f2) (fun a o n e => ⟨e, n⟩) fun a _ o e => e).2 (some y)
    rw [set_same ey] at hh0
    have eh1 : (ρ1.set q none)[i]? = some none := by rw [List.getElem?_set_ne nqi]; exact eh
    obtain ⟨j3, j4, ej, pu2, _⟩ := hh0.put eh1
    have pm2 : (j1 ++ jk ++ j2).Perm (j3 ++ jk ++ j4) := by
      refine List.perm_iff_count.mpr fun a => ?_
      have q : (j1 ++ j2).count a = (j3 ++ j4).count a := by rw [ej]
      simp only [List.count_append] at q ⊢
      omega
    have out1 : ∀ a, a ∈ f1 ++ f2 → ¬ W' a := fun a q z => s.dj a z (.inr q)
    have k1 : ∀ a o, ¬ bad W Z a → H a = some o → H' a = some o ∧ ¬ bad W' (fun a => Z a ∨ a ∈ f1 ++ f2) a := fun a o n e => ⟨f.keep a o e fun z => n (.inl (iG a z)), fun z => by
      rcases z with z | z | z
      · rcases f.from_ a z with z | z
        · exact n (.inl (iG a z))
        · rw [e] at z; cases z
      · exact n (.inr z)
      · exact n (.inl (iF a z))⟩
    have kf : ∀ a ∈ f1 ++ f2, ∀ o, H a = some o → H' a = some o := fun a q o e => f.keep a o e (off a q)
    have hn := pu2 (r2 (H' := H') (B' := bad W' fun a => Z a ∨ a ∈ f1 ++ f2) k1 kf hy)
    rw [set_same ei] at hn
    -- the footprint
    have pm3 : (j3 ++ (f1 ++ jk ++ f2) ++ j4).Perm ((f1 ++ f2) ++ (j1 ++ jk ++ j2)) := by
      refine List.perm_iff_count.mpr fun a => ?_
      have q := List.perm_iff_count.mp pm2 a
      simp only [List.count_append] at q ⊢
      omega
    have k2 : ∀ a, bad (fun a => a ∈ j3 ++ (f1 ++ jk ++ f2) ++ j4) Z a → bad W' (fun a => Z a ∨ a ∈ f1 ++ f2) a := fun a z => by
      rcases z with z | z
      · rcases List.mem_append.mp (pm3.mem_iff.mp z) with z | z
        · exact .inr (.inr z)
        · exact .inl ((egp a).mpr z)
      · exact .inr (.inl z)
    refine ⟨fun a => a ∈ j3 ++ (f1 ++ jk ++ f2) ++ j4, ⟨fun a o e n => f.keep a o e fun z => n (iG a z), fun a q => ?_⟩, ⟨⟨_, hn.mono (fun a o n e => ⟨e, fun z => n (k2 a z)⟩) fun a _ o e => e, ?_, fun _ => Iff.rfl⟩, fun a q z => ?_, fun a z => s.zt a (.inl z), ?_⟩, k2⟩
    · rcases List.mem_append.mp (pm3.mem_iff.mp q) with q | q
      · exact .inl (iF a q)
      · exact (f.from_ a ((egp a).mpr q)).imp (iG a) id
    · refine pm3.symm.nodup (List.nodup_append.mpr ⟨nd0.1, ng, fun a q b q' z => ?_⟩)
      subst z
      exact out1 a q ((egp a).mpr q')
    · rcases List.mem_append.mp (pm3.mem_iff.mp q) with q | q
      · exact st.dj a (iF a q) z
      · exact s.dj a ((egp a).mpr q) (.inl z)
    · exact st.ev.mono fun a o n e => ⟨(k1 a o n e).1, fun z => (k1 a o n e).2 (k2 a z)⟩
end
end DL

/-! arguments of all kinds; the call -/
namespace DL
open PySem PySem.Spec L2

/-- an argument: a value of its own, or a place that is lent -/
inductive AV where
  | ow (o : O)
  | pl (i : Nat) (π : List Nat)
def AV.e : AV → Option O
  | .ow o => some o
  | .pl _ _ => none
def AV.nm : AV → Bool
  | .ow _ => true
  | .pl _ π => π.isEmpty
/-- the callee's arguments; lent slots become empty -/
def fill : List AV → Env → Option (List O × Env)
  | [], ρ => some ([], ρ)
  | .ow o :: as, ρ => (fill as ρ).map fun r => (o :: r.1, r.2)
  | .pl i π :: as, ρ => match ρ[i]? with
    | some (some o0) => (o0.get π).bind fun o => (fill as (ρ.set i none)).map fun r => (o :: r.1, r.2)
    | _ => none
/-- what was lent comes back -/
def back : List AV → Nat → List (Nat × O) → Env → Option Env
  | [], _, _, ρ => some ρ
  | .ow _ :: as, j, out, ρ => back as (j + 1) out ρ
  | .pl i π :: as, j, out, ρ => match out.lookup j, ρ[i]? with
    | some o', some (some o0) => (back as (j + 1) out (ρ.set i none)).map fun ρ' => ρ'.set i (some (o0.put π o'))
    | _, _ => none
def callF (F : List O → FR) (as : List AV) (ρ : Env) : Res (O × Env) := match fill as ρ with
  | some r => (match F r.1 with
    | .ok v out => (match back as 0 out ρ with
      | some ρ' => .ok (v, ρ')
      | none => .bad)
    | .ex c fs out => (match back as 0 out ρ with
      | some ρ' => .ex c fs ρ'
      | none => .bad)
    | .bad => .bad)
  | none => .bad
def oCallM (n : Nat) (F : List O → FR) (fm : Env → Res (List AV × Env)) : Env → Res (O × Env) := fun ρ => (fm ρ).bind fun a => if a.1.length = n then callF F a.1 a.2 else .bad
structure Held (g : Gx) (H : Hp) (σ : St) (ρ : Env) (vs : List V) (as : List AV) : Prop where
  len : vs.length = as.length
  val : ∀ (j i : Nat) (π : List Nat), as[j]? = some (AV.pl i π) → ∃ x w, vs[j]? = some x ∧ σ[i]? = some (some w) ∧ (π = [] → x = w) ∧ ∀ o0, ρ[i]? = some (some o0) → Reach g H w o0 π x
def PostM (b : Bool) (g : Gx) (wx : WX) (Z : AP) (σ τ : St) (θ : Env) (H : Hp) (W : AP) : Res (List AV × Env) → (List V → Hp → Prop) → Prop
  | .ok (as, ρ'), Q => ∀ vs H' W', Fr W H W' H' → (b = true → W' = W ∧ Same H H') → Sta g H' Z (σ ++ (τ ++ vs.map some)) (ρ' ++ (θ ++ as.map AV.e)) W' → Held g H' σ ρ' vs as → Q vs H'
  | .ex c fs ρ', _ => ∀ cls d H' W', Fr W H W' H' → Sta g H' Z (σ ++ τ) (ρ' ++ θ) W' → ExD g H' (bad W' Z) c fs cls d → wx cls d σ H'
  | .bad, _ => False
def SM (b : Bool) (g : Gx) (wx : WX) (t : TA) (f : Env → Res (List AV × Env)) : Prop :=
  ∀ (Z : AP) (σ τ : St) (ρ θ : Env) (H : Hp) (W : AP) (Q : List V → Hp → Prop), σ.length = ρ.length → Sta g H Z (σ ++ τ) (ρ ++ θ) W → PostM b g wx Z σ τ θ H W (f ρ) Q → t σ H Q
def tM (b : Bool) (g : Gx) (wx : WX) (f : Env → Res (List AV × Env)) : TA := fun σ H Q => ∃ (Z : AP) (τ : St) (ρ θ : Env) (W : AP), σ.length = ρ.length ∧ Sta g H Z (σ ++ τ) (ρ ++ θ) W ∧ PostM b g wx Z σ τ θ H W (f ρ) Q
theorem sm_self {b : Bool} {g : Gx} {wx : WX} {f : Env → Res (List AV × Env)} : SM b g wx (tM b g wx f) f := fun Z _ τ ρ θ _ W _ hl st post => ⟨Z, τ, ρ, θ, W, hl, st, post⟩
def Post1 (b : Bool) (g : Gx) (wx : WX) (Z : AP) (σ τ : St) (θ : Env) (H : Hp) (W : AP) : Res (AV × Env) → VK → Prop
  | .ok (a, ρ'), Q => ∀ v H' W', Fr W H W' H' → (b = true → W' = W ∧ Same H H') → Sta g H' Z (σ ++ (τ ++ [some v])) (ρ' ++ (θ ++ [a.e])) W' → Held g H' σ ρ' [v] [a] → Q v H'
  | .ex c fs ρ', _ => ∀ cls d H' W', Fr W H W' H' → Sta g H' Z (σ ++ τ) (ρ' ++ θ) W' → ExD g H' (bad W' Z) c fs cls d → wx cls d σ H'
  | .bad, _ => False
def S1 (b : Bool) (g : Gx) (wx : WX) (t : TE) (f : Env → Res (AV × Env)) : Prop :=
  ∀ (Z : AP) (σ τ : St) (ρ θ : Env) (H : Hp) (W : AP) (Q : VK), σ.length = ρ.length → Sta g H Z (σ ++ τ) (ρ ++ θ) W → Post1 b g wx Z σ τ θ H W (f ρ) Q → t σ H Q
def t1 (b : Bool) (g : Gx) (wx : WX) (f : Env → Res (AV × Env)) : TE := fun σ H Q => ∃ (Z : AP) (τ : St) (ρ θ : Env) (W : AP), σ.length = ρ.length ∧ Sta g H Z (σ ++ τ) (ρ ++ θ) W ∧ Post1 b g wx Z σ τ θ H W (f ρ) Q
theorem s1_self {b : Bool} {g : Gx} {wx : WX} {f : Env → Res (AV × Env)} : S1 b g wx (t1 b g wx f) f := fun Z _ τ ρ θ _ W _ hl st post => ⟨Z, τ, ρ, θ, W, hl, st, post⟩
section
variable {g : Gx} {wx : WX} {Z W W1 : AP} {σ τ : St} {ρ θ : Env} {H H1 : Hp} {b1 b2 : Bool} {n : Nat} {F : List O → FR}
theorem Sta.pushEnd {v : V} {d : P} (st : Sta g H Z (σ ++ τ) (ρ ++ θ) W) (h : PDn g H (bad W Z) v d) : Sta g H Z (σ ++ (τ ++ [some v])) (ρ ++ (θ ++ [some (.p d)])) W := by
  have q := (sta0 st).push (v := v) (d := d) st.length h
  simpa using q
theorem Sta.holeEnd {v : Option V} (st : Sta g H Z (σ ++ τ) (ρ ++ θ) W) : Sta g H Z (σ ++ (τ ++ [v])) (ρ ++ (θ ++ [none])) W := by
  obtain ⟨fp, h, nd, em⟩ := st.all
  have q := h.app (SlAll.any (x := v) SlAll.nil)
  exact ⟨⟨fp, by simpa using q, nd, em⟩, st.dj, st.zt, st.ev⟩
theorem tl_len (hl : σ.length = ρ.length) (st : Sta g H Z (σ ++ τ) (ρ ++ θ) W) : τ.length = θ.length := by
  have := st.length
  simp only [List.length_append] at this
  omega
/-! ### one argument -/
def a1P (fa : Env → Res (P × Env)) : Env → Res (AV × Env) := fun ρ => (fa ρ).bind fun a => .ok (.ow (.p a.1), a.2)
def a1O (fo : Env → Res (O × Env)) : Env → Res (AV × Env) := fun ρ => (fo ρ).bind fun a => .ok (.ow a.1, a.2)
def a1N (i : Nat) : Env → Res (AV × Env) := fun ρ => match ρ[i]? with
  | some (some _) => .ok (.pl i [], ρ)
  | _ => .bad
def a1L (fl : Env → Option (Nat × List Nat)) : Env → Res (AV × Env) := fun ρ => match fl ρ with
  | some l => if (at_ ρ l).isSome = true then .ok (.pl l.1 l.2, ρ) else .bad
  | none => .bad
theorem held1 {o : O} {v : V} : Held g H σ ρ [v] [.ow o] := ⟨rfl, fun j i π e => by
  cases j with
  | zero => simp at e
  | succ j => simp at e⟩
theorem s1_p {t : TE} {fa : Env → Res (P × Env)} (sa : SE b1 true g wx t fa) : S1 b1 g wx t (a1P fa) := by
  intro Z σ τ ρ θ H W Q hl st post
  refine se_then sa hl st (fun e => by unfold a1P at post; rw [e] at post; exact post) (fun c fs ρ1 e => by unfold a1P at post; rw [e] at post; exact post) fun d ρ1 v H1 W1 e l1 f1 q1 st1 pv => ?_
  unfold a1P at post
  rw [e] at post
  exact post v H1 W1 f1 q1 (st1.pushEnd pv) held1
theorem s1_o {t : TE} {fo : Env → Res (O × Env)} (so : SO g wx t fo) : S1 false g wx t (a1O fo) := by
  intro Z σ τ ρ θ H W Q hl st post
  refine so Z σ τ ρ θ H W Q hl st ?_
  unfold a1O at post
  cases e : fo ρ with
  | bad => rw [e] at post; exact post
  | ex c fs ρ1 => rw [e] at post; exact post
  | ok a =>
    rw [e] at post
    intro v H1 W1 f1 st1
    have l1 : σ.length = a.2.length := by
      have a1 := st1.length
      have b1 := st.length
      simp only [List.length_append, List.length_cons] at a1 b1
      omega
    exact post v H1 W1 f1 (fun z => nomatch z) (Sta.swap (τ := [some v]) (θ := [some a.1]) l1 rfl (by simpa using st1)) held1
theorem s1_n (i : Nat) : S1 true g wx (tVar i) (a1N i) := by
  intro Z σ τ ρ θ H W Q hl st post
  unfold a1N at post
  split at post
  · rename_i o e
    obtain ⟨e1, e2⟩ := get_l (τ := τ) (θ := θ) hl e
    obtain ⟨v, fk, ev, _, _⟩ := st.slot e1
    rw [e2] at ev
    refine ⟨v, ev, post v H W .refl (fun _ => ⟨rfl, Same.refl H⟩) st.holeEnd ⟨rfl, fun j i' π e3 => ?_⟩⟩
    cases j with
    | zero =>
      cases e3
      exact ⟨v, v, rfl, ev, fun _ => rfl, fun _ _ => .here⟩
    | succ j => simp at e3
  · exact post.elim
theorem s1_l {fl : Env → Option (Nat × List Nat)} : S1 true g wx (tL g fl) (a1L fl) := by
  intro Z σ τ ρ θ H W Q hl st post
  unfold a1L at post
  split at post
  · rename_i l el
    split at post
    · rename_i hs
      obtain ⟨o, eo⟩ := Option.isSome_iff_exists.mp hs
      refine ⟨Z, τ, ρ, θ, W, l, o, hl, st, el, eo, fun v w o0 H' s ew e0 eg re => ?_⟩
      refine post v H' W (.same s) (fun _ => ⟨rfl, s⟩) (st.same s).holeEnd ⟨rfl, fun j i' π e3 => ?_⟩
      cases j with
      | zero =>
        cases e3
        refine ⟨v, w, rfl, ew, fun z => ?_, fun o1 e1 => by rw [e0] at e1; cases e1; exact re⟩
        rw [z] at re
        cases re
        rfl
      | succ j => simp at e3
    · exact post.elim
  · exact post.elim
/-! ### all arguments -/
def mNil : Env → Res (List AV × Env) := fun ρ => .ok ([], ρ)
def mCons (fa : Env → Res (AV × Env)) (fm : Env → Res (List AV × Env)) : Env → Res (List AV × Env) := fun ρ => (fa ρ).bind fun a => (fm a.2).bind fun r => .ok (a.1 :: r.1, r.2)
theorem sm_nil : SM true g wx tNil mNil := by
  intro Z σ τ ρ θ H W Q hl st post
  exact post [] H W .refl (fun _ => ⟨rfl, Same.refl H⟩) (by simpa using st) ⟨rfl, fun j i π e => by simp at e⟩
def Keeps {α : Type} (f : Env → Res (α × Env)) : Prop := ∀ ρ a, f ρ = .ok a → a.2 = ρ
theorem PostM.shift {r : Res (List AV × Env)} {Q : List V → Hp → Prop} (p : PostM (b1 && b2) g wx Z σ τ θ H W r Q) (f : Fr W H W1 H1) (q : b1 = true → W1 = W ∧ Same H H1) : PostM b2 g wx Z σ τ θ H1 W1 r Q := by
  cases r with
  | bad => exact p
  | ex c fs ρ' => exact fun cls d H' W' f' st e => p cls d H' W' (f.trans f') st e
  | ok a =>
    intro vs H' W' f' q' st pv
    refine p vs H' W' (f.trans f') (fun hb => ?_) st pv
    obtain ⟨e1, e2⟩ := Bool.and_eq_true_iff.mp hb
    obtain ⟨a1, a2⟩ := q e1
    obtain ⟨d1, d2⟩ := q' e2
    exact ⟨d1.trans a1, a2.trans d2⟩
/-- the first argument's value, met before the others are looked at -/
theorem sm_conses {ta : TE} {t : TA} {fa : Env → Res (AV × Env)} {fm : Env → Res (List AV × Env)} {ck : AV → Env → Bool} {cp : V → Hp → Prop} (sa : S1 b1 g wx ta fa) (sm : SM b2 g wx t fm) (hz : (∀ ρ a, fa ρ = .ok a → a.1.nm = true) ∨ (b2 = true ∧ Keeps fm))
    (hc : ∀ {Z : AP} {σ τ : St} {ρ θ : Env} {H : Hp} {W : AP} {v : V} {a : AV}, σ.length = ρ.length → Sta g H Z (σ ++ (τ ++ [some v])) (ρ ++ (θ ++ [a.e])) W → Held g H σ ρ [v] [a] → ck a ρ = true → cp v H) :
    SM (b1 && b2) g wx (fun σ H Q => ta σ H fun x H1 => cp x H1 ∧ t σ H1 fun vs H2 => Q (x :: vs) H2) (fun ρ => (fa ρ).bind fun a => if ck a.1 a.2 = true then (fm a.2).bind fun r => .ok (a.1 :: r.1, r.2) else .bad) := by
  intro Z σ τ ρ θ H W Q hl st post
  refine sa Z σ τ ρ θ H W _ hl st ?_
  dsimp only at post
  cases e : fa ρ with
  | bad => rw [e] at post; exact post
  | ex c fs ρ1 => rw [e] at post; exact post
  | ok p =>
    obtain ⟨a, ρ1⟩ := p
    rw [e] at post
    intro v H1 W1 f1 q1 st1 held
    have post1 : PostM (b1 && b2) g wx Z σ τ θ H W (if ck a ρ1 = true then (fm ρ1).bind fun r => .ok (a :: r.1, r.2) else .bad) Q := post
    split at post1
    · rename_i hk
      have p1 := post1.shift f1 q1
      have tl := tl_len hl st
      have l1 : σ.length = ρ1.length := by
        have := st1.length
        simp only [List.length_append, List.length_cons, List.length_nil] at this
        omega
      refine ⟨hc l1 st1 held hk, sm Z σ (τ ++ [some v]) ρ1 (θ ++ [a.e]) H1 W1 _ l1 st1 ?_⟩
      cases e2 : fm ρ1 with
      | bad => rw [e2] at p1; exact p1
      | ex c fs ρ2 =>
        rw [e2] at p1
        intro cls d H2 W2 f2 st2 ed
        have l2 : (σ ++ τ).length = (ρ2 ++ θ).length := by
          have := st2.length
          simp only [List.length_append, List.length_cons, List.length_nil] at this ⊢
          omega
        obtain ⟨W3, f3, sub, st3⟩ := Sta.dropMid (τ := [some v]) (θ := [a.e]) (ω := []) (η := []) l2 rfl (by simpa using st2)
        exact p1 cls d H2 W3 (f2.trans f3) (by simpa using st3) (ed.sub sub)
      | ok r =>
        obtain ⟨as, ρ2⟩ := r
        rw [e2] at p1
        intro vs H2 W2 f2 q2 st2 held2
        refine p1 (v :: vs) H2 W2 f2 q2 (by simpa using st2) ⟨by simp [held2.len], fun j i π ej => ?_⟩
        cases j with
        | succ j => simpa using held2.val j i π (by simpa using ej)
        | zero =>
          have ej' : a = .pl i π := by simpa using ej
          subst ej'
          obtain ⟨x, w, ex, ew, hx, hr⟩ := held.val 0 i π rfl
          have : v = x := by simpa using ex
          subst this
          refine ⟨v, w, rfl, ew, hx, fun o0 e0 => ?_⟩
          rcases hz with hz | ⟨hb, kp⟩
          · have hn := hz ρ _ e
            have : π = [] := by simpa [AV.nm] using hn
            subst this
            rw [hx rfl]
            exact .here
          · have e3 : ρ2 = ρ1 := kp ρ1 (as, ρ2) e2
            subst e3
            exact (hr o0 e0).same (q2 hb).2
    · exact post1.elim
end
end DL

/-! the call with its arguments -/
namespace DL
open PySem PySem.Spec L2

theorem mem_lookup {α : Type} {j : Nat} {o : α} : ∀ {l : List (Nat × α)}, l.lookup j = some o → ∃ q : Nat, l[q]? = some (j, o)
  | [], e => by simp at e
  | (k, x) :: l, e => by
    by_cases h : j = k
    · subst h
      simp [List.lookup_cons] at e
      exact ⟨0, by simp [e]⟩
    · have hb : (j == k) = false := by simpa using h
      rw [List.lookup_cons, hb] at e
      obtain ⟨q, hq⟩ := mem_lookup e
      exact ⟨q + 1, by simpa using hq⟩
theorem fill_hole : ∀ {as : List AV} {ρ : Env} {r : List O × Env} {i : Nat}, fill as ρ = some r → ρ[i]? = some none → ∀ (j : Nat) (π : List Nat), as[j]? = some (AV.pl i π) → False
  | [], ρ, r, i, e, h, j, π, ej => by simp at ej
  | .ow o :: as, ρ, r, i, e, h, j, π, ej => by
    unfold fill at e
    obtain ⟨r', e1, _⟩ := Option.map_eq_some_iff.mp e
    cases j with
    | zero => simp at ej
    | succ j => exact fill_hole e1 h j π (by simpa using ej)
  | .pl i' π' :: as, ρ, r, i, e, h, j, π, ej => by
    unfold fill at e
    split at e
    · rename_i o0 e0
      obtain ⟨o, e1, e2⟩ := Option.bind_eq_some_iff.mp e
      obtain ⟨r', e3, _⟩ := Option.map_eq_some_iff.mp e2
      have hne : i' ≠ i := fun z => by rw [z, h] at e0; cases e0
      cases j with
      | zero =>
        have ez : AV.pl i' π' = AV.pl i π := by simpa using ej
        cases ez
        exact hne rfl
      | succ j => exact fill_hole e3 (by rw [List.getElem?_set_ne hne]; exact h) j π (by simpa using ej)
    · cases e
theorem fill_len : ∀ {as : List AV} {ρ : Env} {r : List O × Env}, fill as ρ = some r → r.1.length = as.length ∧ r.2.length = ρ.length
  | [], ρ, r, e => by
    cases e
    exact ⟨rfl, rfl⟩
  | .ow o :: as, ρ, r, e => by
    unfold fill at e
    obtain ⟨r', e1, e2⟩ := Option.map_eq_some_iff.mp e
    subst e2
    obtain ⟨h1, h2⟩ := fill_len e1
    exact ⟨by simp [h1], h2⟩
  | .pl i π :: as, ρ, r, e => by
    unfold fill at e
    split at e
    · obtain ⟨o, e1, e2⟩ := Option.bind_eq_some_iff.mp e
      obtain ⟨r', e3, e4⟩ := Option.map_eq_some_iff.mp e2
      subst e4
      obtain ⟨h1, h2⟩ := fill_len e3
      exact ⟨by simp [h1], by simpa using h2⟩
    · cases e
theorem back_len : ∀ {as : List AV} {j : Nat} {out : List (Nat × O)} {ρ ρ' : Env}, back as j out ρ = some ρ' → ρ'.length = ρ.length
  | [], j, out, ρ, ρ', e => by
    cases e
    rfl
  | .ow o :: as, j, out, ρ, ρ', e => by
    unfold back at e
    exact back_len e
  | .pl i π :: as, j, out, ρ, ρ', e => by
    unfold back at e
    split at e
    · obtain ⟨r', e3, e4⟩ := Option.map_eq_some_iff.mp e
      subst e4
      have h1 := back_len e3
      simpa using h1
    · cases e
theorem back_hole : ∀ {as : List AV} {j : Nat} {out : List (Nat × O)} {ρ ρ' : Env} {i : Nat}, back as j out ρ = some ρ' → ρ[i]? = some none → ρ'[i]? = some none
  | [], j, out, ρ, ρ', i, e, h => by
    cases e
    exact h
  | .ow o :: as, j, out, ρ, ρ', i, e, h => by
    unfold back at e
    exact back_hole e h
  | .pl i' π :: as, j, out, ρ, ρ', i, e, h => by
    unfold back at e
    split at e
    · rename_i o' o0 e1 e2
      obtain ⟨r', e3, e4⟩ := Option.map_eq_some_iff.mp e
      subst e4
      have hne : i' ≠ i := fun z => by rw [z, h] at e2; cases e2
      rw [List.getElem?_set_ne hne]
      exact back_hole e3 (by rw [List.getElem?_set_ne hne]; exact h)
    · cases e
section
variable {g : Gx} {H : Hp} {Z : AP}
/-- all is lent, then comes back -/
theorem Sta.lends : ∀ {as : List AV} {pre : List O} {vp va : List V} {ρ : Env} {r : List O × Env} {σ τ : St} {θ : Env} {W Z : AP}, σ.length = ρ.length → τ.length = θ.length → vp.length = pre.length → fill as ρ = some r → Held g H σ ρ va as →
    Sta g H Z (σ ++ (τ ++ (vp ++ va).map some)) (ρ ++ (θ ++ (pre.map some ++ as.map AV.e))) W →
    ∃ Z1 W1, Sta g H Z1 (σ ++ (τ ++ (vp ++ va).map some)) (r.2 ++ (θ ++ (pre ++ r.1).map some)) W1 ∧
      ∀ {H' : Hp} {W' : AP} {B : St} {E : Env} {out : List (Nat × O)} {ρF : Env}, Fr W1 H W' H' → B.length = E.length → Sta g H' Z1 (σ ++ (τ ++ B)) (r.2 ++ (θ ++ E)) W' →
        (∀ (q j : Nat) (o' : O), out[q]? = some (j, o') → B[q]? = some ((vp ++ va)[j]?) ∧ E[q]? = some (some o')) → back as pre.length out ρ = some ρF →
        ∃ W2 E', Fr W H W2 H' ∧ E'.length = E.length ∧ (∀ (q j : Nat) (o' : O), out[q]? = some (j, o') → j < pre.length → E'[q]? = E[q]?) ∧ (∀ q, out.length ≤ q → E'[q]? = E[q]?) ∧ Sta g H' Z (σ ++ (τ ++ B)) (ρF ++ (θ ++ E')) W2 ∧ ∀ a, bad W2 Z a → bad W' Z1 a
  | [], pre, vp, va, ρ, r, σ, τ, θ, W, Z, l1, l2, l3, ef, held, st => by
    cases ef
    refine ⟨Z, W, by simpa using st, fun {H' W' B E out ρF} f lB s hB eb => ?_⟩
    cases eb
    exact ⟨W', E, f, rfl, fun _ _ _ _ _ => rfl, fun _ _ => rfl, s, fun _ z => z⟩
  | .ow o :: as, pre, vp, va, ρ, r, σ, τ, θ, W, Z, l1, l2, l3, ef, held, st => by
    unfold fill at ef
    obtain ⟨r', e1, e2⟩ := Option.map_eq_some_iff.mp ef
    subst e2
    cases va with
    | nil => have := held.len; simp at this
    | cons v va =>
      have held' : Held g H σ ρ va as := ⟨by simpa using held.len, fun j i π ej => by
        obtain ⟨x, w, ex, h⟩ := held.val (j + 1) i π (by simpa using ej)
        exact ⟨x, w, by simpa using ex, h⟩⟩
      have ev : vp ++ v :: va = (vp ++ [v]) ++ va := by simp
      rw [ev] at st ⊢
      obtain ⟨Z1, W1, st1, rest⟩ := Sta.lends (pre := pre ++ [o]) (vp := vp ++ [v]) l1 l2 (by simp [l3]) e1 held' (by simpa [AV.e] using st)
      refine ⟨Z1, W1, by simpa using st1, fun {H' W' B E out ρF} f lB s hB eb => ?_⟩
      unfold back at eb
      obtain ⟨W2, E', h1, h2, h3, h4, h5, h6⟩ := rest f lB s hB (by simpa using eb)
      exact ⟨W2, E', h1, h2, fun q j o' eq hj => h3 q j o' eq (by simp; omega), h4, h5, h6⟩
  | .pl i π :: as, pre, vp, va, ρ, r, σ, τ, θ, W, Z, l1, l2, l3, ef, held, st => by
    unfold fill at ef
    split at ef
    · rename_i o0 e0
      obtain ⟨o, eg, ef⟩ := Option.bind_eq_some_iff.mp ef
      obtain ⟨r', e1, e2⟩ := Option.map_eq_some_iff.mp ef
      subst e2
      cases va with
      | nil => have := held.len; simp at this
      | cons v va =>
        obtain ⟨x, w, ex, ew, _, hr⟩ := held.val 0 i π rfl
        have hv : v = x := by simpa using ex
        subst hv
        have re := hr o0 e0
        have li : i < ρ.length := (List.getElem?_eq_some_iff.mp e0).1
        have lsi : i < σ.length := by omega
        have held' : Held g H σ (ρ.set i none) va as := ⟨by simpa using held.len, fun j i' π' ej => by
          obtain ⟨x', w', ex', ew', hx', hr'⟩ := held.val (j + 1) i' π' (by simpa using ej)
          refine ⟨x', w', by simpa using ex', ew', hx', fun o1 eo1 => hr' o1 ?_⟩
          by_cases hne : i = i'
          · subst hne
            rw [List.getElem?_set_self li] at eo1
            cases eo1
          · rw [List.getElem?_set_ne hne] at eo1
            exact eo1⟩
        have ev : vp ++ v :: va = (vp ++ [v]) ++ va := by simp
        rw [ev] at st ⊢
        -- the place that is filled
        have lp : (σ ++ (τ ++ (vp ++ [v] ++ va).map some))[ρ.length + (θ.length + pre.length)]? = some (some v) := by
          rw [List.getElem?_append_right (by omega), List.getElem?_append_right (by omega)]
          have : ρ.length + (θ.length + pre.length) - σ.length - τ.length = vp.length := by omega
          rw [this]
          simp
        have le : (ρ ++ (θ ++ (pre.map some ++ (AV.pl i π :: as).map AV.e)))[ρ.length + (θ.length + pre.length)]? = some none := by
          rw [List.getElem?_append_right (by omega), List.getElem?_append_right (by omega)]
          have : ρ.length + (θ.length + pre.length) - ρ.length - θ.length = (pre.map some).length := by simp <;> omega
          rw [this, List.getElem?_append_right (by simp)]
          simp [AV.e]
        have ew1 : (σ ++ (τ ++ (vp ++ [v] ++ va).map some))[i]? = some (some w) := by
          rw [List.getElem?_append_left lsi]
          exact ew
        have e01 : (ρ ++ (θ ++ (pre.map some ++ (AV.pl i π :: as).map AV.e)))[i]? = some (some o0) := by
          rw [List.getElem?_append_left li]
          exact e0
        obtain ⟨Z1, W1, st1, back1⟩ := st.lend e01 eg ew1 re le lp
        have eset : (((ρ ++ (θ ++ (pre.map some ++ (AV.pl i π :: as).map AV.e))).set i none).set (ρ.length + (θ.length + pre.length)) (some o)) = ρ.set i none ++ (θ ++ ((pre ++ [o]).map some ++ as.map AV.e)) := by
          rw [List.set_append_left _ _ li, List.set_append_right _ _ (by simp)]
          rw [List.set_append_right _ _ (by simp)]
          have : ρ.length + (θ.length + pre.length) - (ρ.set i none).length - θ.length = (pre.map some).length + 0 := by simp <;> omega
          rw [this, List.set_append_right _ _ (by simp)]
          simp [AV.e]
        rw [eset] at st1
        obtain ⟨Z2, W2, st2, rest⟩ := Sta.lends (pre := pre ++ [o]) (vp := vp ++ [v]) (by simpa using l1) l2 (by simp [l3]) e1 held' st1
        refine ⟨Z2, W2, by simpa using st2, fun {H' W' B E out ρF} f lB s hB eb => ?_⟩
        unfold back at eb
        rw [e0] at eb
        split at eb
        · rename_i o' o0' elk e0'
          cases e0'
          obtain ⟨ρF', eb', eb2⟩ := Option.map_eq_some_iff.mp eb
          subst eb2
          obtain ⟨W3, E', h1, h2, h3, h4, h5, h6⟩ := rest f lB s hB (by simpa using eb')
          obtain ⟨q, eq⟩ := mem_lookup elk
          have lF : ρF'.length = ρ.length := by simpa using back_len eb'
          have hole : ρF'[i]? = some none := back_hole eb' (by rw [List.getElem?_set_self li])
          obtain ⟨hb1, hb2⟩ := hB q _ _ eq
          have hb1' : B[q]? = some (some v) := by
            rw [hb1]
            simp [← l3]
          have hE' : E'[q]? = some (some o') := by rw [h3 q _ _ eq (by simp)]; exact hb2
          have k1 : (σ ++ (τ ++ B))[ρ.length + (θ.length + q)]? = some (some v) := by
            rw [List.getElem?_append_right (by omega), List.getElem?_append_right (by omega)]
            have : ρ.length + (θ.length + q) - σ.length - τ.length = q := by omega
            rw [this]
            exact hb1'
          have k2 : (ρF' ++ (θ ++ E'))[ρ.length + (θ.length + q)]? = some (some o') := by
            rw [List.getElem?_append_right (by omega), List.getElem?_append_right (by omega)]
            have : ρ.length + (θ.length + q) - ρF'.length - θ.length = q := by omega
            rw [this]
            exact hE'
          obtain ⟨W4, f4, st4, b4⟩ := back1 h1 h5 (by rw [List.getElem?_append_left lsi]; exact ew) (by rw [List.getElem?_append_left (by omega)]; exact hole) k1 k2
          have es2 : (((ρF' ++ (θ ++ E')).set (ρ.length + (θ.length + q)) none).set i (some (o0.put π o'))) = ρF'.set i (some (o0.put π o')) ++ (θ ++ E'.set q none) := by
            have a1 : ρ.length + (θ.length + q) - ρF'.length - θ.length = q := by omega
            rw [List.set_append_right (ρ.length + (θ.length + q)) _ (by omega), List.set_append_right (ρ.length + (θ.length + q) - ρF'.length) _ (by omega), a1, List.set_append_left _ _ (by omega)]
          rw [es2] at st4
          refine ⟨W4, E'.set q none, f4, by simp [h2], fun q' j o'' eq' hj => ?_, fun q' hq' => ?_, st4, fun a z => h6 a (b4 a z)⟩
          · have hne : q ≠ q' := fun z => by
              subst z
              rw [eq] at eq'
              cases eq'
              omega
            rw [List.getElem?_set_ne hne]
            exact h3 q' j o'' eq' (by simp; omega)
          · have hne : q ≠ q' := fun z => by
              subst z
              have := (List.getElem?_eq_some_iff.mp eq).1
              omega
            rw [List.getElem?_set_ne hne]
            exact h4 q' hq'
        · cases eb
    · cases ef
end
section
variable {g : Gx} {wx : WX} {Z W W1 : AP} {σ τ B : St} {ρ θ E : Env} {H H1 : Hp} {b1 b2 : Bool} {n : Nat} {F : List O → FR}
/-- one place of the last part stays -/
theorem Sta.keep1 {q : Nat} {v : V} {o : O} (l1 : σ.length = ρ.length) (l2 : τ.length = θ.length) (st : Sta g H Z (σ ++ (τ ++ B)) (ρ ++ (θ ++ E)) W) (eB : B[q]? = some (some v)) (eE : E[q]? = some (some o)) :
    ∃ W', Fr W H W' H ∧ (∀ a, W' a → W a) ∧ Sta g H Z (σ ++ some v :: τ) (ρ ++ some o :: θ) W' := by
  have lE : B.length = E.length := by
    have := st.length
    simp only [List.length_append] at this
    omega
  have eE' : (ρ ++ (θ ++ E))[ρ.length + (θ.length + q)]? = some (some o) := by
    rw [List.getElem?_append_right (by omega), List.getElem?_append_right (by omega)]
    have : ρ.length + (θ.length + q) - ρ.length - θ.length = q := by omega
    rw [this]
    exact eE
  obtain ⟨v', ev', st1⟩ := (sta0 st).take (by simpa using st.length) eE'
  have hv : v' = v := by
    rw [List.getElem?_append_right (by omega), List.getElem?_append_right (by omega)] at ev'
    have : ρ.length + (θ.length + q) - σ.length - τ.length = q := by omega
    rw [this, eB] at ev'
    cases ev'
    rfl
  subst hv
  have es : (ρ ++ (θ ++ E)).set (ρ.length + (θ.length + q)) none = ρ ++ (θ ++ E.set q none) := by
    rw [List.set_append_right _ _ (by omega), List.set_append_right _ _ (by omega)]
    have : ρ.length + (θ.length + q) - ρ.length - θ.length = q := by omega
    rw [this]
  rw [es] at st1
  obtain ⟨W', f, sub, st2⟩ := Sta.dropMid (σ := σ ++ τ) (ρ := ρ ++ θ) (τ := B) (θ := E.set q none) (ω := [some v']) (η := [some o]) (by simp; omega) (by simpa using lE) (by simpa using st1)
  exact ⟨W', f, sub, Sta.swap (ω := [some v']) (η := [some o]) l1 l2 (by simpa using st2)⟩
theorem outV_get {vs : List V} {out : List (Nat × O)} {x : List (Option V)} {y : Env} {q j : Nat} {o' : O} (e : out[q]? = some (j, o')) : (outV vs out ++ x)[q]? = some (vs[j]?) ∧ (outE out ++ y)[q]? = some (some o') := by
  have l := (List.getElem?_eq_some_iff.mp e).1
  refine ⟨?_, ?_⟩
  · rw [List.getElem?_append_left (by simpa [outV] using l)]
    simp [outV, e]
  · rw [List.getElem?_append_left (by simpa [outE] using l)]
    simp [outE, e]
theorem so_callM {t : TA} {fm : Env → Res (List AV × Env)} (sm : SM b1 g wx t fm) : SO g wx (tCallS (spF g n F) (WE wx) t) (oCallM n F fm) := by
  intro Z σ τ ρ θ H W Q hl st post
  refine sm Z σ τ ρ θ H W _ hl st ?_
  unfold oCallM at post
  cases e : fm ρ with
  | bad => rw [e] at post; exact post
  | ex c fs ρ1 => rw [e] at post; exact post
  | ok p =>
    obtain ⟨as, ρ1⟩ := p
    rw [e] at post
    intro vs H1 W1 f1 q1 st1 held
    have post1 : PostO g wx Z σ τ θ H W (if as.length = n then callF F as ρ1 else .bad) Q := post
    split at post1
    · rename_i hn
      have tl := tl_len hl st
      have l1 : σ.length = ρ1.length := by
        have a := st1.length
        have b := held.len
        simp only [List.length_append, List.length_map] at a
        omega
      unfold callF at post1
      split at post1
      · rename_i r ef
        obtain ⟨Z1, W2, st2, rest⟩ := Sta.lends (pre := []) (vp := []) l1 tl rfl ef held (by simpa using st1)
        have l2 := (fill_len ef).2
        obtain ⟨Zc, Wc, sc, merge⟩ := Sta.cut (σ := σ ++ τ) (ρ := r.2 ++ θ) (τ := vs.map some) (θ := r.1.map some) (by simp; omega) (by simpa using st2)
        refine ⟨by rw [held.len]; exact hn, Zc, Wc, r.1, sc, ?_⟩
        cases eF : F r.1 with
        | bad => rw [eF] at post1; exact post1
        | ok v out =>
          rw [eF] at post1
          intro u H2 W3 f3 s3
          obtain ⟨W4, f4, st4, _⟩ := merge f3 s3
          dsimp only at post1
          split at post1
          · rename_i ρF eb
            obtain ⟨W5, E', f5, lE', _, k5, st5, _⟩ := rest (B := outV vs out ++ [some u]) (E := outE out ++ [some v]) f4 (by simp [outVE]) (by simpa using st4) (fun q j o' eq => by simpa using outV_get (vs := vs) (x := [some u]) (y := [some v]) eq) (by simpa using eb)
            have lF : σ.length = ρF.length := by have := back_len eb; omega
            have ek : E'[out.length]? = some (some v) := by
              rw [k5 _ (Nat.le_refl _), List.getElem?_append_right (by simp [outE])]
              simp [outE]
            have eB : (outV vs out ++ [some u])[out.length]? = some (some u) := by
              rw [List.getElem?_append_right (by simp [outV])]
              simp [outV]
            obtain ⟨W6, f6, _, st6⟩ := st5.keep1 lF tl eB ek
            exact post1 u H2 W6 ((f1.trans f5).trans f6) st6
          · exact post1.elim
        | ex c fs out =>
          rw [eF] at post1
          intro cls d H2 W3 f3 s3 ed
          obtain ⟨W4, f4, st4, b4⟩ := merge f3 s3
          dsimp only at post1
          split at post1
          · rename_i ρF eb
            obtain ⟨W5, E', f5, lE', _, k5, st5, b5⟩ := rest (B := outV vs out) (E := outE out) f4 (by simp [outVE]) (by simpa using st4) (fun q j o' eq => by simpa using outV_get (vs := vs) (x := []) (y := []) eq) (by simpa using eb)
            have lF : σ.length = ρF.length := by have := back_len eb; omega
            obtain ⟨W6, f6, sub6, st6⟩ := Sta.dropMid (σ := σ ++ τ) (ρ := ρF ++ θ) (τ := outV vs out) (θ := E') (ω := []) (η := []) (by simp; omega) (by rw [lE', outVE]) (by simpa using st5)
            exact post1 cls d H2 W6 ((f1.trans f5).trans f6) (by simpa using st6) ((ed.imp fun a z => b4 a (b5 a z)).sub sub6)
          · exact post1.elim
      · exact post1.elim
    · exact post1.elim
/-! ### makers -/
def oMakeM (n : Nat) (F : List O → FR) (c : Str) (fm : Env → Res (List AV × Env)) : Env → Res (O × Env) := fun ρ => (fm ρ).bind fun a => if a.1.length + 1 = n then (match fill a.1 a.2 with
  | some r => (match F (.nd (.ins c []) [] :: r.1) with
    | .ok (.p (.s .non)) out => (match back a.1 1 out a.2, out.lookup 0 with
      | some ρ', some o => .ok (o, ρ')
      | _, _ => .bad)
    | .ex c fs out => (match back a.1 1 out a.2 with
      | some ρ' => .ex c fs ρ'
      | none => .bad)
    | _ => .bad)
  | none => .bad) else .bad
/-- a maker's wish, with the slots -/
def tMakeS (C : Addr) (sp : Sp) (E : St → XK) (t : TA) : TE := fun σ H Q => t σ H fun vs H1 => ∀ x dx, H1 x = none → H1 dx = none → dx ≠ x →
  sp (.ref x :: vs) (upd (upd H1 dx (.own x)) x (.ins C dx [])) (fun v H2 => v = .non ∧ Q (.ref x) H2) (E σ)
theorem so_makeM {t : TA} {fm : Env → Res (List AV × Env)} {c : Str} (sm : SM b1 g wx t fm) : SO g wx (tMakeS (g.cl c) (spF g n F) (WE wx) t) (oMakeM n F c fm) := by
  intro Z σ τ ρ θ H W Q hl st post
  refine sm Z σ τ ρ θ H W _ hl st ?_
  unfold oMakeM at post
  cases e : fm ρ with
  | bad => rw [e] at post; exact post
  | ex c fs ρ1 => rw [e] at post; exact post
  | ok p =>
    obtain ⟨as, ρ1⟩ := p
    rw [e] at post
    intro vs H1' W1' f1' q1 st1' held' x dx nx ndx hne
    have tl := tl_len hl st
    have l1 : σ.length = ρ1.length := by
      have a := st1'.length
      have b := held'.len
      simp only [List.length_append, List.length_map] at a
      omega
    -- the new instance
    have sm1 : Same H1' (upd H1' dx (.own x)) := same_new ndx
    have nx1 : upd H1' dx (.own x) x = none := by rw [upd_ne (Ne.symm hne)]; exact nx
    obtain ⟨W1, f1, st1⟩ := Sta.new (t := .ins c []) (vs := []) (ds := []) (u := .ins (g.cl c) dx []) (σ := σ ++ τ) (ρ := ρ1 ++ θ) (τ := vs.map some) (θ := as.map AV.e) (by simp; omega) (by simpa using st1'.same sm1) nx1 rfl ⟨rfl, List.nodup_nil, dx, upd_same⟩ .nil
    have sm2 : Same H1' (upd (upd H1' dx (.own x)) x (.ins (g.cl c) dx [])) := sm1.trans (same_new nx1)
    have held : Held g (upd (upd H1' dx (.own x)) x (.ins (g.cl c) dx [])) σ ρ1 vs as := ⟨held'.len, fun j i π ej => by
      obtain ⟨x, w, ex, ew, hx, hr⟩ := held'.val j i π ej
      exact ⟨x, w, ex, ew, hx, fun o0 e0 => (hr o0 e0).same sm2⟩⟩
    have f01 : Fr W H W1 (upd (upd H1' dx (.own x)) x (.ins (g.cl c) dx [])) := (f1'.trans (.same sm1)).trans f1
    clear f1 f1' st1' held' q1
    generalize hH1 : upd (upd H1' dx (.own x)) x (.ins (g.cl c) dx []) = H1 at *
    have post1 : PostO g wx Z σ τ θ H W (if as.length + 1 = n then (match fill as ρ1 with
        | some r => (match F (.nd (.ins c []) [] :: r.1) with
          | .ok (.p (.s .non)) out => (match back as 1 out ρ1, out.lookup 0 with
            | some ρ', some o => .ok (o, ρ')
            | _, _ => .bad)
          | .ex c fs out => (match back as 1 out ρ1 with
            | some ρ' => .ex c fs ρ'
            | none => .bad)
          | _ => .bad)
        | none => .bad) else .bad) Q := post
    split at post1
    · rename_i hn
      split at post1
      · rename_i r ef
        obtain ⟨Z1, W2, st2, rest⟩ := Sta.lends (pre := [.nd (.ins c []) []]) (vp := [.ref x]) l1 tl rfl ef held (by simpa using st1)
        have l2 := (fill_len ef).2
        obtain ⟨Zc, Wc, sc, merge⟩ := Sta.cut (σ := σ ++ τ) (ρ := r.2 ++ θ) (τ := (V.ref x :: vs).map some) (θ := (O.nd (.ins c []) [] :: r.1).map some) (by simp; omega) (by simpa using st2)
        refine ⟨by simp [held.len, hn], Zc, Wc, _, sc, ?_⟩
        cases eF : F (.nd (.ins c []) [] :: r.1) with
        | bad => rw [eF] at post1; exact post1
        | ok v out =>
          rw [eF] at post1
          intro u H2 W3 f3 s3
          obtain ⟨W4, f4, st4, _⟩ := merge f3 s3
          split at post1
          · rename_i v0 out' ez
            cases ez
            split at post1
            · rename_i ρF o eb elk
              obtain ⟨W5, E', f5, lE', k3, k5, st5, _⟩ := rest (B := outV (V.ref x :: vs) out ++ [some u]) (E := outE out ++ [some (.p (.s .non))]) f4 (by simp [outVE]) (by simpa using st4) (fun q j o' eq => by simpa using outV_get (vs := V.ref x :: vs) (x := [some u]) (y := [some (.p (.s .non))]) eq) (by simpa using eb)
              have lF : σ.length = ρF.length := by have := back_len eb; omega
              obtain ⟨q, eq⟩ := mem_lookup elk
              obtain ⟨g1, g2⟩ := outV_get (vs := V.ref x :: vs) (x := [some u]) (y := [some (.p (.s .non))]) eq
              have ek : E'[q]? = some (some o) := by rw [k3 q _ _ eq (by simp)]; exact g2
              have eB : (outV (V.ref x :: vs) out ++ [some u])[q]? = some (some (.ref x)) := by simpa using g1
              have eu : u = .non := by
                have eo : E'[out.length]? = some (some (.p (.s .non))) := by
                  rw [k5 _ (Nat.le_refl _), List.getElem?_append_right (by simp [outE])]
                  simp [outE]
                have lB : (outV (V.ref x :: vs) out).length = out.length := by simp [outV]
                have e1 : (ρF ++ (θ ++ E'))[ρF.length + (θ.length + out.length)]? = some (some (.p (.s .non))) := by
                  rw [List.getElem?_append_right (by omega), List.getElem?_append_right (by omega)]
                  have : ρF.length + (θ.length + out.length) - ρF.length - θ.length = out.length := by omega
                  rw [this]
                  exact eo
                obtain ⟨z, ez, hz⟩ := st5.slotP e1
                rw [List.getElem?_append_right (by omega), List.getElem?_append_right (by omega)] at ez
                have : ρF.length + (θ.length + out.length) - σ.length - τ.length = (outV (V.ref x :: vs) out).length := by omega
                rw [this, List.getElem?_append_right (Nat.le_refl _)] at ez
                simp at ez
                subst ez
                cases hz
                rfl
              obtain ⟨W6, f6, _, st6⟩ := st5.keep1 lF tl eB ek
              exact ⟨eu, post1 (.ref x) H2 W6 ((f01.trans f5).trans f6) st6⟩
            · exact post1.elim
          · rename_i ez
            cases ez
          · exact post1.elim
        | ex c' fs out =>
          rw [eF] at post1
          intro cls d H2 W3 f3 s3 ed
          obtain ⟨W4, f4, st4, b4⟩ := merge f3 s3
          dsimp only at post1
          split at post1
          · rename_i ρF eb
            obtain ⟨W5, E', f5, lE', _, k5, st5, b5⟩ := rest (B := outV (V.ref x :: vs) out) (E := outE out) f4 (by simp [outVE]) (by simpa using st4) (fun q j o' eq => by simpa using outV_get (vs := V.ref x :: vs) (x := []) (y := []) eq) (by simpa using eb)
            have lF : σ.length = ρF.length := by have := back_len eb; omega
            obtain ⟨W6, f6, sub6, st6⟩ := Sta.dropMid (σ := σ ++ τ) (ρ := ρF ++ θ) (τ := outV (V.ref x :: vs) out) (θ := E') (ω := []) (η := []) (by simp; omega) (by rw [lE', outVE]) (by simpa using st5)
            exact post1 cls d H2 W6 ((f01.trans f5).trans f6) (by simpa using st6) ((ed.imp fun a z => b4 a (b5 a z)).sub sub6)
          · exact post1.elim
      · exact post1.elim
    · exact post1.elim
end
end DL

/-! calls of defs, methods, makers: the rules -/
namespace DL
open PySem PySem.Spec L2

section
variable {g : Gx} {wx : WX} {Z W W1 : AP} {σ τ : St} {ρ θ : Env} {H H1 : Hp} {b1 b2 : Bool} {n : Nat} {F : List O → FR}
def dFz (fo : Env → Res (O × Env)) : Env → Res (P × Env) := fun ρ => (fo ρ).bind fun a => .ok (a.1.frz, a.2)
/-- the last place is frozen and goes -/
theorem Sta.pop {v : V} {r : O} (hl : σ.length = ρ.length) (st : Sta g H Z (σ ++ some v :: τ) (ρ ++ some r :: θ) W) : ∃ W', Fr W H W' H ∧ Sta g H Z (σ ++ τ) (ρ ++ θ) W' ∧ PDn g H (bad W' Z) v r.frz := by
  obtain ⟨fp, h, nd, em⟩ := st.all
  obtain ⟨f1, f2, e, h1, h2⟩ := h.split hl
  subst e
  cases h2 with
  | @cons _ _ _ _ fo fn ho hn =>
    obtain ⟨nd1, nd2, nd3⟩ := nodup_parts (A := f1) (B := fo) (C := fn) (by simpa using nd)
    have sub : ∀ a, a ∈ f1 ++ fn → W a := fun a q => (em a).mpr (by simp only [List.mem_append] at q ⊢; rcases q with q | q <;> simp [q])
    have k0 : ∀ a, ¬ bad W Z a → ¬ bad (fun a => a ∈ f1 ++ fn) Z a := fun a n z => n (z.elim (fun z => .inl (sub a z)) .inr)
    refine ⟨fun a => a ∈ f1 ++ fn, ⟨fun a o h _ => h, fun a q => .inl (sub a q)⟩, ⟨⟨f1 ++ fn, SlAll.mono (fun a o n e => ⟨e, k0 a n⟩) (h1.app hn) fun a _ o e => e, nd1, fun _ => Iff.rfl⟩, fun a q => st.dj a (sub a q), st.zt, st.ev.mono fun a o n e => ⟨e, k0 a n⟩⟩, ho.frz k0 _ fun a q z => ?_⟩
    rcases z with z | z
    · exact nd3 a z q
    · exact st.dj a ((em a).mpr (by simp [q])) z
theorem se_fz {t : TE} {fo : Env → Res (O × Env)} (so : SO g wx t fo) : SE false true g wx t (dFz fo) := by
  intro Z σ τ ρ θ H W Q hl st post
  refine so Z σ τ ρ θ H W Q hl st ?_
  unfold dFz at post
  cases e : fo ρ with
  | bad => rw [e] at post; exact post
  | ex c fs ρ1 => rw [e] at post; exact post
  | ok a =>
    rw [e] at post
    intro v H1 W1 f1 st1
    have l1 : σ.length = a.2.length := by
      have a1 := st1.length
      have b1 := st.length
      simp only [List.length_append, List.length_cons] at a1 b1
      omega
    obtain ⟨W2, f2, st2, pv⟩ := st1.pop l1
    exact post v H1 W2 (f1.trans f2) (fun z => nomatch z) st2 pv
/-- what an argument stands for -/
def conOf (a : AV) (ρ : Env) : Option O := match a with
  | .ow o => some o
  | .pl i π => at_ ρ (i, π)
theorem con_ok {v : V} {a : AV} {o : O} (hl : σ.length = ρ.length) (st : Sta g H Z (σ ++ (τ ++ [some v])) (ρ ++ (θ ++ [a.e])) W) (held : Held g H σ ρ [v] [a]) (e : conOf a ρ = some o) : ∃ fk, ODn g H (bad W Z) v o fk := by
  have tl : τ.length = θ.length := by
    have := st.length
    simp only [List.length_append, List.length_cons, List.length_nil] at this
    omega
  cases a with
  | ow o' =>
    cases e
    have e1 : (ρ ++ (θ ++ [AV.e (.ow o)]))[ρ.length + θ.length]? = some (some o) := by
      rw [List.getElem?_append_right (by omega), List.getElem?_append_right (by omega)]
      have : ρ.length + θ.length - ρ.length - θ.length = 0 := by omega
      rw [this]
      rfl
    obtain ⟨w, fk, ew, ho, _⟩ := st.slot e1
    rw [List.getElem?_append_right (by omega), List.getElem?_append_right (by omega)] at ew
    have : ρ.length + θ.length - σ.length - τ.length = 0 := by omega
    rw [this] at ew
    have : v = w := by simpa using ew
    subst this
    exact ⟨fk, ho⟩
  | pl i π =>
    obtain ⟨x, w, ex, ew, _, hr⟩ := held.val 0 i π rfl
    have : v = x := by simpa using ex
    subst this
    have e' : at_ ρ (i, π) = some o := e
    have e0 := e'
    unfold at_ at e0
    cases e1 : ρ[i]? with
    | none => simp [e1] at e0
    | some q =>
      cases q with
      | none => simp [e1] at e0
      | some o0 =>
        obtain ⟨fk, h, _⟩ := st.reached (l := (i, π)) hl e' ew e1 (hr o0 e1)
        exact ⟨fk, h⟩
def chkM (c m : Str) (a : AV) (ρ : Env) : Bool := match conOf a ρ with
  | some (.nd (.ins c' fs) _) => c' == c && (ixOf m fs).isNone
  | some (.p (.nd (.ins c' fs) _)) => c' == c && (ixOf m fs).isNone
  | _ => false
theorem ixOf_none {α : Type} {f : Str} : ∀ {fs : List Str} {vs : List α}, fs.length = vs.length → ixOf f fs = none → (fs.zip vs).lookup f = none
  | [], _, _, _ => by simp
  | x :: fs, [], h, _ => by simp at h
  | x :: fs, v :: vs, h, e => by
    unfold ixOf at e
    by_cases hx : x = f
    · rw [if_pos hx] at e
      cases e
    · rw [if_neg hx] at e
      have hb : (f == x) = false := by simpa using fun q => hx q.symm
      simp only [List.zip_cons_cons, List.lookup_cons, hb]
      exact ixOf_none (by simpa using h) (by simpa using e)
def isInst (C : Addr) (m : Str) (x : V) (H : Hp) : Prop := ∃ a dx fs, x = .ref a ∧ H a = some (.ins C dx fs) ∧ fs.lookup m = none
theorem chkM_ok {c m : Str} {v : V} {a : AV} (hl : σ.length = ρ.length) (st : Sta g H Z (σ ++ (τ ++ [some v])) (ρ ++ (θ ++ [a.e])) W) (held : Held g H σ ρ [v] [a]) (e : chkM c m a ρ = true) : isInst (g.cl c) m v H := by
  unfold chkM at e
  split at e
  · rename_i c' fs ks ec
    obtain ⟨fk, ho⟩ := con_ok hl st held ec
    simp only [Bool.and_eq_true, beq_iff_eq] at e
    cases ho with
    | nd _ ho _ =>
      obtain ⟨h1, h2, dx, h3⟩ := ho
      rw [e.1] at h3
      exact ⟨_, dx, _, rfl, h3, ixOf_none h1 (by simpa using e.2)⟩
  · rename_i c' fs ks ec
    obtain ⟨fk, ho⟩ := con_ok hl st held ec
    simp only [Bool.and_eq_true, beq_iff_eq] at e
    cases ho with
    | p ho =>
      obtain ⟨a, dx, vs, rfl, h1, h2, h3, _⟩ := (PDt.f ho).ins
      rw [e.1] at h3
      exact ⟨_, dx, _, rfl, h3, ixOf_none h1 (by simpa using e.2)⟩
  · cases e
def mMeth (c m : Str) (fa : Env → Res (AV × Env)) (fm : Env → Res (List AV × Env)) : Env → Res (List AV × Env) := fun ρ => (fa ρ).bind fun a => if chkM c m a.1 a.2 = true then (fm a.2).bind fun r => .ok (a.1 :: r.1, r.2) else .bad
/-- a method's call whose wish knows the slots -/
def tMethS (C : Addr) (m : Str) (sp : Sp) (E : St → XK) (ta : TE) (t : TA) : TE := fun σ H Q => ta σ H fun x H1 => isInst C m x H1 ∧ t σ H1 fun vs H2 => sp (x :: vs) H2 Q (E σ)
theorem so_meth {c m : Str} {ta : TE} {t : TA} {fa : Env → Res (AV × Env)} {fm : Env → Res (List AV × Env)} (sa : S1 b1 g wx ta fa) (sm : SM b2 g wx t fm) (hz : (∀ ρ a, fa ρ = .ok a → a.1.nm = true) ∨ (b2 = true ∧ Keeps fm)) :
    SO g wx (tMethS (g.cl c) m (spF g n F) (WE wx) ta t) (oCallM n F (mMeth c m fa fm)) :=
  so_callM (sm_conses sa sm hz (fun l st h e => chkM_ok l st h e))
theorem sm_cons {ta : TE} {t : TA} {fa : Env → Res (AV × Env)} {fm : Env → Res (List AV × Env)} (sa : S1 b1 g wx ta fa) (sm : SM b2 g wx t fm) (hz : (∀ ρ a, fa ρ = .ok a → a.1.nm = true) ∨ (b2 = true ∧ Keeps fm)) : SM (b1 && b2) g wx (tCons ta t) (mCons fa fm) := by
  have q := sm_conses (ck := fun _ _ => true) (cp := fun _ _ => True) sa sm hz fun _ _ _ _ => trivial
  intro Z σ τ ρ θ H W Q hl st post
  have e : mCons fa fm = fun ρ => (fa ρ).bind fun a => if (fun (_ : AV) (_ : Env) => true) a.1 a.2 = true then (fm a.2).bind fun r => .ok (a.1 :: r.1, r.2) else .bad := by
    funext ρ
    simp [mCons]
  rw [e] at post
  have p := q Z σ τ ρ θ H W Q hl st post
  simp only [true_and] at p
  exact p
end
/-! ### judgements -/
structure D1 (X : Cx) (x : Bx) (b : Bool) (e : Expr) (f : Env → Res (AV × Env)) : Prop where
  pe : PE X e (t1 b (x.g X) x.wx f)
structure DM (X : Cx) (x : Bx) (b : Bool) (es : List Expr) (f : Env → Res (List AV × Env)) : Prop where
  pa : PA X es (tM b (x.g X) x.wx f)
theorem D1.of {X : Cx} {x : Bx} {b : Bool} {e : Expr} {t : TE} {f : Env → Res (AV × Env)} (pe : PE X e t) (se : S1 b (x.g X) x.wx t f) : D1 X x b e f :=
  ⟨PE.imp pe fun _ _ _ ⟨Z, τ, ρ, θ, W, hl, st, post⟩ => se Z _ τ ρ θ _ W _ hl st post⟩
theorem DM.of {X : Cx} {x : Bx} {b : Bool} {es : List Expr} {t : TA} {f : Env → Res (List AV × Env)} (pa : PA X es t) (sm : SM b (x.g X) x.wx t f) : DM X x b es f :=
  ⟨⟨fun pos pins s σ H Q I ⟨Z, τ, ρ, θ, W, hl, st, post⟩ => pa.run pos pins s σ H Q I (sm Z _ τ ρ θ _ W _ hl st post)⟩⟩
/-- firm arguments alone -/
def mP (fr : Env → Res (List P × Env)) : Env → Res (List AV × Env) := fun ρ => (fr ρ).bind fun a => .ok (a.1.map fun d => .ow (.p d), a.2)
/-- and pure ones -/
def mPp (fr : Env → Res (List P × Env)) : Env → Res (List AV × Env) := fun ρ => (fr ρ).bind fun a => .ok (a.1.map fun d => .ow (.p d), ρ)
section
variable {g : Gx} {wx : WX} {Z W W1 : AP} {σ τ : St} {ρ θ : Env} {H H1 : Hp} {b1 b2 : Bool}
theorem Sta.pushAll : ∀ {ds : List P} {vs : List V} {τ : St} {θ : Env}, Sta g H Z (σ ++ τ) (ρ ++ θ) W → PAll g H (bad W Z) vs ds → Sta g H Z (σ ++ (τ ++ vs.map some)) (ρ ++ (θ ++ (ds.map fun d => AV.ow (.p d)).map AV.e)) W
  | [], _, τ, θ, st, h => by
    cases h
    simpa using st
  | d :: ds, _, τ, θ, st, h => by
    cases h with
    | cons h1 h2 =>
      have q := Sta.pushAll (st.pushEnd h1) h2
      simpa [AV.e] using q
theorem held_own {ds : List P} {vs : List V} (h : vs.length = ds.length) : Held g H σ ρ vs (ds.map fun d => AV.ow (.p d)) := ⟨by simp [h], fun j i π e => by
  simp only [List.getElem?_map, Option.map_eq_some_iff] at e
  obtain ⟨d, _, e⟩ := e
  cases e⟩
theorem sm_p {t : TA} {fr : Env → Res (List P × Env)} (sa : SA b1 true g wx t fr) : SM b1 g wx t (mP fr) := by
  intro Z σ τ ρ θ H W Q hl st post
  refine sa_then sa hl st (fun e => by unfold mP at post; rw [e] at post; exact post) (fun c fs ρ1 e => by unfold mP at post; rw [e] at post; exact post) fun ds ρ1 vs H1 W1 e l1 f1 q1 st1 pv => ?_
  unfold mP at post
  rw [e] at post
  have pv' : PAll g H1 (bad W1 Z) vs ds := pv
  exact post vs H1 W1 f1 q1 (st1.pushAll pv') (held_own pv'.length)
theorem sm_pp {t : TA} {fr : Env → Res (List P × Env)} (sa : SA true true g wx t fr) : SM true g wx t (mPp fr) := by
  intro Z σ τ ρ θ H W Q hl st post
  refine sa_then sa hl st (fun e => by unfold mPp at post; rw [e] at post; exact post) (fun c fs ρ1 e => by unfold mPp at post; rw [e] at post; exact post) fun ds ρ1 vs H1 W1 e l1 f1 q1 st1 pv => ?_
  unfold mPp at post
  rw [e] at post
  have pv' : PAll g H1 (bad W1 Z) vs ds := pv
  obtain ⟨eW, sm⟩ := q1 rfl
  subst eW
  exact post vs H1 W1 f1 q1 ((st.same sm).pushAll pv') (held_own pv'.length)
theorem keeps_pp {fr : Env → Res (List P × Env)} : Keeps (mPp fr) := fun ρ a e => by
  unfold mPp at e
  cases h : fr ρ with
  | ok r => rw [h] at e; cases e; rfl
  | ex c fs ρ1 => rw [h] at e; cases e
  | bad => rw [h] at e; cases e
theorem nm_p {fa : Env → Res (P × Env)} : ∀ ρ a, a1P fa ρ = .ok a → a.1.nm = true := fun ρ a e => by
  unfold a1P at e
  cases h : fa ρ with
  | ok r => rw [h] at e; cases e; rfl
  | ex c fs ρ1 => rw [h] at e; cases e
  | bad => rw [h] at e; cases e
theorem nm_o {fo : Env → Res (O × Env)} : ∀ ρ a, a1O fo ρ = .ok a → a.1.nm = true := fun ρ a e => by
  unfold a1O at e
  cases h : fo ρ with
  | ok r => rw [h] at e; cases e; rfl
  | ex c fs ρ1 => rw [h] at e; cases e
  | bad => rw [h] at e; cases e
theorem nm_n {i : Nat} : ∀ ρ a, a1N i ρ = .ok a → a.1.nm = true := fun ρ a e => by
  unfold a1N at e
  split at e
  · cases e; rfl
  · cases e
theorem keeps_nil : Keeps mNil := fun ρ a e => by cases e; rfl
theorem keeps_n {i : Nat} : Keeps (a1N i) := fun ρ a e => by
  unfold a1N at e
  split at e
  · cases e; rfl
  · cases e
theorem keeps_l {fl : Env → Option (Nat × List Nat)} : Keeps (a1L fl) := fun ρ a e => by
  unfold a1L at e
  split at e
  · split at e
    · cases e; rfl
    · cases e
  · cases e
theorem keeps_cons {fa : Env → Res (AV × Env)} {fm : Env → Res (List AV × Env)} (ha : Keeps fa) (hm : Keeps fm) : Keeps (mCons fa fm) := fun ρ a e => by
  unfold mCons at e
  cases h : fa ρ with
  | ex c fs ρ1 => rw [h] at e; cases e
  | bad => rw [h] at e; cases e
  | ok r =>
    rw [h] at e
    have e' : ((fm r.2).bind fun s => Res.ok (r.1 :: s.1, s.2)) = .ok a := e
    cases h2 : fm r.2 with
    | ex c fs ρ1 => rw [h2] at e'; cases e'
    | bad => rw [h2] at e'; cases e'
    | ok s =>
      rw [h2] at e'
      cases e'
      exact (hm _ _ h2).trans (ha _ _ h)
/-- a firm value, pure: the state is as it was -/
def a1Pp (fa : Env → Res (P × Env)) : Env → Res (AV × Env) := fun ρ => (fa ρ).bind fun a => .ok (.ow (.p a.1), ρ)
theorem s1_pp {t : TE} {fa : Env → Res (P × Env)} (sa : SE true true g wx t fa) : S1 true g wx t (a1Pp fa) := by
  intro Z σ τ ρ θ H W Q hl st post
  refine se_then sa hl st (fun e => by unfold a1Pp at post; rw [e] at post; exact post) (fun c fs ρ1 e => by unfold a1Pp at post; rw [e] at post; exact post) fun d ρ1 v H1 W1 e l1 f1 q1 st1 pv => ?_
  unfold a1Pp at post
  rw [e] at post
  obtain ⟨eW, sm⟩ := q1 rfl
  subst eW
  exact post v H1 W1 f1 q1 ((st.same sm).pushEnd pv) held1
theorem keeps_1p {fa : Env → Res (P × Env)} : Keeps (a1Pp fa) := fun ρ a e => by
  unfold a1Pp at e
  cases h : fa ρ with
  | ok r => rw [h] at e; cases e; rfl
  | ex c fs ρ1 => rw [h] at e; cases e
  | bad => rw [h] at e; cases e
theorem nm_pp {fa : Env → Res (P × Env)} : ∀ ρ a, a1Pp fa ρ = .ok a → a.1.nm = true := fun ρ a e => by
  unfold a1Pp at e
  cases h : fa ρ with
  | ok r => rw [h] at e; cases e; rfl
  | ex c fs ρ1 => rw [h] at e; cases e
  | bad => rw [h] at e; cases e
end
/-- what a def is known to do -/
structure Fa (P : Program) (w : World) (K : PySem.W.Frag) (mg : Str → Option Value) (base : Heap) (cl : Str → Addr) (k n : Nat) (F : List O → FR) (f : Addr) : Prop where
  ok : ∃ fd ps, FnOk P w K mg base (L2N.CX P w) k f fd ps (spF ⟨K, cl, none⟩ n F) ∧ Binds K fd ps []
section
variable {X : Cx} {k n : Nat} {f C : Addr} {fd : FuncData} {ps : List Str} {sp : Sp} {E : St → XK} {nm m c : Str} {p pos apos : Pos} {e o : Expr} {es : List Expr} {ta : TE} {t : TA} {F : List O → FR} {cl : Str → Addr} {io : List Nat} {wx : WX} {b b1 b2 : Bool} {fr : Env → Res (List P × Env)} {fm : Env → Res (List AV × Env)} {fa : Env → Res (AV × Env)}
theorem pe_callS0 {CX : CXT} (F : FnOk X.prog X.w X.K X.mg X.base CX k f fd ps sp) (hr : Room k X.A) (hg : Gl X nm) (hm : X.mg nm = some (.ref f)) (hk : PySem.W.keepIn X.K (.ref f) = true) (hb : Binds X.K fd ps []) (hx : ∀ σ, PassesAt CX X σ (E σ))
    (hdb : (nm == ("__debug__" : Str)) = false := by decide) : PE X (.Call (.Name nm p) [] [] pos) (tCallS sp E tNil) := by
  refine ⟨fun pins s σ H Q I h => ?_⟩
  refine wpAny_Call_Name_kw (ld_glob I hg hm ?_ hdb)
  exact PySem.W.callWith_K0 I.kIn hk (run_fnS (us := []) F hr hb (hx σ) I .nil h)
theorem pe_methS' {CX : CXT} {pl : Sem Bool} (he : PE X o ta) (c : Cls X.K C) (hm : Meth X.K C m f) (F : FnOk X.prog X.w X.K X.mg X.base CX k f fd ps sp) (hr : Room k X.A) (hb : Binds X.K fd ps []) (hx : ∀ σ, PassesAt CX X σ (E σ)) (ha : PA X (e :: es) t)
    (hst : starEach (e :: es) X.env = (false, eval e X.env) :: starEach es X.env := by rfl) (hpl : (backTo pos (starEach es X.env)).any (·.1) = false := by rfl)
    (ht : eval (.Call (.Attribute o m apos) (e :: es) [] pos) X.env = (do
      let ov ← eval o X.env
      standAt apos.atName
      let (f, first) ← holding [ov] (getMethod ov m pl)
      callWith pos f first (backTo pos (starEach (e :: es) X.env)) (backToKw pos (keywordEach [] X.env))) := by rfl) :
    PE X (.Call (.Attribute o m apos) (e :: es) [] pos) (tMethS C m sp E ta t) := by
  refine ⟨fun pins s σ H Q I h => ?_⟩
  refine PySem.W.methodCall_KW (pl := pl) (thn (he.run pins s σ H _ I h) fun u s1 ⟨x, H1, I1, rx, ⟨a, dx, fs, ex, ea, l⟩, q⟩ => ?_) ht
  subst ex
  obtain rfl : u = Value.ref a := rx
  refine getmeth_ok I1 ea c hm l ?_
  refine PySem.W.callWith_K (first := [.ref a]) (h₀ := X.base) I.ok.mod.kin hm.kp (thn (ha.run pos pins s1 σ H1 _ I1 q) fun us s2 ⟨vs, H2, I2, r, q2⟩ => ⟨I2.kIn, ?_⟩) hst hpl
  exact run_fnS (us := .ref a :: us) (vs := .ref a :: vs) F hr hb (hx σ) I2 (.cons rfl r) q2
theorem pe_methS0 {CX : CXT} {pl : Sem Bool} (he : PE X o ta) (c : Cls X.K C) (hm : Meth X.K C m f) (F : FnOk X.prog X.w X.K X.mg X.base CX k f fd ps sp) (hr : Room k X.A) (hb : Binds X.K fd ps []) (hx : ∀ σ, PassesAt CX X σ (E σ))
    (ht : eval (.Call (.Attribute o m apos) [] [] pos) X.env = (do
      let ov ← eval o X.env
      standAt apos.atName
      let (f, first) ← holding [ov] (getMethod ov m pl)
      callWith pos f first (backTo pos (starEach [] X.env)) (backToKw pos (keywordEach [] X.env))) := by rfl) :
    PE X (.Call (.Attribute o m apos) [] [] pos) (tMethS C m sp E ta tNil) := by
  refine ⟨fun pins s σ H Q I h => ?_⟩
  refine PySem.W.methodCall_KW (pl := pl) (thn (he.run pins s σ H _ I h) fun u s1 ⟨x, H1, I1, rx, ⟨a, dx, fs, ex, ea, l⟩, q⟩ => ?_) ht
  subst ex
  obtain rfl : u = Value.ref a := rx
  refine getmeth_ok I1 ea c hm l ?_
  exact PySem.W.callWith_K0 (first := [.ref a]) I1.kIn hm.kp (run_fnS (us := [.ref a]) (vs := [.ref a]) F hr hb (hx σ) I1 (.cons rfl .nil) q)
theorem run_makeS {CX : CXT} {pins : List (Addr × Obj)} {σ : St} {H : Hp} {s : Shared} {Q : VK} {us : List Value} {vs : List V} (M : Mk X.K C f) (F : FnOk X.prog X.w X.K X.mg X.base CX k f fd ps sp) (hr : Room (k + 1) X.A) (hb : Binds X.K fd ps [])
    (hx : PassesAt CX X σ (E σ)) (I : Inv X pins σ H s) (r : Vals vs us)
    (h : ∀ x dx, H x = none → H dx = none → dx ≠ x → sp (.ref x :: vs) (upd (upd H dx (.own x)) x (.ins C dx [])) (fun v H2 => v = .non ∧ Q (.ref x) H2) (E σ)) :
    wpAny (model X.prog X.w) X.A (call (.ref C) us) (EP X pins σ Q) X.xe s := by
  have hq := h (s.heap.objs.size + 1) s.heap.objs.size (I.hok.fresh (Nat.le_succ _)) (I.hok.fresh (Nat.le_refl _)) (Nat.ne_of_lt (Nat.lt_succ_self _))
  have I2 := Inv.made (C := C) I
  have r2 : Vals (V.ref (s.heap.objs.size + 1) :: vs) (Value.ref (s.heap.objs.size + 1) :: us) := .cons rfl r
  have hl : (Value.ref (s.heap.objs.size + 1) :: us ++ []).length = ps.length := by
    have e := r2.length
    rw [F.len _ _ _ _ hq] at e
    simpa using e.symm
  have b := hb _ (Value.ref (s.heap.objs.size + 1) :: us) I2.kIn hl
  rw [List.append_nil] at b
  refine wpAny_call (make_map (f := f) I.kIn M.makes M.init (beq_iff_eq.mp M.fn) (codeAny_mono (F.run _ X.stack _ _ ⟨Value.ref (s.heap.objs.size + 1) :: us, []⟩ (Value.ref (s.heap.objs.size + 1) :: us) _ _ (E σ) (hr.make C us [])
    (I2.env0.make C us []) b r2 hq) fun r s' hq' => ?_))
  cases r with
  | error e => exact hx pins _ _ e s' I2 hq'
  | ok fl =>
    cases fl with
    | ret u =>
      obtain ⟨v, H', I3, rv, ev, q3⟩ := I2.after hq'
      subst ev
      exact ⟨rv, ⟨V.ref (s.heap.objs.size + 1), H', I3, rfl, q3⟩⟩
    | next => exact False.elim hq'
    | brk => exact False.elim hq'
    | cont => exact False.elim hq'
theorem pe_makeS {CX : CXT} (M : Mk X.K C f) (F : FnOk X.prog X.w X.K X.mg X.base CX k f fd ps sp) (hr : Room (k + 1) X.A) (hg : Gl X nm) (hm : X.mg nm = some (.ref C)) (hb : Binds X.K fd ps []) (hx : ∀ σ, PassesAt CX X σ (E σ))
    (ha : PA X (e :: es) t) (hdb : (nm == ("__debug__" : Str)) = false := by decide) (he : starEach (e :: es) X.env = (false, eval e X.env) :: starEach es X.env := by rfl) (hpl : (backTo pos (starEach es X.env)).any (·.1) = false := by rfl) :
    PE X (.Call (.Name nm p) (e :: es) [] pos) (tMakeS C sp E t) := by
  refine ⟨fun pins s σ H Q I h => ?_⟩
  refine wpAny_Call_Name_kw (ld_glob I hg hm ?_ hdb)
  refine PySem.W.callWith_K (h₀ := X.base) I.ok.mod.kin M.kp (thn (ha.run pos pins s σ H _ I h) fun us s1 ⟨vs, H1, I1, r, q⟩ => ⟨I1.kIn, ?_⟩) he hpl
  exact run_makeS M F hr hb (hx σ) I1 r q
theorem pe_makeS0 {CX : CXT} (M : Mk X.K C f) (F : FnOk X.prog X.w X.K X.mg X.base CX k f fd ps sp) (hr : Room (k + 1) X.A) (hg : Gl X nm) (hm : X.mg nm = some (.ref C)) (hb : Binds X.K fd ps []) (hx : ∀ σ, PassesAt CX X σ (E σ))
    (hdb : (nm == ("__debug__" : Str)) = false := by decide) : PE X (.Call (.Name nm p) [] [] pos) (tMakeS C sp E tNil) := by
  refine ⟨fun pins s σ H Q I h => ?_⟩
  refine wpAny_Call_Name_kw (ld_glob I hg hm ?_ hdb)
  exact PySem.W.callWith_K0 I.kIn M.kp (run_makeS (us := []) M F hr hb (hx σ) I .nil h)
end
end DL

/-! the rules of statements and calls -/
namespace DL
open PySem PySem.Spec L2

section
variable {X : Cx} {x : Bx} {pos pos' : Pos} {e c : Expr} {es : List Expr} {s : Stmt} {ss a b : List Stmt} {b1 z1 : Bool} {f h : Env → Res (Fl × Env)} {fa : Env → Res (P × Env)} {fo : Env → Res (O × Env)} {ft : Env → Res (Bool × Env)} {fi : Env → Res (List P × Env)} {fg : P → Env → Option Env}
theorem ssN : DSs X x [] sNx := .of pss_nil ss_nx
theorem ssC (hs : DS X x s f) (hr : DSs X x ss h) : DSs X x (s :: ss) (sSeqF f h) := .of (pss_cons hs.ps hr.ps) (ss_seq ss_self ss_self)
theorem ss1 (hs : DS X x s f) : DSs X x [s] f := ⟨pss_one hs.ps⟩
theorem sPass : DS X x (.Pass pos) sNx := .of ps_pass ss_nx
theorem sBrk : DS X x (.Break pos) (fun ρ => .ok (.bk, ρ)) := .of ps_break ss_bk
theorem sCnt : DS X x (.Continue pos) (fun ρ => .ok (.ct, ρ)) := .of ps_continue ss_ct
theorem sDoc {z j} : DS X x (.Expr (.Constant (.str z) j pos) pos') sNx := .of ps_doc ss_nx
theorem sExpr (he : DE X x b1 z1 e fa) (hs : swapsWith e none pos.line X.env = pure false := by rfl) : DS X x (.Expr e pos) (sExprF fa) := .of (ps_expr he.pe hs) (ss_expr se_self)
theorem sRet (he : DO X x e fo) : DS X x (.Return (some e) pos) (sRetF fo) := .of (ps_ret he.pe) (ss_ret so_self)
theorem sRetN : DS X x (.Return none pos) sRetNF := .of ps_retN ss_retN
theorem sIf (hc : DT X x b1 c ft) (ha : DSs X x a f) (hb : DSs X x b h) : DS X x (.If c a b pos) (sIfF ft f h) := .of (ps_if hc.pt ha.ps hb.ps) (ss_if st_self ss_self ss_self)
theorem sSet (c : Cb X x) (i : Nat) {nm : Str} (he : DO X x e fo) (hN : X.N[i]? = some nm := by rfl) (hx : Loc X.env.scope nm := by first | exact Or.inl rfl | exact Or.inr rfl) (hi : hasN i x.io = false := by rfl)
    (hs : swapsWith e (some (.Name nm pos')) pos.line X.env = pure false := by rfl) (hf : X.fn nm = true ∨ X.env.scope.names.lookup nm = some .local := by first | exact .inl rfl | exact .inr rfl) : DS X x (.Assign [.Name nm pos'] e pos) (sSetF i fo) :=
  .of (ps_set c.nd hN hx he.pe hs hf) (ss_set so_self hi)
theorem sAsg {tg : Expr} (he : DE X x b1 true e fa) (hg : DG X x tg fg) (hs : swapsWithSole [tg] e pos.line X.env = pure false := by rfl) (hw : swappedStores [tg] e X.env = pure none := by rfl)
    (h1 : (assignEach [tg] X.env).map (·.2) = [assign tg X.env] := by rfl) : DS X x (.Assign [tg] e pos) (sAsgF fg fa) := .of (ps_asg he.pe hg.pg hs hw h1) (ss_asg se_self sg_self)
theorem sAug {op : Operator} {r : R2} {o : P → P → Option P} (c : Cb X x) (i : Nat) {nm : Str} (ho : PIp X op r) (hos : OpS (x.g X) r o) (he : DE X x b1 z1 e fa) (hN : X.N[i]? = some nm := by rfl) (hx : Loc X.env.scope nm := by first | exact Or.inl rfl | exact Or.inr rfl) (hi : hasN i x.io = false := by rfl)
    (hf : X.fn nm = true ∨ X.env.scope.names.lookup nm = some .local := by first | exact .inl rfl | exact .inr rfl) : DS X x (.AugAssign (.Name nm pos') op e pos) (sAugF i o fa) := .of (ps_aug c.nd hN hx he.pe ho hf) (ss_aug se_self hos hi)
theorem sWhile (c : Ct X x) (n : Nat) {cd : Expr} (hc : DT X x b1 cd ft) (hb : DSs X x a f) : DS X x (.While cd a [] pos) (sWhileF ft f n) := .of (ps_while c.pass hc.pt hb.ps) (ss_while n st_self ss_self)
theorem sFor (c : Ct X x) {tg it : Expr} (hi : DI X x tg it fi) (hg : DG X x tg fg) (hb : DSs X x a f) (hs : ∀ y, foldedSetIterable it X.env y = pure y := by intro _; rfl) : DS X x (.For tg it a [] pos) (sForD fi fg f) :=
  .of (ps_for c.pass c.calm hi.pi hg.pg hb.ps hs) (ss_for si_self sg_self ss_self)
/-! owned results -/
theorem oE (he : DE X x b1 true e fa) : DO X x e (oP fa) := .of he.pe (so_p se_self)
theorem oMove (i : Nat) {nm : Str} (hN : X.N[i]? = some nm := by rfl) (hv : Vis X.env.scope nm := by first | exact Or.inl rfl | exact Or.inr (Or.inl rfl) | exact Or.inr (Or.inr rfl)) (hd : (nm == ("__debug__" : Str)) = false := by decide)
    (hcd : (nm == ("__classdict__" : Str)) = false := by decide) : DO X x (.Name nm pos) (oMv i) := .of (pe_var hN hv hd hcd) (so_mv i)
theorem oList {fr : Env → Res (List P × Env)} (h : DA X x b1 true es fr) : DO X x (.List es pos) (oLst fr) := .of (pe_lst h.pa) (so_lst sa_self)
theorem dOw (h : DO X x e fo) : DE X x false true e (dFz fo) := .of h.pe (se_fz so_self)
end

/-! ### arguments -/
section
variable {X : Cx} {x : Bx} {pos : Pos} {e : Expr} {es : List Expr} {b1 b2 : Bool} {fa : Env → Res (P × Env)} {fo : Env → Res (O × Env)} {f1 : Env → Res (AV × Env)} {fm : Env → Res (List AV × Env)} {fr : Env → Res (List P × Env)} {fl : Env → Option (Nat × List Nat)}
theorem x1P (h : DE X x b1 true e fa) : D1 X x b1 e (a1P fa) := .of h.pe (s1_p se_self)
theorem x1Q (h : DE X x true true e fa) : D1 X x true e (a1Pp fa) := .of h.pe (s1_pp se_self)
theorem x1O (h : DO X x e fo) : D1 X x false e (a1O fo) := .of h.pe (s1_o so_self)
theorem x1N (i : Nat) {nm : Str} (hN : X.N[i]? = some nm := by rfl) (hv : Vis X.env.scope nm := by first | exact Or.inl rfl | exact Or.inr (Or.inl rfl) | exact Or.inr (Or.inr rfl)) (hd : (nm == ("__debug__" : Str)) = false := by decide)
    (hcd : (nm == ("__classdict__" : Str)) = false := by decide) : D1 X x true (.Name nm pos) (a1N i) := .of (pe_var hN hv hd hcd) (s1_n i)
theorem x1L (h : DLx X x e fl) : D1 X x true e (a1L fl) := .of h.pe s1_l
theorem m0 : DM X x true [] mNil := .of pa_nil sm_nil
theorem mC (ha : D1 X x b1 e f1) (hm : DM X x b2 es fm)
    (hz : (∀ ρ a, f1 ρ = .ok a → a.1.nm = true) ∨ (b2 = true ∧ Keeps fm) := by first | exact .inl nm_p | exact .inl nm_o | exact .inl nm_n | exact .inl nm_pp | exact .inr ⟨rfl, by repeat (first | exact keeps_nil | exact keeps_pp | refine keeps_cons ?_ ?_ | exact keeps_1p | exact keeps_n | exact keeps_l)⟩)
    (hs : starEach (e :: es) X.env = (false, eval e X.env) :: starEach es X.env := by rfl) : DM X x (b1 && b2) (e :: es) (mCons f1 fm) := .of (pa_cons ha.pe hm.pa hs) (sm_cons s1_self sm_self hz)
theorem mF (h : DA X x b1 true es fr) : DM X x b1 es (mP fr) := .of h.pa (sm_p sa_self)
theorem mFp (h : DA X x true true es fr) : DM X x true es (mPp fr) := .of h.pa (sm_pp sa_self)
end

/-! ### calls -/
section
variable {X : Cx} {k k' n : Nat} {f C : Addr} {nm m c : Str} {p pos apos : Pos} {e o : Expr} {es : List Expr} {F : List O → FR} {cl : Str → Addr} {io : List Nat} {wx : WX} {b b1 b2 : Bool} {fr : Env → Res (List P × Env)} {fm : Env → Res (List AV × Env)} {f1 : Env → Res (AV × Env)}
/-- f(e, ..) with firm arguments -/
theorem dCall (ct : Ct X ⟨cl, io, wx, none⟩) (r : Room k' X.A) (FF : Fa X.prog X.w X.K X.mg X.base cl k n F f) (hm : X.mg nm = some (.ref f)) (hk : PySem.W.keepIn X.K (.ref f) = true) (ha : DA X ⟨cl, io, wx, none⟩ b true (e :: es) fr) (hkk : k ≤ k' := by first | decide | omega) (hg : Gl X nm := by rfl)
    (hdb : (nm == ("__debug__" : Str)) = false := by decide) (he : starEach (e :: es) X.env = (false, eval e X.env) :: starEach es X.env := by rfl) (hpl : (backTo pos (starEach es X.env)).any (·.1) = false := by rfl) :
    DE X ⟨cl, io, wx, none⟩ b true (.Call (.Name nm p) (e :: es) [] pos) (dCallF n F fr) := by
  obtain ⟨fd, ps, F, bi⟩ := FF.ok
  exact .of (pe_callS F (r.mono hkk) hg hm hk bi (fun σ => L2N.passAt ct.tk σ) ha.pa hdb he hpl) (se_call sa_self)
/-- f(e, ..) -/
theorem oCall (ct : Ct X ⟨cl, io, wx, none⟩) (r : Room k' X.A) (FF : Fa X.prog X.w X.K X.mg X.base cl k n F f) (hm : X.mg nm = some (.ref f)) (hk : PySem.W.keepIn X.K (.ref f) = true) (ha : DM X ⟨cl, io, wx, none⟩ b (e :: es) fm) (hkk : k ≤ k' := by first | decide | omega) (hg : Gl X nm := by rfl)
    (hdb : (nm == ("__debug__" : Str)) = false := by decide) (he : starEach (e :: es) X.env = (false, eval e X.env) :: starEach es X.env := by rfl) (hpl : (backTo pos (starEach es X.env)).any (·.1) = false := by rfl) :
    DO X ⟨cl, io, wx, none⟩ (.Call (.Name nm p) (e :: es) [] pos) (oCallM n F fm) := by
  obtain ⟨fd, ps, F, bi⟩ := FF.ok
  exact .of (pe_callS F (r.mono hkk) hg hm hk bi (fun σ => L2N.passAt ct.tk σ) ha.pa hdb he hpl) (so_callM sm_self)
/-- f() -/
theorem oCall0 (ct : Ct X ⟨cl, io, wx, none⟩) (r : Room k' X.A) (FF : Fa X.prog X.w X.K X.mg X.base cl k n F f) (hm : X.mg nm = some (.ref f)) (hk : PySem.W.keepIn X.K (.ref f) = true) (hkk : k ≤ k' := by first | decide | omega) (hg : Gl X nm := by rfl)
    (hdb : (nm == ("__debug__" : Str)) = false := by decide) : DO X ⟨cl, io, wx, none⟩ (.Call (.Name nm p) [] [] pos) (oCallM n F mNil) := by
  obtain ⟨fd, ps, F, bi⟩ := FF.ok
  exact .of (pe_callS0 F (r.mono hkk) hg hm hk bi (fun σ => L2N.passAt ct.tk σ) hdb) (so_callM sm_nil)
/-- what a method is known to do -/
structure Ma (P : Program) (w : World) (K : PySem.W.Frag) (mg : Str → Option Value) (base : Heap) (cl : Str → Addr) (c m : Str) (k n : Nat) (F : List O → FR) : Prop where
  ok : ∃ f, Cls K (cl c) ∧ Meth K (cl c) m f ∧ Fa P w K mg base cl k n F f
/-- o.m(e, ..) -/
theorem oMeth {pl : Sem Bool} (ct : Ct X ⟨cl, io, wx, none⟩) (r : Room k' X.A) (FF : Ma X.prog X.w X.K X.mg X.base cl c m k n F) (ho : D1 X ⟨cl, io, wx, none⟩ b1 o f1) (ha : DM X ⟨cl, io, wx, none⟩ b2 (e :: es) fm) (hkk : k ≤ k' := by first | decide | omega)
    (hz : (∀ ρ a, f1 ρ = .ok a → a.1.nm = true) ∨ (b2 = true ∧ Keeps fm) := by first | exact .inl nm_p | exact .inl nm_o | exact .inl nm_n | exact .inl nm_pp | exact .inr ⟨rfl, by repeat (first | exact keeps_nil | exact keeps_pp | refine keeps_cons ?_ ?_ | exact keeps_1p | exact keeps_n | exact keeps_l)⟩)
    (hst : starEach (e :: es) X.env = (false, eval e X.env) :: starEach es X.env := by rfl) (hpl : (backTo pos (starEach es X.env)).any (·.1) = false := by rfl)
    (ht : eval (.Call (.Attribute o m apos) (e :: es) [] pos) X.env = (do
      let ov ← eval o X.env
      standAt apos.atName
      let (f, first) ← holding [ov] (getMethod ov m pl)
      callWith pos f first (backTo pos (starEach (e :: es) X.env)) (backToKw pos (keywordEach [] X.env))) := by rfl) :
    DO X ⟨cl, io, wx, none⟩ (.Call (.Attribute o m apos) (e :: es) [] pos) (oCallM n F (mMeth c m f1 fm)) := by
  obtain ⟨f, hc, hm, FF⟩ := FF.ok
  obtain ⟨fd, ps, F, bi⟩ := FF.ok
  exact .of (pe_methS' ho.pe hc hm F (r.mono hkk) bi (fun σ => L2N.passAt ct.tk σ) ha.pa hst hpl ht) (so_meth s1_self sm_self hz)
/-- o.m() -/
theorem oMeth0 {pl : Sem Bool} (ct : Ct X ⟨cl, io, wx, none⟩) (r : Room k' X.A) (FF : Ma X.prog X.w X.K X.mg X.base cl c m k n F) (ho : D1 X ⟨cl, io, wx, none⟩ b1 o f1) (hkk : k ≤ k' := by first | decide | omega)
    (ht : eval (.Call (.Attribute o m apos) [] [] pos) X.env = (do
      let ov ← eval o X.env
      standAt apos.atName
      let (f, first) ← holding [ov] (getMethod ov m pl)
      callWith pos f first (backTo pos (starEach [] X.env)) (backToKw pos (keywordEach [] X.env))) := by rfl) :
    DO X ⟨cl, io, wx, none⟩ (.Call (.Attribute o m apos) [] [] pos) (oCallM n F (mMeth c m f1 mNil)) := by
  obtain ⟨f, hc, hm, FF⟩ := FF.ok
  obtain ⟨fd, ps, F, bi⟩ := FF.ok
  exact .of (pe_methS0 ho.pe hc hm F (r.mono hkk) bi (fun σ => L2N.passAt ct.tk σ) ht) (so_meth s1_self sm_nil (.inr ⟨rfl, keeps_nil⟩))
/-- what a maker is known to do -/
structure Ka (P : Program) (w : World) (K : PySem.W.Frag) (mg : Str → Option Value) (base : Heap) (cl : Str → Addr) (c : Str) (k n : Nat) (F : List O → FR) : Prop where
  ok : ∃ f, Mk K (cl c) f ∧ Fa P w K mg base cl k n F f
theorem oMake (ct : Ct X ⟨cl, io, wx, none⟩) (r : Room k' X.A) (FF : Ka X.prog X.w X.K X.mg X.base cl c k n F) (hm : X.mg nm = some (.ref (cl c))) (ha : DM X ⟨cl, io, wx, none⟩ b (e :: es) fm) (hkk : k + 1 ≤ k' := by first | decide | omega) (hg : Gl X nm := by rfl)
    (hdb : (nm == ("__debug__" : Str)) = false := by decide) (he : starEach (e :: es) X.env = (false, eval e X.env) :: starEach es X.env := by rfl) (hpl : (backTo pos (starEach es X.env)).any (·.1) = false := by rfl) :
    DO X ⟨cl, io, wx, none⟩ (.Call (.Name nm p) (e :: es) [] pos) (oMakeM n F c fm) := by
  obtain ⟨f, M, FF⟩ := FF.ok
  obtain ⟨fd, ps, F, bi⟩ := FF.ok
  exact .of (pe_makeS M F (r.mono hkk) hg hm bi (fun σ => L2N.passAt ct.tk σ) ha.pa hdb he hpl) (so_makeM sm_self)
theorem oMake0 (ct : Ct X ⟨cl, io, wx, none⟩) (r : Room k' X.A) (FF : Ka X.prog X.w X.K X.mg X.base cl c k n F) (hm : X.mg nm = some (.ref (cl c))) (hkk : k + 1 ≤ k' := by first | decide | omega) (hg : Gl X nm := by rfl)
    (hdb : (nm == ("__debug__" : Str)) = false := by decide) : DO X ⟨cl, io, wx, none⟩ (.Call (.Name nm p) [] [] pos) (oMakeM n F c mNil) := by
  obtain ⟨f, M, FF⟩ := FF.ok
  obtain ⟨fd, ps, F, bi⟩ := FF.ok
  exact .of (pe_makeS0 M F (r.mono hkk) hg hm bi (fun σ => L2N.passAt ct.tk σ) hdb) (so_makeM sm_nil)
end

/-! ### built-in functions -/
def CoS (g : Gx) (r : List V → Hp → VK → Prop) (op : List P → Option P) : Prop :=
  ∀ (H : Hp) (B : AP) (vs : List V) (ds : List P) (z : P) (Q : VK), (∀ a, B a → H a ≠ none) → PAllt g H B vs ds → op ds = some z → (∀ v H', Same H H' → PDn g H' B v z → Q v H') → r vs H Q
def dBi (op : List P → Option P) (fr : Env → Res (List P × Env)) : Env → Res (P × Env) := fun ρ => (fr ρ).bind fun a => match op a.1 with
  | some z => .ok (z, a.2)
  | none => .bad
def cOr (o o' : List P → Option P) : List P → Option P := fun ds => match o ds with
  | some z => some z
  | none => o' ds
section
variable {g : Gx} {wx : WX} {b1 z1 : Bool} {H : Hp} {B : AP}
theorem se_bi {ta : TA} {fr : Env → Res (List P × Env)} {r : List V → Hp → VK → Prop} {op : List P → Option P} (sa : SA b1 z1 g wx ta fr) (ho : CoS g r op) : SE b1 true g wx (tCB r ta) (dBi op fr) := by
  intro Z σ τ ρ θ H W Q hl st post
  refine sa_then sa hl st (fun e => by unfold dBi at post; rw [e] at post; exact post) (fun c fs ρ1 e => by unfold dBi at post; rw [e] at post; exact post) fun ds ρ1 vs H1 W1 e l1 f1 q1 st1 pv => ?_
  unfold dBi at post
  rw [e] at post
  have post1 : PostE b1 true g wx Z σ τ θ H W (match op ds with | some z => .ok (z, ρ1) | none => .bad) Q := post
  cases eo : op ds with
  | none => rw [eo] at post1; exact post1.elim
  | some z =>
    rw [eo] at post1
    exact ho H1 _ vs ds z Q st1.bt pv.t eo fun v H' s pz => post1 v H' W1 (f1.trans (.same s)) (fun hb => ⟨(q1 hb).1, (q1 hb).2.trans s⟩) (st1.same s) pz
theorem cos_or {r r' : List V → Hp → VK → Prop} {o o' : List P → Option P} (a : CoS g r o) (b : CoS g r' o') : CoS g (fun xs H Q => r xs H Q ∨ r' xs H Q) (cOr o o') := by
  intro H B vs ds z Q hb pv e k
  unfold cOr at e
  split at e
  · cases e
    exact .inl (a H B vs ds _ Q hb pv (by assumption) k)
  · exact .inr (b H B vs ds z Q hb pv e k)
theorem callR_or {X : Cx} {f : Value} {r r' : List V → Hp → VK → Prop} (a : CallR X f r) (b : CallR X f r') : CallR X f (fun xs H Q => r xs H Q ∨ r' xs H Q) := fun pins s σ H xs us Q I rv h => h.elim (a pins s σ H xs us Q I rv) (b pins s σ H xs us Q I rv)
theorem pat1 {vs : List V} {d : P} (h : PAllt g H B vs [d]) : ∃ v, vs = [v] ∧ PDt g H B v d := by
  cases h with
  | cons h1 h2 => cases h2; exact ⟨_, rfl, h1⟩
theorem pat2 {vs : List V} {d d' : P} (h : PAllt g H B vs [d, d']) : ∃ v v', vs = [v, v'] ∧ PDt g H B v d ∧ PDt g H B v' d' := by
  cases h with
  | cons h1 h2 =>
    obtain ⟨v', rfl, h3⟩ := pat1 h2
    exact ⟨_, v', rfl, h1, h3⟩
end
section
variable {X : Cx} {x : Bx} {id T : String} {nm : Str} {p pos : Pos} {e : Expr} {es : List Expr} {b1 z1 : Bool} {fr : Env → Res (List P × Env)} {r : List V → Hp → VK → Prop} {op : List P → Option P}
theorem dBltnF (c : Cb X x) (hc : CallR X (.builtin id) r) (ho : CoS (x.g X) r op) (hb : nm ∈ bset) (hv : bootBuiltins nm = some (.builtin id)) (ha : DA X x b1 z1 (e :: es) fr) (hg : Gl X nm := by rfl) (hn : nm ≠ "__name__" := by decide) (hdb : (nm == ("__debug__" : Str)) = false := by decide)
    (he : starEach (e :: es) X.env = (false, eval e X.env) :: starEach es X.env := by rfl) (hpl : (backTo pos (starEach es X.env)).any (·.1) = false := by rfl) : DE X x b1 true (.Call (.Name nm p) (e :: es) [] pos) (dBi op fr) :=
  .of (pe_callB hc hg (c.fr _ hb) hv ha.pa hn hdb he hpl) (se_bi sa_self ho)
theorem dBltnT (c : Cb X x) (hc : CallR X (.type T) r) (ho : CoS (x.g X) r op) (hb : nm ∈ bset) (hv : bootBuiltins nm = some (.type T)) (ha : DA X x b1 z1 (e :: es) fr) (hg : Gl X nm := by rfl) (hn : nm ≠ "__name__" := by decide) (hdb : (nm == ("__debug__" : Str)) = false := by decide)
    (he : starEach (e :: es) X.env = (false, eval e X.env) :: starEach es X.env := by rfl) (hpl : (backTo pos (starEach es X.env)).any (·.1) = false := by rfl) : DE X x b1 true (.Call (.Name nm p) (e :: es) [] pos) (dBi op fr) :=
  .of (pe_callTy hc hg (c.fr _ hb) hv ha.pa hn hdb he hpl) (se_bi sa_self ho)
end
end DL

/-! objects changed in place -/
namespace DL
open PySem PySem.Spec L2

section
variable {g : Gx} {wx : WX} {Z W W1 : AP} {σ τ A : St} {ρ θ E : Env} {H H1 : Hp} {b1 b2 : Bool}
/-- a node and the places at the end are made anew of the same parts -/
theorem Sta.rework {l : Nat × List Nat} {t : Tg} {ks : List O} (hl : σ.length = ρ.length) (lA : A.length = E.length) (st : Sta g H Z (σ ++ (A ++ τ)) (ρ ++ (E ++ θ)) W) (e : at_ ρ l = some (.nd t ks)) :
    ∃ w o0 a vs fpk fA, σ[l.1]? = some (some w) ∧ ρ[l.1]? = some (some o0) ∧ o0.get l.2 = some (.nd t ks) ∧ Reach g H w o0 l.2 (.ref a) ∧ t.mut = true ∧ Ho g.cl H a t vs ∧ OAll g H (bad W Z) vs ks fpk ∧ SlAll g H (bad W Z) A E fA ∧ (fpk ++ fA).Nodup ∧ W a ∧
      ∀ {t' : Tg} {ks' : List O} {vs' : List V} {u : HO} {fpk' : List Addr} {A' : St} {E' : Env} {fA' : List Addr}, t'.mut = true → Ho g.cl (upd H a u) a t' vs' → OAll g H (bad W Z) vs' ks' fpk' → SlAll g H (bad W Z) A' E' fA' → (fpk' ++ fA').Nodup → (∀ b ∈ fpk' ++ fA', b ∈ fpk ++ fA) →
        ∃ W', Fr W H W' (upd H a u) ∧ Sta g (upd H a u) Z (σ ++ (A' ++ τ)) (putAt ρ l (.nd t' ks') ++ (E' ++ θ)) W' := by
  have e' := e
  unfold at_ at e'
  cases e1 : ρ[l.1]? with
  | none => simp [e1] at e'
  | some q =>
    cases q with
    | none => simp [e1] at e'
    | some o0 =>
      have e2 : o0.get l.2 = some (.nd t ks) := by simpa [e1] using e'
      obtain ⟨fp, h, nd, em⟩ := st.all
      obtain ⟨f1, f2, ef, h1, h2⟩ := h.split hl
      subst ef
      obtain ⟨fA, fn, ef, hA, hn⟩ := h2.split lA
      subst ef
      obtain ⟨w, g1, gk, g2, ev, ef, ho, r⟩ := h1.at e1
      subst ef
      obtain ⟨x, p1, fk, p2, ef2, re, hx, r2⟩ := ho.focus e2
      subst ef2
      cases hx with
      | @nd a _ vs _ fpk m ho' ha =>
        have pm : (g1 ++ (p1 ++ (a :: fpk) ++ p2) ++ g2 ++ (fA ++ fn)).Perm ((g1 ++ p1 ++ p2 ++ g2 ++ fn) ++ (a :: (fpk ++ fA))) := by
          refine List.perm_iff_count.mpr fun b => ?_
          simp only [List.count_append, List.count_cons]
          omega
        have nd0 := List.nodup_append.mp (pm.nodup nd)
        have nd1 := List.nodup_cons.mp nd0.2.1
        have emr : ∀ b, W b ↔ b ∈ g1 ++ p1 ++ p2 ++ g2 ++ fn ∨ b = a ∨ b ∈ fpk ++ fA := fun b => (em b).trans (pm.mem_iff.trans (by rw [List.mem_append, List.mem_cons]))
        have hW : W a := (emr a).mpr (.inr (.inl rfl))
        refine ⟨w, o0, a, vs, fpk, fA, ev, rfl, e2, re, m, ho', ha, hA, nd1.2, hW, fun {t' ks' vs' u fpk' A' E' fA'} m' ho2 ha' hA' nd' sub' => ?_⟩
        have sub2 : ∀ b, b ∈ fpk' ++ fA' → W b ∧ b ≠ a := fun b q => ⟨(emr b).mpr (.inr (.inr (sub' b q))), fun z => nd1.1 (by rw [← z]; exact sub' b q)⟩
        have restNe : ∀ b, b ∈ g1 ++ p1 ++ p2 ++ g2 ++ fn → b ≠ a := fun b q z => nd0.2.2 b q a List.mem_cons_self z
        have pm' : (g1 ++ (p1 ++ (a :: fpk') ++ p2) ++ g2 ++ (fA' ++ fn)).Perm ((g1 ++ p1 ++ p2 ++ g2 ++ fn) ++ (a :: (fpk' ++ fA'))) := by
          refine List.perm_iff_count.mpr fun b => ?_
          simp only [List.count_append, List.count_cons]
          omega
        have W'sub : ∀ b, b ∈ g1 ++ (p1 ++ (a :: fpk') ++ p2) ++ g2 ++ (fA' ++ fn) → W b := fun b q => by
          rcases List.mem_append.mp (pm'.mem_iff.mp q) with q | q
          · exact (emr b).mpr (.inl q)
          · rcases List.mem_cons.mp q with q | q
            · rw [q]; exact hW
            · exact (sub2 b q).1
        have k1 : ∀ b o, ¬ bad W Z b → H b = some o → (upd H a u) b = some o ∧ ¬ bad (fun c => c ∈ g1 ++ (p1 ++ (a :: fpk') ++ p2) ++ g2 ++ (fA' ++ fn)) Z b := fun b o n q =>
          ⟨by rw [upd_ne (fun z => n (.inl (by rw [z]; exact hW)))]; exact q, fun z => n (z.elim (fun z => .inl (W'sub b z)) .inr)⟩
        have same : ∀ b, b ≠ a → ∀ o, H b = some o → (upd H a u) b = some o := fun b q o e => by rw [upd_ne q]; exact e
        have q2 := r2 k1 (fun b q => same b (restNe b (by simp only [List.mem_append] at q ⊢; rcases q with q | q <;> simp [q]))) (.nd m' ho2 (OAll.mono k1 _ (fun b q => same b (sub2 b (List.mem_append_left _ q)).2) ha'))
        have q1 := (r k1 (fun b q => same b (restNe b (by simp only [List.mem_append] at q ⊢; rcases q with q | q <;> simp [q])))).1 q2
        rw [set_same ev] at q1
        have ep : putAt ρ l (.nd t' ks') = ρ.set l.1 (some (o0.put l.2 (.nd t' ks'))) := by unfold putAt; rw [e1]
        refine ⟨fun c => c ∈ g1 ++ (p1 ++ (a :: fpk') ++ p2) ++ g2 ++ (fA' ++ fn), ⟨fun b o q n => by rw [upd_ne (fun z => n (by rw [z]; exact hW))]; exact q, fun b q => .inl (W'sub b q)⟩, ⟨⟨_, ?_, ?_, fun _ => Iff.rfl⟩, fun b q => st.dj b (W'sub b q), fun b q => ?_, st.ev.mono k1⟩⟩
        · rw [ep]
          exact q1.app ((hA'.mono k1 fun b q => same b (sub2 b (List.mem_append_right _ q)).2).app (hn.mono k1 fun b q => same b (restNe b (by simp [q]))))
        · refine pm'.symm.nodup (List.nodup_append.mpr ⟨nd0.1, List.nodup_cons.mpr ⟨fun q => (sub2 a q).2 rfl, nd'⟩, fun b q c q' z => ?_⟩)
          subst z
          rcases List.mem_cons.mp q' with q' | q'
          · exact restNe b q q'
          · exact nd0.2.2 b q b (List.mem_cons_of_mem _ (sub' b q')) rfl
        · by_cases hb : b = a
          · exact absurd q (by rw [hb]; exact st.dj a hW)
          · rw [upd_ne hb]; exact st.zt b q
/-! ### o[i] = v, o.f = v -/
def setN (t : Tg) (ks : List O) (i : P) (v : O) : Option (Tg × List O) := match t, i with
  | .lst, .s (.int n) => (ixN ks.length n).map fun j => (.lst, ks.set j v)
  | .dct kk, d => if kk.length < sizeLine then d.key.map fun k => match kix k kk with
    | some j => (.dct kk, ks.set j v)
    | none => (.dct (kk ++ [k]), ks ++ [v]) else none
  | _, _ => none
def sSetIxF (fo : Env → Res (O × Env)) (fl : Env → Option (Nat × List Nat)) (fi : Env → Res (P × Env)) : Env → Res (Fl × Env) := fun ρ => (fo ρ).bind fun v => match fl v.2 with
  | some l => (match at_ v.2 l with
    | some (.nd t ks) => (fi v.2).bind fun i => (match setN t ks i.1 v.1 with
      | some r => .ok (.nx, putAt v.2 l (.nd r.1 r.2))
      | none => .bad)
    | _ => .bad)
  | none => .bad
def setA (c f : Str) (t : Tg) (ks : List O) (v : O) : Option (Tg × List O) := match t with
  | .ins c' fs => if c' = c ∧ fs.length < 1000 then some (match ixOf f fs with
    | some j => (.ins c fs, ks.set j v)
    | none => (.ins c (fs ++ [f]), ks ++ [v])) else none
  | _ => none
def sSetAtF (c f : Str) (fo : Env → Res (O × Env)) (fl : Env → Option (Nat × List Nat)) : Env → Res (Fl × Env) := fun ρ => (fo ρ).bind fun v => match fl v.2 with
  | some l => (match at_ v.2 l with
    | some (.nd t ks) => (match setA c f t ks v.1 with
      | some r => .ok (.nx, putAt v.2 l (.nd r.1 r.2))
      | none => .bad)
    | _ => .bad)
  | none => .bad
theorem OAll.set {B : AP} {vs : List V} {ks : List O} {fp : List Addr} {j : Nat} {v : V} {o : O} {fo : List Addr} (h : OAll g H B vs ks fp) (hj : j < ks.length) (ho : ODn g H B v o fo) (nd : (fp ++ fo).Nodup) :
    ∃ fp', OAll g H B (vs.set j v) (ks.set j o) fp' ∧ fp'.Nodup ∧ ∀ b ∈ fp', b ∈ fp ++ fo := by
  obtain ⟨w, f1, fk, f2, e1, e2, h3, r⟩ := h.at (List.getElem?_eq_getElem hj)
  subst e2
  refine ⟨f1 ++ fo ++ f2, r (fun a o n e => ⟨e, n⟩) (fun a _ o e => e) ho, ?_, fun b q => ?_⟩
  · have n1 := List.nodup_append.mp nd
    refine nodup_join (n1.1.sublist (by simp)) n1.2.1 fun a q z => n1.2.2 a ?_ a z rfl
    simp only [List.mem_append] at q ⊢
    rcases q with q | q <;> simp [q]
  · simp only [List.mem_append] at q ⊢
    rcases q with (q | q) | q <;> simp [q]
theorem OAll.snoc {B : AP} {vs : List V} {ks : List O} {fp : List Addr} {v : V} {o : O} {fo : List Addr} (h : OAll g H B vs ks fp) (ho : ODn g H B v o fo) : OAll g H B (vs ++ [v]) (ks ++ [o]) (fp ++ fo) := by
  have := h.append (.cons ho .nil)
  simpa using this
theorem zip_set {α β : Type} : ∀ {ks : List α} {vs : List β} {j : Nat} {k : α} {v : β}, ks.length = vs.length → ks[j]? = some k → (ks.zip vs).set j (k, v) = ks.zip (vs.set j v)
  | [], _, _, _, _, _, e => by simp at e
  | _ :: _, [], _, _, _, l, _ => by simp at l
  | x :: ks, y :: vs, 0, k, v, l, e => by
    have : x = k := by simpa using e
    subst this
    rfl
  | x :: ks, y :: vs, j + 1, k, v, l, e => by
    simp only [List.zip_cons_cons, List.set_cons_succ]
    rw [zip_set (by simpa using l) (by simpa using e)]
theorem putF_ix {f : Str} {v : V} : ∀ {fs : List Str} {vs : List V}, fs.length = vs.length → putF f v (fs.zip vs) = match ixOf f fs with
    | some j => fs.zip (vs.set j v)
    | none => (fs ++ [f]).zip (vs ++ [v])
  | [], [], _ => rfl
  | [], _ :: _, l => by simp at l
  | _ :: _, [], l => by simp at l
  | x :: fs, y :: vs, l => by
    show (if x = f then (x, v) :: fs.zip vs else (x, y) :: putF f v (fs.zip vs)) = _
    unfold ixOf
    by_cases hx : x = f
    · rw [if_pos hx, if_pos hx]
      rfl
    · rw [if_neg hx, if_neg hx, putF_ix (by simpa using l)]
      cases ixOf f fs <;> rfl
theorem ixOf_mem {f : Str} : ∀ {fs : List Str}, ixOf f fs = none → f ∉ fs
  | [], _ => by simp
  | x :: fs, e => by
    unfold ixOf at e
    by_cases hx : x = f
    · rw [if_pos hx] at e; cases e
    · rw [if_neg hx] at e
      have := ixOf_mem (fs := fs) (by simpa using e)
      simp only [List.mem_cons, not_or]
      exact ⟨fun z => hx z.symm, this⟩
theorem ixOf_lt {f : Str} : ∀ {fs : List Str} {j : Nat}, ixOf f fs = some j → j < fs.length
  | [], _, e => by simp [ixOf] at e
  | x :: fs, j, e => by
    unfold ixOf at e
    by_cases hx : x = f
    · rw [if_pos hx] at e; cases e; simp
    · rw [if_neg hx] at e
      obtain ⟨k, e1, rfl⟩ := Option.map_eq_some_iff.mp e
      have := ixOf_lt e1
      simp
      omega
theorem kix_mem {k : Key} : ∀ {ks : List Key}, kix k ks = none → k ∉ ks
  | [], _ => by simp
  | x :: fs, e => by
    unfold kix at e
    by_cases hx : x = k
    · rw [if_pos hx] at e; cases e
    · rw [if_neg hx] at e
      have := kix_mem (ks := fs) (by simpa using e)
      simp only [List.mem_cons, not_or]
      exact ⟨fun z => hx z.symm, this⟩
theorem kix_lt {k : Key} : ∀ {ks : List Key} {j : Nat}, kix k ks = some j → j < ks.length ∧ ks[j]? = some k
  | [], _, e => by simp [kix] at e
  | x :: fs, j, e => by
    unfold kix at e
    by_cases hx : x = k
    · rw [if_pos hx] at e; cases e; simp [hx]
    · rw [if_neg hx] at e
      obtain ⟨i, e1, rfl⟩ := Option.map_eq_some_iff.mp e
      obtain ⟨h1, h2⟩ := kix_lt e1
      simp only [List.length_cons, List.getElem?_cons_succ]
      exact ⟨by omega, h2⟩
theorem map_zip_none {k : Key} {v : V} : ∀ {ks : List Key} {vs : List V}, k ∉ ks → (ks.zip vs).map (fun kv => if kv.1 = k then (kv.1, v) else kv) = ks.zip vs
  | [], _, _ => by simp
  | _ :: _, [], _ => by simp
  | x :: ks, y :: vs, h => by
    simp only [List.mem_cons, not_or] at h
    simp only [List.zip_cons_cons, List.map_cons, if_neg (fun z => h.1 (Eq.symm z)), map_zip_none h.2]
theorem map_zip_set {k : Key} {v : V} : ∀ {ks : List Key} {vs : List V} {j : Nat}, ks.length = vs.length → ks.Nodup → kix k ks = some j → (ks.zip vs).map (fun kv => if kv.1 = k then (kv.1, v) else kv) = ks.zip (vs.set j v)
  | [], _, _, _, _, e => by simp [kix] at e
  | _ :: _, [], _, l, _, _ => by simp at l
  | x :: ks, y :: vs, j, l, nd, e => by
    have nd' := List.nodup_cons.mp nd
    unfold kix at e
    by_cases hx : x = k
    · rw [if_pos hx] at e
      cases e
      subst hx
      simp only [List.zip_cons_cons, List.map_cons, if_pos, List.set_cons_zero]
      rw [map_zip_none nd'.1]
    · rw [if_neg hx] at e
      obtain ⟨i, e1, rfl⟩ := Option.map_eq_some_iff.mp e
      simp only [List.zip_cons_cons, List.map_cons, if_neg hx, List.set_cons_succ]
      rw [map_zip_set (by simpa using l) nd'.2 e1]
theorem any_zip {k : Key} : ∀ {ks : List Key} {vs : List V}, ks.length = vs.length → ((ks.zip vs).any fun kv => decide (kv.1 = k)) = (kix k ks).isSome
  | [], _, _ => by simp [kix]
  | _ :: _, [], l => by simp at l
  | x :: ks, y :: vs, l => by
    simp only [List.zip_cons_cons, List.any_cons]
    unfold kix
    by_cases hx : x = k
    · simp [hx]
    · rw [any_zip (by simpa using l), if_neg hx]
      simp [hx]
theorem putK_ix {k : Key} {v : V} {ks : List Key} {vs : List V} (l : ks.length = vs.length) (nd : ks.Nodup) : putK (ks.zip vs) k v = match kix k ks with
    | some j => ks.zip (vs.set j v)
    | none => (ks ++ [k]).zip (vs ++ [v]) := by
  unfold putK
  rw [any_zip l]
  cases e : kix k ks with
  | none => simp [List.zip_append l]
  | some j => simp [map_zip_set l nd e]
/-- the new node -/
theorem setN_ok {B : AP} {t : Tg} {a : Addr} {vs : List V} {ks : List O} {fpk fo : List Addr} {v y : V} {o : O} {i : P} {r : Tg × List O} (ho : Ho g.cl H a t vs) (ha : OAll g H B vs ks fpk) (hv : ODn g H B v o fo) (nd : (fpk ++ fo).Nodup) (hi : PDt g H B y i) (e : setN t ks i o = some r) :
    (∃ xs n j, t = .lst ∧ H a = some (.lst xs) ∧ y = .int n ∧ ixN xs.length n = some j ∧ r.1.mut = true ∧ ∃ fp', Ho g.cl (upd H a (.lst (xs.set j v))) a r.1 (xs.set j v) ∧ OAll g H B (xs.set j v) r.2 fp' ∧ fp'.Nodup ∧ ∀ b ∈ fp', b ∈ fpk ++ fo) ∨
    (∃ kvs k, H a = some (.dK kvs) ∧ y = kV k ∧ kvs.length < sizeLine ∧ r.1.mut = true ∧ ∃ vs' fp', Ho g.cl (upd H a (.dK (putK kvs k v))) a r.1 vs' ∧ OAll g H B vs' r.2 fp' ∧ fp'.Nodup ∧ ∀ b ∈ fp', b ∈ fpk ++ fo) := by
  unfold setN at e
  split at e
  · rename_i n
    obtain ⟨j, ej, er⟩ := Option.map_eq_some_iff.mp e
    subst er
    obtain ⟨fp', h1, h2, h3⟩ := ha.set (ixN_seq ej).2.1 hv nd
    exact .inl ⟨vs, n, j, rfl, ho, hi.s, by rw [ha.length]; exact ej, rfl, fp', upd_same, h1, h2, h3⟩
  · rename_i kk
    split at e
    · rename_i hz
      obtain ⟨k, ek, er⟩ := Option.map_eq_some_iff.mp e
      obtain ⟨l, nk, hd⟩ := ho
      refine .inr ⟨_, k, hd, P.key_v hi ek, by rw [List.length_zip, ← l, Nat.min_self]; exact hz, ?_⟩
      rw [putK_ix l nk]
      cases e2 : kix k kk with
      | some j =>
        rw [e2] at er
        subst er
        obtain ⟨fp', h1, h2, h3⟩ := ha.set (j := j) (by rw [← ha.length, ← l]; exact (kix_lt e2).1) hv nd
        exact ⟨rfl, _, fp', ⟨by simp [l], nk, upd_same⟩, h1, h2, h3⟩
      | none =>
        rw [e2] at er
        subst er
        exact ⟨rfl, _, fpk ++ fo, ⟨by simp [l], List.nodup_append.mpr ⟨nk, by simp, fun a q b q' z => kix_mem e2 (by simp at q'; rw [← q', ← z]; exact q)⟩, upd_same⟩, ha.snoc hv, nd, fun b q => q⟩
    · cases e
  · cases e
end
section
variable {io : List Nat} {g : Gx} {wx : WX} {b1 z1 : Bool}
theorem so_then {t : TE} {f : Env → Res (O × Env)} {Z W : AP} {σ τ : St} {ρ θ : Env} {H : Hp} (so : SO g wx t f) {R : VK} (hl : σ.length = ρ.length) (st : Sta g H Z (σ ++ τ) (ρ ++ θ) W)
    (hb : f ρ = .bad → False) (hx : ∀ c fs ρ1, f ρ = .ex c fs ρ1 → ∀ cls d H' W', Fr W H W' H' → Sta g H' Z (σ ++ τ) (ρ1 ++ θ) W' → ExD g H' (bad W' Z) c fs cls d → wx cls d σ H')
    (hk : ∀ o ρ1 v H1 W1, f ρ = .ok (o, ρ1) → σ.length = ρ1.length → Fr W H W1 H1 → Sta g H1 Z (σ ++ some v :: τ) (ρ1 ++ some o :: θ) W1 → R v H1) : t σ H R := by
  refine so Z σ τ ρ θ H W R hl st ?_
  cases e : f ρ with
  | bad => exact hb e
  | ex c fs ρ1 => exact hx c fs ρ1 e
  | ok p =>
    intro v H1 W1 f1 st1
    refine hk p.1 p.2 v H1 W1 e ?_ f1 st1
    have a1 := st1.length
    have b1 := st.length
    simp only [List.length_append, List.length_cons] at a1 b1
    omega
theorem ss_setIx {te ti : TE} {fo : Env → Res (O × Env)} {fl : Env → Option (Nat × List Nat)} {fi : Env → Res (P × Env)} (so : SO g wx te fo) (si : SE true z1 g wx ti fi) :
    SS io g wx (tAsg te (gSub (tL g fl) ti (fun o i v H Q => rSetL o i v H Q ∨ rSetD o i v H Q))) (sSetIxF fo fl fi) := by
  intro Z σ ρ H W D st post
  refine so_then so (by simpa using st.length) (sta0 st) (fun e => by unfold sSetIxF at post; rw [e] at post; exact post) (fun c fs ρ1 e => by unfold sSetIxF at post; rw [e] at post; exact post.exE) fun v ρ1 x H1 W1 e l1 f1 st1 => ?_
  unfold sSetIxF at post
  rw [e] at post
  have post1 : PostS io g wx Z σ H W (match fl ρ1 with
    | some l => (match at_ ρ1 l with
      | some (.nd t ks) => (fi ρ1).bind fun i => (match setN t ks i.1 v with
        | some r => .ok (.nx, putAt ρ1 l (.nd r.1 r.2))
        | none => .bad)
      | _ => .bad)
    | none => .bad) D := post
  split at post1
  · rename_i l el
    split at post1
    · rename_i t ks ea
      refine ⟨Z, some x :: [], ρ1, some v :: [], W1, l, _, l1, st1, el, ea, fun y w o0 H2 s2 ew e0 eg re => ?_⟩
      have st2 := st1.same s2
      have p2 := post1.shift (f1.trans (.same s2)) (σ1 := σ) .refl rfl
      have drop : ∀ {H' : Hp} {W' : AP} {ρ' : Env}, Fr W1 H2 W' H' → Sta g H' Z (σ ++ [some x]) (ρ' ++ [some v]) W' → σ.length = ρ'.length → ∃ W3, Fr W' H' W3 H' ∧ (∀ a, W3 a → W' a) ∧ Sta g H' Z (σ ++ []) (ρ' ++ []) W3 := fun _ s l => Sta.dropMid (τ := [some x]) (θ := [some v]) (ω := []) (η := []) l rfl (by simpa using s)
      refine se_then si l1 st2 (fun e => by rw [e] at p2; exact p2) (fun c fs ρ2 e cls d H3 W3 f3 st3 ed => ?_) fun i ρ2 iv H3 W3 e2 l2 f3 q3 st3 pi => ?_
      · rw [e] at p2
        have l3 : σ.length = ρ2.length := by
          have := st3.length
          simp only [List.length_append, List.length_cons, List.length_nil] at this
          omega
        obtain ⟨W4, f4, sub, st4⟩ := drop f3 st3 l3
        exact p2.exE cls d H3 W4 (f3.trans f4) st4 (ed.sub sub)
      · rw [e2] at p2
        obtain ⟨eW, s3⟩ := q3 rfl
        subst eW
        have p3 : PostS io g wx Z σ H2 W3 (match setN t ks i v with
          | some r => .ok (.nx, putAt ρ1 l (.nd r.1 r.2))
          | none => .bad) D := p2
        obtain ⟨w', o0', a, vs, fpk, fA, ew', e0', eg', re', m, ho, hk, hA, nd, hW, fin⟩ := Sta.rework (A := [some x]) (E := [some v]) (τ := []) (θ := []) l1 rfl (by simpa using st2.same s3) ea
        have z1 : w' = w := by rw [ew] at ew'; cases ew'; rfl
        have z2 : o0' = o0 := by rw [e0] at e0'; cases e0'; rfl
        subst z1 z2
        have z3 := (re.same s3).inj re'
        subst z3
        cases hA with
        | cons hv hn =>
          cases hn
          rw [List.append_nil] at nd fin
          split at p3
          · rename_i r er
            rcases setN_ok ho hk hv nd pi.t er with ⟨xs, n, j, rfl, h1, h2, h3, m', fp', h4, h5, h6, h7⟩ | ⟨kvs, k, h1, h2, h3, m', vs', fp', h4, h5, h6, h7⟩
            · obtain ⟨W5, f5, st5⟩ := fin m' h4 h5 .nil (by simpa using h6) (by simpa using h7)
              exact .inl ⟨a, xs, n, j, rfl, h2, h1, h3, p3 σ _ W5 ((Fr.same s3).trans f5) .refl rfl (by simpa using st5)⟩
            · obtain ⟨W5, f5, st5⟩ := fin m' h4 h5 .nil (by simpa using h6) (by simpa using h7)
              exact .inr ⟨a, _, rfl, by rw [h2]; exact DPut.k h1 h3, p3 σ _ W5 ((Fr.same s3).trans f5) .refl rfl (by simpa using st5)⟩
          · exact p3.elim
    · exact post1.elim
  · exact post1.elim
theorem setA_ok {H : Hp} {B : AP} {c f : Str} {t : Tg} {a : Addr} {vs : List V} {ks : List O} {fpk fo : List Addr} {v : V} {o : O} {r : Tg × List O} (ho : Ho g.cl H a t vs) (ha : OAll g H B vs ks fpk) (hv : ODn g H B v o fo) (nd : (fpk ++ fo).Nodup) (e : setA c f t ks o = some r) :
    ∃ dx fs, H a = some (.ins (g.cl c) dx fs) ∧ fs.length < 1000 ∧ r.1.mut = true ∧ ∃ vs' fp', Ho g.cl (upd H a (.ins (g.cl c) dx (putF f v fs))) a r.1 vs' ∧ OAll g H B vs' r.2 fp' ∧ fp'.Nodup ∧ ∀ b ∈ fp', b ∈ fpk ++ fo := by
  unfold setA at e
  split at e
  · rename_i c' fs
    split at e
    · rename_i hc
      obtain ⟨rfl, hz⟩ := hc
      obtain ⟨l, nk, dx, hd⟩ := ho
      refine ⟨dx, _, hd, by rw [List.length_zip, ← l, Nat.min_self]; exact hz, ?_⟩
      rw [putF_ix l]
      cases e2 : ixOf f fs with
      | some j =>
        rw [e2] at e
        cases e
        obtain ⟨fp', h1, h2, h3⟩ := ha.set (j := j) (by rw [← ha.length, ← l]; exact ixOf_lt e2) hv nd
        exact ⟨rfl, _, fp', ⟨by simp [l], nk, dx, upd_same⟩, h1, h2, h3⟩
      | none =>
        rw [e2] at e
        cases e
        exact ⟨rfl, _, fpk ++ fo, ⟨by simp [l], List.nodup_append.mpr ⟨nk, by simp, fun a q b q' z => ixOf_mem e2 (by simp at q'; rw [← q', ← z]; exact q)⟩, dx, upd_same⟩, ha.snoc hv, nd, fun b q => q⟩
    · cases e
  · cases e
theorem ss_setAt {K : PySem.W.Frag} (hK : g.K = K) {te : TE} {c f : Str} {fo : Env → Res (O × Env)} {fl : Env → Option (Nat × List Nat)} (so : SO g wx te fo) (hc : Cls K (g.cl c)) (hn : NoAttr K (g.cl c) f) : SS io g wx (sFld K (tL g fl) te f) (sSetAtF c f fo fl) := by
  intro Z σ ρ H W D st post
  refine so_then so (by simpa using st.length) (sta0 st) (fun e => by unfold sSetAtF at post; rw [e] at post; exact post) (fun c fs ρ1 e => by unfold sSetAtF at post; rw [e] at post; exact post.exE) fun v ρ1 x H1 W1 e l1 f1 st1 => ?_
  unfold sSetAtF at post
  rw [e] at post
  have post1 : PostS io g wx Z σ H W (match fl ρ1 with
    | some l => (match at_ ρ1 l with
      | some (.nd t ks) => (match setA c f t ks v with
        | some r => .ok (.nx, putAt ρ1 l (.nd r.1 r.2))
        | none => .bad)
      | _ => .bad)
    | none => .bad) D := post
  split at post1
  · rename_i l el
    split at post1
    · rename_i t ks ea
      refine ⟨Z, some x :: [], ρ1, some v :: [], W1, l, _, l1, st1, el, ea, fun y w o0 H2 s2 ew e0 eg re => ?_⟩
      have st2 := st1.same s2
      obtain ⟨w', o0', a, vs, fpk, fA, ew', e0', eg', re', m, ho, hk, hA, nd, hW, fin⟩ := Sta.rework (A := [some x]) (E := [some v]) (τ := []) (θ := []) l1 rfl (by simpa using st2) ea
      have z1 : w' = w := by rw [ew] at ew'; cases ew'; rfl
      have z2 : o0' = o0 := by rw [e0] at e0'; cases e0'; rfl
      subst z1 z2
      have z3 := re.inj re'
      subst z3
      cases hA with
      | cons hv hn' =>
        cases hn'
        rw [List.append_nil] at nd fin
        split at post1
        · rename_i r er
          obtain ⟨dx, fs, h1, h2, m', vs', fp', h4, h5, h6, h7⟩ := setA_ok ho hk hv nd er
          obtain ⟨W5, f5, st5⟩ := fin m' h4 h5 .nil (by simpa using h6) (by simpa using h7)
          exact ⟨a, _, dx, fs, rfl, h1, hc, hn, h2, post1 σ _ W5 ((f1.trans (.same s2)).trans f5) .refl rfl (by simpa using st5)⟩
        · exact post1.elim
    · exact post1.elim
  · exact post1.elim
end
section
variable {X : Cx} {x : Bx} {pos pos' : Pos} {o i e : Expr} {z1 : Bool} {fo : Env → Res (O × Env)} {fl : Env → Option (Nat × List Nat)} {fi : Env → Res (P × Env)}
theorem pset_or {t t' : TSet} (a : PSet X t) (b : PSet X t') : PSet X (fun o i v H Q => t o i v H Q ∨ t' o i v H Q) := fun pins s σ H o i v ov iv u Q I r1 r2 r3 h => h.elim (a pins s σ H o i v ov iv u Q I r1 r2 r3) (b pins s σ H o i v ov iv u Q I r1 r2 r3)
theorem sSetIx (c : Cb X x) (he : DO X x e fo) (ho : DLx X x o fl) (hi : DE X x true z1 i fi)
    (ha : ∀ v, assign (.Subscript o i pos) X.env v = (do
      let ov ← holding [v] (eval o X.env)
      let iv ← holding [v, ov] (eval i X.env)
      standAt pos
      holding [v, ov, iv] (setItem ov iv v)
      release [v, ov, iv] []) := by intro _; rfl) (hs : swapsWithSole [.Subscript o i pos] e pos'.line X.env = pure false := by rfl) (hw : swappedStores [.Subscript o i pos] e X.env = pure none := by rfl)
    (h1 : (assignEach [.Subscript o i pos] X.env).map (·.2) = [assign (.Subscript o i pos) X.env] := by rfl) : DS X x (.Assign [.Subscript o i pos] e pos') (sSetIxF fo fl fi) :=
  .of (ps_asg he.pe (pg_sub ho.pe hi.pe (pset_or set_list (set_dict (by have := c.hu; omega))) ha) hs hw h1) (ss_setIx so_self se_self)
theorem sSetAt {c f : Str} (he : DO X x e fo) (ho : DLx X x o fl) (hc : Cls X.K (x.cl c)) (hn : NoAttr X.K (x.cl c) f) (hs : swapsWith e (some (.Attribute o f pos)) pos'.line X.env = pure false := by rfl) : DS X x (.Assign [.Attribute o f pos] e pos') (sSetAtF c f fo fl) :=
  .of (ps_fld ho.pe he.pe hs) (ss_setAt rfl so_self hc hn)
end
end DL

/-! methods that change a list or a dict in place -/
namespace DL
open PySem PySem.Spec L2

def avOws : List AV → Option (List O)
  | [] => some []
  | .ow o :: r => (avOws r).map (o :: ·)
  | .pl _ _ :: _ => none
/-- the node's kind when the receiver is met -/
def chkT (p : Tg → Bool) (a : AV) (ρ : Env) : Bool := match a with
  | .pl i π => (match at_ ρ (i, π) with
    | some (.nd t _) => p t
    | _ => false)
  | .ow _ => false
def kerF (op : Tg → List O → List O → Option (O × Tg × List O)) (as : List AV) (ρ : Env) : Res (O × Env) := match as with
  | .pl i π :: rest => (match at_ ρ (i, π), avOws rest with
    | some (.nd t ks), some os => (match op t ks os with
      | some r => .ok (r.1, putAt ρ (i, π) (.nd r.2.1 r.2.2))
      | none => .bad)
    | _, _ => .bad)
  | _ => .bad
def mRecv (p : Tg → Bool) (fa : Env → Res (AV × Env)) (fm : Env → Res (List AV × Env)) : Env → Res (List AV × Env) := fun ρ => (fa ρ).bind fun a => if chkT p a.1 a.2 = true then (fm a.2).bind fun r => .ok (a.1 :: r.1, r.2) else .bad
def oKer (op : Tg → List O → List O → Option (O × Tg × List O)) (fm : Env → Res (List AV × Env)) : Env → Res (O × Env) := fun ρ => (fm ρ).bind fun a => kerF op a.1 a.2
/-- what such a method asks and leaves -/
def KerS (g : Gx) (r : V → List V → Hp → VK → Prop) (op : Tg → List O → List O → Option (O × Tg × List O)) : Prop :=
  ∀ (H : Hp) (B : AP) (a : Addr) (t : Tg) (vs ws : List V) (ks os : List O) (fpk fA : List Addr) (z : O × Tg × List O) (Q : VK), Ho g.cl H a t vs → OAll g H B vs ks fpk → OAll g H B ws os fA → (fpk ++ fA).Nodup → op t ks os = some z →
    (∀ {rv : V} {u : HO} {vs' : List V} {fpk' fr : List Addr}, z.2.1.mut = true → Ho g.cl (upd H a u) a z.2.1 vs' → OAll g H B vs' z.2.2 fpk' → ODn g H B rv z.1 fr → (fpk' ++ fr).Nodup → (∀ b ∈ fpk' ++ fr, b ∈ fpk ++ fA) → Q rv (upd H a u)) → r (.ref a) ws H Q
section
variable {g : Gx} {wx : WX} {Z W : AP} {σ τ : St} {ρ θ : Env} {H : Hp} {b1 b2 : Bool}
theorem avOws_e : ∀ {as : List AV} {os : List O}, avOws as = some os → as.map AV.e = os.map some
  | [], os, e => by cases e; rfl
  | .ow o :: r, os, e => by
    unfold avOws at e
    obtain ⟨os', e1, rfl⟩ := Option.map_eq_some_iff.mp e
    simp [AV.e, avOws_e e1]
  | .pl _ _ :: _, os, e => by cases e
theorem SlAll.oall {B : AP} : ∀ {os : List O} {vs : List V} {fp : List Addr}, SlAll g H B (vs.map some) (os.map some) fp → OAll g H B vs os fp
  | [], [], _, h => by cases h; exact .nil
  | [], _ :: _, _, h => by cases h
  | _ :: _, [], _, h => by cases h
  | o :: os, v :: vs, _, h => by
    cases h with
    | cons h1 h2 => exact .cons h1 (SlAll.oall h2)
theorem chkT_lst {v : V} {a : AV} {T : String} {p : Tg → Bool} {K : PySem.W.Frag} (hT : ∀ {H : Hp} {a : Addr} {t : Tg} {vs : List V}, t.mut = true → p t = true → Ho g.cl H a t vs → tyV K T (.ref a) H) (hl : σ.length = ρ.length) (st : Sta g H Z (σ ++ (τ ++ [some v])) (ρ ++ (θ ++ [a.e])) W)
    (held : Held g H σ ρ [v] [a]) (e : chkT p a ρ = true) : tyV K T v H := by
  unfold chkT at e
  split at e
  · rename_i i π
    split at e
    · rename_i t ks ea
      obtain ⟨fk, ho⟩ := con_ok hl st held (a := .pl i π) ea
      cases ho with
      | nd m ho _ => exact hT m e ho
    · cases e
  · cases e
theorem so_ker {K : PySem.W.Frag} {T : String} {p : Tg → Bool} {r : V → List V → Hp → VK → Prop} {op : Tg → List O → List O → Option (O × Tg × List O)} {ta : TE} {t : TA} {fa : Env → Res (AV × Env)} {fm : Env → Res (List AV × Env)} (sa : S1 b1 g wx ta fa) (sm : SM b2 g wx t fm)
    (hz : (∀ ρ a, fa ρ = .ok a → a.1.nm = true) ∨ (b2 = true ∧ Keeps fm)) (hT : ∀ {H : Hp} {a : Addr} {t : Tg} {vs : List V}, t.mut = true → p t = true → Ho g.cl H a t vs → tyV K T (.ref a) H) (hk : KerS g r op) : SO g wx (tBM K T r ta t) (oKer op (mRecv p fa fm)) := by
  intro Z σ τ ρ θ H W Q hl st post
  have q := sm_conses (ck := chkT p) (cp := tyV K T) sa sm hz (fun l s h e => chkT_lst hT l s h e) Z σ τ ρ θ H W (fun vs H2 => match vs with | x :: xs => r x xs H2 Q | [] => False) hl st
  refine q ?_
  clear q
  unfold oKer at post
  change PostM (b1 && b2) g wx Z σ τ θ H W (mRecv p fa fm ρ) _
  cases e : mRecv p fa fm ρ with
  | bad => rw [e] at post; exact post
  | ex c fs ρ1 => rw [e] at post; exact post
  | ok pr =>
    obtain ⟨as, ρ1⟩ := pr
    rw [e] at post
    intro vs H1 W1 f1 q1 st1 held
    have post1 : PostO g wx Z σ τ θ H W (kerF op as ρ1) Q := post
    unfold kerF at post1
    split at post1
    · rename_i i π rest
      split at post1
      · rename_i t0 ks os ea eo
        split at post1
        · rename_i z ez
          cases vs with
          | nil => have := held.len; simp at this
          | cons x xs =>
            have tl := tl_len hl st
            have lr : xs.length = rest.length := by simpa using held.len
            have l1 : σ.length = ρ1.length := by
              have := st1.length
              simp only [List.length_append, List.length_map, List.length_cons] at this
              omega
            -- the hole goes, the arguments come ahead
            obtain ⟨W2, f2, _, st2⟩ := Sta.dropMid (σ := σ ++ τ) (ρ := ρ1 ++ θ) (τ := [some x]) (θ := [none]) (ω := xs.map some) (η := os.map some) (by simp; omega) rfl (by simpa [avOws_e eo, AV.e] using st1)
            have st3 : Sta g H1 Z (σ ++ (xs.map some ++ τ)) (ρ1 ++ (os.map some ++ θ)) W2 := Sta.swap l1 tl (by simpa using st2)
            obtain ⟨w, o0, a, vs, fpk, fA, ew, e0, eg, re, m, ho, hko, hA, nd, hW, fin⟩ := Sta.rework l1 (by
              have := congrArg List.length (avOws_e eo)
              simp only [List.length_map] at this ⊢
              omega) st3 ea
            obtain ⟨x', w', ex, ew', _, hr⟩ := held.val 0 i π rfl
            have z1 : x = x' := by simpa using ex
            subst z1
            have z2 : w' = w := by
              have : σ[i]? = some (some w) := ew
              rw [ew'] at this
              cases this
              rfl
            subst z2
            have z3 := (hr o0 e0).inj re
            subst z3
            show r (.ref a) xs H1 Q
            refine hk H1 _ a t0 vs xs ks os fpk fA z Q ho hko hA.oall nd ez fun {rv u vs' fpk' fr} m' h4 h5 h6 h7 h8 => ?_
            obtain ⟨W5, f5, st5⟩ := fin m' h4 h5 (A' := [some rv]) (E' := [some z.1]) (fA' := fr ++ []) (.cons h6 .nil) (by simpa using h7) (by simpa using h8)
            exact post1 rv _ W5 ((f1.trans f2).trans f5) (by simpa using st5)
        · exact post1.elim
      · exact post1.elim
    · exact post1.elim
theorem tBM0_nil {K : PySem.W.Frag} {T : String} {r : V → List V → Hp → VK → Prop} {to : TE} : tBM0 K T r to = tBM K T r to tNil := rfl
/-! ### lists -/
def isLst : Tg → Bool
  | .lst => true
  | _ => false
theorem ty_lst {K : PySem.W.Frag} {cl : Str → Addr} {H : Hp} {a : Addr} {t : Tg} {vs : List V} (m : t.mut = true) (e : isLst t = true) (h : Ho cl H a t vs) : tyV K "list" (.ref a) H := by
  cases t with
  | lst => exact .inl ⟨rfl, vs, .inl (.inl h)⟩
  | _ => cases e
def kApp : Tg → List O → List O → Option (O × Tg × List O)
  | .lst, ks, [o] => if ks.length < sizeLine then some (.p (.s .non), .lst, ks ++ [o]) else none
  | _, _, _ => none
def kPop : Tg → List O → List O → Option (O × Tg × List O)
  | .lst, ks, [] => (ks[ks.length - 1]?).map fun o => (o, .lst, ks.dropLast)
  | _, _, _ => none
def kPopI : Tg → List O → List O → Option (O × Tg × List O)
  | .lst, ks, [.p (.s (.int i))] => if -(2 ^ 63) ≤ i ∧ i < 2 ^ 63 then (seqIndex? i ks.length).bind fun k => (ks[k]?).map fun o => (o, .lst, ks.eraseIdx k) else none
  | _, _, _ => none
def kRev : Tg → List O → List O → Option (O × Tg × List O)
  | .lst, ks, [] => (allP ks).map fun ds => (.p (.s .non), .lst, ds.reverse.map .p)
  | _, _, _ => none
def kClr : Tg → List O → List O → Option (O × Tg × List O)
  | .lst, _, [] => some (.p (.s .non), .lst, [])
  | _, _, _ => none
def kExt : Tg → List O → List O → Option (O × Tg × List O)
  | .lst, ks, [.p (.nd .lst ds)] => if ks.length + ds.length ≤ sizeLine then some (.p (.s .non), .lst, ks ++ ds.map .p) else none
  | _, _, _ => none
def kIns : Tg → List O → List O → Option (O × Tg × List O)
  | .lst, ks, [.p (.s (.int i)), o] => if ks.length < sizeLine ∧ 0 ≤ i ∧ i < 2 ^ 63 then some (.p (.s .non), .lst, ks.take i.toNat ++ o :: ks.drop i.toNat) else none
  | _, _, _ => none
theorem ks_app : KerS g rAppend kApp := by
  intro H B a t vs ws ks os fpk fA z Q ho hk hA nd e fin
  unfold kApp at e
  split at e
  · split at e
    · rename_i o hz
      cases e
      cases hA with
      | @cons v _ _ _ fo _ h1 h2 =>
        cases h2
        rw [List.append_nil] at nd fin
        refine ⟨a, vs, v, rfl, rfl, ho, by rw [hk.length]; exact hz, ?_⟩
        exact fin (fpk' := fpk ++ fo) (fr := []) rfl upd_same (hk.snoc h1) (.p (.s _)) (by simpa using nd) (by simp)
    · cases e
  · cases e
theorem OAll.erase {B : AP} : ∀ {ks : List O} {vs : List V} {fp : List Addr} {j : Nat} {o : O}, OAll g H B vs ks fp → ks[j]? = some o → fp.Nodup → ∃ v f1 f2, vs[j]? = some v ∧ OAll g H B (vs.eraseIdx j) (ks.eraseIdx j) f1 ∧ ODn g H B v o f2 ∧ (f1 ++ f2).Nodup ∧ ∀ b ∈ f1 ++ f2, b ∈ fp
  | [], _, _, _, _, _, e, _ => by simp at e
  | k :: ks, _, _, j, o, h, e, nd => by
    cases h with
    | @cons v vs _ _ g1 g2 h1 h2 =>
      have n1 := List.nodup_append.mp nd
      cases j with
      | zero =>
        have : k = o := by simpa using e
        subst this
        refine ⟨v, g2, g1, rfl, h2, h1, List.nodup_append.mpr ⟨n1.2.1, n1.1, fun a q b q' z => n1.2.2 b q' a q z.symm⟩, fun b q => ?_⟩
        simp only [List.mem_append] at q ⊢
        exact q.symm
      | succ j =>
        obtain ⟨w, f1, f2, e1, h3, h4, h5, h6⟩ := OAll.erase (j := j) h2 (by simpa using e) n1.2.1
        refine ⟨w, g1 ++ f1, f2, by simpa using e1, by simpa using OAll.cons h1 h3, h4, ?_, fun b q => ?_⟩
        · rw [List.append_assoc]
          exact List.nodup_append.mpr ⟨n1.1, h5, fun a q b q' z => n1.2.2 a q b (h6 b q') z⟩
        · rw [List.append_assoc] at q
          rcases List.mem_append.mp q with q | q
          · simp [q]
          · simp [h6 b q]
theorem dropLast_erase {α : Type} (l : List α) : l.dropLast = l.eraseIdx (l.length - 1) := by
  induction l with
  | nil => rfl
  | cons x l ih =>
    cases l with
    | nil => rfl
    | cons y l =>
      show x :: (y :: l).dropLast = _
      rw [ih]
      rfl
theorem ks_pop : KerS g rPop kPop := by
  intro H B a t vs ws ks os fpk fA z Q ho hk hA nd e fin
  unfold kPop at e
  split at e
  · obtain ⟨o, eo, rfl⟩ := Option.map_eq_some_iff.mp e
    cases hA
    rw [List.append_nil] at nd
    obtain ⟨v, f1, f2, e1, h3, h4, h5, h6⟩ := hk.erase eo nd
    refine ⟨a, vs, v, rfl, rfl, ho, by rw [hk.length]; exact e1, ?_⟩
    rw [dropLast_erase, hk.length]
    refine fin (fpk' := f1) (fr := f2) rfl upd_same (by dsimp only; rw [dropLast_erase]; exact h3) h4 h5 (by simpa using h6)
  · cases e
theorem ks_popI : KerS g rPopAt kPopI := by
  intro H B a t vs ws ks os fpk fA z Q ho hk hA nd e fin
  unfold kPopI at e
  split at e
  · rename_i i
    split at e
    · rename_i hc
      obtain ⟨k, ek, e⟩ := Option.bind_eq_some_iff.mp e
      obtain ⟨o, eo, rfl⟩ := Option.map_eq_some_iff.mp e
      cases hA with
      | @cons v0 _ _ _ fo _ h1 h2 =>
        cases h2
        cases h1 with
        | p h1 =>
          cases h1
          rw [List.append_nil] at nd
          obtain ⟨v, f1, f2, e1, h3, h4, h5, h6⟩ := hk.erase eo (by simpa using nd)
          refine ⟨a, vs, i, k, v, rfl, rfl, ho, hc.1, hc.2, by rw [hk.length]; exact ek, e1, ?_⟩
          exact fin (fpk' := f1) (fr := f2) rfl upd_same h3 h4 h5 (by simpa using h6)
    · cases e
  · cases e
theorem ks_clr : KerS g rClear kClr := by
  intro H B a t vs ws ks os fpk fA z Q ho hk hA nd e fin
  unfold kClr at e
  split at e
  · cases e
    cases hA
    refine ⟨a, vs, rfl, rfl, ho, ?_⟩
    exact fin (fpk' := []) (fr := []) rfl upd_same .nil (.p (.s _)) (by simp) (by simp)
  · cases e
theorem PAll.reverse {B : AP} : ∀ {ds : List P} {vs : List V}, PAll g H B vs ds → PAll g H B vs.reverse ds.reverse
  | [], _, h => by cases h; exact .nil
  | d :: ds, _, h => by
    cases h with
    | cons h1 h2 =>
      simp only [List.reverse_cons]
      exact (PAll.reverse h2).append (.cons h1 .nil)
theorem ks_rev : KerS g rReverse kRev := by
  intro H B a t vs ws ks os fpk fA z Q ho hk hA nd e fin
  unfold kRev at e
  split at e
  · obtain ⟨ds, ed, rfl⟩ := Option.map_eq_some_iff.mp e
    cases hA
    refine ⟨a, vs, rfl, rfl, ho, ?_⟩
    exact fin (fpk' := []) (fr := []) rfl upd_same (PAll.own (allP_ok ed hk).reverse) (.p (.s _)) (by simp) (by simp)
  · cases e
theorem ks_ext : KerS g rExtend kExt := by
  intro H B a t vs ws ks os fpk fA z Q ho hk hA nd e fin
  unfold kExt at e
  split at e
  · split at e
    · rename_i ds hz
      cases e
      cases hA with
      | @cons v0 _ _ _ fo _ h1 h2 =>
        cases h2
        cases h1 with
        | p h1 =>
          obtain ⟨b, zs, rfl, hb, hp⟩ := (PDt.f h1).lst
          refine ⟨a, b, vs, zs, rfl, rfl, ho, hb, by rw [hk.length, hp.length]; exact hz, ?_⟩
          have := hk.append (PAll.own hp)
          exact fin (fpk' := fpk ++ []) (fr := []) rfl upd_same this (.p (.s _)) (by simpa using nd) (by simp)
    · cases e
  · cases e
end
end DL

/-! raise, try -/
namespace DL
open PySem PySem.Spec L2

/-! ### what may stand anywhere where the run does not come -/
theorem sBad {X : Cx} {x : Bx} {s : Stmt} : DS X x s (fun _ => .bad) := ⟨⟨fun _ _ _ _ _ _ ⟨_, _, _, _, post⟩ => post.elim⟩⟩
theorem dBad {X : Cx} {x : Bx} {e : Expr} {b fz : Bool} : DE X x b fz e (fun _ => .bad) := ⟨⟨fun _ _ _ _ _ _ ⟨_, _, _, _, _, _, _, post⟩ => post.elim⟩⟩
theorem oBad {X : Cx} {x : Bx} {e : Expr} : DO X x e (fun _ => .bad) := ⟨⟨fun _ _ _ _ _ _ ⟨_, _, _, _, _, _, _, post⟩ => post.elim⟩⟩

/-! ### the exception whose suite runs -/
section
variable {K : PySem.W.Frag} {cl : Str → Addr} {H : Hp} {B : AP}
mutual
theorem PDn.reg {ev : Option Ev} : ∀ (d : P) {v : V}, PDn ⟨K, cl, none⟩ H B v d → PDn ⟨K, cl, ev⟩ H B v d
  | .s _, _, h => by
    cases h
    exact .s _
  | .nd t ks, _, h => by
    cases h with
    | nd hb ho ha => exact .nd hb ho (PAll.reg ks ha)
    | k ho ha =>
      refine .k ?_ (PAll.reg ks ha)
      cases t with
      | exc =>
        obtain ⟨e, e1, _⟩ := ho
        cases e1
      | _ => exact ho
theorem PAll.reg {ev : Option Ev} : ∀ (ds : List P) {vs : List V}, PAll ⟨K, cl, none⟩ H B vs ds → PAll ⟨K, cl, ev⟩ H B vs ds
  | [], _, h => by
    cases h
    exact .nil
  | d :: ds, _, h => by
    cases h with
    | cons h1 h2 => exact .cons (PDn.reg d h1) (PAll.reg ds h2)
end
mutual
def P.nx : P → Bool
  | .s _ => true
  | .nd t ks => !decide (t = .exc) && P.nxs ks
def P.nxs : List P → Bool
  | [] => true
  | d :: ds => d.nx && P.nxs ds
end
mutual
theorem PDn.unreg {ev : Option Ev} : ∀ (d : P) {v : V}, d.nx = true → PDn ⟨K, cl, ev⟩ H B v d → PDn ⟨K, cl, none⟩ H B v d
  | .s _, _, _, h => by
    cases h
    exact .s _
  | .nd t ks, _, e, h => by
    unfold P.nx at e
    simp only [Bool.and_eq_true, Bool.not_eq_true', decide_eq_false_iff_not] at e
    cases h with
    | nd hb ho ha => exact .nd hb ho (PAll.unreg ks e.2 ha)
    | k ho ha =>
      refine .k ?_ (PAll.unreg ks e.2 ha)
      cases t with
      | exc => exact absurd rfl e.1
      | _ => exact ho
theorem PAll.unreg {ev : Option Ev} : ∀ (ds : List P) {vs : List V}, P.nxs ds = true → PAll ⟨K, cl, ev⟩ H B vs ds → PAll ⟨K, cl, none⟩ H B vs ds
  | [], _, _, h => by
    cases h
    exact .nil
  | d :: ds, _, e, h => by
    unfold P.nxs at e
    simp only [Bool.and_eq_true] at e
    cases h with
    | cons h1 h2 => exact .cons (PDn.unreg d e.1 h1) (PAll.unreg ds e.2 h2)
end
mutual
theorem ODn.reg {ev : Option Ev} : ∀ (o : O) {v : V} {fp : List Addr}, ODn ⟨K, cl, none⟩ H B v o fp → ODn ⟨K, cl, ev⟩ H B v o fp
  | .p d, _, _, h => by
    cases h with
    | p h => exact .p (h.reg d)
  | .nd t ks, _, _, h => by
    cases h with
    | nd m ho ha => exact .nd m ho (OAll.reg ks ha)
theorem OAll.reg {ev : Option Ev} : ∀ (os : List O) {vs : List V} {fp : List Addr}, OAll ⟨K, cl, none⟩ H B vs os fp → OAll ⟨K, cl, ev⟩ H B vs os fp
  | [], _, _, h => by
    cases h
    exact .nil
  | o :: os, _, _, h => by
    cases h with
    | cons h1 h2 => exact .cons (ODn.reg o h1) (OAll.reg os h2)
end
theorem SlAll.reg {ev : Option Ev} {σ : St} {ρ : Env} {fp : List Addr} (h : SlAll ⟨K, cl, none⟩ H B σ ρ fp) : SlAll ⟨K, cl, ev⟩ H B σ ρ fp := by
  induction h with
  | nil => exact .nil
  | cons h1 _ ih => exact .cons (h1.reg _) ih
  | any _ ih => exact .any ih
theorem Sta.unset {g : Gx} {H : Hp} {Z W : AP} {σ : St} {ρ : Env} {i : Nat} {x : Option V} (st : Sta g H Z σ ρ W) (hi : i < ρ.length) : ∃ W', Fr W H W' H ∧ (∀ a, W' a → W a) ∧ Sta g H Z (σ.set i x) (ρ.set i none) W' := by
  obtain ⟨fp, h, nd, em⟩ := st.all
  cases e : ρ[i]? with
  | none => exact absurd (List.getElem?_eq_none_iff.mp e) (by omega)
  | some q =>
    cases q with
    | some o =>
      obtain ⟨v, f1, fk, f2, ev, ef, ho, r⟩ := h.at e
      subst ef
      have sub : ∀ a, a ∈ f1 ++ f2 → W a := fun a q => (em a).mpr (by simp only [List.mem_append] at q ⊢; rcases q with q | q <;> simp [q])
      have k0 : ∀ a o, ¬ bad W Z a → H a = some o → H a = some o ∧ ¬ bad (fun a => a ∈ f1 ++ f2) Z a := fun a o n e => ⟨e, fun z => n (z.elim (fun z => .inl (sub a z)) .inr)⟩
      exact ⟨fun a => a ∈ f1 ++ f2, ⟨fun a o h _ => h, fun a q => .inl (sub a q)⟩, sub, ⟨f1 ++ f2, (r k0 fun a _ o e => e).2 x, nd.sublist (by simp), fun _ => Iff.rfl⟩, fun a q => st.dj a (sub a q), st.zt, st.ev.mono k0⟩
    | none =>
      obtain ⟨f1, f2, ef, _, r⟩ := h.put e
      have : ρ.set i none = ρ := set_same e
      rw [this]
      exact ⟨W, .refl, fun _ h => h, ⟨fp, r x, nd, em⟩, st.dj, st.zt, st.ev⟩
/-- the state of a suite -/
theorem Sta.suite {Z W : AP} {σ : St} {ρ : Env} {c : Str} {fs : List (Str × P)} {cls : Value} {d : Option Addr} {a : Addr} {i : Nat} (st : Sta ⟨K, cl, none⟩ H Z σ ρ W) (ed : ExD ⟨K, cl, none⟩ H (bad W Z) c fs cls d) (hi : i < ρ.length) :
    ∃ fvs W', Fr W H W' H ∧ (∀ a, W' a → W a) ∧ Sta ⟨K, cl, none⟩ H Z (σ.set i none) (ρ.set i none) W' ∧ Sta ⟨K, cl, some ⟨a, d, fvs, fs⟩⟩ H Z (σ.set i (some (.ref a))) (ρ.set i (some (.p (.nd .exc [])))) W' := by
  obtain ⟨W', f, sub, st'⟩ := st.unset (x := none) hi
  obtain ⟨e1, e2⟩ := ed.sub sub
  have ok : ∃ fvs, EvOk ⟨K, cl, some ⟨a, d, fvs, fs⟩⟩ H (bad W' Z) := by
    rcases e2 with ⟨rfl, rfl⟩ | ⟨dd, fvs, rfl, h1, h2, h3⟩
    · exact ⟨[], (fun dd (e : none = some dd) => nomatch e), fun f p (e : ([] : List (Str × P)).lookup f = some p) => nomatch e⟩
    · refine ⟨fvs, fun dd' e => by cases e; exact ⟨h1, h2⟩, fun f p e => ?_⟩
      obtain ⟨v, h4, h5⟩ := h3 f p e
      exact ⟨v, h4, h5.reg _⟩
  obtain ⟨fvs, ok⟩ := ok
  obtain ⟨fp, h, nd, em⟩ := st'.all
  obtain ⟨f1, f2, ef, r, _⟩ := (SlAll.reg (ev := some ⟨a, d, fvs, fs⟩) h).put (i := i) (by rw [List.getElem?_set_self hi])
  have q := r (.p (.k (t := .exc) ⟨_, rfl, rfl⟩ .nil) : ODn ⟨K, cl, some ⟨a, d, fvs, fs⟩⟩ H (bad W' Z) (.ref a) (.p (.nd .exc [])) [])
  refine ⟨fvs, W', f, sub, st', ⟨f1 ++ [] ++ f2, by simpa using q, by simpa [ef] using nd, by simpa [ef] using em⟩, st'.dj, st'.zt, ok⟩
end

/-! ### suites -/
inductive SuR where
  | nx | bk | ct
  | rt (d : P)
/-- what a suite wants: it changes nothing -/
def PostU (g : Gx) (Z : AP) (σ : St) (H : Hp) (W : AP) : Res (SuR × Env) → Ends → Prop
  | .ok (.nx, _), D => ∀ H', Same H H' → D.nx σ H'
  | .ok (.bk, _), D => ∀ H', Same H H' → D.bk σ H'
  | .ok (.ct, _), D => ∀ H', Same H H' → D.ct σ H'
  | .ok (.rt d, _), D => ∀ v H', Same H H' → PDn g H' (bad W Z) v d → D.rt v H'
  | _, _ => False
def tU (g : Gx) (f : Env → Res (SuR × Env)) : TS := fun D σ H => ∃ (Z : AP) (ρ : Env) (W : AP), Sta g H Z σ ρ W ∧ PostU g Z σ H W (f ρ) D
structure DU (X : Cx) (x : Bx) (s : List Stmt) (f : Env → Res (SuR × Env)) : Prop where
  ps : PSs X s (tU (x.g X) f)
def uNil : Env → Res (SuR × Env) := fun ρ => .ok (.nx, ρ)
def uRet (fa : Env → Res (P × Env)) : Env → Res (SuR × Env) := fun ρ => match fa ρ with
  | .ok a => .ok (.rt a.1, ρ)
  | _ => .bad
def uIf (ft : Env → Res (Bool × Env)) (f h : Env → Res (SuR × Env)) : Env → Res (SuR × Env) := fun ρ => match ft ρ with
  | .ok c => if c.1 = true then f ρ else h ρ
  | _ => .bad
def uSeq (f h : Env → Res (SuR × Env)) : Env → Res (SuR × Env) := fun ρ => match f ρ with
  | .ok (.nx, _) => h ρ
  | r => r
abbrev noX : WX := fun _ _ _ _ => False
section
variable {X : Cx} {cl : Str → Addr} {io : List Nat} {ev : Option Ev} {e c : Expr} {s : Stmt} {ss a b : List Stmt} {pos : Pos} {fa : Env → Res (P × Env)} {ft : Env → Res (Bool × Env)} {f h : Env → Res (SuR × Env)}
structure DU1 (X : Cx) (x : Bx) (s : Stmt) (f : Env → Res (SuR × Env)) : Prop where
  ps : PS X s (tU (x.g X) f)
theorem PostU.same {g : Gx} {Z : AP} {σ : St} {H H1 : Hp} {W : AP} {r : Res (SuR × Env)} {D : Ends} (p : PostU g Z σ H W r D) (s : Same H H1) : PostU g Z σ H1 W r D := by
  cases r with
  | bad => exact p
  | ex c fs ρ => exact p
  | ok a =>
    obtain ⟨u, ρ⟩ := a
    cases u with
    | nx => exact fun H' s' => p H' (s.trans s')
    | bk => exact fun H' s' => p H' (s.trans s')
    | ct => exact fun H' s' => p H' (s.trans s')
    | rt d => exact fun v H' s' => p v H' (s.trans s')
theorem uN : DU X ⟨cl, io, noX, ev⟩ [] uNil := ⟨⟨fun pins s σ H D I ⟨Z, ρ, W, st, post⟩ => pss_nil.run pins s σ H D I (post H (Same.refl H))⟩⟩
theorem uR (h : DE X ⟨cl, io, noX, ev⟩ true true e fa) : DU1 X ⟨cl, io, noX, ev⟩ (.Return (some e) pos) (uRet fa) := ⟨⟨fun pins s σ H D I ⟨Z, ρ, W, st, post⟩ => (ps_ret h.pe).run pins s σ H D I (by
  refine ⟨Z, [], ρ, [], W, st.length, sta0 st, ?_⟩
  unfold uRet at post
  cases e1 : fa ρ with
  | bad => rw [e1] at post; exact post.elim
  | ex c fs ρ1 => rw [e1] at post; exact post.elim
  | ok p =>
    rw [e1] at post
    intro v H1 W1 f1 q1 st1 pv
    obtain ⟨eW, s1⟩ := q1 rfl
    subst eW
    exact post v H1 s1 pv)⟩⟩
theorem uBk : DU1 X ⟨cl, io, noX, ev⟩ (.Break pos) (fun ρ => .ok (.bk, ρ)) := ⟨⟨fun pins s σ H D I ⟨Z, ρ, W, st, post⟩ => ps_break.run pins s σ H D I (post H (Same.refl H))⟩⟩
theorem uPs : DU1 X ⟨cl, io, noX, ev⟩ (.Pass pos) uNil := ⟨⟨fun pins s σ H D I ⟨Z, ρ, W, st, post⟩ => ps_pass.run pins s σ H D I (post H (Same.refl H))⟩⟩
theorem uI (hc : DT X ⟨cl, io, noX, ev⟩ true c ft) (ha : DU X ⟨cl, io, noX, ev⟩ a f) (hb : DU X ⟨cl, io, noX, ev⟩ b h) : DU1 X ⟨cl, io, noX, ev⟩ (.If c a b pos) (uIf ft f h) := ⟨⟨fun pins s σ H D I ⟨Z, ρ, W, st, post⟩ => (ps_if hc.pt ha.ps hb.ps).run pins s σ H D I (by
  refine ⟨Z, [], ρ, [], W, st.length, sta0 st, ?_⟩
  unfold uIf at post
  cases e1 : ft ρ with
  | bad => rw [e1] at post; exact post.elim
  | ex c fs ρ1 => rw [e1] at post; exact post.elim
  | ok p =>
    rw [e1] at post
    intro H1 W1 f1 q1 st1
    obtain ⟨eW, s1⟩ := q1 rfl
    have post1 : PostU _ Z σ H W (if p.1 = true then f ρ else h ρ) D := post
    cases hp : p.1 with
    | true =>
      rw [hp] at post1
      exact iteT ⟨Z, ρ, W, st.same s1, PostU.same (by simpa using post1) s1⟩
    | false =>
      rw [hp] at post1
      exact iteF ⟨Z, ρ, W, st.same s1, PostU.same (by simpa using post1) s1⟩)⟩⟩
theorem uC (h1 : DU1 X ⟨cl, io, noX, ev⟩ s f) (h2 : DU X ⟨cl, io, noX, ev⟩ ss h) : DU X ⟨cl, io, noX, ev⟩ (s :: ss) (uSeq f h) := ⟨⟨fun pins s σ H D I ⟨Z, ρ, W, st, post⟩ => (pss_cons h1.ps h2.ps).run pins s σ H D I (by
  refine ⟨Z, ρ, W, st, ?_⟩
  unfold uSeq at post
  cases e1 : f ρ with
  | bad => rw [e1] at post; exact post
  | ex c fs ρ1 => rw [e1] at post; exact post
  | ok p =>
    obtain ⟨u, ρ1⟩ := p
    rw [e1] at post
    cases u with
    | nx => exact fun H' s' => ⟨Z, ρ, W, st.same s', PostU.same (r := h ρ) post s'⟩
    | bk => exact post
    | ct => exact post
    | rt d => exact post)⟩⟩
end
/-! isinstance(e, C), e.f -/
section
variable {X : Cx} {cl : Str → Addr} {io : List Nat} {a D : Addr} {oe : Obj} {pn : List (Addr × Obj)}
theorem call_isE2 {d : Option Addr} {fvs : List (Str × V)} (C : ExcC X.K D) (hz : Zc (.ref D) d oe) (hf : ∃ vs, oe.data = .fields vs) : CallR (X.suite a ((a, oe) :: pn)) (.builtin "isinstance") (fun xs H Q => (∀ dd, d = some dd → H dd = some (.xd fvs)) ∧ rIsE X.K D a xs H Q) := by
  intro pins s σ H xs us Q I r h
  obtain ⟨hd, c, cv, b, rfl, hcv, e, q⟩ := h
  cases r with
  | cons rx rr =>
    cases rr with
    | cons rt rr =>
      cases rr
      cases rx
      have ec := hcv _ rt
      subst ec
      obtain ⟨hget, _⟩ := I.pin (a, oe) (List.mem_append.mpr (.inl List.mem_cons_self))
      obtain ⟨vs, hv⟩ := hf
      have J : ∃ od, PySem.W.InstAt s.heap a oe D od := by
        obtain ⟨oc, oD, oda, osl⟩ := oe
        obtain ⟨h1, h2⟩ := hz
        dsimp only at h1 h2 hv
        subst h1 h2 hv
        cases oD with
        | none => exact ⟨none, hget, rfl, rfl, trivial⟩
        | some dd =>
          have hx : ObjOk X.prog X.w H s.heap dd (.xd fvs) := I.hok dd _ (hd dd rfl)
          obtain ⟨mA, hns, hr⟩ := hx
          obtain ⟨od, ho, hl⟩ := lookIn_ns hns
          exact ⟨some od, hget, rfl, rfl, ho⟩
      obtain ⟨od, J⟩ := J
      obtain ⟨cd, hc, _⟩ := PySem.W.any_some C.hd
      exact PySem.W.kia_one (PySem.W.kitx_exc (by rw [hc]; rfl) C.hg C.hk C.hs C.ha C.hn C.ht C.hm) I.kIn J e (fun z => nomatch z) fun tk => ⟨.bl b, H, I.kept (t' := tk) fun _ _ z => z, rfl, q⟩
/-- the class c of the exception, asked for a class -/
def dIsE (i : Nat) (sub : Option Bool) : Env → Res (P × Env) := fun ρ => match ρ[i]?, sub with
  | some (some (.p (.nd .exc []))), some b => .ok (.s (.bl b), ρ)
  | _, _ => .bad
theorem suite_is {d : Option Addr} {fvs : List (Str × V)} {fs : List (Str × P)} {i : Nat} {nm cn : Str} {p p1 p2 pos : Pos} {sub : Option Bool} {cv : V} {u : Value} (C : ExcC X.K D) (hz : Zc (.ref D) d oe) (hf : ∃ vs, oe.data = .fields vs)
    (hm : X.mg "isinstance" = none) (hN : X.N[i]? = some nm) (hv : Vis X.env.scope nm) (hd : (nm == ("__debug__" : Str)) = false) (hcd : (nm == ("__classdict__" : Str)) = false) (hc : PE (X.suite a ((a, oe) :: pn)) (.Name cn p2) (L2.tC cv)) (hu : ∀ w, RelV cv w → w = u) (hk : ∀ b, sub = some b → PySem.W.kitOne X.K (.ref D) u = some b) (hg : Gl X "isinstance")
    (he : starEach [.Name nm p1, .Name cn p2] X.env = [(false, eval (.Name nm p1) X.env), (false, eval (.Name cn p2) X.env)] := by rfl) (he2 : starEach [.Name cn p2] X.env = [(false, eval (.Name cn p2) X.env)] := by rfl) :
    DE (X.suite a ((a, oe) :: pn)) ⟨cl, io, noX, some ⟨a, d, fvs, fs⟩⟩ true true (.Call (.Name "isinstance" p) [.Name nm p1, .Name cn p2] [] pos) (dIsE i sub) := by
  have ha : PA (X.suite a ((a, oe) :: pn)) [.Name nm p1, .Name cn p2] (tCons (tVar i) (tCons (L2.tC cv) tNil)) := pa_cons (pe_var hN hv hd hcd) (pa_cons hc pa_nil he2) he
  refine .of (pe_callB (call_isE2 (d := d) (fvs := fvs) C hz hf) hg hm (by decide +kernel) ha (by decide) (by decide) he ?_) ?_
  · show (backTo pos (starEach [.Name cn p2] X.env)).any (·.1) = false
    rw [he2]
    rfl
  · intro Z σ τ ρ θ H W Q hl st post
    unfold dIsE at post
    split at post
    · rename_i b e1
      obtain ⟨e2, e3⟩ := get_l (τ := τ) (θ := θ) hl e1
      obtain ⟨v, ev, pv⟩ := st.slotP e2
      rw [e3] at ev
      have ea : v = .ref a := by
        cases pv with
        | nd _ ho _ => exact ho.elim
        | k ho _ =>
          obtain ⟨e, h1, h2⟩ := ho
          cases h1
          rw [← h2]
      subst ea
      refine ⟨_, ev, ?_, cv, u, b, rfl, hu, hk b rfl, post _ H W .refl (fun _ => ⟨rfl, Same.refl H⟩) st (.s _)⟩
      intro dd ed
      exact (st.ev.1 dd ed).1
    · exact post.elim
/-- e.f -/
def dXf (i : Nat) (f : Str) (fs : List (Str × P)) : Env → Res (P × Env) := fun ρ => match ρ[i]?, fs.lookup f with
  | some (some (.p (.nd .exc []))), some d => .ok (d, ρ)
  | _, _ => .bad
theorem suite_xf {d : Option Addr} {fvs : List (Str × V)} {fs : List (Str × P)} {i : Nat} {nm f : Str} {p pos : Pos} (T : XfC X.K D) (hno : PySem.W.findIn X.K (.ref D) f = some none) (hz : Zc (.ref D) d oe) (hf : ∃ vs, oe.data = .fields vs) (hd0 : fs = [] ∨ ∃ dd, d = some dd)
    (hN : X.N[i]? = some nm) (hv : Vis X.env.scope nm) (hd : (nm == ("__debug__" : Str)) = false) (hcd : (nm == ("__classdict__" : Str)) = false) (hb : attributeBase (.Name nm p) f X.env (eval (.Name nm p) X.env) = eval (.Name nm p) X.env := by rfl) :
    DE (X.suite a ((a, oe) :: pn)) ⟨cl, io, noX, some ⟨a, d, fvs, fs⟩⟩ true true (.Attribute (.Name nm p) f pos) (dXf i f fs) := by
  refine .of (pe_xf (X := X) T hno hz hf (pe_var (X := X.suite a ((a, oe) :: pn)) hN hv hd hcd) hb) ?_
  intro Z σ τ ρ θ H W Q hl st post
  unfold dXf at post
  split at post
  · rename_i d' e1 elk
    obtain ⟨e2, e3⟩ := get_l (τ := τ) (θ := θ) hl e1
    obtain ⟨v, ev, pv⟩ := st.slotP e2
    rw [e3] at ev
    have ea : v = .ref a := by
      cases pv with
      | nd _ ho _ => exact ho.elim
      | k ho _ =>
        obtain ⟨e, h1, h2⟩ := ho
        cases h1
        rw [← h2]
    subst ea
    obtain ⟨k1, k2⟩ := st.ev
    rcases hd0 with rfl | ⟨dd, rfl⟩
    · simp at elk
    · obtain ⟨w, h4, h5⟩ := k2 f d' elk
      exact ⟨_, ev, rfl, rfl, dd, fvs, w, rfl, (k1 dd rfl).1, h4, post w H W .refl (fun _ => ⟨rfl, Same.refl H⟩) st h5⟩
  · exact post.elim
end
/-! ### raise -/
section
variable {X : Cx} {x : Bx} {io : List Nat} {g : Gx} {wx : WX}
/-- an exception with no data of its own -/
theorem ss_raise0 {c : Str} : SS io g wx (fun _ σ H => wx (.ref (g.cl c)) none σ H) (fun ρ => .ex c [] ρ) := fun Z σ ρ H W D st post =>
  post σ _ none H W .refl .refl rfl st ⟨rfl, .inl ⟨rfl, rfl⟩⟩
/-- raise C('m'), C without an own __init__ -/
theorem sRaise0 (ct : Ct X x) {c nm m : Str} {j : Nat} {p p2 pos pos' : Pos} {bmB : List Value} {B newId initId : String} (F : ExcBaseFacts B newId initId bmB) (q : PySem.W.excIn X.K (x.cl c) bmB newId = true) (gC : X.mg nm = some (.ref (x.cl c))) (kC : PySem.W.keepIn X.K (.ref (x.cl c)) = true)
    (h1 : PySem.W.subIn X.K (.ref (x.cl c)) (.type "BaseException") = some true) (h2 : PySem.W.typeIn X.K (.ref (x.cl c)) = some (.type "type")) (hg : Gl X nm := by rfl) (hdb : (nm == ("__debug__" : Str)) = false := by decide) :
    DS X x (.Raise (some (.Call (.Name nm p) [.Constant (.str m) j p2] [] pos)) none pos') (fun ρ => .ex c [] ρ) :=
  .of (L2N.ps_raise ct.calm ct.tk (L2N.pmk_own F q gC kC (raises_own h1 h2) hg hdb)) (ss_raise0 (g := x.g X))
end
/-! ### try -/
def sTryF (i : Nat) (catch_ : Str → Option Bool) (fb : Env → Res (Fl × Env)) (fh : Str → List (Str × P) → Env → Res (SuR × Env)) : Env → Res (Fl × Env) := fun ρ => match fb ρ with
  | .ok a => .ok a
  | .bad => .bad
  | .ex c fs ρ1 => match catch_ c with
    | some false => .ex c fs ρ1
    | none => .bad
    | some true => if i < ρ1.length then (match fh c fs (ρ1.set i (some (.p (.nd .exc [])))) with
      | .ok (.nx, _) => .ok (.nx, ρ1.set i none)
      | .ok (.bk, _) => .ok (.bk, ρ1.set i none)
      | .ok (.ct, _) => .ok (.ct, ρ1.set i none)
      | .ok (.rt d, _) => if d.nx = true then .ok (.rt (.p d), ρ1.set i none) else .bad
      | _ => .bad) else .bad
section
variable {K : PySem.W.Frag} {cl : Str → Addr} {io : List Nat} {wx : WX} {tb : WX → TS} {fb : Env → Res (Fl × Env)} {fh : Str → List (Str × P) → Env → Res (SuR × Env)} {i : Nat} {catch_ : Str → Option Bool} {cv : Value}
theorem ss_tryAs {ts : Addr → Value → Option Addr → TS} (hb : ∀ W, SS io ⟨K, cl, none⟩ W (tb W) fb) (hc : ∀ c b, catch_ c = some b → PySem.W.exmOne K (.ref (cl c)) cv = some b) (hi : hasN i io = false)
    (hs : ∀ (a : Addr) (c : Str) (d : Option Addr) (fvs : List (Str × V)) (fs : List (Str × P)) (D : Ends) (σ : St) (H : Hp), (fs = [] ∨ ∃ dd, d = some dd) → tU ⟨K, cl, some ⟨a, d, fvs, fs⟩⟩ (fh c fs) D σ H → ts a (.ref (cl c)) d D σ H) :
    SS io ⟨K, cl, none⟩ wx (fun D σ H => tb (wAs K cv i ts wx D) D σ H) (sTryF i catch_ fb fh) := by
  intro Z σ ρ H W D st post
  refine hb _ Z σ ρ H W D st ?_
  unfold sTryF at post
  cases e : fb ρ with
  | bad => rw [e] at post; exact post
  | ok a => rw [e] at post; exact post
  | ex c fs ρ1 =>
    rw [e] at post
    intro σ' cls d H' W' f pin len st' ed
    obtain ⟨ec, ed2⟩ := id ed
    subst ec
    have post1 : PostS io ⟨K, cl, none⟩ wx Z σ H W (match catch_ c with
      | some false => .ex c fs ρ1
      | none => .bad
      | some true => if i < ρ1.length then (match fh c fs (ρ1.set i (some (.p (.nd .exc [])))) with
        | .ok (.nx, _) => .ok (.nx, ρ1.set i none)
        | .ok (.bk, _) => .ok (.bk, ρ1.set i none)
        | .ok (.ct, _) => .ok (.ct, ρ1.set i none)
        | .ok (.rt d, _) => if d.nx = true then .ok (.rt (.p d), ρ1.set i none) else .bad
        | _ => .bad) else .bad) D := post
    cases ek : catch_ c with
    | none => rw [ek] at post1; exact post1.elim
    | some b =>
      rw [ek] at post1
      refine ⟨b, hc c b ek, fun hb => ?_, fun hb => ?_⟩
      · subst hb
        intro a na
        dsimp only at post1
        split at post1
        · rename_i hl
          obtain ⟨fvs, W3, f3, sub3, st3, st2⟩ := st'.suite (a := a) (i := i) ed hl
          refine hs a c d fvs fs _ _ _ (ed2.elim (fun q => .inl q.1) fun ⟨dd, _, q, _⟩ => .inr ⟨dd, q⟩) ⟨Z, _, W3, st2, ?_⟩
          have set2 : ∀ {x y : Option V}, (σ'.set i x).set i y = σ'.set i y := by intro x y; simp
          have pin2 : Pin io (σ'.set i none) σ := (Pin.set hi).trans pin
          have len2 : (σ'.set i none).length = σ.length := by simp [len]
          cases eh : fh c fs (ρ1.set i (some (.p (.nd .exc [])))) with
          | bad => rw [eh] at post1; exact post1.elim
          | ex c' fs' ρ2 => rw [eh] at post1; exact post1.elim
          | ok r =>
            obtain ⟨u, ρ2⟩ := r
            rw [eh] at post1
            cases u with
            | nx =>
              intro H3 s3
              show D.nx _ _
              rw [set2]
              exact post1 _ H3 W3 ((f.trans f3).trans (.same s3)) pin2 len2 (st3.same s3)
            | bk =>
              intro H3 s3
              show D.bk _ _
              rw [set2]
              exact post1 _ H3 W3 ((f.trans f3).trans (.same s3)) pin2 len2 (st3.same s3)
            | ct =>
              intro H3 s3
              show D.ct _ _
              rw [set2]
              exact post1 _ H3 W3 ((f.trans f3).trans (.same s3)) pin2 len2 (st3.same s3)
            | rt d' =>
              intro v H3 s3 pv
              dsimp only at post1
              split at post1
              · rename_i hx
                refine post1 (σ'.set i none) H3 W3 ((f.trans f3).trans (.same s3)) pin2 len2 v ?_
                refine (sta0 (st3.same s3)).push (by simpa using st'.length) ?_
                exact pv.unreg _ hx
              · exact post1.elim
        · exact post1.elim
      · subst hb
        exact post1 σ' _ d H' W' f pin len st' ed
end
section
variable {X : Cx} {cl : Str → Addr} {io : List Nat} {wx : WX} {k i : Nat} {n nm : Str} {cv : Value} {body suite : List Stmt} {b₀ : Stmt} {np pos pos' : Pos} {fb : Env → Res (Fl × Env)} {fh : Str → List (Str × P) → Env → Res (SuR × Env)} {catch_ : Str → Option Bool}
theorem Cb.tr {W W' : WX} {ev ev' : Option Ev} {pn : List (Addr × Obj)} {xe : Value → Shared → Prop} (c : Cb X ⟨cl, io, W, ev⟩) : Cb (X.tr pn xe) ⟨cl, io, W', ev'⟩ := ⟨c.hu, c.nd, c.fr⟩
theorem Cb.su {W W' : WX} {ev ev' : Option Ev} {pn : List (Addr × Obj)} {a : Addr} (c : Cb X ⟨cl, io, W, ev⟩) : Cb (X.suite a pn) ⟨cl, io, W', ev'⟩ := ⟨c.hu, c.nd, c.fr⟩
/-- what is known within a suite -/
structure Su (X : Cx) (cl : Str → Addr) (k : Nat) (a : Addr) (oe : Obj) (pn : List (Addr × Obj)) (c : Str) (d : Option Addr) (fs : List (Str × P)) : Prop where
  z : Zc (.ref (cl c)) d oe
  f : ∃ vs, oe.data = .fields vs
  n : fs = [] ∨ ∃ dd, d = some dd
  hot : L2H.HotC (X.suite a ((a, oe) :: pn))
  room : L2H.RoomH k (X.suite a ((a, oe) :: pn)).A
theorem sTryAs (ct : Ct X ⟨cl, io, wx, none⟩) (r : Room k X.A) (i : Nat) (hc : Names X nm cv) (hcat : ∀ c b, catch_ c = some b → PySem.W.exmOne X.K (.ref (cl c)) cv = some b)
    (hb : ∀ (W : WX) (pn : List (Addr × Obj)) (xe : Value → Shared → Prop), Ct (X.tr pn xe) ⟨cl, io, W, none⟩ → Room k (X.tr pn xe).A → DSs (X.tr pn xe) ⟨cl, io, W, none⟩ body fb)
    (hsu : ∀ (a : Addr) (oe : Obj) (pn : List (Addr × Obj)) (c : Str) (d : Option Addr) (fvs : List (Str × V)) (fs : List (Str × P)), Su X cl k a oe pn c d fs → Cb (X.suite a ((a, oe) :: pn)) ⟨cl, io, noX, some ⟨a, d, fvs, fs⟩⟩ →
      DU (X.suite a ((a, oe) :: pn)) ⟨cl, io, noX, some ⟨a, d, fvs, fs⟩⟩ (b₀ :: suite) (fh c fs))
    (hN : X.N[i]? = some n := by rfl) (hi : hasN i io = false := by rfl) (hs : X.stack = X.env :: X.outer := by rfl) (hf : X.env.frame = some X.env.locals := by rfl) (hln : X.env.kindOf n = some .local := by rfl) :
    DS X ⟨cl, io, wx, none⟩ (.Try body [.ExceptHandler (some (.Name nm np)) (some n) (b₀ :: suite) pos'] [] [] pos) (sTryF i catch_ fb fh) := by
  refine .of (L2N.ps_try_as (ts := fun a cls d D σ H => ∃ c fvs fs, cls = .ref (cl c) ∧ (fs = [] ∨ ∃ dd, d = some dd) ∧ tU ⟨X.K, cl, some ⟨a, d, fvs, fs⟩⟩ (fh c fs) D σ H) hs hf ct.b.nd hN hln hc ct.tk
    (fun W pn xe tk ps => (hb W pn xe ⟨ct.b.tr, ct.calm, tk, ps⟩ r).ps) fun a oe cls d pn hz hfl => ?_) (ss_tryAs (fun W => ss_self) hcat hi fun a c d fvs fs D σ H hn h => ⟨c, fvs, fs, rfl, hn, h⟩)
  refine ⟨fun pins s σ H D I ⟨c, fvs, fs, ec, hn, h⟩ => ?_⟩
  subst ec
  obtain ⟨vs, hd⟩ := id hfl
  exact (hsu a oe pn c d fvs fs ⟨hz.zc, hfl, hn, ⟨(a, oe), ⟨rfl, vs, hd, hz.2.2 vs hd⟩, List.mem_cons_self⟩, L2H.roomH_mark r _⟩ ct.b.su).ps.run pins s σ H D I h
end
end DL

/-! built-in functions, slices, stars, methods of lists -/
namespace DL
open PySem PySem.Spec L2

/-! ### new lists -/
def NewA (g : Gx) (r : List V → Hp → VK → Prop) (op : List P → Option (List P)) : Prop :=
  ∀ (H : Hp) (B : AP) (vs : List V) (ds ks : List P) (Q : VK), PAllt g H B vs ds → op ds = some ks → (∀ p vs', H p = none → PAll g H B vs' ks → Q (.ref p) (upd H p (.lst vs'))) → r vs H Q
def NewB (g : Gx) (r : R2) (op : P → P → Option (List P)) : Prop :=
  ∀ (H : Hp) (B : AP) (x y : V) (dx dy : P) (ks : List P) (Q : VK), PDt g H B x dx → PDt g H B y dy → op dx dy = some ks → (∀ p vs', H p = none → PAll g H B vs' ks → Q (.ref p) (upd H p (.lst vs'))) → r x y H Q
def asL (op : List P → Option (List P)) : List P → Option P := fun ds => (op ds).map (.nd .lst)
def oBi (op : List P → Option (List P)) (fr : Env → Res (List P × Env)) : Env → Res (O × Env) := fun ρ => (fr ρ).bind fun a => match op a.1 with
  | some ks => .ok (.nd .lst (ks.map .p), a.2)
  | none => .bad
def oBin (op : P → P → Option (List P)) (fa fb : Env → Res (P × Env)) : Env → Res (O × Env) := fun ρ => (fa ρ).bind fun a => (fb a.2).bind fun b => match op a.1 b.1 with
  | some ks => .ok (.nd .lst (ks.map .p), b.2)
  | none => .bad
section
variable {g : Gx} {wx : WX} {Z W : AP} {σ τ : St} {ρ θ : Env} {H : Hp} {b1 b2 z1 z2 : Bool} {B : AP}
theorem NewA.co {r : List V → Hp → VK → Prop} {op : List P → Option (List P)} (h : NewA g r op) : CoS g r (asL op) := by
  intro H B vs ds z Q hb pv e k
  obtain ⟨ks, e1, rfl⟩ := Option.map_eq_some_iff.mp e
  exact h H B vs ds ks Q pv e1 fun p vs' np hp => k _ _ (same_new np) (PDn.new hb np upd_same hp)
theorem so_bi {ta : TA} {fr : Env → Res (List P × Env)} {r : List V → Hp → VK → Prop} {op : List P → Option (List P)} (sa : SA b1 z1 g wx ta fr) (h : NewA g r op) : SO g wx (tCB r ta) (oBi op fr) := by
  intro Z σ τ ρ θ H W Q hl st post
  refine sa_then sa hl st (fun e => by unfold oBi at post; rw [e] at post; exact post) (fun c fs ρ1 e => by unfold oBi at post; rw [e] at post; exact post) fun ds ρ1 vs H1 W1 e l1 f1 q1 st1 pv => ?_
  unfold oBi at post
  rw [e] at post
  have post1 : PostO g wx Z σ τ θ H W (match op ds with | some ks => .ok (.nd .lst (ks.map .p), ρ1) | none => .bad) Q := post
  cases eo : op ds with
  | none => rw [eo] at post1; exact post1.elim
  | some ks =>
    rw [eo] at post1
    refine h H1 _ vs ds ks Q pv.t eo fun p vs' np hp => ?_
    obtain ⟨W', f', st'⟩ := st1.new (t := .lst) (u := .lst vs') l1 np rfl upd_same hp
    exact post1 _ _ W' (f1.trans f') st'
theorem so_bin {r : R2} {op : P → P → Option (List P)} {ta tb : TE} {fa fb : Env → Res (P × Env)} (sa : SE b1 z1 g wx ta fa) (sb : SE b2 z2 g wx tb fb) (hz : (z1 || b2) = true) (h : NewB g r op) : SO g wx (tOp r ta tb) (oBin op fa fb) := by
  intro Z σ τ ρ θ H W Q hl st post
  refine se_then sa hl st (fun e => by unfold oBin at post; rw [e] at post; exact post) (fun c fs ρ1 e => by unfold oBin at post; rw [e] at post; exact post) fun d1 ρ1 v1 H1 W1 e l1 f1 q1 st1 pv1 => ?_
  unfold oBin at post
  rw [e] at post
  have p1 : PostO g wx Z σ τ θ H W ((fb ρ1).bind fun b => match op d1 b.1 with | some ks => .ok (.nd .lst (ks.map .p), b.2) | none => .bad) Q := post
  have p2 := PostO.shift p1 f1
  refine se_then sb l1 st1 (fun e => by rw [e] at p2; exact p2) (fun c fs ρ1 e => by rw [e] at p2; exact p2) fun d2 ρ2 v2 H2 W2 e2 l2 f2 q2 st2 pv2 => ?_
  rw [e2] at p2
  have p3 : PostO g wx Z σ τ θ H1 W1 (match op d1 d2 with | some ks => .ok (.nd .lst (ks.map .p), ρ2) | none => .bad) Q := p2
  cases eo : op d1 d2 with
  | none => rw [eo] at p3; exact p3.elim
  | some ks =>
    rw [eo] at p3
    have px : PDt g H2 (bad W2 Z) v1 d1 := by
      cases z1 with
      | true => exact .f (PDn.fr (show PDn g H1 (bad W1 Z) v1 d1 from pv1) f2)
      | false =>
        have e2 : b2 = true := by simpa using hz
        obtain ⟨eW, sm⟩ := q2 e2
        subst eW
        exact (show PDt g H1 (bad W2 Z) v1 d1 from pv1).same sm
    refine h H2 _ v1 v2 d1 d2 ks Q px pv2.t eo fun p vs' np hp => ?_
    obtain ⟨W', f', st'⟩ := st2.new (t := .lst) (u := .lst vs') l2 np rfl upd_same hp
    exact p3 _ _ W' (f2.trans f') st'
/-! ### the functions -/
def cLen : List P → Option P
  | [.s (.str y)] => if y.length ≤ sizeLine then some (.s (.int y.length)) else none
  | [.nd .lst ks] => some (.s (.int ks.length))
  | [.nd .slst ks] => some (.s (.int ks.length))
  | [.nd .tup ks] => some (.s (.int ks.length))
  | [.nd (.dct kk) _] => some (.s (.int kk.length))
  | _ => none
def cInt : List P → Option P
  | [.s (.int i)] => some (.s (.int i))
  | [.s (.bl k)] => some (.s (.int (if k then 1 else 0)))
  | [.s (.str a)] => if a.length ≤ 640 then (PySem.intText? a).map fun n => .s (.int n) else none
  | _ => none
def cBool : List P → Option P
  | [.s (.int i)] => some (.s (.bl (i != 0)))
  | [.s (.bl k)] => some (.s (.bl k))
  | [.nd .lst ks] => some (.s (.bl (!ks.isEmpty)))
  | _ => none
def cStr : List P → Option P
  | [.s (.int i)] => if i.natAbs.log2 < 1920 then some (.s (.str (toString i))) else none
  | [.s (.str a)] => some (.s (.str a))
  | _ => none
def cAbs : List P → Option P
  | [.s (.int i)] => some (.s (.int (if i < 0 then -i else i)))
  | _ => none
def cMax2 : List P → Option P
  | [.s (.int i), .s (.int j)] => some (.s (.int (if j > i then j else i)))
  | _ => none
def cMin2 : List P → Option P
  | [.s (.int i), .s (.int j)] => some (.s (.int (if j < i then j else i)))
  | _ => none
def cList : List P → Option (List P)
  | [.nd .lst ks] => some ks
  | [.nd .slst ks] => some ks
  | [.nd .tup ks] => some ks
  | _ => none
def cTuple : List P → Option P
  | [.nd .lst ks] => some (.nd .tup ks)
  | [.nd .slst ks] => some (.nd .tup ks)
  | [.nd .tup ks] => some (.nd .tup ks)
  | _ => none
def P.ty : P → Option String
  | .s (.int _) => some "int"
  | .s (.bl _) => some "bool"
  | .s (.str _) => some "str"
  | .s .non => some "NoneType"
  | .nd .lst _ => some "list"
  | .nd .slst _ => some "list"
  | .nd .tup _ => some "tuple"
  | .nd (.dct _) _ => some "dict"
  | _ => none
def tyIs (a b : String) : Option Bool := if b = "int" then some (a == "int" || a == "bool") else if b = "bool" ∨ b = "str" ∨ b = "list" ∨ b = "tuple" ∨ b = "dict" then some (a == b) else none
def cIsi : List P → Option P
  | [d, .s (.ty n)] => (d.ty).bind fun a => (tyIs a n).map fun k => .s (.bl k)
  | _ => none
theorem pat_s {vs : List V} {v : V} (h : PAllt g H B vs [.s v]) : vs = [v] := by
  obtain ⟨w, rfl, hw⟩ := pat1 h
  rw [hw.s]
theorem PDt.seq {v : V} {t : Tg} {ks : List P} (h : PDt g H B v (.nd t ks)) (ht : t = .lst ∨ t = .slst ∨ t = .tup) : ∃ a vs, v = .ref a ∧ (SqL g.K H a vs ∨ SqT g.K H a vs) ∧ PAll g H B vs ks := by
  rcases ht with rfl | rfl | rfl
  · obtain ⟨a, vs, e, h1, h2⟩ := h.seqL rfl
    exact ⟨a, vs, e, .inl h1, h2⟩
  · obtain ⟨a, vs, e, h1, h2⟩ := h.seqL rfl
    exact ⟨a, vs, e, .inl h1, h2⟩
  · obtain ⟨a, vs, e, h1, h2⟩ := h.tup
    exact ⟨a, vs, e, .inr h1, h2⟩
abbrev rLen (K : PySem.W.Frag) : List V → Hp → VK → Prop := fun xs H Q => (∃ x n, xs = [x] ∧ LenV K x H n ∧ Q (.int n) H) ∨ (∃ a kvs, xs = [V.ref a] ∧ H a = some (.dK kvs) ∧ Q (.int kvs.length) H)
theorem cs_len {K : PySem.W.Frag} (hK : g.K = K) : CoS g (rLen K) cLen := by
  subst hK
  intro H B vs ds z Q hb pv e k
  have fin : ∀ {t : Tg} {ks : List P}, ds = [.nd t ks] → (t = .lst ∨ t = .slst ∨ t = .tup) → z = .s (.int ks.length) → rLen g.K vs H Q := by
    intro t ks e1 ht ez
    subst e1 ez
    obtain ⟨v, rfl, h⟩ := pat1 pv
    obtain ⟨a, xs, rfl, hs, hp⟩ := h.seq ht
    refine .inl ⟨.ref a, xs.length, rfl, hs.imp (fun q => ⟨xs, q, rfl⟩) fun q => ⟨xs, q, rfl⟩, ?_⟩
    rw [hp.length]
    exact k _ H (Same.refl H) (.s _)
  unfold cLen at e
  split at e
  · split at e
    · rename_i y hy
      cases e
      obtain rfl := pat_s pv
      exact .inl ⟨.str y, y.length, rfl, ⟨hy, rfl⟩, k _ H (Same.refl H) (.s _)⟩
    · cases e
  · exact fin rfl (.inl rfl) (by cases e; rfl)
  · exact fin rfl (.inr (.inl rfl)) (by cases e; rfl)
  · exact fin rfl (.inr (.inr rfl)) (by cases e; rfl)
  · rename_i kk ks
    cases e
    obtain ⟨v, rfl, h⟩ := pat1 pv
    obtain ⟨a, xs, rfl, hl, _, ea, _⟩ := h.dct
    refine .inr ⟨a, _, rfl, ea, ?_⟩
    rw [List.length_zip, ← hl, Nat.min_self]
    exact k _ H (Same.refl H) (.s _)
  · cases e
abbrev rInt : List V → Hp → VK → Prop := fun xs H Q => ((∃ i, xs = [.int i] ∧ Q (.int i) H) ∨ ∃ k, xs = [.bl k] ∧ Q (.int (if k then 1 else 0)) H) ∨ (∃ a n, xs = [.str a] ∧ PySem.intText? a = some n ∧ a.length ≤ 640 ∧ Q (.int n) H)
theorem cs_int : CoS g rInt cInt := by
  intro H B vs ds z Q hb pv e k
  unfold cInt at e
  split at e
  · cases e
    obtain rfl := pat_s pv
    exact .inl (.inl ⟨_, rfl, k _ H (Same.refl H) (.s _)⟩)
  · cases e
    obtain rfl := pat_s pv
    exact .inl (.inr ⟨_, rfl, k _ H (Same.refl H) (.s _)⟩)
  · split at e
    · rename_i a ha
      obtain ⟨n, e1, rfl⟩ := Option.map_eq_some_iff.mp e
      obtain rfl := pat_s pv
      exact .inr ⟨a, n, rfl, e1, ha, k _ H (Same.refl H) (.s _)⟩
    · cases e
  · cases e
abbrev rBool (K : PySem.W.Frag) : List V → Hp → VK → Prop := fun xs H Q => ((∃ i, xs = [.int i] ∧ Q (.bl (i != 0)) H) ∨ ∃ k, xs = [.bl k] ∧ Q (.bl k) H) ∨ (∃ (a : Addr) (zs : List V), xs = [.ref a] ∧ SqL K H a zs ∧ Q (.bl (!zs.isEmpty)) H)
theorem cs_bool {K : PySem.W.Frag} (hK : g.K = K) : CoS g (rBool K) cBool := by
  subst hK
  intro H B vs ds z Q hb pv e k
  unfold cBool at e
  split at e
  · cases e
    obtain rfl := pat_s pv
    exact .inl (.inl ⟨_, rfl, k _ H (Same.refl H) (.s _)⟩)
  · cases e
    obtain rfl := pat_s pv
    exact .inl (.inr ⟨_, rfl, k _ H (Same.refl H) (.s _)⟩)
  · cases e
    obtain ⟨v, rfl, h⟩ := pat1 pv
    obtain ⟨a, xs, rfl, hs, hp⟩ := h.seqL rfl
    refine .inr ⟨a, xs, rfl, hs, ?_⟩
    rw [isE hp.length]
    exact k _ H (Same.refl H) (.s _)
  · cases e
abbrev rStr : List V → Hp → VK → Prop := fun xs H Q => (∃ i, xs = [.int i] ∧ i.natAbs.log2 < 1920 ∧ Q (.str (toString i)) H) ∨ (∃ a, xs = [.str a] ∧ Q (.str a) H)
theorem cs_str : CoS g rStr cStr := by
  intro H B vs ds z Q hb pv e k
  unfold cStr at e
  split at e
  · split at e
    · rename_i i hi
      cases e
      obtain rfl := pat_s pv
      exact .inl ⟨_, rfl, hi, k _ H (Same.refl H) (.s _)⟩
    · cases e
  · cases e
    obtain rfl := pat_s pv
    exact .inr ⟨_, rfl, k _ H (Same.refl H) (.s _)⟩
  · cases e
theorem cs_abs : CoS g (fun xs H Q => ∃ i, xs = [.int i] ∧ Q (.int (if i < 0 then -i else i)) H) cAbs := by
  intro H B vs ds z Q hb pv e k
  unfold cAbs at e
  split at e
  · cases e
    obtain rfl := pat_s pv
    exact ⟨_, rfl, k _ H (Same.refl H) (.s _)⟩
  · cases e
theorem pat_s2 {vs : List V} {v w : V} (h : PAllt g H B vs [.s v, .s w]) : vs = [v, w] := by
  obtain ⟨v', w', rfl, h1, h2⟩ := pat2 h
  rw [h1.s, h2.s]
theorem cs_max2 : CoS g (fun xs H Q => ∃ i j, xs = [.int i, .int j] ∧ Q (.int (if j > i then j else i)) H) cMax2 := by
  intro H B vs ds z Q hb pv e k
  unfold cMax2 at e
  split at e
  · cases e
    obtain rfl := pat_s2 pv
    exact ⟨_, _, rfl, k _ H (Same.refl H) (.s _)⟩
  · cases e
theorem cs_min2 : CoS g (fun xs H Q => ∃ i j, xs = [.int i, .int j] ∧ Q (.int (if j < i then j else i)) H) cMin2 := by
  intro H B vs ds z Q hb pv e k
  unfold cMin2 at e
  split at e
  · cases e
    obtain rfl := pat_s2 pv
    exact ⟨_, _, rfl, k _ H (Same.refl H) (.s _)⟩
  · cases e
theorem na_list {K : PySem.W.Frag} (hK : g.K = K) : NewA g (fun xs H Q => ∃ p ys, xs = [.ref p] ∧ (SqL K H p ys ∨ SqT K H p ys) ∧ ∀ l, H l = none → Q (.ref l) (upd H l (.lst ys))) cList := by
  subst hK
  intro H B vs ds ks Q pv e k
  have fin : ∀ {t : Tg}, ds = [.nd t ks] → (t = .lst ∨ t = .slst ∨ t = .tup) → ∃ p ys, vs = [.ref p] ∧ (SqL g.K H p ys ∨ SqT g.K H p ys) ∧ ∀ l, H l = none → Q (.ref l) (upd H l (.lst ys)) := by
    intro t e1 ht
    subst e1
    obtain ⟨v, rfl, h⟩ := pat1 pv
    obtain ⟨a, xs, rfl, hs, hp⟩ := h.seq ht
    exact ⟨a, xs, rfl, hs, fun l nl => k l xs nl hp⟩
  unfold cList at e
  split at e
  · cases e; exact fin rfl (.inl rfl)
  · cases e; exact fin rfl (.inr (.inl rfl))
  · cases e; exact fin rfl (.inr (.inr rfl))
  · cases e
/-- a tuple that stays itself is described as it was -/
theorem cs_tuple {K : PySem.W.Frag} (hK : g.K = K) : CoS g (fun xs H Q => ∃ p ys, xs = [.ref p] ∧ ((SqL K H p ys ∧ ∀ l, H l = none → Q (.ref l) (upd H l (.tup ys))) ∨ (SqT K H p ys ∧ Q (.ref p) H))) cTuple := by
  subst hK
  intro H B vs ds z Q hb pv e k
  have fin : ∀ {t : Tg} {ks : List P}, ds = [.nd t ks] → t.isL = true → z = .nd .tup ks → ∃ p ys, vs = [.ref p] ∧ ((SqL g.K H p ys ∧ ∀ l, H l = none → Q (.ref l) (upd H l (.tup ys))) ∨ (SqT g.K H p ys ∧ Q (.ref p) H)) := by
    intro t ks e1 ht ez
    subst e1 ez
    obtain ⟨v, rfl, h⟩ := pat1 pv
    obtain ⟨a, xs, rfl, hs, hp⟩ := h.seqL ht
    exact ⟨a, xs, rfl, .inl ⟨hs, fun l nl => k _ _ (same_new nl) (PDn.new hb nl (.inl upd_same) hp)⟩⟩
  unfold cTuple at e
  split at e
  · cases e; exact fin rfl rfl rfl
  · cases e; exact fin rfl rfl rfl
  · cases e
    obtain ⟨v, rfl, h⟩ := pat1 pv
    obtain ⟨a, xs, e1, hs, hp⟩ := h.tup
    rename_i ks0
    have hf : PDn g H B v (.nd .tup ks0) := by
      cases h with
      | f h => exact h
      | t m _ _ => cases m
    subst e1
    exact ⟨a, xs, rfl, .inr ⟨hs, k _ H (Same.refl H) hf⟩⟩
  · cases e
theorem ty_of {d : P} {v : V} {a : String} (h : PDt g H B v d) (e : d.ty = some a) : TyX g.K H v (.type a) := by
  cases d with
  | s w =>
    have := h.s
    subst this
    cases v <;> simp [P.ty] at e <;> subst e <;> exact .base (by constructor)
  | nd t ks =>
    have seq : ∀ {a : Addr} {xs : List V}, SqL g.K H a xs → TyX g.K H (.ref a) (.type "list") := by
      intro a xs h
      rcases h with (h | ⟨o, h⟩) | ⟨o, its, n, h1, h2, _⟩
      · exact .base (.lst h)
      · exact .base (.frz h)
      · exact .kList h1 h2
    cases t with
    | lst =>
      cases e
      obtain ⟨b, xs, rfl, hs, _⟩ := h.seqL rfl
      exact seq hs
    | slst =>
      cases e
      obtain ⟨b, xs, rfl, hs, _⟩ := h.seqL rfl
      exact seq hs
    | tup =>
      cases e
      obtain ⟨b, xs, rfl, hs, _⟩ := h.tup
      rcases hs with (h | ⟨o, h⟩) | ⟨o, its, n, h1, h2, _⟩
      · exact .base (.tup h)
      · exact .fTuple h
      · exact .kTuple h1 h2
    | dct kk =>
      cases e
      obtain ⟨b, xs, rfl, _, _, hs, _⟩ := h.dct
      exact .base (.dK hs)
    | ins _ _ => cases e
    | exc => cases e
theorem tyIs_ok {K : PySem.W.Frag} {d : P} {a b : String} {r : Bool} (h : d.ty = some a) (e : tyIs a b = some r) : PySem.W.kitOne K (.type a) (.type b) = some r := by
  have ha : a = "int" ∨ a = "bool" ∨ a = "str" ∨ a = "NoneType" ∨ a = "list" ∨ a = "tuple" ∨ a = "dict" := by
    unfold P.ty at h
    split at h <;> simp at h <;> simp [← h]
  unfold tyIs at e
  refine kit_ty ?_
  split at e
  · rename_i hb
    subst hb
    cases e
    rcases ha with rfl | rfl | rfl | rfl | rfl | rfl | rfl <;> decide +kernel
  · split at e
    · rename_i hb
      cases e
      rcases hb with rfl | rfl | rfl | rfl | rfl <;> rcases ha with rfl | rfl | rfl | rfl | rfl | rfl | rfl <;> decide +kernel
    · cases e
theorem cs_isi {K : PySem.W.Frag} (hK : g.K = K) : CoS g (rIsi K) cIsi := by
  subst hK
  intro H B vs ds z Q hb pv e k
  unfold cIsi at e
  split at e
  · rename_i d n
    obtain ⟨a, e1, e2⟩ := Option.bind_eq_some_iff.mp e
    obtain ⟨r, e3, rfl⟩ := Option.map_eq_some_iff.mp e2
    obtain ⟨v, w, rfl, h1, h2⟩ := pat2 pv
    have := h2.s
    subst this
    exact ⟨v, .ty n, _, _, r, rfl, .ty n, ty_of h1 e1, tyIs_ok e1 e3, k _ H (Same.refl H) (.s _)⟩
  · cases e
end
section
variable {X : Cx} {x : Bx} {p pos : Pos} {e : Expr} {es : List Expr} {b z : Bool} {fr : Env → Res (List P × Env)}
theorem fLen (c : Cb X x) (ha : DA X x b z (e :: es) fr) (hg : Gl X "len" := by rfl) (he : starEach (e :: es) X.env = (false, eval e X.env) :: starEach es X.env := by rfl) (hpl : (backTo pos (starEach es X.env)).any (·.1) = false := by rfl) :
    DE X x b true (.Call (.Name "len" p) (e :: es) [] pos) (dBi cLen fr) := dBltnF c (callR_or call_len call_lenD) (cs_len rfl) (by decide) PySem.boot_len ha hg (by decide) (by decide) he hpl
theorem fInt (c : Cb X x) (ha : DA X x b z (e :: es) fr) (hg : Gl X "int" := by rfl) (he : starEach (e :: es) X.env = (false, eval e X.env) :: starEach es X.env := by rfl) (hpl : (backTo pos (starEach es X.env)).any (·.1) = false := by rfl) :
    DE X x b true (.Call (.Name "int" p) (e :: es) [] pos) (dBi cInt fr) := dBltnT c (callR_or call_int1 call_int_str) cs_int (by decide) (by decide +kernel) ha hg (by decide) (by decide) he hpl
theorem fBool (c : Cb X x) (ha : DA X x b z (e :: es) fr) (hg : Gl X "bool" := by rfl) (he : starEach (e :: es) X.env = (false, eval e X.env) :: starEach es X.env := by rfl) (hpl : (backTo pos (starEach es X.env)).any (·.1) = false := by rfl) :
    DE X x b true (.Call (.Name "bool" p) (e :: es) [] pos) (dBi cBool fr) := dBltnT c (callR_or call_bool1 call_boolL) (cs_bool rfl) (by decide) (by decide +kernel) ha hg (by decide) (by decide) he hpl
theorem fStr (c : Cb X x) (ha : DA X x b z (e :: es) fr) (hg : Gl X "str" := by rfl) (he : starEach (e :: es) X.env = (false, eval e X.env) :: starEach es X.env := by rfl) (hpl : (backTo pos (starEach es X.env)).any (·.1) = false := by rfl) :
    DE X x b true (.Call (.Name "str" p) (e :: es) [] pos) (dBi cStr fr) := dBltnT c (callR_or call_str_int SkE.call_str_str) cs_str (by decide) (by decide +kernel) ha hg (by decide) (by decide) he hpl
theorem fAbs (c : Cb X x) (ha : DA X x b z (e :: es) fr) (hg : Gl X "abs" := by rfl) (he : starEach (e :: es) X.env = (false, eval e X.env) :: starEach es X.env := by rfl) (hpl : (backTo pos (starEach es X.env)).any (·.1) = false := by rfl) :
    DE X x b true (.Call (.Name "abs" p) (e :: es) [] pos) (dBi cAbs fr) := dBltnF c call_abs cs_abs (by decide) (by decide +kernel) ha hg (by decide) (by decide) he hpl
theorem fMax2 (c : Ct X x) (ha : DA X x b z (e :: es) fr) (hg : Gl X "max" := by rfl) (he : starEach (e :: es) X.env = (false, eval e X.env) :: starEach es X.env := by rfl) (hpl : (backTo pos (starEach es X.env)).any (·.1) = false := by rfl) :
    DE X x b true (.Call (.Name "max" p) (e :: es) [] pos) (dBi cMax2 fr) := dBltnF c.b (call_max2 c.calm) cs_max2 (by decide) (by decide +kernel) ha hg (by decide) (by decide) he hpl
theorem fMin2 (c : Ct X x) (ha : DA X x b z (e :: es) fr) (hg : Gl X "min" := by rfl) (he : starEach (e :: es) X.env = (false, eval e X.env) :: starEach es X.env := by rfl) (hpl : (backTo pos (starEach es X.env)).any (·.1) = false := by rfl) :
    DE X x b true (.Call (.Name "min" p) (e :: es) [] pos) (dBi cMin2 fr) := dBltnF c.b (call_min2 c.calm) cs_min2 (by decide) (by decide +kernel) ha hg (by decide) (by decide) he hpl
theorem fTuple (c : Cb X x) (ha : DA X x b z (e :: es) fr) (hg : Gl X "tuple" := by rfl) (he : starEach (e :: es) X.env = (false, eval e X.env) :: starEach es X.env := by rfl) (hpl : (backTo pos (starEach es X.env)).any (·.1) = false := by rfl) :
    DE X x b true (.Call (.Name "tuple" p) (e :: es) [] pos) (dBi cTuple fr) := dBltnT c call_tuple_of (cs_tuple rfl) (by decide) (by decide +kernel) ha hg (by decide) (by decide) he hpl
theorem fList (c : Cb X x) (ha : DA X x b z (e :: es) fr) (hg : Gl X "list" := by rfl) (he : starEach (e :: es) X.env = (false, eval e X.env) :: starEach es X.env := by rfl) (hpl : (backTo pos (starEach es X.env)).any (·.1) = false := by rfl) :
    DE X x b true (.Call (.Name "list" p) (e :: es) [] pos) (dBi (asL cList) fr) := dBltnT c call_list_of (na_list rfl).co (by decide) (by decide +kernel) ha hg (by decide) (by decide) he hpl
theorem fListO (c : Cb X x) (ha : DA X x b z (e :: es) fr) (hg : Gl X "list" := by rfl) (he : starEach (e :: es) X.env = (false, eval e X.env) :: starEach es X.env := by rfl) (hpl : (backTo pos (starEach es X.env)).any (·.1) = false := by rfl) :
    DO X x (.Call (.Name "list" p) (e :: es) [] pos) (oBi cList fr) := .of (pe_callTy call_list_of hg (c.fr _ (by decide)) (by decide +kernel) ha.pa (by decide) (by decide) he hpl) (so_bi sa_self (na_list rfl))
theorem fIsi (c : Cb X x) (ha : DA X x b z (e :: es) fr) (hg : Gl X "isinstance" := by rfl) (he : starEach (e :: es) X.env = (false, eval e X.env) :: starEach es X.env := by rfl) (hpl : (backTo pos (starEach es X.env)).any (·.1) = false := by rfl) :
    DE X x b true (.Call (.Name "isinstance" p) (e :: es) [] pos) (dBi cIsi fr) := dBltnF c call_isi (cs_isi rfl) (by decide) (by decide +kernel) ha hg (by decide) (by decide) he hpl
/-- a built-in type as a value -/
theorem dTy (c : Cb X x) {nm : Str} {n : String} (hb : nm ∈ bset := by decide) (hv : bootBuiltins nm = some (.type n) := by decide +kernel) (hg : Gl X nm := by rfl) (hn : nm ≠ "__name__" := by decide) (hd : (nm == ("__debug__" : Str)) = false := by decide) : DE X x true true (.Name nm pos) (dConst (.s (.ty n))) :=
  dBltn hg (c.fr _ hb) hv rfl hn hd
end
end DL

/-! slices, stars, methods of lists -/
namespace DL
open PySem PySem.Spec L2

def cutP (xs : List P) (lo hi : Option Int) : List P := (xs.drop (HT.sIx xs.length 0 lo)).take (HT.sIx xs.length xs.length hi - HT.sIx xs.length 0 lo)
def pSl (d : P) (lo hi : Option Int) : Option P := match d with
  | .nd .lst ks => some (.nd .lst (cutP ks lo hi))
  | .nd .slst ks => some (.nd .lst (cutP ks lo hi))
  | .nd .tup ks => if HT.sIx ks.length 0 lo = 0 ∧ HT.sIx ks.length ks.length hi = ks.length then some (.nd .tup ks) else some (.nd .tup (cutP ks lo hi))
  | .s (.str z) => if z.length ≤ sizeLine then some (.s (.str (cutS z lo hi))) else none
  | _ => none
/-- a bound of a slice -/
def bNo : Env → Res (Option Int × Env) := fun ρ => .ok (none, ρ)
def bSo (fa : Env → Res (P × Env)) : Env → Res (Option Int × Env) := fun ρ => match fa ρ with
  | .ok (.s (.int i), ρ1) => .ok (some i, ρ1)
  | _ => .bad
def slF {α : Type} (fa : Env → Res (P × Env)) (fl fh : Env → Res (Option Int × Env)) (k : P → Option Int → Option Int → Option α) : Env → Res (α × Env) := fun ρ => (fa ρ).bind fun a => match fl a.2 with
  | .ok l => (match fh l.2 with
    | .ok h => (match k a.1 l.1 h.1 with
      | some z => .ok (z, h.2)
      | none => .bad)
    | _ => .bad)
  | _ => .bad
def pSlO (d : P) (lo hi : Option Int) : Option O := match d with
  | .nd .lst ks => some (.nd .lst ((cutP ks lo hi).map .p))
  | .nd .slst ks => some (.nd .lst ((cutP ks lo hi).map .p))
  | _ => none
def dSlF (fa : Env → Res (P × Env)) (fl fh : Env → Res (Option Int × Env)) : Env → Res (P × Env) := slF fa fl fh pSl
def oSlF (fa : Env → Res (P × Env)) (fl fh : Env → Res (Option Int × Env)) : Env → Res (O × Env) := slF fa fl fh pSlO
def PostB (g : Gx) (Z : AP) (σ τ : St) (θ : Env) (H : Hp) (W : AP) : Res (Option Int × Env) → (Option Int → Hp → Prop) → Prop
  | .ok (d, ρ'), Q => ∀ H', Same H H' → Sta g H' Z (σ ++ τ) (ρ' ++ θ) W → Q d H'
  | _, _ => False
/-- bounds are pure -/
def SB (g : Gx) (t : TO) (f : Env → Res (Option Int × Env)) : Prop :=
  ∀ (Z : AP) (σ τ : St) (ρ θ : Env) (H : Hp) (W : AP) (Q : Option Int → Hp → Prop), σ.length = ρ.length → Sta g H Z (σ ++ τ) (ρ ++ θ) W → PostB g Z σ τ θ H W (f ρ) Q → t σ H Q
section
variable {g : Gx} {wx : WX} {b1 z1 : Bool} {H : Hp} {B : AP}
theorem PAll.cut {vs : List V} {ks : List P} (lo hi : Option Int) (h : PAll g H B vs ks) : PAll g H B (cutV vs lo hi) (cutP ks lo hi) := by
  unfold cutV cutP
  rw [h.length]
  exact (h.drop _).take _
theorem sb_no : SB g tNoPart bNo := fun Z σ τ ρ θ H W Q hl st post => post H (Same.refl H) st
theorem sb_so {t : TE} {fa : Env → Res (P × Env)} (sa : SE true z1 g wx t fa) : SB g (tPart t) (bSo fa) := by
  intro Z σ τ ρ θ H W Q hl st post
  refine sa Z σ τ ρ θ H W _ hl st ?_
  unfold bSo at post
  cases e : fa ρ with
  | bad => rw [e] at post; exact post.elim
  | ex c fs ρ1 => rw [e] at post; exact post.elim
  | ok a =>
    obtain ⟨d, ρ1⟩ := a
    rw [e] at post
    intro v H1 W1 f1 q1 st1 pv
    obtain ⟨eW, s1⟩ := q1 rfl
    subst eW
    split at post
    · rename_i i ρ2 ee
      cases ee
      exact ⟨_, pv.t.s, post H1 s1 st1⟩
    · exact post.elim
abbrev rSl3 (K : PySem.W.Frag) : V → Option Int → Option Int → Hp → VK → Prop := fun x lo hi H Q => rSlL K x lo hi H Q ∨ (rSlA K x lo hi H Q ∨ rSlS x lo hi H Q)
theorem se_sl {K : PySem.W.Frag} (hK : g.K = K) {te : TE} {tl th : TO} {fa : Env → Res (P × Env)} {fl fh : Env → Res (Option Int × Env)} (sa : SE b1 z1 g wx te fa) (sl : SB g tl fl) (sh : SB g th fh) {α : Type} (k : P → Option Int → Option Int → Option α) (ρ' : Env → Res (α × Env))
    {Z : AP} {σ τ : St} {ρ θ : Env} {H : Hp} {W : AP} {Q : VK} (hl : σ.length = ρ.length) (st : Sta g H Z (σ ++ τ) (ρ ++ θ) W)
    (hb : slF fa fl fh k ρ = .bad → False) (hx : ∀ c fs ρ1, slF fa fl fh k ρ = .ex c fs ρ1 → ∀ cls d H' W', Fr W H W' H' → Sta g H' Z (σ ++ τ) (ρ1 ++ θ) W' → ExD g H' (bad W' Z) c fs cls d → wx cls d σ H')
    {r : V → Option Int → Option Int → Hp → VK → Prop}
    (hk : ∀ d lo hi z ρ3 v H3 W1, k d lo hi = some z → slF fa fl fh k ρ = .ok (z, ρ3) → σ.length = ρ3.length → Fr W H W1 H3 → (b1 = true → W1 = W ∧ Same H H3) → Sta g H3 Z (σ ++ τ) (ρ3 ++ θ) W1 → PDx z1 g H3 (bad W1 Z) v d → r v lo hi H3 Q) : tSl r te tl th σ H Q := by
  refine se_then sa hl st (fun e => hb (by unfold slF; rw [e]; rfl)) (fun c fs ρ1 e => hx c fs ρ1 (by unfold slF; rw [e]; rfl)) fun d ρ1 v H1 W1 e l1 f1 q1 st1 pv => ?_
  refine sl Z σ τ ρ1 θ H1 W1 _ l1 st1 ?_
  cases e2 : fl ρ1 with
  | bad => exact (hb (by unfold slF; rw [e]; show (match fl ρ1 with | .ok l => _ | _ => Res.bad) = _; rw [e2])).elim
  | ex c fs ρ2 => exact (hb (by unfold slF; rw [e]; show (match fl ρ1 with | .ok l => _ | _ => Res.bad) = _; rw [e2])).elim
  | ok a2 =>
    obtain ⟨lo, ρ2⟩ := a2
    intro H2 s2 st2
    have l2 := len_tail l1 st1 st2
    refine sh Z σ τ ρ2 θ H2 W1 _ l2 st2 ?_
    cases e3 : fh ρ2 with
    | bad => exact (hb (by unfold slF; rw [e]; show (match fl ρ1 with | .ok l => _ | _ => Res.bad) = _; rw [e2]; show (match fh ρ2 with | .ok h => _ | _ => Res.bad) = _; rw [e3])).elim
    | ex c fs ρ3 => exact (hb (by unfold slF; rw [e]; show (match fl ρ1 with | .ok l => _ | _ => Res.bad) = _; rw [e2]; show (match fh ρ2 with | .ok h => _ | _ => Res.bad) = _; rw [e3])).elim
    | ok a3 =>
      obtain ⟨hi, ρ3⟩ := a3
      intro H3 s3 st3
      have s13 := s2.trans s3
      have ek : slF fa fl fh k ρ = (match k d lo hi with | some z => .ok (z, ρ3) | none => .bad) := by
        unfold slF
        rw [e]
        show (match fl ρ1 with | .ok l => _ | _ => Res.bad) = _
        rw [e2]
        show (match fh ρ2 with | .ok h => _ | _ => Res.bad) = _
        rw [e3]
      cases ez : k d lo hi with
      | none => rw [ez] at ek; exact (hb ek).elim
      | some z =>
        rw [ez] at ek
        refine hk d lo hi z ρ3 v H3 W1 ez ek (len_tail l2 st2 st3) (f1.trans (.same s13)) (fun hb => ⟨(q1 hb).1, (q1 hb).2.trans s13⟩) st3 ?_
        cases z1 with
        | true => exact PDn.same (show PDn g H1 (bad W1 Z) v d from pv) s13
        | false => exact (show PDt g H1 (bad W1 Z) v d from pv).same s13
theorem se_slice {K : PySem.W.Frag} (hK : g.K = K) {te : TE} {tl th : TO} {fa : Env → Res (P × Env)} {fl fh : Env → Res (Option Int × Env)} (sa : SE b1 z1 g wx te fa) (sl : SB g tl fl) (sh : SB g th fh) : SE b1 true g wx (tSl (rSl3 K) te tl th) (dSlF fa fl fh) := by
  subst hK
  intro Z σ τ ρ θ H W Q hl st post
  refine se_sl rfl sa sl sh pSl (fun _ => .bad) hl st (fun e => by unfold dSlF at post; rw [e] at post; exact post) (fun c fs ρ1 e => by unfold dSlF at post; rw [e] at post; exact post) fun d lo hi z ρ3 v H3 W1 ez e l3 f3 q3 st3 pv => ?_
  unfold dSlF at post
  rw [e] at post
  have fin : ∀ {w : V} {H4 : Hp}, Same H3 H4 → PDn g H4 (bad W1 Z) w z → Q w H4 := fun s4 pw => post _ _ W1 (f3.trans (.same s4)) (fun hb => ⟨(q3 hb).1, (q3 hb).2.trans s4⟩) (st3.same s4) pw
  have pvt := pv.t
  unfold pSl at ez
  split at ez
  · cases ez
    obtain ⟨a, xs, rfl, hs, hp⟩ := pvt.seqL rfl
    exact .inl ⟨a, xs, rfl, hs, fun p np => fin (same_new np) (PDn.new st3.bt np upd_same (hp.cut lo hi))⟩
  · cases ez
    obtain ⟨a, xs, rfl, hs, hp⟩ := pvt.seqL rfl
    exact .inl ⟨a, xs, rfl, hs, fun p np => fin (same_new np) (PDn.new st3.bt np upd_same (hp.cut lo hi))⟩
  · rename_i ks
    have pf : PDn g H3 (bad W1 Z) v (.nd .tup ks) := by
      cases pvt with
      | f h => exact h
      | t m _ _ => cases m
    obtain ⟨a, xs, rfl, hs, hp⟩ := (PDt.f pf).tup
    refine .inr (.inl ⟨a, xs, rfl, hs, fun hw => ?_, fun hw p np => ?_⟩)
    · rw [hp.length] at hw
      rw [if_pos hw] at ez
      cases ez
      exact fin (Same.refl H3) pf
    · rw [hp.length] at hw
      rw [if_neg hw] at ez
      cases ez
      exact fin (same_new np) (PDn.new st3.bt np (.inl upd_same) (hp.cut lo hi))
  · split at ez
    · rename_i y hy
      cases ez
      exact .inr (.inr ⟨y, pvt.s, hy, fin (Same.refl H3) (.s _)⟩)
    · cases ez
  · cases ez
theorem so_slice {K : PySem.W.Frag} (hK : g.K = K) {te : TE} {tl th : TO} {fa : Env → Res (P × Env)} {fl fh : Env → Res (Option Int × Env)} (sa : SE b1 z1 g wx te fa) (sl : SB g tl fl) (sh : SB g th fh) : SO g wx (tSl (rSlL K) te tl th) (oSlF fa fl fh) := by
  subst hK
  intro Z σ τ ρ θ H W Q hl st post
  refine se_sl rfl sa sl sh pSlO (fun _ => .bad) hl st (fun e => by unfold oSlF at post; rw [e] at post; exact post) (fun c fs ρ1 e => by unfold oSlF at post; rw [e] at post; exact post) fun d lo hi z ρ3 v H3 W1 ez e l3 f3 q3 st3 pv => ?_
  unfold oSlF at post
  rw [e] at post
  have pvt := pv.t
  have fin : ∀ {ks : List P} {p : Addr} {vs' : List V}, z = .nd .lst (ks.map .p) → H3 p = none → PAll g H3 (bad W1 Z) vs' ks → Q (.ref p) (upd H3 p (.lst vs')) := by
    intro ks p vs' ez np hp
    subst ez
    obtain ⟨W', f', st'⟩ := st3.new (t := .lst) (u := .lst vs') l3 np rfl upd_same hp
    exact post _ _ W' (f3.trans f') st'
  unfold pSlO at ez
  split at ez
  · cases ez
    obtain ⟨a, xs, rfl, hs, hp⟩ := pvt.seqL rfl
    exact ⟨a, xs, rfl, hs, fun p np => fin rfl np (hp.cut lo hi)⟩
  · cases ez
    obtain ⟨a, xs, rfl, hs, hp⟩ := pvt.seqL rfl
    exact ⟨a, xs, rfl, hs, fun p np => fin rfl np (hp.cut lo hi)⟩
  · cases ez
/-! ### stars -/
def aStar (fa : Env → Res (P × Env)) (fr : Env → Res (List P × Env)) : Env → Res (List P × Env) := fun ρ => (fa ρ).bind fun a => match a.1 with
  | .nd t ks => if t = .lst ∨ t = .slst ∨ t = .tup then (fr a.2).bind fun r => .ok (ks ++ r.1, r.2) else .bad
  | _ => .bad
theorem sa_star {K : PySem.W.Frag} (hK : g.K = K) {b2 z2 : Bool} {ta : TE} {tr : TA} {fa : Env → Res (P × Env)} {fr : Env → Res (List P × Env)} (sa : SE b1 z1 g wx ta fa) (sr : SA b2 true g wx tr fr) : SA (b1 && b2) true g wx (StX.tStar K ta tr) (aStar fa fr) := by
  subst hK
  intro Z σ τ ρ θ H W Q hl st post
  refine se_then sa hl st (fun e => by unfold aStar at post; rw [e] at post; exact post) (fun c fs ρ1 e => by unfold aStar at post; rw [e] at post; exact post) fun d ρ1 v H1 W1 e l1 f1 q1 st1 pv => ?_
  unfold aStar at post
  rw [e] at post
  have p0 : PostA (b1 && b2) true g wx Z σ τ θ H W (match (generalizing := false) d with
    | .nd t ks => if t = .lst ∨ t = .slst ∨ t = .tup then (fr ρ1).bind fun r => .ok (ks ++ r.1, r.2) else .bad
    | _ => .bad) Q := post
  split at p0
  · split at p0
    · rename_i t ks ht
      obtain ⟨a, xs, rfl, hs, hp⟩ := pv.t.seq ht
      have p1 := p0.shift f1 q1
      refine ⟨a, xs, rfl, hs.symm, ?_⟩
      refine sa_then sr l1 st1 (fun e => by rw [e] at p1; exact p1) (fun c fs ρ2 e => by rw [e] at p1; exact p1) fun ds ρ2 vs H2 W2 e2 l2 f2 q2 st2 pvs => ?_
      rw [e2] at p1
      exact p1 (xs ++ vs) H2 W2 f2 q2 st2 ((hp.fr f2).append pvs)
    · exact p0.elim
  · exact p0.elim
end
section
variable {X : Cx} {x : Bx} {p2 p pos apos : Pos} {e o : Expr} {es : List Expr} {lo hi : Option Expr} {b1 b2 z1 : Bool} {fa : Env → Res (P × Env)} {fl fh : Env → Res (Option Int × Env)} {fr : Env → Res (List P × Env)} {f1 : Env → Res (AV × Env)} {fm : Env → Res (List AV × Env)}
structure DB (X : Cx) (x : Bx) (e : Option Expr) (f : Env → Res (Option Int × Env)) : Prop where
  h : ∃ t, PO X e t ∧ SB (x.g X) t f
theorem bN : DB X x none bNo := ⟨_, po_none, sb_no⟩
theorem bS (he : DE X x true z1 e fa) : DB X x (some e) (bSo fa) := ⟨_, po_some he.pe, sb_so se_self⟩
theorem dSl (he : DE X x b1 z1 e fa) (hl : DB X x lo fl) (hh : DB X x hi fh) : DE X x b1 true (.Subscript e (.Slice lo hi none p2) pos) (dSlF fa fl fh) := by
  obtain ⟨t1, a1, b1⟩ := hl.h
  obtain ⟨t2, a2, b2⟩ := hh.h
  exact .of (pe_slice (sl_list.or (sl_tupA.or sl_str)) he.pe a1 a2) (se_slice rfl se_self b1 b2)
theorem oSl (he : DE X x b1 z1 e fa) (hl : DB X x lo fl) (hh : DB X x hi fh) : DO X x (.Subscript e (.Slice lo hi none p2) pos) (oSlF fa fl fh) := by
  obtain ⟨t1, a1, b1⟩ := hl.h
  obtain ⟨t2, a2, b2⟩ := hh.h
  exact .of (pe_slice sl_list he.pe a1 a2) (so_slice rfl se_self b1 b2)
theorem aS (he : DE X x b1 z1 e fa) (hr : DA X x b2 true es fr) (hs : starEach (.Starred e p :: es) X.env = (true, eval e X.env) :: starEach es X.env := by rfl) : DA X x (b1 && b2) true (.Starred e p :: es) (aStar fa fr) := .of (StX.pa_star he.pe hr.pa hs) (sa_star (z2 := true) rfl se_self sa_self)
/-! methods of a list, in place -/
theorem oKe {T id : String} {name : Str} {r : V → List V → Hp → VK → Prop} {op : Tg → List O → List O → Option (O × Tg × List O)} (pa : PlainAttrs T) (slot : Slot T name id) (hty : typeOf (.builtin id) = pure (.type "method_descriptor")) (hm : MtR X id r) {pt : Tg → Bool}
    (hT : ∀ {H : Hp} {a : Addr} {t : Tg} {vs : List V}, t.mut = true → pt t = true → Ho x.cl H a t vs → tyV X.K T (.ref a) H) (hk : KerS (x.g X) r op) (ho : D1 X x b1 o f1) (ha : DM X x b2 (e :: es) fm)
    (hz : (∀ ρ a, f1 ρ = .ok a → a.1.nm = true) ∨ (b2 = true ∧ Keeps fm) := by first | exact .inl nm_p | exact .inl nm_o | exact .inl nm_n | exact .inl nm_pp | exact .inr ⟨rfl, by repeat (first | exact keeps_nil | exact keeps_pp | refine keeps_cons ?_ ?_ | exact keeps_1p | exact keeps_n | exact keeps_l)⟩)
    (hbase : attributeBase o name X.env (eval o X.env) = eval o X.env := by rfl)
    (hfew : ((backTo pos (starEach (e :: es) X.env)).all (fun x => !x.1) && (backToKw pos (keywordEach [] X.env)).all (fun x => x.1.isSome)
      && decide ((e :: es).length + ([] : List Keyword).length + (if ([] : List Keyword).isEmpty then 0 else 1) < 30)) = true := by rfl)
    (hline : (apos.endLine == pos.line) = true := by rfl) (hs : starEach (e :: es) X.env = (false, eval e X.env) :: starEach es X.env := by rfl) (hplain : (backTo pos (starEach es X.env)).any (·.1) = false := by rfl) :
    DO X x (.Call (.Attribute o name apos) (e :: es) [] pos) (oKer op (mRecv pt f1 fm)) := .of (pe_bm pa slot hty hm ho.pe ha.pa hbase hfew hline hs hplain) (so_ker s1_self sm_self hz hT hk)
theorem oKe0 {T id : String} {name : Str} {r : V → List V → Hp → VK → Prop} {op : Tg → List O → List O → Option (O × Tg × List O)} (pa : PlainAttrs T) (slot : Slot T name id) (hty : typeOf (.builtin id) = pure (.type "method_descriptor")) (hm : MtR X id r) {pt : Tg → Bool}
    (hT : ∀ {H : Hp} {a : Addr} {t : Tg} {vs : List V}, t.mut = true → pt t = true → Ho x.cl H a t vs → tyV X.K T (.ref a) H) (hk : KerS (x.g X) r op) (ho : D1 X x b1 o f1)
    (hbase : attributeBase o name X.env (eval o X.env) = eval o X.env := by rfl) (hline : (apos.endLine == pos.line) = true := by rfl) :
    DO X x (.Call (.Attribute o name apos) [] [] pos) (oKer op (mRecv pt f1 mNil)) := .of (pe_bm0 pa slot hty hm ho.pe hbase hline) (so_ker (t := tNil) s1_self sm_nil (.inr ⟨rfl, keeps_nil⟩) hT hk)
theorem lApp (ho : D1 X x b1 o f1) (ha : DM X x b2 (e :: es) fm)
    (hz : (∀ ρ a, f1 ρ = .ok a → a.1.nm = true) ∨ (b2 = true ∧ Keeps fm) := by first | exact .inl nm_p | exact .inl nm_o | exact .inl nm_n | exact .inl nm_pp | exact .inr ⟨rfl, by repeat (first | exact keeps_nil | exact keeps_pp | refine keeps_cons ?_ ?_ | exact keeps_1p | exact keeps_n | exact keeps_l)⟩)
    (hbase : attributeBase o "append" X.env (eval o X.env) = eval o X.env := by rfl)
    (hfew : ((backTo pos (starEach (e :: es) X.env)).all (fun x => !x.1) && (backToKw pos (keywordEach [] X.env)).all (fun x => x.1.isSome)
      && decide ((e :: es).length + ([] : List Keyword).length + (if ([] : List Keyword).isEmpty then 0 else 1) < 30)) = true := by rfl)
    (hline : (apos.endLine == pos.line) = true := by rfl) (hs : starEach (e :: es) X.env = (false, eval e X.env) :: starEach es X.env := by rfl) (hplain : (backTo pos (starEach es X.env)).any (·.1) = false := by rfl) :
    DO X x (.Call (.Attribute o "append" apos) (e :: es) [] pos) (oKer kApp (mRecv isLst f1 fm)) := oKe PySem.F.plainAttrs_list PySem.F.slot_list_append PySem.F.type_list_append mt_append ty_lst ks_app ho ha hz hbase hfew hline hs hplain
theorem lPop (ho : D1 X x b1 o f1) (hbase : attributeBase o "pop" X.env (eval o X.env) = eval o X.env := by rfl) (hline : (apos.endLine == pos.line) = true := by rfl) :
    DO X x (.Call (.Attribute o "pop" apos) [] [] pos) (oKer kPop (mRecv isLst f1 mNil)) := oKe0 PySem.F.plainAttrs_list PySem.F.slot_list_pop PySem.F.type_list_pop mt_pop ty_lst ks_pop ho hbase hline
end
end DL

/-! what is walked: the rules -/
namespace DL
open PySem PySem.Spec L2

def iAnyF (fa : Env → Res (P × Env)) : Env → Res (List P × Env) := fun ρ => (fa ρ).bind fun a => match a.1 with
  | .nd .lst ks => .ok (ks, a.2)
  | .nd .slst ks => .ok (ks, a.2)
  | .nd .tup ks => .ok (ks, a.2)
  | .s (.str z) => .ok (z.cps.toList.map fun c => .s (.str ⟨#[c]⟩), a.2)
  | _ => .bad
section
variable {g : Gx} {wx : WX} {b1 : Bool} {t : TE} {fa : Env → Res (P × Env)}
theorem si_any {K : PySem.W.Frag} (hK : g.K = K) (sa : SE b1 true g wx t fa) : SI g wx (fun σ H R => iList K t σ H R ∨ (iTup K t σ H R ∨ iStr t σ H R)) (iAnyF fa) := by
  intro Z σ τ ρ θ H W Q hl st post
  cases e : fa ρ with
  | bad => unfold iAnyF at post; rw [e] at post; exact post.elim
  | ex c fs ρ1 => exact .inl (si_seq hK sa Z σ τ ρ θ H W Q hl st (by unfold iAnyF at post; unfold iSeqF; rw [e] at post ⊢; exact post))
  | ok a =>
    obtain ⟨d, ρ1⟩ := a
    cases d with
    | s v =>
      cases v with
      | str z => exact .inr (.inr (si_str sa Z σ τ ρ θ H W Q hl st (by unfold iAnyF at post; unfold iStrF; rw [e] at post ⊢; exact post)))
      | _ => unfold iAnyF at post; rw [e] at post; exact post.elim
    | nd tg ks =>
      cases tg with
      | lst => exact .inl (si_seq hK sa Z σ τ ρ θ H W Q hl st (by unfold iAnyF at post; unfold iSeqF; rw [e] at post ⊢; exact post))
      | slst => exact .inl (si_seq hK sa Z σ τ ρ θ H W Q hl st (by unfold iAnyF at post; unfold iSeqF; rw [e] at post ⊢; exact post))
      | tup => exact .inr (.inl (si_tup hK sa Z σ τ ρ θ H W Q hl st (by unfold iAnyF at post; unfold iTupF; rw [e] at post ⊢; exact post)))
      | _ => unfold iAnyF at post; rw [e] at post; exact post.elim
end
section
variable {X : Cx} {x : Bx} {tg e e2 : Expr} {b z : Bool} {p pos : Pos} {fa : Env → Res (P × Env)} {fr : Env → Res (List P × Env)}
theorem pi_or {t1 t2 : TI} (h1 : PI X tg e t1) (h2 : PI X tg e t2) : PI X tg e (fun σ H R => t1 σ H R ∨ t2 σ H R) := ⟨fun pins s σ H R I h => h.elim (h1.run pins s σ H R I) (h2.run pins s σ H R I)⟩
theorem iAny (he : DE X x b true e fa) : DI X x tg e (iAnyF fa) := .of (pi_or (pi_list he.pe) (pi_or (pi_tup he.pe) (pi_str he.pe))) (si_any rfl se_self)
theorem iR1 (c : Cb X x) (ha : DA X x b z [e] fr) (hg : Gl X "range" := by rfl) (hs : starEach [e] X.env = [(false, eval e X.env)] := by rfl) : DI X x tg (.Call (.Name "range" p) [e] [] pos) (iRng1F fr) := .of (pi_range1 hg (c.fr _ (by decide)) ha.pa hs) (si_rng1 sa_self)
theorem iR2 (c : Cb X x) (ha : DA X x b z [e, e2] fr) (hg : Gl X "range" := by rfl) (hs : starEach [e, e2] X.env = [(false, eval e X.env), (false, eval e2 X.env)] := by rfl) (hs2 : starEach [e2] X.env = [(false, eval e2 X.env)] := by rfl) :
    DI X x tg (.Call (.Name "range" p) [e, e2] [] pos) (iRng2F fr) := .of (pi_range2 hg (c.fr _ (by decide)) ha.pa hs hs2) (si_rng2 sa_self)
end
end DL

/-! a def of the text, the facts by names -/
namespace DL
open PySem PySem.Spec L2

/-- what is known of the written part: the facts, the defs -/
structure Txt (fa : List He.Fa) (fn : List He.DefD) (K : PySem.W.Frag) (mg : Str → Option Value) : Prop where
  ex : ∃ h : Heap, K.In h ∧ h.Ns mainGlobals mg
  c : He.SaysD fa fn K
section
variable {fa : List He.Fa} {fn : List He.DefD} {K : PySem.W.Frag} {mg : Str → Option Value}
theorem Txt.glo (T : Txt fa fn K mg) (i : Nat) {x : Str} (h : fa[i]? = some (.glo x) := by rfl) : mg x = some (.ref (He.ga K x)) := by
  obtain ⟨h', X, G⟩ := T.ex
  exact He.glo_ok X G (T.c.fact i h)
theorem Txt.free (T : Txt fa fn K mg) (i : Nat) {x : Str} (h : fa[i]? = some (.free x) := by rfl) : mg x = none := by
  obtain ⟨h', X, G⟩ := T.ex
  exact He.free_ok X G (T.c.fact i h)
theorem Txt.fact (T : Txt fa fn K mg) (i : Nat) {f : He.Fa} (h : fa[i]? = some f := by rfl) : f.ok K = true := T.c.fact i h
end
/-- a def whose body keeps its judgement -/
theorem fa_ok {fa : List He.Fa} {fn : List He.DefD} {P : Program} {w : World} {K : PySem.W.Frag} {mg : Str → Option Value} {base : Heap} {cl : Str → Addr} {N ps : List Str} {k : Nat} {io : List Nat} {fb : Env → Res (Fl × Env)} {at_ : Str × Option Str} {name qual : Str} {params : Arguments} {body : List Stmt} {scope : Scope} (T : Txt fa fn K mg) (j : Nat)
    (hf : ∀ n ∈ bset, mg n = none) (S : FnScope N ps scope)
    (hbi : ∀ (kV doc pm : Value) (an : Option Addr) (cdv ct : Value) (us : List Value), us.length = ps.length → bindArgs (PySem.W.fnOf name qual params body scope .none kV doc pm an cdv ct) ⟨us, []⟩ = pure (ps.zip us))
    (hbody : ∀ (cdv : Value) (A : Around) (outer : List PySem.Env) (s : Shared) (H : Hp) (E : XK), Room k (A.deeper (PyProof.Rows.envOfC qual scope s.heap.objs.size (He.fAd K at_) cdv)) →
      Ct (cxOf (L2N.CX P w) P w K mg base N qual scope (He.fAd K at_) cdv A outer s H E) ⟨cl, io, fun cls d _ H => E cls d H, none⟩ → DSs (cxOf (L2N.CX P w) P w K mg base N qual scope (He.fAd K at_) cdv A outer s H E) ⟨cl, io, fun cls d _ H => E cls d H, none⟩ body fb)
    (hj : fn[j]? = some ⟨at_, name, qual, params, body, scope, [], []⟩ := by rfl) :
    Fa P w K mg base cl (k + 1) ps.length (runB N.length io fb) (He.fAd K at_) := by
  obtain ⟨fd, F⟩ := T.c.def_ j hj
  have bi := FunD.bindsN (ps := ps) (show FunD K name qual params body scope [] (He.DefD.kws K ⟨at_, name, qual, params, body, scope, [], []⟩) (He.fAd K at_) fd from F) hbi
  obtain ⟨oc, od, dV, kV, doc, pm, an, cdv, ct, osl, rfl, lk, hcd, hdv, hkw⟩ := F.ex
  exact ⟨_, ps, fn_ok lk hcd S rfl hf fun A outer s H E hr c => hbody cdv A outer s H E hr c, bi⟩
theorem fa_kp {fa : List He.Fa} {fn : List He.DefD} {K : PySem.W.Frag} {mg : Str → Option Value} (T : Txt fa fn K mg) (j : Nat) {d : He.DefD} (hj : fn[j]? = some d := by rfl) : PySem.W.keepIn K (.ref (He.fAd K d.at_)) = true := by
  obtain ⟨fd, F⟩ := T.c.def_ j hj
  exact F.kp
end DL

/-! an own error class whose __init__ calls super().__init__(text) and sets fields -/
namespace DL
open PySem PySem.Spec L2

/-! ### ValueError.__init__, bound to the exception that is being made -/
section
variable {prog : Program} {w : World} {A : Around} {E : Value → Shared → Prop} {h : Heap} {g : Array GenState} {d : Drawn} {t : Nat} {os : OsState}
variable {nm q : Str} {C N : Addr} {bs bm : List Value} {hdct : Bool} {sn : List Str} {sub : List Value} {ab : Bool} {col : Option Bool} {dd : Option Addr} {k0 k1 k2 k3 k5 : Option Value}
theorem call_bwV {u e t0 : Addr} {rest : List Value} {Q : Value → Shared → Prop}
    (hC : h.get? C = some (excClassObj nm q C N bs bm hdct sn sub ab col dd k0 k1 k2 k3 k5 "ValueError.__new__")) (he : h.get? e = some (PySem.HandSPX.excO C t0)) (hu : h.get? u = some (PySem.W.kxs_mw "ValueError.__init__" e)) (hrest : rest.length ≤ sizeLine)
    (hq : ∀ h' t1, (∀ b o, b ≠ e → h.get? b = some o → h'.get? b = some o) → h'.get? e = some (PySem.HandSPX.excO C t1) → Q .none ⟨h', g, d, t, os⟩) :
    wpAny (model prog w) A (call (.ref u) rest) Q E ⟨h, g, d, t, os⟩ := by
  refine wpAny_call (codeAny_of_tree ?_)
  show wpAny _ A.in1 (callAny (.ref u) ⟨rest, []⟩) _ _ _
  simp only [callAny]
  refine wpAny_bind (wpAny_load hu ?_)
  simp only [PySem.W.kxs_mw, show (Value.type "method-wrapper" == Value.type "method" || Value.type "method-wrapper" == Value.type "builtin_function_or_method" || Value.type "method-wrapper" == Value.type "method-wrapper") = true by decide, if_true]
  refine PySem.W.KFB.if_so (by decide) ?_
  refine wpAny_bind (PySem.ESX.check_bound F.excBase_ValueError hC he rfl ?_)
  refine wpAny_bind (wpAny_pure (wpAny_pure ?_))
  refine ⟨Code.quiet_builtin _ (by decide +kernel), codeAny_builtin F.excBase_ValueError.initEntry ?_⟩
  rw [Around.under_plainId F.excBase_ValueError.init.plain _]
  wp_walk
  refine hq _ h.objs.size (fun b o hb ho => ?_) ?_
  · rw [Heap.get?_update_other _ _ (Ne.symm hb)]
    exact Heap.get?_push_of_some _ ho
  · rw [Heap.get?_update_self _ (Heap.get?_push_of_some _ he) rfl]
    rfl
end
section
variable {X : Cx} {pins : List (Addr × Obj)} {σ : L2.St} {H : Hp} {s : Shared}
theorem _root_.L2.Inv.addPin (I : Inv X pins σ H s) {p : Addr × Obj} (h1 : s.heap.get? p.1 = some p.2) (h2 : H p.1 = none) (h3 : p.1 ≠ X.env.locals) (h4 : p.1 ∉ X.fs) (h5 : ∀ v, p.2.data ≠ .cell v) : Inv X (p :: pins) σ H s :=
  ⟨I.ok, I.os, I.bare, I.base, I.loc, I.cell, I.free, I.freeC, fun r hr => by
    rcases List.mem_append.mp hr with hr | hr
    · exact I.pin r (List.mem_append_left _ hr)
    · rcases List.mem_cons.mp hr with hr | hr
      · rw [hr]
        exact ⟨h1, h2, h3, h4, h5⟩
      · exact I.pin r (List.mem_append_right _ hr), I.hok, I.len⟩
theorem _root_.L2.Inv.dropPin {p : Addr × Obj} (I : Inv X (p :: pins) σ H s) : Inv X pins σ H s :=
  ⟨I.ok, I.os, I.bare, I.base, I.loc, I.cell, I.free, I.freeC, fun r hr => by
    rcases List.mem_append.mp hr with hr | hr
    · exact I.pin r (List.mem_append_left _ hr)
    · exact I.pin r (List.mem_append_right _ (List.mem_cons_of_mem _ hr)), I.hok, I.len⟩
end
/-- what the written part says of the class at C and of its __init__ at fI -/
structure ExI (P : Program) (K : PySem.W.Frag) (mg : Str → Option Value) (C fI : Addr) (params : Arguments) (body : List Stmt) (scope : Scope) (qual : Str) (cc cda : Addr) : Prop where
  fn : ∃ (oc : Value) (od : Option Addr) (dV kV doc pm ct : Value) (an : Option Addr) (osl : Array (Option Value)), K.lookup fI = some ⟨oc, od, .func (PySem.W.ksFn "__init__" qual params body scope dV kV doc pm an (.ref cda) ct cc), osl⟩ ∧ dV = .none
  cd : PySem.W.codeIn K (.ref cda) qual = true
  code : ∃ (ccl : Value) (cdd : Option Addr) (cvs : Array Value) (ccs : Array (Option Value)) (file : Str) (tf : Tok), K.lookup cda = some ⟨ccl, cdd, .fields cvs, ccs⟩ ∧ cvs[2]? = some (.str file tf) ∧ ((P.main.file : Str) == file) = true
  cell : ∃ (ol : Value) (old : Option Addr) (osl : Array (Option Value)), K.lookup cc = some ⟨ol, old, .cell (some (.ref C)), osl⟩
  T : OexC K C
  sub : PySem.W.mroIn K C (.ref C) = some true
  sup : mg "super" = none
  al : PySem.W.ks_superIn K C C "__init__" = some (some (.builtin "ValueError.__init__"))
  ve : PySem.W.subIn K (.ref C) (.type "ValueError") = some true
  op : PySem.W.nsIn K cStatics "thirdparty.any" = some none
  top : (P.main.scope.names.lookup ("super" : Str)).isSome = false
section
variable {P : Program} {w : World} {K : PySem.W.Frag} {mg : Str → Option Value} {base : Heap} {C fI cc cda : Addr} {params : Arguments} {body rest : List Stmt} {scope : Scope} {qual : Str} {N ps : List Str} {k : Nat}
abbrev exNF (qual : Str) (params : Arguments) (body : List Stmt) (scope : Scope) (cc cda : Addr) : NdefX.NF := ⟨"__init__", qual, params, body, scope, [("__class__", cc)], cda⟩
/-- super().__init__(msg) -/
theorem super_ok {A : Around} {outer : List PySem.Env} {s s1 : Shared} {H H0 : Hp} {EX : XK} {σ : L2.St} {a : Addr} {msg : Expr} {p0 p1 p2 p3 p4 : Pos} {ar : Arg} {te : TE} {Q : Flow → Shared → Prop} {E : Value → Shared → Prop} {bd : List Stmt}
    (T : ExI P K mg C fI params body scope qual cc cda) (hp : (params.posonlyargs ++ params.args).head? = some ar)
    (hk : scope.kind = .function) (hks : scope.names.lookup ("super" : Str) = some .globalImplicit) (hkc : scope.names.lookup ("__class__" : Str) = some .free) (hka : scope.names.lookup ar.arg = some .local) (hN : N[0]? = some ar.arg)
    (I : Inv (NdefX.ncx (L2N.CX P w) P w K mg base N (exNF qual params body scope cc cda) fI A outer s H0 EX) [] σ H s1) (hσ : σ[0]? = some (some (.ref a))) (ha : H a = some (exo a C none))
    (he : PE (NdefX.ncx (L2N.CX P w) P w K mg base N (exNF qual params body scope cc cda) fI A outer s H0 EX) msg te)
    (hE : (NdefX.ncx (L2N.CX P w) P w K mg base N (exNF qual params body scope cc cda) fI A outer s H0 EX).xe = E) {pl : Sem Bool}
    (hev : eval (.Call (.Attribute (.Call (.Name "super" p0) [] [] p1) "__init__" p2) [msg] [] p3) (NdefX.envF (exNF qual params body scope cc cda) fI s.heap.objs.size) = (do
      let ov ← attributeBase (.Call (.Name "super" p0) [] [] p1) "__init__" (NdefX.envF (exNF qual params body scope cc cda) fI s.heap.objs.size) (eval (.Call (.Name "super" p0) [] [] p1) (NdefX.envF (exNF qual params body scope cc cda) fI s.heap.objs.size))
      standAt p2.atName
      let (f, first) ← holding [ov] (getMethod ov "__init__" pl)
      callWith p3 f first (backTo p3 (starEach [msg] (NdefX.envF (exNF qual params body scope cc cda) fI s.heap.objs.size))) []))
    (hst : starEach [msg] (NdefX.envF (exNF qual params body scope cc cda) fI s.heap.objs.size) = [(false, eval msg (NdefX.envF (exNF qual params body scope cc cda) fI s.heap.objs.size))])
    (hsw : swapsWith (.Call (.Attribute (.Call (.Name "super" p0) [] [] p1) "__init__" p2) [msg] [] p3) none p4.line (NdefX.envF (exNF qual params body scope cc cda) fI s.heap.objs.size) = pure false)
    (h : tCons te tNil σ H fun vs H1 => ∃ m, vs = [V.str m] ∧ H1 a = some (exo a C none) ∧ ∀ s', Inv (NdefX.ncx (L2N.CX P w) P w K mg base N (exNF qual params body scope cc cda) fI A outer s H0 EX) [] σ H1 s' → Q .next s') :
    wpAt (model P w) (A.deeper (NdefX.envF (exNF qual params body scope cc cda) fI s.heap.objs.size)) (.func bd (NdefX.envF (exNF qual params body scope cc cda) fI s.heap.objs.size))
      (exec (.Expr (.Call (.Attribute (.Call (.Name "super" p0) [] [] p1) "__init__" p2) [msg] [] p3) p4) (NdefX.envF (exNF qual params body scope cc cda) fI s.heap.objs.size)) Q E s1 := by
  obtain ⟨oc, od, dV, kV, doc, pm, ct, an, osl, lk, _⟩ := T.fn
  obtain ⟨ccl, cdd, cvs, ccs, file, tf, hcode, hvs, hfile⟩ := T.code
  obtain ⟨ol, old, osl2, hcell⟩ := T.cell
  have X : K.In s1.heap := I.kIn
  obtain ⟨nm, q, Nn, bs, bm, sn, sub, ab, col, dd, k0, k1, k2, k3, k5, hC, hbm⟩ := T.T.cls
  have hcl : PySem.W.clsIn K C = some { name := nm, bases := bs, mro := .ref C :: bm, ns := Nn, qualname := q, hasDict := true, slotNames := sn, subclasses := sub, abstract := ab, collection := col, hasDel := false } := by unfold PySem.W.clsIn; rw [hC] <;> rfl
  refine PySem.ks_wpAt_Expr_any ?_ I.quiet hsw
  refine PySem.ks_wpAt_MethodCall (pl := pl) ?_ hev
  obtain ⟨t1, hex⟩ := exo_at I.hok ha
  obtain ⟨hp1, g1, d1, tk1, os1⟩ := s1
  refine PySem.ks_wpAt_super_base (env := NdefX.envF (exNF qual params body scope cc cda) fI s.heap.objs.size) hks hkc rfl rfl (X _ _ lk) rfl hp rfl (X _ _ hcode) rfl hvs hfile T.top ?_
  obtain ⟨mb, hb1, hb2⟩ := I.mod.blt
  refine PySem.W.ks_loadName_global hk hks (Calls.loadGlobal_builtin (env := NdefX.envF (exNF qual params body scope cc cda) fI s.heap.objs.size) (I.mod.glob.keeps I.bk) T.sup (hb1.keeps I.bk) ((hb2 "super" (by decide)).trans (by decide +kernel)) ⟨rfl, ?_⟩)
  refine wpAny_loadName_free hk hkc rfl ⟨_, X _ _ hcell, rfl⟩ ?_
  obtain ⟨m, hn, hl⟩ := id I.loc
  obtain ⟨u, ru, hu⟩ := hl 0 ar.arg (.ref a) hN hσ (.inl hka)
  obtain rfl : u = Value.ref a := ru
  have hself : m ar.arg = some (.ref a) := by
    rcases hu with ⟨_, e⟩ | ⟨k2, _⟩
    · exact e
    · rcases k2 with k2 | k2
      · have z : scope.names.lookup ar.arg = some .cell := k2
        rw [hka] at z; cases z
      · have z : scope.names.lookup ar.arg = some .free := k2
        rw [hka] at z; cases z
  refine wpAny_loadName_local hk hka hn hself ?_
  have IA : PySem.W.InstAt hp1 a (PySem.HandSPX.excO C t1) C none := ⟨hex, rfl, rfl, trivial⟩
  refine PySem.ks_wpAny_isType_cls (X _ _ hC) rfl ⟨rfl, ?_⟩
  refine PySem.ks_wpAny_call_super (X _ _ hC) rfl hex rfl (fun c e => by cases e) (PySem.W.looks_mroIn X T.sub) (fun h2 e2 k2 => ?_)
  have I2 : Inv (NdefX.ncx (L2N.CX P w) P w K mg base N (exNF qual params body scope cc cda) fI A outer s H0 EX) [] σ H ⟨h2, g1, d1, tk1, os1⟩ := I.kept (t' := tk1) k2
  have X2 : K.In h2 := I2.kIn
  have hal := T.al
  unfold PySem.W.ks_superIn at hal
  rw [hcl] at hal
  have IA2 : PySem.W.InstAt h2 a (PySem.HandSPX.excO C t1) C none := ⟨k2 _ _ hex, rfl, rfl, trivial⟩
  have hI : PySem.W.Looks (model P w) h2 (isInstance (.ref a) (.type "ValueError")) true := IA2.type.andThen (PySem.W.looks_subIn X2 T.ve)
  refine PySem.W.kxs_getMethod PySem.W.kxs_ValueError e2 (PySem.W.looks_opaque X2 T.op) (l₀ := .ref C :: bm) ?_ rfl X2 hal hI (PySem.W.ks_ne X2 IA2 hcl) (by decide) ?_
  · exact fun A Q E s k q => wpAny_bind ((PySem.W.looks_clsIn X2 hcl) A _ E s k (wpAny_pure q))
  · have kp3 : ∀ b o, h2.get? b = some o → (h2.push (PySem.W.kxs_mw "ValueError.__init__" a)).get? b = some o := fun b o e => Heap.get?_push_of_some _ e
    have I3 : Inv (NdefX.ncx (L2N.CX P w) P w K mg base N (exNF qual params body scope cc cda) fI A outer s H0 EX) [] σ H ⟨h2.push (PySem.W.kxs_mw "ValueError.__init__" a), g1, d1, tk1 + 1, os1⟩ := I2.kept (t' := tk1 + 1) kp3
    have hmw : (h2.push (PySem.W.kxs_mw "ValueError.__init__" a)).get? h2.objs.size = some (PySem.W.kxs_mw "ValueError.__init__" a) := Heap.get?_push_at rfl rfl
    have hloc : h2.objs.size ≠ (NdefX.ncx (L2N.CX P w) P w K mg base N (exNF qual params body scope cc cda) fI A outer s H0 EX).env.locals := Nat.ne_of_gt I2.lt
    have I4 := I3.addPin (p := (h2.objs.size, PySem.W.kxs_mw "ValueError.__init__" a)) hmw (I2.hok.fresh (Nat.le_refl _)) hloc (I2.nofs (Nat.le_refl _)) (fun v q => by cases q)
    have hpa : PA (NdefX.ncx (L2N.CX P w) P w K mg base N (exNF qual params body scope cc cda) fI A outer s H0 EX) [msg] (tCons te tNil) := pa_cons he pa_nil hst
    have hrun := hpa.run p3 _ _ σ H (fun vs H1 => ∃ m, vs = [V.str m] ∧ H1 a = some (exo a C none) ∧ ∀ s', Inv (NdefX.ncx (L2N.CX P w) P w K mg base N (exNF qual params body scope cc cda) fI A outer s H0 EX) [] σ H1 s' → Q .next s') I4 h
    show wpAny _ _ (callWith p3 (.ref h2.objs.size) [] (backTo p3 (starEach [msg] (NdefX.envF (exNF qual params body scope cc cda) fI s.heap.objs.size))) []) _ _ _
    have hst' : starEach [msg] (NdefX.envF (exNF qual params body scope cc cda) fI s.heap.objs.size) = (false, eval msg (NdefX.envF (exNF qual params body scope cc cda) fI s.heap.objs.size)) :: [] := hst
    rw [hst']
    have hrun2 := hrun
    rw [show starEach [msg] (NdefX.ncx (L2N.CX P w) P w K mg base N (exNF qual params body scope cc cda) fI A outer s H0 EX).env = (false, eval msg (NdefX.envF (exNF qual params body scope cc cda) fI s.heap.objs.size)) :: [] from hst] at hrun2
    subst hE
    refine PySem.W.kxs_callWith (i := "ValueError.__init__") (x := a) rfl (Calls.evalArgs_plain ?_)
    refine wpAny_mono hrun2 (fun us s4 hu => ?_) fun _ _ z => z
    obtain ⟨vs, H1, I5, rv, m', ev, ha1, hq⟩ := hu
    subst ev
    have hu4 : s4.heap.get? h2.objs.size = some (PySem.W.kxs_mw "ValueError.__init__" a) := (I5.pin (h2.objs.size, _) (List.mem_append_right _ List.mem_cons_self)).1
    refine ⟨hu4, ?_⟩
    have I6 := I5.dropPin
    obtain ⟨t2, hex2⟩ := exo_at I6.hok ha1
    obtain ⟨h4, g4, d4, tk4, os4⟩ := s4
    have hlen : us.length ≤ sizeLine := by
      rw [← Paired.length rv, sizeLine_eq]
      show 1 ≤ 16777216
      decide
    show wpAny _ _ (call (.ref h2.objs.size) ([] ++ us)) _ _ _
    rw [List.nil_append]
    refine call_bwV (I6.kIn _ _ hC) hex2 hu4 hlen fun h5 t5 k5 e5 => ?_
    have J := I6.write (t' := tk4) (x := a) (e := a) (o := exo a C none) (by rw [ha1]; exact True.intro) (.inl rfl) k5 ⟨_, e5⟩ (exo_ok e5)
    have eu : upd H1 a (exo a C none) = H1 := by
      funext b
      by_cases hb : b = a
      · rw [hb, upd_same, ha1]
      · rw [upd_ne hb]
    rw [eu] at J
    exact hq _ J
/-! ### the fields -/
/-- self.f = the value of slot i, in turn -/
def tOsts (K : PySem.W.Frag) : List (Str × Nat) → TS
  | [] => tNext
  | [q] => tOst K q.1 (tVar 0) (tVar q.2)
  | q :: r => tSeq (tOst K q.1 (tVar 0) (tVar q.2)) (tOsts K r)
/-- the fields, the last one first -/
def fldsV (σ : L2.St) : List (Str × Nat) → List (Str × V) → Option (List (Str × V))
  | [], acc => some acc
  | q :: r, acc => match σ[q.2]? with
    | some (some v) => fldsV σ r ((q.1, v) :: acc)
    | _ => none
theorem osts_old {K : PySem.W.Frag} {C a d : Addr} (T : OexC K C) {σ : L2.St} (hσ : σ[0]? = some (some (.ref a))) {D : Ends} : ∀ {qs : List (Str × Nat)} {H : Hp} {fs out : List (Str × V)}, (∀ q ∈ qs, PySem.W.findIn K (.ref C) q.1 = some none) → H a = some (exo a C (some d)) → H d = some (exd d fs) → fs.length + qs.length ≤ 900 → d ≠ a →
    fldsV σ qs fs = some out → (∀ H2, H2 a = some (exo a C (some d)) → H2 d = some (exd d out) → (∀ b, b ≠ a → b ≠ d → H2 b = H b) → D.nx σ H2) → tOsts K qs D σ H
  | [], H, fs, out, hn, ha, hd, hl, hda, e, k => by
    cases e
    exact k H ha hd fun _ _ _ => rfl
  | q :: r, H, fs, out, hn, ha, hd, hl, hda, e, k => by
    unfold fldsV at e
    split at e
    · rename_i v ev
      have key : ∀ (D' : Ends), (tOsts K r D' σ (upd H d (exd d ((q.1, v) :: fs))) → tOst K q.1 (tVar 0) (tVar q.2) { D' with nx := fun σ' H' => tOsts K r D' σ' H' } σ H) := fun D' h =>
        ⟨v, ev, .ref a, hσ, a, C, rfl, T, hn q List.mem_cons_self, .inr ⟨d, fs, ha, hd, by simp at hl; omega, h⟩⟩
      have rc : tOsts K r D σ (upd H d (exd d ((q.1, v) :: fs))) := osts_old T hσ (fun p hp => hn p (List.mem_cons_of_mem _ hp)) (by rw [upd_ne (Ne.symm hda)]; exact ha) upd_same (by simp at hl ⊢; omega) hda e fun H2 h1 h2 h3 =>
        k H2 h1 h2 fun b hb hb2 => by rw [h3 b hb hb2, upd_ne hb2]
      cases r with
      | nil => exact key D rc
      | cons q2 r => exact key D rc
    · cases e
theorem osts_new {K : PySem.W.Frag} {C a : Addr} (T : OexC K C) {σ : L2.St} (hσ : σ[0]? = some (some (.ref a))) {D : Ends} {qs : List (Str × Nat)} {H : Hp} {out : List (Str × V)} (hn : ∀ q ∈ qs, PySem.W.findIn K (.ref C) q.1 = some none) (ha : H a = some (exo a C none)) (hl : qs.length ≤ 900) (hne : qs ≠ [])
    (e : fldsV σ qs [] = some out) (k : ∀ d H2, H d = none → d ≠ a → H2 a = some (exo a C (some d)) → H2 d = some (exd d out) → (∀ b, b ≠ a → b ≠ d → H2 b = H b) → D.nx σ H2) : tOsts K qs D σ H := by
  cases qs with
  | nil => exact absurd rfl hne
  | cons q r =>
    unfold fldsV at e
    split at e
    · rename_i v ev
      have key : ∀ (D' : Ends), (∀ dx, H dx = none → dx ≠ a → tOsts K r D' σ (upd (upd H dx (exd dx [(q.1, v)])) a (exo a C (some dx)))) → tOst K q.1 (tVar 0) (tVar q.2) { D' with nx := fun σ' H' => tOsts K r D' σ' H' } σ H := fun D' h =>
        ⟨v, ev, .ref a, hσ, a, C, rfl, T, hn q List.mem_cons_self, .inl ⟨ha, fun dx n ne => h dx n ne⟩⟩
      have rc : ∀ dx, H dx = none → dx ≠ a → tOsts K r D σ (upd (upd H dx (exd dx [(q.1, v)])) a (exo a C (some dx))) := fun dx n ne =>
        osts_old T hσ (fs := [(q.1, v)]) (fun p hp => hn p (List.mem_cons_of_mem _ hp)) upd_same (by rw [upd_ne ne, upd_same]) (by simp at hl ⊢; omega) ne e fun H2 h1 h2 h3 =>
          k dx H2 n ne h1 h2 fun b hb hb2 => by rw [h3 b hb hb2, upd_ne hb, upd_ne hb2]
      cases r with
      | nil => exact key D rc
      | cons q2 r => exact key D rc
    · cases e
end
/-- what __init__ promises -/
def spI (K : PySem.W.Frag) (cl : Str → Addr) (C : Addr) (n m : Nat) (mf : Env → Res (P × Env)) (qs : List (Str × Nat)) : Sp := fun vs H Q _ => vs.length = n ∧ ∃ (a : Addr) (ws : List V) (ds : List DL.P) (B : AP) (z : Str) (ρ' : Env) (out : List (Str × V)), vs = .ref a :: ws ∧ H a = some (exo a C none) ∧ (∀ b, B b → H b ≠ none) ∧ ¬ B a ∧
  PAll ⟨K, cl, none⟩ H B ws ds ∧ mf (none :: ds.map (fun d => some (.p d)) ++ List.replicate m none) = .ok (.s (.str z), ρ') ∧ fldsV (some (.ref a) :: ws.map some) qs [] = some out ∧
  ∀ d H2, H d = none → d ≠ a → (∀ b o, H b = some o → b ≠ a → H2 b = some o) → H2 a = some (exo a C (some d)) → H2 d = some (exd d out) → Q .non H2
section
variable {Pg : Program} {w : World} {K : PySem.W.Frag} {mg : Str → Option Value} {base : Heap} {C fI cc cda : Addr} {params : Arguments} {body rest : List Stmt} {scope : Scope} {qual : Str} {N ps : List Str} {k : Nat} {cl : Str → Addr}
theorem SlAll.anys {g : Gx} {H : Hp} {B : AP} : ∀ σ : L2.St, SlAll g H B σ (List.replicate σ.length none) []
  | [] => .nil
  | _ :: σ => .any (SlAll.anys σ)
theorem fldsV_congr {σ σ' : L2.St} : ∀ {qs : List (Str × Nat)} {acc : List (Str × V)}, (∀ q ∈ qs, σ[q.2]? = σ'[q.2]?) → fldsV σ qs acc = fldsV σ' qs acc
  | [], acc, _ => rfl
  | q :: r, acc, h => by
    unfold fldsV
    rw [h q List.mem_cons_self]
    split
    · exact fldsV_congr fun p hp => h p (List.mem_cons_of_mem _ hp)
    · rfl
theorem exi_ok {msg : Expr} {p0 p1 p2 p3 p4 : Pos} {ar : Arg} {mf : Env → Res (P × Env)} {qs : List (Str × Nat)} {m : Nat} {z1 : Bool} (T : ExI Pg K mg C fI params body scope qual cc cda) (S : NdefX.NScope N ps ["__class__"] scope)
    (hp : (params.posonlyargs ++ params.args).head? = some ar) (hks : scope.names.lookup ("super" : Str) = some .globalImplicit) (hka : scope.names.lookup ar.arg = some .local) (hN : N[0]? = some ar.arg) (hm : N.length = ps.length + m)
    (hbi : ∀ (dV kV doc pm ct : Value) (an : Option Addr) (us : List Value), dV = .none → us.length = ps.length → bindArgs (PySem.W.ksFn "__init__" qual params body scope dV kV doc pm an (.ref cda) ct cc) ⟨us, []⟩ = pure (ps.zip us))
    (hbd : body = .Expr (.Call (.Attribute (.Call (.Name "super" p0) [] [] p1) "__init__" p2) [msg] [] p3) p4 :: rest) (hf : ∀ n ∈ bset, mg n = none)
    (hno : ∀ q ∈ qs, PySem.W.findIn K (.ref C) q.1 = some none) (hq1 : qs ≠ []) (hq2 : qs.length ≤ 900) (hq3 : ∀ q ∈ qs, q.2 < ps.length)
    (hmsg : ∀ (A : Around) (outer : List PySem.Env) (s : Shared) (H : Hp) (E : XK), Cb (NdefX.ncx (L2N.CX Pg w) Pg w K mg base N (exNF qual params body scope cc cda) fI A outer s H E) ⟨cl, [], noX, none⟩ → DE (NdefX.ncx (L2N.CX Pg w) Pg w K mg base N (exNF qual params body scope cc cda) fI A outer s H E) ⟨cl, [], noX, none⟩ true z1 msg mf)
    (hrest : ∀ (A : Around) (outer : List PySem.Env) (s : Shared) (H : Hp) (E : XK), PSs (NdefX.ncx (L2N.CX Pg w) Pg w K mg base N (exNF qual params body scope cc cda) fI A outer s H E) rest (tOsts K qs))
    (hev : ∀ (L : Addr), ∃ pl : Sem Bool, eval (.Call (.Attribute (.Call (.Name "super" p0) [] [] p1) "__init__" p2) [msg] [] p3) (NdefX.envF (exNF qual params body scope cc cda) fI L) = (do
      let ov ← attributeBase (.Call (.Name "super" p0) [] [] p1) "__init__" (NdefX.envF (exNF qual params body scope cc cda) fI L) (eval (.Call (.Name "super" p0) [] [] p1) (NdefX.envF (exNF qual params body scope cc cda) fI L))
      standAt p2.atName
      let (f, first) ← holding [ov] (getMethod ov "__init__" pl)
      callWith p3 f first (backTo p3 (starEach [msg] (NdefX.envF (exNF qual params body scope cc cda) fI L))) []))
    (hst : ∀ L : Addr, starEach [msg] (NdefX.envF (exNF qual params body scope cc cda) fI L) = [(false, eval msg (NdefX.envF (exNF qual params body scope cc cda) fI L))])
    (hsw : ∀ L : Addr, swapsWith (.Call (.Attribute (.Call (.Name "super" p0) [] [] p1) "__init__" p2) [msg] [] p3) none p4.line (NdefX.envF (exNF qual params body scope cc cda) fI L) = pure false) :
    ∃ fd, FnOk Pg w K mg base (L2N.CX Pg w) (k + 1) fI fd ps (spI K cl C ps.length m mf qs) ∧ Binds K fd ps [] := by
  obtain ⟨oc, od, dV, kV, doc, pm, ct, an, osl, lk, hdv⟩ := T.fn
  have hb := hbi dV kV doc pm ct an
  refine ⟨_, ⟨fun vs H Q E h => h.1, fun A outer s H args us vs Q E hr e0 hbind r hsp => ?_⟩, .all fun us hl => hb us hdv hl⟩
  obtain ⟨hlen, a, ws, ds, B, z, ρ', out, rfl, ha, hB, nBa, hp1, hmf, hfl, hq⟩ := hsp
  have KX : K.In s.heap := e0.mod.kin.keeps fun b o e => (e0.bs b o e).1
  have lim : s.heap.NoLimit := e0.mod.nolimit.keeps fun b o e => (e0.bs b o e).1
  obtain ⟨ol, old, osl2, hcell⟩ := T.cell
  have hcellH : H cc = none := (e0.bs cc _ (e0.mod.kin _ _ hcell)).2
  have CA : NdefX.CellsAt [("__class__", cc)] ["__class__"] [some (.ref C)] s.heap H := by
    have lk1 : ∀ {y : Str} {c : Addr}, ([("__class__", cc)] : List (Str × Addr)).lookup y = some c → y = "__class__" ∧ c = cc := by
      intro y c e
      by_cases hy : y = "__class__"
      · subst hy
        simp [List.lookup] at e
        exact ⟨rfl, e.symm⟩
      · have hb : (y == ("__class__" : Str)) = false := by simpa using hy
        simp [List.lookup, hb] at e
    refine ⟨rfl, fun y c e => ?_, fun x y c e1 e2 => ?_, fun i y e => ?_⟩
    · obtain ⟨rfl, rfl⟩ := lk1 e
      exact ⟨hcellH, _, ⟨_, KX _ _ hcell, rfl⟩⟩
    · rw [(lk1 e1).1, (lk1 e2).1]
    · cases i with
      | zero =>
        have : y = "__class__" := by simpa using e.symm
        subst this
        exact ⟨cc, by simp [List.lookup], fun v hv => by
          have : v = .ref C := by simpa using hv.symm
          subst this
          exact ⟨.ref C, rfl, ⟨_, KX _ _ hcell, rfl⟩⟩⟩
      | succ i => simp at e
  have hl := hlen
  subst hbd
  refine PySem.ks_codeAny_call_defAt (fd := PySem.W.ksFn "__init__" qual params _ scope dV kV doc pm an (.ref cda) ct cc) (binds := ps.zip us) hr.depth (KX _ _ lk) rfl lim (PySem.W.codeRec_of KX T.cd) rfl hbind S.nocell (fun ⟨n, _⟩ hy => S.par n (List.of_mem_zip hy).1) (fun h₁ hns kp => ?_) S.co S.gen S.kind
  have I : Inv (NdefX.ncx (L2N.CX Pg w) Pg w K mg base N (exNF qual params (.Expr (.Call (.Attribute (.Call (.Name "super" p0) [] [] p1) "__init__" p2) [msg] [] p3) p4 :: rest) scope cc cda) fI A outer s H E) [] (NdefX.startF N (.ref a :: ws) [some (.ref C)]) H { s with heap := h₁, toks := s.toks + (ps.zip us).length } :=
    NdefX.inv_startN S hr.hd e0 hl r CA hns kp
  have cb : Cb (NdefX.ncx (L2N.CX Pg w) Pg w K mg base N (exNF qual params (.Expr (.Call (.Attribute (.Call (.Name "super" p0) [] [] p1) "__init__" p2) [msg] [] p3) p4 :: rest) scope cc cda) fI A outer s H E) ⟨cl, [], noX, none⟩ := ⟨(hr.deeper _).units, S.nd, hf⟩
  obtain ⟨pl, hevL⟩ := hev s.heap.objs.size
  refine PySem.ks_wpAt_execs_cons ?_
  refine super_ok (N := N) (σ := NdefX.startF N (.ref a :: ws) [some (.ref C)]) (a := a) T hp S.kind hks (S.frk "__class__" (by simp)) hka hN I (by simp [NdefX.startF]) ha (hmsg A outer s H E cb).pe rfl hevL (hst _) (hsw _) ?_
  have lN : N.length = ps.length + m := hm
  have lw : ws.length + 1 = ps.length := by simpa using hlen
  have hm1 : 1 ≤ m := by
    have q := congrArg List.length S.pre
    rw [List.length_take, List.length_append] at q
    simp at q
    omega
  have lp := hp1.length
  have es : NdefX.startF N (.ref a :: ws) [some (.ref C)] = some (.ref a) :: (ws.map some ++ (some (.ref C) :: List.replicate (m - 1) none)) := by
    unfold NdefX.startF
    have e1 : N.length - (V.ref a :: ws).length - [some (V.ref C)].length = m - 1 := by
      simp only [List.length_cons, List.length_nil]
      omega
    rw [e1]
    simp
  have er : (none :: ds.map (fun d => some (O.p d)) ++ List.replicate m none : Env) = none :: (((ds.map O.p).map some) ++ List.replicate m none) := by simp
  have lm : (some (V.ref C) :: List.replicate (m - 1) (none : Option V)).length = m := by simp; omega
  have sta : Sta ⟨K, cl, none⟩ H B (NdefX.startF N (.ref a :: ws) [some (.ref C)]) (none :: ds.map (fun d => some (.p d)) ++ List.replicate m none) (fun _ => False) := by
    rw [es, er]
    have q := SlAll.anys (g := ⟨K, cl, none⟩) (H := H) (B := bad (fun _ => False) B) (some (V.ref C) :: List.replicate (m - 1) none)
    rw [lm] at q
    have h1 : PAll ⟨K, cl, none⟩ H (bad (fun _ => False) B) ws ds := PAll.mono (fun a o n e => ⟨e, fun z => z.elim (fun z => z.elim) n⟩) _ hp1
    exact ⟨⟨[] ++ [], .any (h1.slots.app q), List.nodup_nil, fun b => by simp⟩, fun b q => q.elim, hB, trivial⟩
  -- the message
  refine ⟨B, [], none :: ds.map (fun d => some (.p d)) ++ List.replicate m none, [], fun _ => False, ?_, ?_, ?_⟩
  · have := sta.length
    simpa using this
  · exact sta0 sta
  · rw [hmf]
    intro v H1 W1 f1 q1 st1 pv
    obtain ⟨eW, sm⟩ := q1 rfl
    have ev : v = .str z := pv.t.s
    subst ev
    have ha1 := sm _ _ ha
    refine ⟨z, rfl, ha1, fun s' J => wpAt_of_wpAny ?_⟩
    have fin : ∀ {σ' : L2.St} {H' : Hp} {v : V} {u : Value} {s'' : Shared}, Inv (NdefX.ncx (L2N.CX Pg w) Pg w K mg base N (exNF qual params (.Expr (.Call (.Attribute (.Call (.Name "super" p0) [] [] p1) "__init__" p2) [msg] [] p3) p4 :: rest) scope cc cda) fI A outer s H E) [] σ' H' s'' → L2.RelV v u → Q v H' → CE outer Pg w H s Q u s'' :=
      fun {σ' H' v u s''} J rv q => ⟨v, H', J.os, J.bare, J.base, J.hok, rv, q⟩
    have hσ : (NdefX.startF N (.ref a :: ws) [some (.ref C)])[0]? = some (some (.ref a)) := by rw [es]; rfl
    have hfl2 : fldsV (NdefX.startF N (.ref a :: ws) [some (.ref C)]) qs [] = some out := by
      rw [← hfl]
      refine fldsV_congr fun q hq => ?_
      rw [es]
      have := hq3 q hq
      rw [show (some (V.ref a) :: (ws.map some ++ (some (V.ref C) :: List.replicate (m - 1) none))) = (some (V.ref a) :: ws.map some) ++ (some (V.ref C) :: List.replicate (m - 1) none) from rfl, List.getElem?_append_left (by simp; omega)]
    have run := (hrest A outer s H E).run [] s' (NdefX.startF N (.ref a :: ws) [some (.ref C)]) H1 { nx := fun _ H' => Q .non H', rt := Q } J
      (osts_new T.T hσ hno ha1 hq2 hq1 hfl2 fun d H2 hd hne h1 h2 h3 => hq d H2 (sm.free hd) hne (fun b o e hb => by
        have hbd : b ≠ d := fun z => by rw [z, sm.free hd] at e; cases e
        rw [h3 b hb hbd]
        exact sm _ _ e) h1 h2)
    refine wpAny_mono run (fun fl s'' hs => ?_) fun e s'' hs => hs
    cases fl with
    | ret u =>
      obtain ⟨v, σ', H', J, rv, q⟩ := hs
      exact fin J rv q
    | next =>
      obtain ⟨σ', H', J, q⟩ := hs
      exact fin (v := V.non) (u := Value.none) J rfl q
    | brk =>
      obtain ⟨_, _, _, q⟩ := hs
      exact False.elim q
    | cont =>
      obtain ⟨_, _, _, q⟩ := hs
      exact False.elim q
end
/-! ### raise C(e, ..) -/
section
variable {X : Cx} {σ : L2.St} {H : Hp} {C fI : Addr} {k : Nat} {fd : FuncData} {ps : List Str} {sp : Sp} {p pos : Pos} {e : Expr} {es : List Expr} {ta : TA} {nm : Str}
theorem pmk_oexN {CX : CXT} (T : OexC X.K C) (iC : PySem.W.findIn X.K (.ref C) "__init__" = some (some (.ref fI))) (tI : PySem.W.typeIn X.K (.ref fI) = some (.type "function"))
    (F1 : FnOk X.prog X.w X.K X.mg X.base CX k fI fd ps sp) (hr : Room (k + 1) X.A) (hb : Binds X.K fd ps []) (hx : Passes CX X (fun _ _ _ => False)) (hg : Gl X nm) (hm : X.mg nm = some (.ref C)) (ha : PA X (e :: es) ta)
    (hdb : (nm == ("__debug__" : Str)) = false := by decide) (he : starEach (e :: es) X.env = (false, eval e X.env) :: starEach es X.env := by rfl) (hpl : (backTo pos (starEach es X.env)).any (·.1) = false := by rfl) :
    L2N.PMk X (.Call (.Name nm p) (e :: es) [] pos) (tMkO C sp [] ta) := by
  intro pins s σ H Q I h
  obtain ⟨nm', q, N, bs, bm, sn, sub, ab, col, dd, k0, k1, k2, k3, k5, hC, hbm⟩ := T.cls
  refine wpAny_Call_Name_kw (ld_glob I hg hm ?_ hdb)
  refine PySem.W.callWith_K (h₀ := X.base) I.ok.mod.kin T.kC (thn (ha.run pos pins s σ H _ I h) fun us s1 ⟨vs, H1, I1, r1, hz, q1⟩ => ⟨I1.kIn, ?_⟩) he hpl
  show wpAny _ _ (call (.ref C) us) _ _ _
  obtain ⟨hp, g, dr, tk, os⟩ := s1
  have hsz : hp.objs.size ≤ hp.objs.size + 1 := Nat.le_succ _
  have hn : H1 (hp.objs.size + 1) = none := I1.hok.fresh hsz
  have hq := q1 (hp.objs.size + 1) hn
  rw [List.append_nil] at hq
  have kk : ∀ b o, hp.get? b = some o → ((hp.push (PySem.W.kdv_tup us)).push (PySem.HandSPX.excO C hp.objs.size)).get? b = some o := fun b o e => Heap.get?_push_of_some _ (Heap.get?_push_of_some _ e)
  have hget : ((hp.push (PySem.W.kdv_tup us)).push (PySem.HandSPX.excO C hp.objs.size)).get? (hp.objs.size + 1) = some (PySem.HandSPX.excO C hp.objs.size) := by heap_get
  have I2 : Inv X pins σ (upd H1 (hp.objs.size + 1) (exo (hp.objs.size + 1) C none)) ⟨(hp.push (PySem.W.kdv_tup us)).push (PySem.HandSPX.excO C hp.objs.size), g, dr, tk, os⟩ :=
    I1.laid (t' := tk) (a := hp.objs.size + 1) (o := exo (hp.objs.size + 1) C none) (h' := (hp.push (PySem.W.kdv_tup us)).push (PySem.HandSPX.excO C hp.objs.size)) kk hsz (exo_ok hget)
  have r2 : Vals (V.ref (hp.objs.size + 1) :: vs) (Value.ref (hp.objs.size + 1) :: us) := .cons rfl r1
  have hl : (Value.ref (hp.objs.size + 1) :: us ++ []).length = ps.length := by
    have e := r2.length
    rw [F1.len _ _ _ _ hq] at e
    simpa using e.symm
  have hus : us.length ≤ sizeLine := by
    rw [← Paired.length r1, sizeLine_eq]
    omega
  have b := hb _ (Value.ref (hp.objs.size + 1) :: us) I2.kIn hl
  rw [List.append_nil] at b
  refine wpAny_call (PySem.HandSPX.call_own F.excBase_ValueError (fun Y => PySem.HandSPX.refsVE_contains Y bm hbm) (I1.kIn _ _ hC) (PySem.W.looks_findIn I1.kIn iC) (fun self => PySem.W.bind_fn I1.kIn self tI) hus
    (codeAny_mono (F1.run _ X.stack _ _ ⟨Value.ref (hp.objs.size + 1) :: us, []⟩ (Value.ref (hp.objs.size + 1) :: us) _ _ (fun _ _ _ => False) (hr.make C us []) (I2.env0.make C us []) b r2 hq) fun r s' hq' => ?_))
  cases r with
  | error er => exact hx pins σ _ _ er s' I2 hq'
  | ok fl =>
    cases fl with
    | ret u =>
      obtain ⟨v, H2, os2, bare2, un2, hok2, rv, ev, d, fs, ea, ed, hd1, q2⟩ := hq'
      subst ev
      obtain ⟨h2, g2, d2, t2, os'⟩ := s'
      obtain ⟨t0, G, J, kG, ge, hoe, na⟩ := mk_end0 (d2 := d2) (t2 := t2) I1 hsz kk un2 hok2 os2 bare2 ea ed hd1
      exact ⟨rv, (hp.objs.size + 1), _, _, ⟨G, g2, d2, t2, os'⟩, _, .ref C, some d, rfl, J, kG, ge, hoe, ⟨rfl, rfl, fun vs q => by cases q; rfl⟩, rfl, rfl, na, rfl, bare2, raises_own T.exC T.tyC, q2⟩
    | next => exact False.elim hq'
    | brk => exact False.elim hq'
    | cont => exact False.elim hq'
end
theorem passN {X : Cx} : Passes (L2N.CX X.prog X.w) X (fun _ _ _ => False) := fun _ _ _ _ _ _ _ h => by
  obtain ⟨_, _, _, _, _, _, _, _, _, _, _, _, z⟩ := h
  exact z.elim
/-- the fields of a made error, the last one first -/
def fldsP (ds : List P) : List (Str × Nat) → List (Str × P) → Option (List (Str × P))
  | [], acc => some acc
  | q :: r, acc => match q.2 with
    | j + 1 => (ds[j]?).bind fun d => fldsP ds r ((q.1, d) :: acc)
    | 0 => none
theorem fldsP_ok {g : Gx} {H : Hp} {B : AP} {a : Addr} {ws : List V} {ds : List P} (h : PAll g H B ws ds) : ∀ {qs : List (Str × Nat)} {accP : List (Str × P)} {acc : List (Str × V)} {out : List (Str × P)}, (∀ f p, accP.lookup f = some p → ∃ v, acc.lookup f = some v ∧ PDn g H B v p) → fldsP ds qs accP = some out →
    ∃ o, fldsV (some (.ref a) :: ws.map some) qs acc = some o ∧ ∀ f p, out.lookup f = some p → ∃ v, o.lookup f = some v ∧ PDn g H B v p
  | [], accP, acc, out, k, e => by
    cases e
    exact ⟨acc, rfl, k⟩
  | q :: r, accP, acc, out, k, e => by
    unfold fldsP at e
    split at e
    · rename_i j ej
      obtain ⟨d, e1, e2⟩ := Option.bind_eq_some_iff.mp e
      obtain ⟨v, ev, hv⟩ := h.get e1
      have ev2 : (some (V.ref a) :: ws.map some)[q.2]? = some (some v) := by
        rw [ej]
        simp [ev]
      unfold fldsV
      rw [ev2]
      refine fldsP_ok h (accP := (q.1, d) :: accP) (acc := (q.1, v) :: acc) (fun f p ef => ?_) e2
      rw [lookup_put]
      by_cases hf : f = q.1
      · subst hf
        have : d = p := by simpa [List.lookup] using ef
        subst this
        exact ⟨v, by rw [if_pos rfl], hv⟩
      · rw [if_neg hf]
        have hb : (f == q.1) = false := by simpa using hf
        rw [List.lookup_cons, hb] at ef
        exact k f p ef
    · cases e
def sRaiseF (c : Str) (n m : Nat) (mf : Env → Res (P × Env)) (qs : List (Str × Nat)) (fr : Env → Res (List P × Env)) : Env → Res (Fl × Env) := fun ρ => (fr ρ).bind fun a =>
  if a.1.length + 1 = n ∧ a.1.length ≤ 1000 then (match mf (none :: a.1.map (fun d => some (.p d)) ++ List.replicate m none), fldsP a.1 qs [] with
    | .ok (.s (.str _), _), some fs => .ex c fs a.2
    | _, _ => .bad) else .bad
theorem ss_raiseI {io : List Nat} {g : Gx} {wx : WX} {b : Bool} {c : Str} {n m : Nat} {mf : Env → Res (P × Env)} {qs : List (Str × Nat)} {ta : TA} {fr : Env → Res (List P × Env)} (sa : SA b true g wx ta fr) (hg : g.ev = none) :
    SS io g wx (fun _ σ H => tMkO (g.cl c) (spI g.K g.cl (g.cl c) n m mf qs) [] ta σ H fun cls d H' => wx cls d σ H') (sRaiseF c n m mf qs fr) := by
  intro Z σ ρ H W D st post
  refine sa_then sa (by simpa using st.length) (sta0 st) (fun e => by unfold sRaiseF at post; rw [e] at post; exact post) (fun c fs ρ1 e => by unfold sRaiseF at post; rw [e] at post; exact post.exE) fun ds ρ1 vs H1 W1 e l1 f1 q1 st1 pv => ?_
  unfold sRaiseF at post
  rw [e] at post
  have post1 : PostS io g wx Z σ H W (if ds.length + 1 = n ∧ ds.length ≤ 1000 then (match mf (none :: ds.map (fun d => some (.p d)) ++ List.replicate m none), fldsP ds qs [] with
    | .ok (.s (.str _), _), some fs => .ex c fs ρ1
    | _, _ => .bad) else .bad) D := post
  have pv' : PAll g H1 (bad W1 Z) vs ds := pv
  split at post1
  · rename_i hc
    split at post1
    · rename_i z ρ' fs em ef
      refine ⟨by rw [pv'.length]; exact hc.2, fun a na => ?_⟩
      rw [List.append_nil]
      obtain ⟨K, cl, ev⟩ := g
      have hg' : ev = none := hg
      subst hg'
      have sm : Same H1 (upd H1 a (exo a (cl c) none)) := same_new na
      obtain ⟨o, ho, hok⟩ := fldsP_ok (a := a) pv' (accP := []) (acc := []) (fun f p e => by cases e) ef
      refine ⟨by simp [pv'.length, hc.1], a, vs, ds, bad W1 Z, z, ρ', o, rfl, upd_same, fun b q => ?_, fun q => st1.bt a q na, pv'.same sm, em, ho, fun d H2 hd hne hk h1 h2 => ⟨rfl, d, o, h1, h2, ?_, ?_⟩⟩
      · cases eb : H1 b with
        | none => exact absurd eb (st1.bt b q)
        | some u => rw [sm b u eb]; exact fun z => nomatch z
      · rw [upd_ne hne] at hd
        exact hd
      · have hd1 : H1 d = none := by rw [upd_ne hne] at hd; exact hd
        have same2 : Same H1 (upd (L2.del H2 a) d (.xd o)) := fun b u e => by
          have hbd : b ≠ d := fun z => by rw [z, hd1] at e; cases e
          have hba : b ≠ a := fun z => by rw [z, na] at e; cases e
          rw [upd_ne hbd, L2.del_ne hba]
          exact hk b u (sm b u e) hba
        refine post1 σ (.ref (cl c)) (some d) _ W1 (f1.trans (.same same2)) .refl rfl (sta0' (st1.same same2)) ⟨rfl, .inr ⟨d, o, rfl, upd_same, fun q => st1.bt d q hd1, fun f p ep => ?_⟩⟩
        obtain ⟨v, hv, pv⟩ := hok f p ep
        exact ⟨v, hv, PDn.same pv same2⟩
    · exact post1.elim
  · exact post1.elim
/-- what a maker of errors is known to do -/
structure Ea (P : Program) (w : World) (K : PySem.W.Frag) (mg : Str → Option Value) (base : Heap) (cl : Str → Addr) (c : Str) (k n m : Nat) (mf : Env → Res (DL.P × Env)) (qs : List (Str × Nat)) : Prop where
  ok : ∃ fI fd ps, OexC K (cl c) ∧ PySem.W.findIn K (.ref (cl c)) "__init__" = some (some (.ref fI)) ∧ PySem.W.typeIn K (.ref fI) = some (.type "function") ∧ FnOk P w K mg base (L2N.CX P w) k fI fd ps (spI K cl (cl c) n m mf qs) ∧ Binds K fd ps []
theorem sRaiseI {X : Cx} {cl : Str → Addr} {io : List Nat} {wx : WX} {c nm : Str} {k k' n m : Nat} {mf : Env → Res (P × Env)} {qs : List (Str × Nat)} {e : Expr} {es : List Expr} {p pos pos' : Pos} {b : Bool} {fr : Env → Res (List P × Env)} (ct : Ct X ⟨cl, io, wx, none⟩) (r : Room k' X.A) (E : Ea X.prog X.w X.K X.mg X.base cl c k n m mf qs)
    (hm : X.mg nm = some (.ref (cl c))) (ha : DA X ⟨cl, io, wx, none⟩ b true (e :: es) fr) (hkk : k + 1 ≤ k' := by first | decide | omega) (hg : Gl X nm := by rfl) (hdb : (nm == ("__debug__" : Str)) = false := by decide)
    (he : starEach (e :: es) X.env = (false, eval e X.env) :: starEach es X.env := by rfl) (hpl : (backTo pos (starEach es X.env)).any (·.1) = false := by rfl) :
    DS X ⟨cl, io, wx, none⟩ (.Raise (some (.Call (.Name nm p) (e :: es) [] pos)) none pos') (sRaiseF c n m mf qs fr) := by
  obtain ⟨fI, fd, ps, T, iC, tI, F, bi⟩ := E.ok
  exact .of (L2N.ps_raise ct.calm ct.tk (pmk_oexN T iC tI F (r.mono hkk) bi passN hg hm ha.pa hdb he hpl)) (ss_raiseI (g := ⟨X.K, cl, none⟩) sa_self rfl)
end DL

/-! what the written part says, with error classes -/
namespace DL
open PySem PySem.Spec L2

/-- an error class with its own __init__ -/
structure EI where
  c : Str
  qual : Str
  params : Arguments
  body : List Stmt
  scope : Scope
  fields : List Str
def fiA (K : PySem.W.Frag) (c : Str) : Addr := He.ma K (He.ga K c) "__init__"
abbrev FnI : Type := Option (Str × Str × Arguments × FuncBody × Scope × Addr × List Str × Addr)
def fnI (K : PySem.W.Frag) (c : Str) : FnI := match K.lookup (fiA K c) with
  | some ⟨_, _, .func fd, _⟩ => some (fd.name, fd.qualname, fd.params, fd.body, fd.scope, fd.globals, fd.closure.map (·.1), fd.builtins)
  | _ => none
def EI.val (d : EI) : FnI := some ("__init__", d.qual, d.params, .stmts d.body, d.scope, mainGlobals, ["__class__"], builtinsNs)
def clsB (K : PySem.W.Frag) (C : Addr) : Bool := match K.lookup C with
  | some ⟨.type "type", _, .cls cd, sl⟩ => (match cd.mro, sl.toList with
    | .ref C' :: bm, [_, _, _, _, some (.builtin n), _] => C' == C && n == "ValueError.__new__" && !cd.hasDel && cd.hasDict && PySem.HandSPX.refsVE bm
    | _, _ => false)
  | _ => false
theorem clsB_ok {K : PySem.W.Frag} {C : Addr} (q : clsB K C = true) : ∃ nm q N bs bm sn sub ab col dd k0 k1 k2 k3 k5, K.lookup C = some (excClassObj nm q C N bs bm true sn sub ab col dd k0 k1 k2 k3 k5 "ValueError.__new__") ∧ PySem.HandSPX.refsVE bm = true := by
  unfold clsB at q
  split at q
  · rename_i dd cd sl ho
    split at q
    · rename_i C' bm k0 k1 k2 k3 n k5 hm hs
      simp only [Bool.and_eq_true, beq_iff_eq, Bool.not_eq_true'] at q
      obtain ⟨⟨⟨⟨rfl, rfl⟩, hdel⟩, hd⟩, ht⟩ := q
      obtain ⟨nm, bs, mro, ns, qn, hd', sn, sub, ab, col, del⟩ := cd
      dsimp only at hm hdel hd
      subst hm hdel hd
      have hsl : sl = #[k0, k1, k2, k3, some (.builtin "ValueError.__new__"), k5] := by
        apply Array.ext'
        exact hs
      subst hsl
      exact ⟨nm, qn, ns, bs, bm, sn, sub, ab, col, dd, k0, k1, k2, k3, k5, ho, ht⟩
    · cases q
  · cases q
def oexB (K : PySem.W.Frag) (C : Addr) : Bool := clsB K C && (He.eqO (PySem.W.findIn K (.ref C) "__setattr__") (some (some (.builtin "object.__setattr__"))) && (decide (PySem.W.subIn K (.ref C) (.type "BaseException") = some true) && (decide (PySem.W.typeIn K (.ref C) = some (.type "type")) && PySem.W.keepIn K (.ref C))))
theorem oexB_ok {K : PySem.W.Frag} {C : Addr} (h : oexB K C = true) : OexC K C := by
  obtain ⟨h1, h⟩ := He.ba h
  obtain ⟨h2, h⟩ := He.ba h
  obtain ⟨h3, h⟩ := He.ba h
  obtain ⟨h4, h5⟩ := He.ba h
  exact ⟨clsB_ok h1, He.eqO_ok h2, of_decide_eq_true h3, of_decide_eq_true h4, h5⟩
/-- any error class: its instances may be caught and asked -/
def excB (K : PySem.W.Frag) (C : Addr) : Bool := He.eqO (PySem.W.findIn K (.ref C) "__getattribute__") (some (some (.builtin "BaseException.__getattribute__"))) && (He.eqO (PySem.W.findIn K (.ref C) "__getattr__") (some none) && (decide (PySem.W.subIn K (.ref C) (.type "BaseException") = some true) && (PySem.W.hasDictIn K C &&
  (He.eqO (PySem.W.findIn K (.ref C) "__class__") (some (some (.builtin "object.__class__"))) && (He.eqO (PySem.W.specialIn K (.builtin "object.__class__") "__get__") (some (some (.builtin "getset_descriptor.__get__"))) && (decide (PySem.W.takesIn K (.builtin "object.__class__") = some true) && decide (PySem.W.mroIn K C (.type "object") = some true)))))))
theorem excB_ok {K : PySem.W.Frag} {C : Addr} (h : excB K C = true) : ExcC K C ∧ XfC K C := by
  obtain ⟨h1, h⟩ := He.ba h
  obtain ⟨h2, h⟩ := He.ba h
  obtain ⟨h3, h⟩ := He.ba h
  obtain ⟨h4, h⟩ := He.ba h
  obtain ⟨h5, h⟩ := He.ba h
  obtain ⟨h6, h⟩ := He.ba h
  obtain ⟨h7, h8⟩ := He.ba h
  exact ⟨⟨He.eqO_ok h1, He.eqO_ok h2, of_decide_eq_true h3, h4, He.eqO_ok h5, He.eqO_ok h6, of_decide_eq_true h7, of_decide_eq_true h8⟩, ⟨He.eqO_ok h1, He.eqO_ok h2, of_decide_eq_true h3, h4⟩⟩
def exiB (mf : Str) (K : PySem.W.Frag) (d : EI) : Bool := (match K.lookup (fiA K d.c) with
  | some ⟨_, _, .func fd, _⟩ => (match fd.closure, fd.code, fd.defaults with
    | [(_, cc)], .ref cda, .none => PySem.W.codeIn K (.ref cda) d.qual && ((match K.lookup cda with
        | some ⟨_, _, .fields cvs, _⟩ => (match (cvs[2]? : Option Value) with
          | some (Value.str file _) => mf == file
          | _ => false)
        | _ => false) && (match K.lookup cc with
        | some ⟨_, _, .cell (some (.ref D)), _⟩ => D == He.ga K d.c
        | _ => false))
    | _, _, _ => false)
  | _ => false) && (oexB K (He.ga K d.c) && (decide (PySem.W.mroIn K (He.ga K d.c) (.ref (He.ga K d.c)) = some true) && (He.eqO (PySem.W.ks_superIn K (He.ga K d.c) (He.ga K d.c) "__init__") (some (some (.builtin "ValueError.__init__"))) && (decide (PySem.W.subIn K (.ref (He.ga K d.c)) (.type "ValueError") = some true) &&
  (He.eqO (PySem.W.nsIn K cStatics "thirdparty.any") (some none) && (He.eqO (PySem.W.findIn K (.ref (He.ga K d.c)) "__init__") (some (some (.ref (fiA K d.c)))) && (decide (PySem.W.typeIn K (.ref (fiA K d.c)) = some (.type "function")) && d.fields.all fun f => He.eqO (PySem.W.findIn K (.ref (He.ga K d.c)) f) (some none))))))))
theorem exiB_ok {P : Program} {K : PySem.W.Frag} {mg : Str → Option Value} {d : EI} (h : exiB P.main.file K d = true) (e : fnI K d.c = d.val) (hs : mg "super" = none) (ht : (P.main.scope.names.lookup ("super" : Str)).isSome = false) :
    (∃ cc cda, ExI P K mg (He.ga K d.c) (fiA K d.c) d.params d.body d.scope d.qual cc cda) ∧ PySem.W.findIn K (.ref (He.ga K d.c)) "__init__" = some (some (.ref (fiA K d.c))) ∧ PySem.W.typeIn K (.ref (fiA K d.c)) = some (.type "function") ∧ ∀ f ∈ d.fields, PySem.W.findIn K (.ref (He.ga K d.c)) f = some none := by
  obtain ⟨h1, h⟩ := He.ba h
  obtain ⟨h2, h⟩ := He.ba h
  obtain ⟨h3, h⟩ := He.ba h
  obtain ⟨h4, h⟩ := He.ba h
  obtain ⟨h5, h⟩ := He.ba h
  obtain ⟨h6, h⟩ := He.ba h
  obtain ⟨h7, h⟩ := He.ba h
  obtain ⟨h8, h9⟩ := He.ba h
  refine ⟨?_, He.eqO_ok h7, of_decide_eq_true h8, fun f hf => He.eqO_ok (List.all_eq_true.mp h9 f hf)⟩
  unfold fnI at e
  cases q : K.lookup (fiA K d.c) with
  | none => rw [q] at h1; cases h1
  | some o =>
    obtain ⟨oc, od, dt, osl⟩ := o
    rw [q] at h1 e
    cases dt with
    | func fd =>
      obtain ⟨n1, n2, n3, n4, n5, n6, n7, n8, n9, n10, n11, n12, n13, n14, n15⟩ := fd
      have e2 : (some (n1, n2, n3, n4, n5, n6, n7.map (·.1), n15) : FnI) = d.val := e
      unfold EI.val at e2
      simp only [Option.some.injEq, Prod.mk.injEq] at e2
      obtain ⟨a1, a2, a3, a4, a5, a6, a7, a9⟩ := e2
      subst a1 a2 a3 a4 a5 a6 a9
      dsimp only at h1
      cases n7 with
      | nil => cases h1
      | cons p r =>
        cases r with
        | cons _ _ => cases h1
        | nil =>
          obtain ⟨y, cc⟩ := p
          cases n13 with
          | ref cda =>
            cases n8 with
            | none =>
              have ey : y = "__class__" := by simpa using a7
              subst ey
              obtain ⟨g1, h1⟩ := He.ba h1
              obtain ⟨g2, g3⟩ := He.ba h1
              refine ⟨cc, cda, ⟨⟨oc, od, .none, n9, n10, n11, n14, n12, osl, q, rfl⟩, g1, ?_, ?_, oexB_ok h2, of_decide_eq_true h3, hs, He.eqO_ok h4, of_decide_eq_true h5, He.eqO_ok h6, ht⟩⟩
              · split at g2
                · rename_i c1 c2 cvs c3 hk
                  split at g2
                  · rename_i file tf hf
                    exact ⟨c1, c2, cvs, c3, file, tf, hk, hf, g2⟩
                  · cases g2
                · cases g2
              · split at g3
                · rename_i c1 c2 D c3 hk
                  have : D = He.ga K d.c := by simpa using g3
                  subst this
                  exact ⟨c1, c2, c3, hk⟩
                · cases g3
            | _ => cases h1
          | _ => cases h1
    | _ => cases h1
/-! ### the Hook -/
def asR (g : Addr → Option Obj) (n : Nat) : List Addr := cStatics :: (He.asD g n ++ (He.asD g n).flatMap fun a => match g a with
  | some ⟨_, _, .func fd, _⟩ => fd.closure.map (·.2)
  | _ => [])
abbrev AlR : Type := (He.AlD × List FnI) × Bool
def obsR (fa : List He.Fa) (fn : List He.DefD) (ei : List EI) (ex : PySem.W.Frag → Bool) (K : PySem.W.Frag) : AlR := ((He.obsD fa fn K, ei.map fun d => fnI K d.c), ex K)
def valR (fn : List He.DefD) (ei : List EI) : AlR := ((He.valD fn, ei.map EI.val), true)
structure SaysR (fa : List He.Fa) (fn : List He.DefD) (ei : List EI) (ex : PySem.W.Frag → Bool) (K : PySem.W.Frag) : Prop where
  d : He.SaysD fa fn K
  e : ei.map (fun d => fnI K d.c) = ei.map EI.val
  x : ex K = true
def obsRG (n : Nat) (fa : List He.Fa) (fn : List He.DefD) (ei : List EI) (ex : PySem.W.Frag → Bool) (g : Addr → Option Obj) : AlR := obsR fa fn ei ex (He.frG g (asR g n))
def hookR (n : Nat) (fa : List He.Fa) (fn : List He.DefD) (ei : List EI) (ex : PySem.W.Frag → Bool) : PySem.W.Hook where
  α := AlR
  obs := fun s => obsRG n fa fn ei ex s.heap.get?
  val := fun _ => valR fn ei
  says := fun _ h => ∃ K : PySem.W.Frag, K.In h ∧ SaysR fa fn ei ex K
  of := fun _ _ e => ⟨_, He.frG_in, ⟨congrArg (fun z : AlR => z.1.1) e, congrArg (fun z : AlR => z.1.2) e, congrArg (fun z : AlR => z.2) e⟩⟩
  keeps := fun _ _ _ ⟨K, hK, c⟩ k => ⟨K, PySem.W.Frag.In.keeps hK k, c⟩
theorem obsRG_eq {n : Nat} {fa : List He.Fa} {fn : List He.DefD} {ei : List EI} {ex : PySem.W.Frag → Bool} {g : Addr → Option Obj} {s : Shared} (h : ∀ a, g a = s.heap.get? a) : obsRG n fa fn ei ex g = (hookR n fa fn ei ex).obs s := by
  have e : g = s.heap.get? := funext h
  rw [e] <;> rfl
theorem SaysR.ei {fa : List He.Fa} {fn : List He.DefD} {ei : List EI} {ex : PySem.W.Frag → Bool} {K : PySem.W.Frag} (c : SaysR fa fn ei ex K) (i : Nat) {d : EI} (h : ei[i]? = some d := by rfl) : fnI K d.c = d.val := by
  have q : (ei.map fun d => fnI K d.c)[i]? = (ei.map EI.val)[i]? := by rw [c.e]
  rw [List.getElem?_map, List.getElem?_map, h] at q
  exact Option.some.inj q
/-! ### the classes of errors -/
/-- c, what it is under (by name) -/
abbrev Anc := List (Str × List Str)
def subOf (an : Anc) (c y : Str) : Option Bool := (an.lookup c).map fun l => l.contains y
/-- all that is asked of the error classes -/
def ancB (an : Anc) (K : PySem.W.Frag) : Bool := an.all fun q => excB K (He.ga K q.1) && (an.all (fun r => decide (PySem.W.kitOne K (.ref (He.ga K q.1)) (.ref (He.ga K r.1)) = some (q.2.contains r.1)) && decide (PySem.W.exmOne K (.ref (He.ga K q.1)) (.ref (He.ga K r.1)) = some (q.2.contains r.1))) &&
  (decide (PySem.W.kitOne K (.ref (He.ga K q.1)) (.type "ValueError") = some true) && q.2.contains "ValueError"))
section
variable {an : Anc} {K : PySem.W.Frag}
theorem lookup_mem {α : Type} {c : Str} {l : α} : ∀ {an : List (Str × α)}, an.lookup c = some l → (c, l) ∈ an
  | [], e => by cases e
  | (k, x) :: an, e => by
    by_cases h : c = k
    · subst h
      simp [List.lookup] at e
      rw [e]
      exact List.mem_cons_self
    · have hb : (c == k) = false := by simpa using h
      rw [List.lookup_cons, hb] at e
      exact List.mem_cons_of_mem _ (lookup_mem e)
theorem anc_exc (h : ancB an K = true) {c y : Str} {b : Bool} (e : subOf an c y = some b) : ExcC K (He.ga K c) ∧ XfC K (He.ga K c) := by
  obtain ⟨l, e1, _⟩ := Option.map_eq_some_iff.mp e
  exact excB_ok (He.ba (List.all_eq_true.mp h _ (lookup_mem e1))).1
theorem anc_kit (h : ancB an K = true) {c y : Str} {b : Bool} (hy : (an.lookup y).isSome = true) (e : subOf an c y = some b) : PySem.W.kitOne K (.ref (He.ga K c)) (.ref (He.ga K y)) = some b ∧ PySem.W.exmOne K (.ref (He.ga K c)) (.ref (He.ga K y)) = some b := by
  obtain ⟨l, e1, rfl⟩ := Option.map_eq_some_iff.mp e
  obtain ⟨l2, e2⟩ := Option.isSome_iff_exists.mp hy
  have q := (He.ba (He.ba (List.all_eq_true.mp h _ (lookup_mem e1))).2).1
  obtain ⟨q1, q2⟩ := He.ba (List.all_eq_true.mp q _ (lookup_mem e2))
  exact ⟨of_decide_eq_true q1, of_decide_eq_true q2⟩
theorem anc_ve (h : ancB an K = true) {c : Str} {b : Bool} (e : subOf an c "ValueError" = some b) : PySem.W.kitOne K (.ref (He.ga K c)) (.type "ValueError") = some b := by
  obtain ⟨l, e1, rfl⟩ := Option.map_eq_some_iff.mp e
  obtain ⟨q1, q2⟩ := He.ba (He.ba (He.ba (List.all_eq_true.mp h _ (lookup_mem e1))).2).2
  have q2' : l.contains "ValueError" = true := q2
  rw [q2']
  exact of_decide_eq_true q1
end
end DL

/-! suites: asked by name; defs called there -/
namespace DL
open PySem PySem.Spec L2

structure TxR (fa : List He.Fa) (fn : List He.DefD) (ei : List EI) (exb : PySem.W.Frag → Bool) (K : PySem.W.Frag) (mg : Str → Option Value) : Prop extends Txt fa fn K mg where
  r : SaysR fa fn ei exb K
/-- the extra facts -/
def exsB (mf : Str) (ei : List EI) (an : Anc) (K : PySem.W.Frag) : Bool := (ei.all fun d => exiB mf K d && excB K (He.ga K d.c)) && ancB an K
def hasF (ei : List EI) (c f : Str) : Bool := ei.any fun d => d.c == c && d.fields.contains f
section
variable {P : Program} {fa : List He.Fa} {fn : List He.DefD} {ei : List EI} {an : Anc} {K : PySem.W.Frag} {mg : Str → Option Value}
theorem TxR.anc (T : TxR fa fn ei (exsB P.main.file ei an) K mg) : ancB an K = true := (He.ba T.r.x).2
theorem TxR.exi (T : TxR fa fn ei (exsB P.main.file ei an) K mg) (i : Nat) {d : EI} (h : ei[i]? = some d := by rfl) : exiB P.main.file K d = true := (He.ba (List.all_eq_true.mp (He.ba T.r.x).1 d (List.mem_of_getElem? h))).1
theorem TxR.fld (T : TxR fa fn ei (exsB P.main.file ei an) K mg) {c f : Str} (h : hasF ei c f = true) : XfC K (He.ga K c) ∧ PySem.W.findIn K (.ref (He.ga K c)) f = some none := by
  unfold hasF at h
  obtain ⟨d, hd, hh⟩ := List.any_eq_true.mp h
  simp only [Bool.and_eq_true, beq_iff_eq] at hh
  obtain ⟨ec, hf⟩ := hh
  subst ec
  obtain ⟨h1, h2⟩ := He.ba (List.all_eq_true.mp (He.ba T.r.x).1 d hd)
  refine ⟨(excB_ok h2).2, ?_⟩
  obtain ⟨_, h1⟩ := He.ba h1
  obtain ⟨_, h1⟩ := He.ba h1
  obtain ⟨_, h1⟩ := He.ba h1
  obtain ⟨_, h1⟩ := He.ba h1
  obtain ⟨_, h1⟩ := He.ba h1
  obtain ⟨_, h1⟩ := He.ba h1
  obtain ⟨_, h1⟩ := He.ba h1
  obtain ⟨_, h9⟩ := He.ba h1
  exact He.eqO_ok (List.all_eq_true.mp h9 f (by simpa using hf))
end
section
variable {X : Cx} {cl : Str → Addr} {io : List Nat} {a : Addr} {oe : Obj} {pn : List (Addr × Obj)} {k : Nat} {c : Str} {d : Option Addr} {fvs : List (Str × V)} {fs : List (Str × P)}
/-- isinstance(e, C) -/
theorem uIs (su : Su X cl k a oe pn c d fs) (cb : Cb (X.suite a ((a, oe) :: pn)) ⟨cl, io, noX, some ⟨a, d, fvs, fs⟩⟩) (i : Nat) {nm cn : Str} {p p1 p2 pos : Pos} {sub : Option Bool} {cv : V} {u : Value} (hc : PE (X.suite a ((a, oe) :: pn)) (.Name cn p2) (L2.tC cv)) (hu : ∀ w, RelV cv w → w = u)
    (h : ∀ b, sub = some b → ExcC X.K (cl c) ∧ PySem.W.kitOne X.K (.ref (cl c)) u = some b) (hN : X.N[i]? = some nm := by rfl) (hv : Vis X.env.scope nm := by first | exact Or.inl rfl | exact Or.inr (Or.inl rfl) | exact Or.inr (Or.inr rfl)) (hd : (nm == ("__debug__" : Str)) = false := by decide)
    (hcd : (nm == ("__classdict__" : Str)) = false := by decide) (hg : Gl X "isinstance" := by rfl)
    (he : starEach [.Name nm p1, .Name cn p2] X.env = [(false, eval (.Name nm p1) X.env), (false, eval (.Name cn p2) X.env)] := by rfl) (he2 : starEach [.Name cn p2] X.env = [(false, eval (.Name cn p2) X.env)] := by rfl) :
    DE (X.suite a ((a, oe) :: pn)) ⟨cl, io, noX, some ⟨a, d, fvs, fs⟩⟩ true true (.Call (.Name "isinstance" p) [.Name nm p1, .Name cn p2] [] pos) (dIsE i sub) := by
  cases sub with
  | none =>
    have e : dIsE i none = fun _ => .bad := by
      funext ρ
      unfold dIsE
      split
      · rename_i h; cases h
      · rfl
    rw [e]
    exact dBad
  | some b => exact suite_is (h b rfl).1 su.z su.f (cb.fr "isinstance" (by decide)) hN hv hd hcd hc hu (fun b' e => by cases e; exact (h b rfl).2) hg he he2
theorem uIsG (su : Su X cl k a oe pn c d fs) (cb : Cb (X.suite a ((a, oe) :: pn)) ⟨cl, io, noX, some ⟨a, d, fvs, fs⟩⟩) (i : Nat) {nm cn : Str} {p p1 p2 pos : Pos} {sub : Option Bool} {C : Addr} (hm : X.mg cn = some (.ref C))
    (h : ∀ b, sub = some b → ExcC X.K (cl c) ∧ PySem.W.kitOne X.K (.ref (cl c)) (.ref C) = some b) (hgc : Gl X cn := by rfl) (hdc : (cn == ("__debug__" : Str)) = false := by decide) (hN : X.N[i]? = some nm := by rfl) (hv : Vis X.env.scope nm := by first | exact Or.inl rfl | exact Or.inr (Or.inl rfl) | exact Or.inr (Or.inr rfl)) (hd : (nm == ("__debug__" : Str)) = false := by decide)
    (hcd : (nm == ("__classdict__" : Str)) = false := by decide) (hg : Gl X "isinstance" := by rfl)
    (he : starEach [.Name nm p1, .Name cn p2] X.env = [(false, eval (.Name nm p1) X.env), (false, eval (.Name cn p2) X.env)] := by rfl) (he2 : starEach [.Name cn p2] X.env = [(false, eval (.Name cn p2) X.env)] := by rfl) :
    DE (X.suite a ((a, oe) :: pn)) ⟨cl, io, noX, some ⟨a, d, fvs, fs⟩⟩ true true (.Call (.Name "isinstance" p) [.Name nm p1, .Name cn p2] [] pos) (dIsE i sub) :=
  uIs su cb i (cv := .ref C) (pe_glob hgc hm rfl hdc) (fun w e => e) h hN hv hd hcd hg he he2
theorem uIsV (su : Su X cl k a oe pn c d fs) (cb : Cb (X.suite a ((a, oe) :: pn)) ⟨cl, io, noX, some ⟨a, d, fvs, fs⟩⟩) (i : Nat) {nm : Str} {p p1 p2 pos : Pos} {sub : Option Bool} (hm : X.mg "ValueError" = none)
    (h : ∀ b, sub = some b → ExcC X.K (cl c) ∧ PySem.W.kitOne X.K (.ref (cl c)) (.type "ValueError") = some b) (hgc : Gl X "ValueError" := by rfl) (hN : X.N[i]? = some nm := by rfl) (hv : Vis X.env.scope nm := by first | exact Or.inl rfl | exact Or.inr (Or.inl rfl) | exact Or.inr (Or.inr rfl)) (hd : (nm == ("__debug__" : Str)) = false := by decide)
    (hcd : (nm == ("__classdict__" : Str)) = false := by decide) (hg : Gl X "isinstance" := by rfl)
    (he : starEach [.Name nm p1, .Name "ValueError" p2] X.env = [(false, eval (.Name nm p1) X.env), (false, eval (.Name "ValueError" p2) X.env)] := by rfl) (he2 : starEach [.Name "ValueError" p2] X.env = [(false, eval (.Name "ValueError" p2) X.env)] := by rfl) :
    DE (X.suite a ((a, oe) :: pn)) ⟨cl, io, noX, some ⟨a, d, fvs, fs⟩⟩ true true (.Call (.Name "isinstance" p) [.Name nm p1, .Name "ValueError" p2] [] pos) (dIsE i sub) :=
  uIs su cb i (cv := .ty "ValueError") (pe_bltn hgc hm (by decide +kernel) rfl) (fun w e => e) h hN hv hd hcd hg he he2
/-- e.f -/
def dXfc (i : Nat) (f : Str) (fs : List (Str × P)) (chk : Bool) : Env → Res (P × Env) := fun ρ => if chk = true then dXf i f fs ρ else .bad
theorem uXf (su : Su X cl k a oe pn c d fs) (i : Nat) {nm f : Str} {p pos : Pos} {chk : Bool} (h : chk = true → XfC X.K (cl c) ∧ PySem.W.findIn X.K (.ref (cl c)) f = some none) (hN : X.N[i]? = some nm := by rfl) (hv : Vis X.env.scope nm := by first | exact Or.inl rfl | exact Or.inr (Or.inl rfl) | exact Or.inr (Or.inr rfl))
    (hd : (nm == ("__debug__" : Str)) = false := by decide) (hcd : (nm == ("__classdict__" : Str)) = false := by decide) (hb : attributeBase (.Name nm p) f X.env (eval (.Name nm p) X.env) = eval (.Name nm p) X.env := by rfl) :
    DE (X.suite a ((a, oe) :: pn)) ⟨cl, io, noX, some ⟨a, d, fvs, fs⟩⟩ true true (.Attribute (.Name nm p) f pos) (dXfc i f fs chk) := by
  cases chk with
  | false =>
    have e : dXfc i f fs false = fun _ => .bad := by funext ρ; rfl
    rw [e]
    exact dBad
  | true =>
    have e : dXfc i f fs true = dXf i f fs := by funext ρ; rfl
    rw [e]
    exact suite_xf (h rfl).1 (h rfl).2 su.z su.f su.n hN hv hd hcd hb
end
/-! ### defs called in a suite -/
structure Fh (P : Program) (w : World) (K : PySem.W.Frag) (mg : Str → Option Value) (base : Heap) (cl : Str → Addr) (k n : Nat) (F : List O → FR) (f : Addr) : Prop where
  ok : ∃ fd ps, L2H.FnH P w K mg base (L2N.CX P w) k f fd ps (spF ⟨K, cl, none⟩ n F) ∧ Binds K fd ps []
theorem fh_ok {fa : List He.Fa} {fn : List He.DefD} {P : Program} {w : World} {K : PySem.W.Frag} {mg : Str → Option Value} {base : Heap} {cl : Str → Addr} {N ps : List Str} {k : Nat} {io : List Nat} {fb : Env → Res (Fl × Env)} {at_ : Str × Option Str} {name qual : Str} {params : Arguments} {body : List Stmt} {scope : Scope} (T : Txt fa fn K mg) (j : Nat)
    (hf : ∀ n ∈ bset, mg n = none) (S : FnScope N ps scope)
    (hbi : ∀ (kV doc pm : Value) (an : Option Addr) (cdv ct : Value) (us : List Value), us.length = ps.length → bindArgs (PySem.W.fnOf name qual params body scope .none kV doc pm an cdv ct) ⟨us, []⟩ = pure (ps.zip us))
    (hbody : ∀ (cdv : Value) (A : Around) (outer : List PySem.Env) (s : Shared) (H : Hp) (E : XK) (p : Addr × Obj), L2H.RoomH k (A.deeper (PyProof.Rows.envOfC qual scope s.heap.objs.size (He.fAd K at_) cdv)) → L2H.Hot1 A p →
      Cb (L2H.cxH (L2N.CX P w) P w K mg base N qual scope (He.fAd K at_) cdv A outer s H E p) ⟨cl, io, fun cls d _ H => E cls d H, none⟩ → DSs (L2H.cxH (L2N.CX P w) P w K mg base N qual scope (He.fAd K at_) cdv A outer s H E p) ⟨cl, io, fun cls d _ H => E cls d H, none⟩ body fb)
    (hj : fn[j]? = some ⟨at_, name, qual, params, body, scope, [], []⟩ := by rfl) :
    Fh P w K mg base cl (k + 1) ps.length (runB N.length io fb) (He.fAd K at_) := by
  obtain ⟨fd, F⟩ := T.c.def_ j hj
  have bi := FunD.bindsN (ps := ps) (show FunD K name qual params body scope [] (He.DefD.kws K ⟨at_, name, qual, params, body, scope, [], []⟩) (He.fAd K at_) fd from F) hbi
  obtain ⟨oc, od, dV, kV, doc, pm, an, cdv, ct, osl, rfl, lk, hcd, hdv, hkw⟩ := F.ex
  refine ⟨_, ps, L2H.fn_ofH lk hcd S (fun vs H Q E h => h.1) fun A outer s H vs Q E p hot hr h => ?_, bi⟩
  obtain ⟨hl, Z, W, os, sta, post⟩ := h
  have c : Cb (L2H.cxH (L2N.CX P w) P w K mg base N qual scope (He.fAd K at_) cdv A outer s H E p) ⟨cl, io, fun cls d _ H => E cls d H, none⟩ := ⟨(by
    have q := hr.un
    show (A.deeper (PyProof.Rows.envOfC qual scope s.heap.objs.size (He.fAd K at_) cdv)).units + 64 < cLine
    have q2 : (A.deeper (PyProof.Rows.envOfC qual scope s.heap.objs.size (He.fAd K at_) cdv)).units + 16 * k + 200 < cLine := q
    omega), S.nd, hf⟩
  refine ⟨_, (hbody cdv A outer s H E p hr hot c).ps, ?_⟩
  exact body_run sta post
section
variable {X : Cx} {cl : Str → Addr} {io : List Nat} {a : Addr} {oe : Obj} {pn : List (Addr × Obj)} {k k' n : Nat} {c nm : Str} {d : Option Addr} {fvs : List (Str × V)} {fs : List (Str × P)} {F : List O → FR} {f : Addr} {ev : Option Ev} {b1 : Bool} {p pos : Pos} {e : Expr} {es : List Expr}
def dCallHF (n : Nat) (F : List O → FR) (fr : Env → Res (List P × Env)) : Env → Res (P × Env) := fun ρ => (fr ρ).bind fun a => if a.1.length = n ∧ P.nxs a.1 = true then (match F (a.1.map .p) with
  | .ok r _ => .ok (r.frz, a.2)
  | _ => .bad) else .bad
theorem se_callH {K : PySem.W.Frag} {ta : TA} {fr : Env → Res (List P × Env)} {wx : WX} (sa : SA b1 true ⟨K, cl, ev⟩ wx ta fr) : SE b1 true ⟨K, cl, ev⟩ wx (tCallS (spF ⟨K, cl, none⟩ n F) (WE wx) ta) (dCallHF n F fr) := by
  intro Z σ τ ρ θ H W Q hl st post
  refine sa_then sa hl st (fun e => by unfold dCallHF at post; rw [e] at post; exact post) (fun c fs ρ1 e => by unfold dCallHF at post; rw [e] at post; exact post) fun ds ρ1 vs H1 W1 e l1 f1 q1 st1 pv => ?_
  unfold dCallHF at post
  rw [e] at post
  have post1 : PostE b1 true ⟨K, cl, ev⟩ wx Z σ τ θ H W (if ds.length = n ∧ P.nxs ds = true then (match F (ds.map .p) with | .ok r _ => .ok (r.frz, ρ1) | _ => .bad) else .bad) Q := post
  have pv' : PAll ⟨K, cl, ev⟩ H1 (bad W1 Z) vs ds := pv
  split at post1
  · rename_i hc
    have pv0 : PAll ⟨K, cl, none⟩ H1 (bad W1 Z) vs ds := pv'.unreg ds hc.2
    have sta : Sta ⟨K, cl, none⟩ H1 (bad W1 Z) (vs.map some) ((ds.map O.p).map some) (fun _ => False) :=
      ⟨⟨[], (PAll.mono (fun a o n e => ⟨e, fun z => z.elim (fun z => z.elim) n⟩) _ pv0).slots, List.nodup_nil, fun a => by simp⟩, fun a q => q.elim, st1.bt, trivial⟩
    refine ⟨by rw [pv'.length]; exact hc.1, bad W1 Z, fun _ => False, ds.map .p, sta, ?_⟩
    cases ef : F (ds.map .p) with
    | bad => rw [ef] at post1; exact post1
    | ex c fs out => rw [ef] at post1; exact post1.elim
    | ok r out =>
      rw [ef] at post1
      intro v H2 W2' f2' s2'
      obtain ⟨W2, f2t, _, s2⟩ := s2'.tail (outVE vs out)
      have f2 := f2'.trans f2t
      have sm := f2.none_same
      have pr : PDn ⟨K, cl, none⟩ H2 (bad W1 Z) v r.frz := by
        obtain ⟨fp, h, nd, em⟩ := s2.all
        cases h with
        | @cons _ _ _ _ f1 f2 h1 h2 =>
          cases h2
          rw [List.append_nil] at em
          refine h1.frz (fun a n z => n (.inr z)) _ fun a q z => ?_
          exact s2.dj a ((em a).mpr q) z
      exact post1 v H2 W1 (f1.trans (.same sm)) (fun hb => ⟨(q1 hb).1, (q1 hb).2.trans sm⟩) (st1.same sm) (pr.reg _)
  · exact post1.elim
theorem takesN0 {X : Cx} : L2N.Takes X (fun _ _ _ _ => False) := fun _ _ ⟨_, _, _, _, _, _, _, _, _, _, _, _, _, _, _, _, w⟩ => w.elim
theorem uCall {fr : Env → Res (List P × Env)} (su : Su X cl k' a oe pn c d fs) (Fk : Fh X.prog X.w X.K X.mg X.base cl k n F f) (hm : X.mg nm = some (.ref f)) (hk : PySem.W.keepIn X.K (.ref f) = true) (ha : DA (X.suite a ((a, oe) :: pn)) ⟨cl, io, noX, ev⟩ b1 true (e :: es) fr) (hkk : k ≤ k' := by first | decide | omega) (hg : Gl X nm := by rfl)
    (hdb : (nm == ("__debug__" : Str)) = false := by decide) (he : starEach (e :: es) X.env = (false, eval e X.env) :: starEach es X.env := by rfl) (hpl : (backTo pos (starEach es X.env)).any (·.1) = false := by rfl) :
    DE (X.suite a ((a, oe) :: pn)) ⟨cl, io, noX, ev⟩ b1 true (.Call (.Name nm p) (e :: es) [] pos) (dCallHF n F fr) := by
  obtain ⟨fd, ps, F, bi⟩ := Fk.ok
  exact .of (L2H.pe_callH (X := X.suite a ((a, oe) :: pn)) (E := WE noX) F (su.room.mono hkk) su.hot hg hm hk bi (fun σ => L2N.passAt takesN0 σ) ha.pa hdb he hpl) (se_callH (K := X.K) sa_self)
end
end DL

/-! the law's own call: from its function to the head -/
namespace DL
open PySem PySem.Spec PyProof.Rows L2

/-- a script -/
def scr (ns : List Int) : O := .p (.nd .slst (ns.map fun i => .s (.int i)))
theorem PAll.ints {g : Gx} {H : Hp} {B : AP} : ∀ ns : List Int, PAll g H B (ns.map V.int) (ns.map fun i => P.s (.int i))
  | [] => .nil
  | n :: ns => .cons (.s _) (PAll.ints ns)
theorem law_start {g : Gx} {F : List O → FR} (hev : g.ev = none) {m : Nat} (h : ∀ ns : List Int, ns.length ≤ m → (∀ k ∈ ns, Builtin.Int.intBits k ≤ 1048576) → ∃ out, F [scr ns] = .ok (.p (.s (.bl true))) out) (H : Hp) (a : Addr) (ns : List Int) (hl : ns.length ≤ m) (hbt : ∀ k ∈ ns, Builtin.Int.intBits k ≤ 1048576) (hS : SqL g.K H a (ns.map V.int)) :
    spF g 1 F [.ref a] H (fun v _ => v = .bl true) fun _ _ _ => False := by
  obtain ⟨out, e⟩ := h ns hl hbt
  refine ⟨rfl, fun _ => False, fun _ => False, [scr ns], ⟨⟨[] ++ [], .cons ?_ .nil, List.nodup_nil, fun b => by simp⟩, fun b q => q.elim, fun b q => q.elim, by obtain ⟨K, cl, ev⟩ := g; cases hev; trivial⟩, ?_⟩
  · rcases hS with hS | hS
    · exact .p (.nd (fun z => z.elim (fun z => z) fun z => z) hS (PAll.ints ns))
    · exact .p (.k (t := .slst) (.inr hS) (PAll.ints ns))
  · rw [e]
    intro v H' W' f st
    have e1 : (outE out ++ [some (O.p (.s (.bl true)))])[(outE out).length]? = some (some (.p (.s (.bl true)))) := by simp
    obtain ⟨u, e2, pv⟩ := st.slotP e1
    have e3 : (outV [V.ref a] out ++ [some v])[(outE out).length]? = some (some v) := by
      rw [← outVE [V.ref a] out]
      simp
    rw [e3] at e2
    have : v = u := by simpa using e2
    subst this
    cases pv
    rfl
/-- no exception leaves a law -/
theorem noCX {P : Program} {w : World} (H : Hp) (s : Shared) (e : Value) (s' : Shared) (h : L2N.CX P w [] H s (fun _ _ _ => False) e s') : False := by
  obtain ⟨_, _, _, _, _, _, _, _, _, _, _, _, z⟩ := h
  exact z.elim
theorem Fa.fn {P : Program} {w : World} {K : PySem.W.Frag} {mg : Str → Option Value} {base : Heap} {cl : Str → Addr} {k n : Nat} {F : List O → FR} {f : Addr} (h : Fa P w K mg base cl k n F f) : ∃ fd ps, FnOk P w K mg base (L2N.CX P w) k f fd ps (spF ⟨K, cl, none⟩ n F) ∧ Binds K fd ps [] := h.ok
/-- the law's def: its function object before the base is told -/
theorem fl_ok {fa : List He.Fa} {fn : List He.DefD} {P : Program} {w : World} {K : PySem.W.Frag} {mg : Str → Option Value} {cl : Str → Addr} {N : List Str} {x : Str} {k : Nat} {io : List Nat} {fb : Env → Res (Fl × Env)} {at_ : Str × Option Str} {name qual : Str} {params : Arguments} {body : List Stmt} {scope : Scope} (T : Txt fa fn K mg) (j : Nat)
    (hf : ∀ n ∈ bset, mg n = none) (S : FnScope N [x] scope)
    (hbi : ∀ (kV doc pm : Value) (an : Option Addr) (cdv ct : Value) (us : List Value), us.length = [x].length → bindArgs (PySem.W.fnOf name qual params body scope .none kV doc pm an cdv ct) ⟨us, []⟩ = pure ([x].zip us))
    (hbody : ∀ (base : Heap) (cdv : Value) (A : Around) (outer : List PySem.Env) (s : Shared) (H : Hp) (E : XK), Room k (A.deeper (PyProof.Rows.envOfC qual scope s.heap.objs.size (He.fAd K at_) cdv)) →
      Ct (cxOf (L2N.CX P w) P w K mg base N qual scope (He.fAd K at_) cdv A outer s H E) ⟨cl, io, fun cls d _ H => E cls d H, none⟩ → DSs (cxOf (L2N.CX P w) P w K mg base N qual scope (He.fAd K at_) cdv A outer s H E) ⟨cl, io, fun cls d _ H => E cls d H, none⟩ body fb)
    (hj : fn[j]? = some ⟨at_, name, qual, params, body, scope, [], []⟩ := by rfl) :
    ∃ fd, (∀ (s : Shared) (v : Value), BindsTo s fd ⟨[v], []⟩ [(x, v)]) ∧ ∀ base : Heap, FnOk P w K mg base (L2N.CX P w) (k + 1) (He.fAd K at_) fd [x] (spF ⟨K, cl, none⟩ 1 (runB N.length io fb)) := by
  obtain ⟨fd, F⟩ := T.c.def_ j hj
  have bi := FunD.bindsA (ps := [x]) (show FunD K name qual params body scope [] (He.DefD.kws K ⟨at_, name, qual, params, body, scope, [], []⟩) (He.fAd K at_) fd from F) hbi
  obtain ⟨oc, od, dV, kV, doc, pm, an, cdv, ct, osl, rfl, lk, hcd, hdv, hkw⟩ := F.ex
  exact ⟨_, fun s v => bi s [v] rfl, fun base => fn_ok lk hcd S rfl hf fun A outer s H E hr c => hbody base cdv A outer s H E hr c⟩
/-- the end: the law's function answers true on every script -/
theorem walk_ofD {l : PySem.W.OpenLaw} {n k : Nat} {q : Program} {loose : List Str} {XP : (Str → Option Value) → Heap → Prop} {YP : World → Heap → Prop} {d : DefRec} {x : Str} {F : List O → FR}
    (hn : l.most = some n) (hn2 : n ≤ sizeLine) (hdf : d.params.defaults = []) (hr : Room k callerA)
    (hF : ∀ ns : List Int, ns.length ≤ n → (∀ k ∈ ns, Builtin.Int.intBits k ≤ 1048576) → ∃ out, F [scr ns] = .ok (.p (.s (.bl true))) out)
    (G : ∀ (w : World) (mg : Str → Option Value) (fa : Addr) (h : Heap), YP w h → h.Ns mainGlobals mg → mg d.name = some (.ref fa) →
      ∃ (K : PySem.W.Frag) (cl : Str → Addr) (fd : FuncData), K.In h ∧ (∀ (s : Shared) (u : Value), BindsTo s fd ⟨[u], []⟩ [(x, u)]) ∧
        ∀ base : Heap, FnOk l.prog w K mg base (L2N.CX l.prog w) k fa fd [x] (spF ⟨K, cl, none⟩ 1 F)) :
    PySem.W.WalkO q loose XP YP l.row.toRowW d [] (fun f vs => PySem.call f vs) := by
  refine Att.attach_callB hn hdf fun w s₀ s₁ mg mb fa o pm cd doc a vs ns Gr Y ho hd hcd hmg hobj hints hlen hbits hg => ?_
  obtain ⟨K, cl, fd, KX, hb, hFn⟩ := G w mg fa _ Y Gr.T.g hmg
  exact law_call KX Gr.T.g Gr.T.b Gr.T.builtins Gr.T.nolimit hg hobj hints (Nat.le_trans hlen hn2) hr (fun base _ _ => hFn base) hb (fun H hO hS => law_start (m := n) rfl hF H a ns hlen hbits hS) fun H e s' z => noCX _ _ _ _ z
end DL

/-! lists of what is one's own -/
namespace DL
open PySem PySem.Spec L2

def avs : List AV → Option (List O)
  | [] => some []
  | .ow o :: r => (avs r).map (o :: ·)
  | .pl _ _ :: _ => none
theorem avs_e : ∀ {as : List AV} {os : List O}, avs as = some os → as.map AV.e = os.map some ∧ as.length = os.length
  | [], os, e => by
    cases e
    exact ⟨rfl, rfl⟩
  | .ow o :: r, os, e => by
    obtain ⟨os', e1, e2⟩ := Option.map_eq_some_iff.mp (show (avs r).map (o :: ·) = some os from e)
    obtain ⟨h1, h2⟩ := avs_e e1
    subst e2
    exact ⟨by simp [h1, AV.e], by simp [h2]⟩
  | .pl _ _ :: _, _, e => by cases e
def oLstM (fm : Env → Res (List AV × Env)) : Env → Res (O × Env) := fun ρ => (fm ρ).bind fun a => match avs a.1 with
  | some os => if os.length ≤ sizeLine then .ok (.nd .lst os, a.2) else .bad
  | none => .bad
section
variable {g : Gx} {wx : WX} {Z W W1 : AP} {σ τ : St} {ρ θ : Env} {H H2 : Hp} {b1 b2 : Bool} {n : Nat} {F : List O → FR}
/-- the last places go into a new list -/
theorem Sta.gather {vs : List V} {os : List O} {p : Addr} (hl : σ.length = ρ.length) (ht : τ.length = θ.length) (st : Sta g H Z (σ ++ (τ ++ vs.map some)) (ρ ++ (θ ++ os.map some)) W) (np : H p = none) :
    ∃ W', Fr W H W' (upd H p (.lst vs)) ∧ Sta g (upd H p (.lst vs)) Z (σ ++ some (.ref p) :: τ) (ρ ++ some (.nd .lst os) :: θ) W' := by
  obtain ⟨fp, hh, nd, em⟩ := st.all
  obtain ⟨f1, f2, rfl, h1, h2⟩ := hh.split hl
  obtain ⟨f3, f4, rfl, h3, h4⟩ := h2.split ht
  have h5 := h4.oall
  have sm : Same H (upd H p (.lst vs)) := same_new np
  have nW : ¬ W p := fun q => st.there p q np
  have k : ∀ a o, ¬ bad W Z a → H a = some o → upd H p (.lst vs) a = some o ∧ ¬ bad (fun a => W a ∨ a = p) Z a := fun a o n e => ⟨sm a o e, fun z => by
    rcases z with (z | z) | z
    · exact n (.inl z)
    · rw [z, np] at e; cases e
    · exact n (.inr z)⟩
  refine ⟨fun a => W a ∨ a = p, ⟨fun a o e n => sm a o e, fun a q => q.elim .inl fun q => .inr (by rw [q]; exact np)⟩, ⟨f1 ++ ((p :: f4) ++ f3), ?_, ?_, fun a => ?_⟩, fun a q => ?_, fun a q => ?_, st.ev.mono k⟩
  · exact (h1.mono k fun a _ o e => sm a o e).app (.cons (.nd rfl upd_same (OAll.mono k _ (fun a _ o e => sm a o e) h5)) (h3.mono k fun a _ o e => sm a o e))
  · have np' : p ∉ f1 ++ (f3 ++ f4) := fun q => nW ((em p).mpr q)
    have pm : (f1 ++ ((p :: f4) ++ f3)).Perm (p :: (f1 ++ (f3 ++ f4))) := by
      refine List.perm_middle.trans (.cons p ?_)
      exact (List.Perm.refl f1).append List.perm_append_comm
    exact pm.nodup_iff.mpr (List.nodup_cons.mpr ⟨np', nd⟩)
  · have := em a
    simp only [List.mem_append, List.mem_cons] at this ⊢
    constructor
    · rintro (q | q)
      · rcases this.mp q with q | q | q
        · exact .inl q
        · exact .inr (.inr q)
        · exact .inr (.inl (.inr q))
      · exact .inr (.inl (.inl q))
    · rintro (q | (q | q) | q)
      · exact .inl (this.mpr (.inl q))
      · exact .inr q
      · exact .inl (this.mpr (.inr (.inr q)))
      · exact .inl (this.mpr (.inr (.inl q)))
  · rcases q with q | q
    · exact st.dj a q
    · exact fun z => st.zt a z (by rw [q]; exact np)
  · intro e
    have := st.zt a q
    cases e2 : H a with
    | none => exact this e2
    | some o => rw [sm a o e2] at e; cases e
theorem so_lstM {t : TA} {fm : Env → Res (List AV × Env)} (sm : SM b1 g wx t fm) : SO g wx (tLst t) (oLstM fm) := by
  intro Z σ τ ρ θ H W Q hl st post
  refine sm Z σ τ ρ θ H W _ hl st ?_
  unfold oLstM at post
  cases e : fm ρ with
  | bad => rw [e] at post; exact post
  | ex c fs ρ1 => rw [e] at post; exact post
  | ok q =>
    obtain ⟨as, ρ1⟩ := q
    rw [e] at post
    intro vs H1 W1 f1 q1 st1 held
    have post1 : PostO g wx Z σ τ θ H W (match avs as with
      | some os => if os.length ≤ sizeLine then .ok (.nd .lst os, ρ1) else .bad
      | none => .bad) Q := post
    split at post1
    · rename_i os eo
      obtain ⟨e1, e2⟩ := avs_e eo
      split at post1
      · rename_i hc
        have tl := tl_len hl st
        have l1 : σ.length = ρ1.length := by
          have a := st1.length
          have b := held.len
          simp only [List.length_append, List.length_map] at a
          omega
        rw [e1] at st1
        refine ⟨by rw [held.len, e2]; exact hc, fun p np => ?_⟩
        obtain ⟨W2, f2, st2⟩ := Sta.gather l1 tl st1 np
        exact post1 _ _ W2 (f1.trans f2) st2
      · exact post1.elim
    · exact post1.elim
end
section
variable {X : Cx} {x : Bx} {b : Bool} {es : List Expr} {pos : Pos} {fm : Env → Res (List AV × Env)}
theorem oListM (h : DM X x b es fm) : DO X x (.List es pos) (oLstM fm) := .of (pe_lst h.pa) (so_lstM sm_self)
end
end DL

/-! what each piece gives on a written environment -/
namespace DL
open PySem PySem.Spec L2

section
variable {x : Option O} {ρ : Env}
theorem res_ok {α β : Type} (a : α) (f : α → Res β) : Res.bind (.ok a) f = f a := rfl
theorem res_ex {α β : Type} (c : Str) (fs : List (Str × P)) (e : Env) (f : α → Res β) : Res.bind (.ex c fs e) f = .ex c fs e := rfl
theorem ev_sSeqF (f h : Env → Res (Fl × Env)) : sSeqF f h (x :: ρ) = (f (x :: ρ)).bind fun a => match a.1 with
  | .nx => h a.2
  | fl => .ok (fl, a.2) := rfl
theorem ev_sIfF (ft : Env → Res (Bool × Env)) (f h : Env → Res (Fl × Env)) : sIfF ft f h (x :: ρ) = (ft (x :: ρ)).bind fun c => if c.1 = true then f c.2 else h c.2 := rfl
theorem ev_sNx  : sNx  (x :: ρ) = Res.ok (Fl.nx, x :: ρ) := rfl
theorem ev_sSetF (i : Nat) (fo : Env → Res (O × Env)) : sSetF i fo (x :: ρ) = (fo (x :: ρ)).bind fun a => if i < a.2.length then .ok (.nx, a.2.set i (some a.1)) else .bad := rfl
theorem ev_sAsgF (fg : P → Env → Option Env) (fa : Env → Res (P × Env)) : sAsgF fg fa (x :: ρ) = (fa (x :: ρ)).bind fun a => match fg a.1 a.2 with
  | some ρ' => .ok (.nx, ρ')
  | none => .bad := rfl
theorem ev_sAugF (i : Nat) (op : P → P → Option P) (fa : Env → Res (P × Env)) : sAugF i op fa (x :: ρ) = match (x :: ρ)[i]? with
  | some (some (.p dx)) => (fa (x :: ρ)).bind fun a => match op dx a.1 with
    | some z => if i < a.2.length then .ok (.nx, a.2.set i (some (.p z))) else .bad
    | none => .bad
  | _ => .bad := rfl
theorem ev_sExprF (fa : Env → Res (P × Env)) : sExprF fa (x :: ρ) = (fa (x :: ρ)).bind fun a => .ok (.nx, a.2) := rfl
theorem ev_sRetF (fo : Env → Res (O × Env)) : sRetF fo (x :: ρ) = (fo (x :: ρ)).bind fun a => .ok (.rt a.1, a.2) := rfl
theorem ev_sRetNF  : sRetNF  (x :: ρ) = Res.ok (Fl.rt (.p (.s .non)), x :: ρ) := rfl
theorem ev_sForD (fi : Env → Res (List P × Env)) (fg : P → Env → Option Env) (fb : Env → Res (Fl × Env)) : sForD fi fg fb (x :: ρ) = (fi (x :: ρ)).bind fun a => sForF fg fb a.1 a.2 := rfl
theorem ev_dConst (d : P) : dConst d (x :: ρ) = Res.ok (d, x :: ρ) := rfl
theorem ev_dVarF (i : Nat) : dVarF i (x :: ρ) = match (x :: ρ)[i]? with
  | some (some (.p d)) => .ok (d, x :: ρ)
  | _ => .bad := rfl
theorem ev_dVarZ (i : Nat) : dVarZ i (x :: ρ) = match (x :: ρ)[i]? with
  | some (some o) => .ok (o.frz, (x :: ρ).set i (some (.p o.frz)))
  | _ => .bad := rfl
theorem ev_dVarT (i : Nat) : dVarT i (x :: ρ) = match (x :: ρ)[i]? with
  | some (some o) => oSt o.top (x :: ρ)
  | _ => .bad := rfl
theorem ev_dAtF (fl : Env → Option (Nat × List Nat)) : dAtF fl (x :: ρ) = match (fl (x :: ρ)).bind (at_ (x :: ρ)) with
  | some (.p d) => .ok (d, x :: ρ)
  | _ => .bad := rfl
theorem ev_dAtT (fl : Env → Option (Nat × List Nat)) : dAtT fl (x :: ρ) = oSt (((fl (x :: ρ)).bind (at_ (x :: ρ))).bind O.top) (x :: ρ) := rfl
theorem ev_lName (i : Nat) : lName i (x :: ρ) = some (i, []) := rfl
theorem ev_lIx (fl : Env → Option (Nat × List Nat)) (fi : Env → Res (P × Env)) : lIx fl fi (x :: ρ) = (fl (x :: ρ)).bind fun l => match fi (x :: ρ), at_ (x :: ρ) l with
  | .ok (.s (.int n), _), some (.nd .lst ks) => (ixN ks.length n).map fun j => (l.1, l.2 ++ [j])
  | _, _ => none := rfl
theorem ev_lAttr (c f : Str) (fl : Env → Option (Nat × List Nat)) : lAttr c f fl (x :: ρ) = (fl (x :: ρ)).bind fun l => match at_ (x :: ρ) l with
  | some (.nd (.ins c' fs) _) => if c' = c then (ixOf f fs).map fun j => (l.1, l.2 ++ [j]) else none
  | _ => none := rfl
theorem ev_dBin (op : P → P → Option P) (fa fb : Env → Res (P × Env)) : dBin op fa fb (x :: ρ) = (fa (x :: ρ)).bind fun a => (fb a.2).bind fun b => match op a.1 b.1 with
  | some z => .ok (z, b.2)
  | none => .bad := rfl
theorem ev_dUn (op : P → Option P) (fa : Env → Res (P × Env)) : dUn op fa (x :: ρ) = (fa (x :: ρ)).bind fun a => match op a.1 with
  | some z => .ok (z, a.2)
  | none => .bad := rfl
theorem ev_dNotF (fa : Env → Res (P × Env)) : dNotF fa (x :: ρ) = (fa (x :: ρ)).bind fun a => match pTru a.1 with
  | some k => .ok (.s (.bl (!k)), a.2)
  | none => .bad := rfl
theorem ev_dAndF (fa fb : Env → Res (P × Env)) : dAndF fa fb (x :: ρ) = (fa (x :: ρ)).bind fun a => match pTru a.1 with
  | some true => fb a.2
  | some false => .ok a
  | none => .bad := rfl
theorem ev_dOrF (fa fb : Env → Res (P × Env)) : dOrF fa fb (x :: ρ) = (fa (x :: ρ)).bind fun a => match pTru a.1 with
  | some true => .ok a
  | some false => fb a.2
  | none => .bad := rfl
theorem ev_dIteF (ft : Env → Res (Bool × Env)) (fa fb : Env → Res (P × Env)) : dIteF ft fa fb (x :: ρ) = (ft (x :: ρ)).bind fun c => if c.1 = true then fa c.2 else fb c.2 := rfl
theorem ev_tTru (fa : Env → Res (P × Env)) : tTru fa (x :: ρ) = (fa (x :: ρ)).bind fun a => match pTru a.1 with
  | some k => .ok (k, a.2)
  | none => .bad := rfl
theorem ev_tBl (fa : Env → Res (P × Env)) : tBl fa (x :: ρ) = (fa (x :: ρ)).bind fun a => match a.1 with
  | .s (.bl k) => .ok (k, a.2)
  | _ => .bad := rfl
theorem ev_tAndF (fa fb : Env → Res (Bool × Env)) : tAndF fa fb (x :: ρ) = (fa (x :: ρ)).bind fun a => if a.1 = true then fb a.2 else .ok (false, a.2) := rfl
theorem ev_tOrF (fa fb : Env → Res (Bool × Env)) : tOrF fa fb (x :: ρ) = (fa (x :: ρ)).bind fun a => if a.1 = true then .ok (true, a.2) else fb a.2 := rfl
theorem ev_tNotF (fa : Env → Res (Bool × Env)) : tNotF fa (x :: ρ) = (fa (x :: ρ)).bind fun a => .ok (!a.1, a.2) := rfl
theorem ev_aNil  : aNil  (x :: ρ) = Res.ok (([] : List P), x :: ρ) := rfl
theorem ev_aCons (fa : Env → Res (P × Env)) (fr : Env → Res (List P × Env)) : aCons fa fr (x :: ρ) = (fa (x :: ρ)).bind fun a => (fr a.2).bind fun r => .ok (a.1 :: r.1, r.2) := rfl
theorem ev_aStar (fa : Env → Res (P × Env)) (fr : Env → Res (List P × Env)) : aStar fa fr (x :: ρ) = (fa (x :: ρ)).bind fun a => match a.1 with
  | .nd t ks => if t = .lst ∨ t = .slst ∨ t = .tup then (fr a.2).bind fun r => .ok (ks ++ r.1, r.2) else .bad
  | _ => .bad := rfl
theorem ev_dSeqF (t : Tg) (fa : Env → Res (List P × Env)) : dSeqF t fa (x :: ρ) = (fa (x :: ρ)).bind fun a => if a.1.length ≤ sizeLine then .ok (.nd t a.1, a.2) else .bad := rfl
theorem ev_dChainF (op op' : P → P → Option P) (fa fb fc : Env → Res (P × Env)) : dChainF op op' fa fb fc (x :: ρ) = (fa (x :: ρ)).bind fun a => (fb a.2).bind fun b => match op a.1 b.1 with
  | some (.s (.bl true)) => (fc b.2).bind fun c => match op' b.1 c.1 with
    | some z => .ok (z, c.2)
    | none => .bad
  | some (.s (.bl false)) => .ok (.s (.bl false), b.2)
  | _ => .bad := rfl
theorem ev_oP (fa : Env → Res (P × Env)) : oP fa (x :: ρ) = (fa (x :: ρ)).bind fun a => .ok (.p a.1, a.2) := rfl
theorem ev_oMv (i : Nat) : oMv i (x :: ρ) = match (x :: ρ)[i]? with
  | some (some o) => .ok (o, (x :: ρ).set i none)
  | _ => .bad := rfl
theorem ev_oLst (fr : Env → Res (List P × Env)) : oLst fr (x :: ρ) = (fr (x :: ρ)).bind fun r => if r.1.length ≤ sizeLine then .ok (.nd .lst (r.1.map .p), r.2) else .bad := rfl
theorem ev_oLstM (fm : Env → Res (List AV × Env)) : oLstM fm (x :: ρ) = (fm (x :: ρ)).bind fun a => match avs a.1 with
  | some os => if os.length ≤ sizeLine then .ok (.nd .lst os, a.2) else .bad
  | none => .bad := rfl
theorem ev_oDct  : oDct  (x :: ρ) = Res.ok (O.nd (.dct []) [], x :: ρ) := rfl
theorem ev_dFz (fo : Env → Res (O × Env)) : dFz fo (x :: ρ) = (fo (x :: ρ)).bind fun a => .ok (a.1.frz, a.2) := rfl
theorem ev_dBi (op : List P → Option P) (fr : Env → Res (List P × Env)) : dBi op fr (x :: ρ) = (fr (x :: ρ)).bind fun a => match op a.1 with
  | some z => .ok (z, a.2)
  | none => .bad := rfl
theorem ev_oBi (op : List P → Option (List P)) (fr : Env → Res (List P × Env)) : oBi op fr (x :: ρ) = (fr (x :: ρ)).bind fun a => match op a.1 with
  | some ks => .ok (.nd .lst (ks.map .p), a.2)
  | none => .bad := rfl
theorem ev_oBin (op : P → P → Option (List P)) (fa fb : Env → Res (P × Env)) : oBin op fa fb (x :: ρ) = (fa (x :: ρ)).bind fun a => (fb a.2).bind fun b => match op a.1 b.1 with
  | some ks => .ok (.nd .lst (ks.map .p), b.2)
  | none => .bad := rfl
theorem ev_gNm (i : Nat) (d : P) : gNm i d (x :: ρ) = if i < (x :: ρ).length then some ((x :: ρ).set i (some (.p d))) else none := rfl
theorem ev_bNo  : bNo  (x :: ρ) = Res.ok ((none : Option Int), x :: ρ) := rfl
theorem ev_bSo (fa : Env → Res (P × Env)) : bSo fa (x :: ρ) = match fa (x :: ρ) with
  | .ok (.s (.int i), ρ1) => .ok (some i, ρ1)
  | _ => .bad := rfl
theorem ev_dSlF (fa : Env → Res (P × Env)) (fl fh : Env → Res (Option Int × Env)) : dSlF fa fl fh (x :: ρ) = slF fa fl fh pSl (x :: ρ) := rfl
theorem ev_oSlF (fa : Env → Res (P × Env)) (fl fh : Env → Res (Option Int × Env)) : oSlF fa fl fh (x :: ρ) = slF fa fl fh pSlO (x :: ρ) := rfl
theorem ev_slF {α : Type} (fa : Env → Res (P × Env)) (fl fh : Env → Res (Option Int × Env)) (k : P → Option Int → Option Int → Option α) : slF fa fl fh k (x :: ρ) = (fa (x :: ρ)).bind fun a => match fl a.2 with
  | .ok l => (match fh l.2 with
    | .ok h => (match k a.1 l.1 h.1 with
      | some z => .ok (z, h.2)
      | none => .bad)
    | _ => .bad)
  | _ => .bad := rfl
theorem ev_iAnyF (fa : Env → Res (P × Env)) : iAnyF fa (x :: ρ) = (fa (x :: ρ)).bind fun a => match a.1 with
  | .nd .lst ks => .ok (ks, a.2)
  | .nd .slst ks => .ok (ks, a.2)
  | .nd .tup ks => .ok (ks, a.2)
  | .s (.str z) => .ok (z.cps.toList.map fun c => .s (.str ⟨#[c]⟩), a.2)
  | _ => .bad := rfl
theorem ev_a1P (fa : Env → Res (P × Env)) : a1P fa (x :: ρ) = (fa (x :: ρ)).bind fun a => .ok (.ow (.p a.1), a.2) := rfl
theorem ev_a1Pp (fa : Env → Res (P × Env)) : a1Pp fa (x :: ρ) = (fa (x :: ρ)).bind fun a => .ok (.ow (.p a.1), x :: ρ) := rfl
theorem ev_a1O (fo : Env → Res (O × Env)) : a1O fo (x :: ρ) = (fo (x :: ρ)).bind fun a => .ok (.ow a.1, a.2) := rfl
theorem ev_a1N (i : Nat) : a1N i (x :: ρ) = match (x :: ρ)[i]? with
  | some (some _) => .ok (.pl i [], x :: ρ)
  | _ => .bad := rfl
theorem ev_a1L (fl : Env → Option (Nat × List Nat)) : a1L fl (x :: ρ) = match fl (x :: ρ) with
  | some l => if (at_ (x :: ρ) l).isSome = true then .ok (.pl l.1 l.2, x :: ρ) else .bad
  | none => .bad := rfl
theorem ev_mNil  : mNil  (x :: ρ) = Res.ok (([] : List AV), x :: ρ) := rfl
theorem ev_mCons (fa : Env → Res (AV × Env)) (fm : Env → Res (List AV × Env)) : mCons fa fm (x :: ρ) = (fa (x :: ρ)).bind fun a => (fm a.2).bind fun r => .ok (a.1 :: r.1, r.2) := rfl
theorem ev_mMeth (c m : Str) (fa : Env → Res (AV × Env)) (fm : Env → Res (List AV × Env)) : mMeth c m fa fm (x :: ρ) = (fa (x :: ρ)).bind fun a => if chkM c m a.1 a.2 = true then (fm a.2).bind fun r => .ok (a.1 :: r.1, r.2) else .bad := rfl
theorem ev_mRecv (p : Tg → Bool) (fa : Env → Res (AV × Env)) (fm : Env → Res (List AV × Env)) : mRecv p fa fm (x :: ρ) = (fa (x :: ρ)).bind fun a => if chkT p a.1 a.2 = true then (fm a.2).bind fun r => .ok (a.1 :: r.1, r.2) else .bad := rfl
theorem ev_oKer (op : Tg → List O → List O → Option (O × Tg × List O)) (fm : Env → Res (List AV × Env)) : oKer op fm (x :: ρ) = (fm (x :: ρ)).bind fun a => kerF op a.1 a.2 := rfl
theorem ev_oCallM (n : Nat) (F : List O → FR) (fm : Env → Res (List AV × Env)) : oCallM n F fm (x :: ρ) = (fm (x :: ρ)).bind fun a => if a.1.length = n then callF F a.1 a.2 else .bad := rfl
theorem ev_oMakeM (n : Nat) (F : List O → FR) (c : Str) (fm : Env → Res (List AV × Env)) : oMakeM n F c fm (x :: ρ) = (fm (x :: ρ)).bind fun a => if a.1.length + 1 = n then (match fill a.1 a.2 with
  | some r => (match F (.nd (.ins c []) [] :: r.1) with
    | .ok (.p (.s .non)) out => (match back a.1 1 out a.2, out.lookup 0 with
      | some ρ', some o => .ok (o, ρ')
      | _, _ => .bad)
    | .ex c fs out => (match back a.1 1 out a.2 with
      | some ρ' => .ex c fs ρ'
      | none => .bad)
    | _ => .bad)
  | none => .bad) else .bad := rfl
theorem ev_sSetIxF (fo : Env → Res (O × Env)) (fl : Env → Option (Nat × List Nat)) (fi : Env → Res (P × Env)) : sSetIxF fo fl fi (x :: ρ) = (fo (x :: ρ)).bind fun v => match fl v.2 with
  | some l => (match at_ v.2 l with
    | some (.nd t ks) => (fi v.2).bind fun i => (match setN t ks i.1 v.1 with
      | some r => .ok (.nx, putAt v.2 l (.nd r.1 r.2))
      | none => .bad)
    | _ => .bad)
  | none => .bad := rfl
theorem ev_sSetAtF (c f : Str) (fo : Env → Res (O × Env)) (fl : Env → Option (Nat × List Nat)) : sSetAtF c f fo fl (x :: ρ) = (fo (x :: ρ)).bind fun v => match fl v.2 with
  | some l => (match at_ v.2 l with
    | some (.nd t ks) => (match setA c f t ks v.1 with
      | some r => .ok (.nx, putAt v.2 l (.nd r.1 r.2))
      | none => .bad)
    | _ => .bad)
  | none => .bad := rfl
theorem ev_dCallF (n : Nat) (F : List O → FR) (fr : Env → Res (List P × Env)) : dCallF n F fr (x :: ρ) = (fr (x :: ρ)).bind fun a => if a.1.length = n then (match F (a.1.map .p) with
  | .ok r _ => .ok (r.frz, a.2)
  | .ex c fs _ => .ex c fs a.2
  | .bad => .bad) else .bad := rfl
theorem ev_dCallHF (n : Nat) (F : List O → FR) (fr : Env → Res (List P × Env)) : dCallHF n F fr (x :: ρ) = (fr (x :: ρ)).bind fun a => if a.1.length = n ∧ P.nxs a.1 = true then (match F (a.1.map .p) with
  | .ok r _ => .ok (r.frz, a.2)
  | _ => .bad) else .bad := rfl
theorem ev_sTryF (i : Nat) (catch_ : Str → Option Bool) (fb : Env → Res (Fl × Env)) (fh : Str → List (Str × P) → Env → Res (SuR × Env)) : sTryF i catch_ fb fh (x :: ρ) = match fb (x :: ρ) with
  | .ok a => .ok a
  | .bad => .bad
  | .ex c fs ρ1 => match catch_ c with
    | some false => .ex c fs ρ1
    | none => .bad
    | some true => if i < ρ1.length then (match fh c fs (ρ1.set i (some (.p (.nd .exc [])))) with
      | .ok (.nx, _) => .ok (.nx, ρ1.set i none)
      | .ok (.bk, _) => .ok (.bk, ρ1.set i none)
      | .ok (.ct, _) => .ok (.ct, ρ1.set i none)
      | .ok (.rt d, _) => if d.nx = true then .ok (.rt (.p d), ρ1.set i none) else .bad
      | _ => .bad) else .bad := rfl
theorem ev_sRaiseF (c : Str) (n m : Nat) (mf : Env → Res (P × Env)) (qs : List (Str × Nat)) (fr : Env → Res (List P × Env)) : sRaiseF c n m mf qs fr (x :: ρ) = (fr (x :: ρ)).bind fun a => if a.1.length + 1 = n ∧ a.1.length ≤ 1000 then (match mf (none :: a.1.map (fun d => some (.p d)) ++ List.replicate m none), fldsP a.1 qs [] with
    | .ok (.s (.str _), _), some fs => .ex c fs a.2
    | _, _ => .bad) else .bad := rfl
theorem ev_uNil  : uNil  (x :: ρ) = Res.ok (SuR.nx, x :: ρ) := rfl
theorem ev_uRet (fa : Env → Res (P × Env)) : uRet fa (x :: ρ) = match fa (x :: ρ) with
  | .ok a => .ok (.rt a.1, x :: ρ)
  | _ => .bad := rfl
theorem ev_uIf (ft : Env → Res (Bool × Env)) (f h : Env → Res (SuR × Env)) : uIf ft f h (x :: ρ) = match ft (x :: ρ) with
  | .ok c => if c.1 = true then f (x :: ρ) else h (x :: ρ)
  | _ => .bad := rfl
theorem ev_uSeq (f h : Env → Res (SuR × Env)) : uSeq f h (x :: ρ) = match f (x :: ρ) with
  | .ok (.nx, _) => h (x :: ρ)
  | r => r := rfl
theorem ev_dIsE (i : Nat) (sub : Option Bool) : dIsE i sub (x :: ρ) = match (x :: ρ)[i]?, sub with
  | some (some (.p (.nd .exc []))), some b => .ok (.s (.bl b), x :: ρ)
  | _, _ => .bad := rfl
theorem ev_dXf (i : Nat) (f : Str) (fs : List (Str × P)) : dXf i f fs (x :: ρ) = match (x :: ρ)[i]?, fs.lookup f with
  | some (some (.p (.nd .exc []))), some d => .ok (d, x :: ρ)
  | _, _ => .bad := rfl
theorem ev_dXfc (i : Nat) (f : Str) (fs : List (Str × P)) (chk : Bool) : dXfc i f fs chk (x :: ρ) = if chk = true then dXf i f fs (x :: ρ) else .bad := rfl
end
/-! ### ints, texts -/
section
variable {a b i j : Int} {n : Bool} {x y : Str}
theorem nu_eqI : pEq n (.s (.int a)) (.s (.int b)) = some (.s (.bl (n ^^ (a == b)))) := rfl
theorem nu_eqS (h1 : PyData.strOk x = true) (h2 : PyData.strOk y = true) : pEq n (.s (.str x)) (.s (.str y)) = some (.s (.bl (n ^^ (x == y)))) := by
  have e1 : SeqAt.shaped (.str x) = true := by unfold SeqAt.shaped PyData.canLay0 PyData.depth; simp [h1]
  have e2 : SeqAt.shaped (.str y) = true := by unfold SeqAt.shaped PyData.canLay0 PyData.depth; simp [h2]
  unfold pEq P.dat
  simp only [e1, e2, and_self, if_true]
  rfl
theorem nu_add : pAdd (.s (.int a)) (.s (.int b)) = some (.s (.int (a + b))) := rfl
theorem nu_sub : pSub (.s (.int a)) (.s (.int b)) = some (.s (.int (a - b))) := rfl
theorem nu_neg : pNeg (.s (.int a)) = some (.s (.int (-a))) := rfl
theorem nu_mul (h : -(2 ^ 64) < b ∧ b < 2 ^ 64) : pMul (.s (.int a)) (.s (.int b)) = some (.s (.int (a * b))) := by
  unfold pMul pOr pIc
  simp only
  rw [if_pos (show CMul a b from .inr h)]
theorem nu_mulL (h : -(2 ^ 64) < a ∧ a < 2 ^ 64) : pMul (.s (.int a)) (.s (.int b)) = some (.s (.int (a * b))) := by
  unfold pMul pOr pIc
  simp only
  rw [if_pos (show CMul a b from .inl h)]
theorem nu_div (h : 0 < b) (h2 : b < 1073741824) : pDiv (.s (.int a)) (.s (.int b)) = some (.s (.int (a / b))) := by
  unfold pDiv pOr pIc
  simp only
  rw [if_pos (show CDiv a b from ⟨h, h2⟩)]
theorem nu_mod (h : 0 < b) : pMod (.s (.int a)) (.s (.int b)) = some (.s (.int (a % b))) := by
  unfold pMod pOr pIc
  simp only
  rw [if_pos h]
theorem nu_pow (h : 0 ≤ b ∧ b ≤ 1000000 ∧ a.natAbs < 2 ^ 64) : pPow (.s (.int a)) (.s (.int b)) = some (.s (.int (a ^ b.toNat))) := by
  unfold pPow pIc
  simp only
  rw [if_pos (show CPow a b from h)]
theorem nu_lt : pLt (.s (.int a)) (.s (.int b)) = some (.s (.bl (decide (a < b)))) := rfl
theorem nu_le : pLe (.s (.int a)) (.s (.int b)) = some (.s (.bl (decide (a ≤ b)))) := rfl
theorem nu_gt : pGt (.s (.int a)) (.s (.int b)) = some (.s (.bl (decide (b < a)))) := rfl
theorem nu_ge : pGe (.s (.int a)) (.s (.int b)) = some (.s (.bl (decide (b ≤ a)))) := rfl
theorem nu_isN {v : V} : pIsN n (.s v) (.s .non) = some (.s (.bl (n ^^ decide (v = .non)))) := rfl
theorem nu_ixL {ks : List P} : pSubs (.nd .lst ks) (.s (.int i)) = atI ks i := by
  show (match pIxL (.nd .lst ks) (.s (.int i)) with | some z => some z | none => _) = _
  unfold pIxL
  simp only [true_or, if_true]
  cases atI ks i <;> rfl
theorem nu_ixS {ks : List P} : pSubs (.nd .slst ks) (.s (.int i)) = atI ks i := by
  show (match pIxL (.nd .slst ks) (.s (.int i)) with | some z => some z | none => _) = _
  unfold pIxL
  simp only [or_true, if_true]
  cases atI ks i <;> rfl
theorem nu_ixT {ks : List P} : pSubs (.nd .tup ks) (.s (.int i)) = atI ks i := by
  show (match pIxL (.nd .tup ks) (.s (.int i)) with | some z => some z | none => pOr pIxT (pOr pIxS pDGet) (.nd .tup ks) (.s (.int i))) = _
  unfold pIxL
  simp only [reduceCtorEq, or_false, if_false]
  show (match pIxT (.nd .tup ks) (.s (.int i)) with | some z => some z | none => _) = _
  unfold pIxT
  simp only
  cases atI ks i <;> rfl
theorem nu_ixIn {n : Nat} (h : 0 ≤ i) (h2 : i < n) : ixN n i = some i.toNat := by
  unfold ixN
  rw [if_pos h, if_pos h2]
theorem nu_at0 {α : Type} {x : α} {xs : List α} : atI (x :: xs) 0 = some x := by
  unfold atI
  rw [nu_ixIn (by omega) (by simp <;> omega)]
  rfl
theorem nu_at1 {α : Type} {x y : α} {xs : List α} : atI (x :: y :: xs) 1 = some y := by
  unfold atI
  rw [nu_ixIn (by omega) (by simp <;> omega)]
  rfl
theorem nu_at2 {α : Type} {x y z : α} {xs : List α} : atI (x :: y :: z :: xs) 2 = some z := by
  unfold atI
  rw [nu_ixIn (by omega) (by simp <;> omega)]
  rfl
theorem nu_at3 {α : Type} {x y z u : α} {xs : List α} : atI (x :: y :: z :: u :: xs) 3 = some u := by
  unfold atI
  rw [nu_ixIn (by omega) (by simp <;> omega)]
  rfl
theorem nu_at4 {α : Type} {x y z u w : α} {xs : List α} : atI (x :: y :: z :: u :: w :: xs) 4 = some w := by
  unfold atI
  rw [nu_ixIn (by omega) (by simp <;> omega)]
  rfl
theorem nu_lenL {ks : List P} : cLen [.nd .lst ks] = some (.s (.int ks.length)) := rfl
theorem nu_lenS {ks : List P} : cLen [.nd .slst ks] = some (.s (.int ks.length)) := rfl
theorem nu_lenT {ks : List P} : cLen [.nd .tup ks] = some (.s (.int ks.length)) := rfl
theorem nu_int : cInt [.s (.int i)] = some (.s (.int i)) := rfl
theorem nu_intB : cInt [.s (.bl n)] = some (.s (.int (if n then 1 else 0))) := rfl
theorem nu_truI : pTru (.s (.int i)) = some (i != 0) := rfl
theorem nu_truB : pTru (.s (.bl n)) = some n := rfl
theorem nu_truN : pTru (.s .non) = some false := rfl
end
/-- a bound of a range -/
theorem rgEx : ∃ f : Int → Bool, ∀ i, f i = true ↔ (-(2 ^ 62) ≤ i ∧ i < 2 ^ 62) := ⟨fun i => decide (-(2 ^ 62) ≤ i ∧ i < 2 ^ 62), fun i => by simp only [decide_eq_true_eq]⟩
noncomputable def rgO (i : Int) : Bool := Classical.choose rgEx i
theorem rgO_iff {i : Int} : (rgO i = true) = (-(2 ^ 62) ≤ i ∧ i < 2 ^ 62) := propext (Classical.choose_spec rgEx i)
theorem nu_rg {i : Int} (h1 : -1000000000 ≤ i) (h2 : i ≤ 1000000000) : rgO i = true := by
  rw [rgO_iff]
  constructor <;> omega
theorem rg_v1 : ∀ (v : V) (ρ' : Env), (match ([.s v] : List P) with
  | [.s (.int j)] => if -(2 ^ 62) ≤ j ∧ j < 2 ^ 62 then Res.ok (rngP 0 j.toNat, ρ') else .bad
  | _ => .bad) = (match ([.s v] : List P) with
  | [.s (.int j)] => if rgO j = true then Res.ok (rngP 0 j.toNat, ρ') else .bad
  | _ => .bad)
  | .int j, _ => by simp only [rgO_iff]
  | .non, _ => rfl
  | .bl _, _ => rfl
  | .str _, _ => rfl
  | .byt _, _ => rfl
  | .flt _, _ => rfl
  | .ref _, _ => rfl
  | .ty _, _ => rfl
theorem rg_l1 : ∀ (l : List P) (ρ' : Env), (match l with
  | [.s (.int j)] => if -(2 ^ 62) ≤ j ∧ j < 2 ^ 62 then Res.ok (rngP 0 j.toNat, ρ') else .bad
  | _ => .bad) = (match l with
  | [.s (.int j)] => if rgO j = true then Res.ok (rngP 0 j.toNat, ρ') else .bad
  | _ => .bad)
  | [], _ => rfl
  | [.nd _ _], _ => rfl
  | [.s v], ρ' => rg_v1 v ρ'
  | .nd _ _ :: _ :: _, _ => rfl
  | .s v :: _ :: _, _ => by cases v <;> rfl
theorem nu_iR1 {x : Option O} {ρ : Env} {fr : Env → Res (List P × Env)} : iRng1F fr (x :: ρ) = (fr (x :: ρ)).bind fun a => match a.1 with
  | [.s (.int j)] => if rgO j = true then .ok (rngP 0 j.toNat, a.2) else .bad
  | _ => .bad := congrArg (Res.bind (fr (x :: ρ))) (funext fun a => rg_l1 a.1 a.2)
theorem rg_l2 : ∀ (l : List P) (ρ' : Env), (match l with
  | [.s (.int i), .s (.int j)] => if -(2 ^ 62) ≤ i ∧ i < 2 ^ 62 ∧ -(2 ^ 62) ≤ j ∧ j < 2 ^ 62 then Res.ok (rngP i (j - i).toNat, ρ') else .bad
  | _ => .bad) = (match l with
  | [.s (.int i), .s (.int j)] => if rgO i = true ∧ rgO j = true then Res.ok (rngP i (j - i).toNat, ρ') else .bad
  | _ => .bad)
  | [], _ => rfl
  | [.nd _ _], _ => rfl
  | [.s v], ρ' => by cases v <;> rfl
  | .nd _ _ :: _ :: _, _ => rfl
  | .s v :: .nd _ _ :: _, _ => by cases v <;> rfl
  | [.s v, .s w], _ => by
    cases v with
    | int i =>
      cases w with
      | int j => simp only [rgO_iff, and_assoc]
      | _ => rfl
    | _ => cases w <;> rfl
  | .s v :: .s w :: _ :: _, _ => by cases v <;> cases w <;> rfl
theorem nu_iR2 {x : Option O} {ρ : Env} {fr : Env → Res (List P × Env)} : iRng2F fr (x :: ρ) = (fr (x :: ρ)).bind fun a => match a.1 with
  | [.s (.int i), .s (.int j)] => if rgO i = true ∧ rgO j = true then .ok (rngP i (j - i).toNat, a.2) else .bad
  | _ => .bad := congrArg (Res.bind (fr (x :: ρ))) (funext fun a => rg_l2 a.1 a.2)
/-! ### what may be compared -/
/-- comparable, no deeper than n -/
def Dk (n : Nat) (d : P) : Prop := ∃ e, d.dat = some e ∧ e.canLay0 = true ∧ e.depth ≤ n
def Dks (n : Nat) (ds : List P) : Prop := ∃ es, P.dats ds = some es ∧ PyData.canLayAll0 es = true ∧ PyData.depthAll es ≤ n
theorem Dk.mono {n m : Nat} {d : P} (h : Dk n d) (l : n ≤ m) : Dk m d := by
  obtain ⟨e, h1, h2, h3⟩ := h
  exact ⟨e, h1, h2, Nat.le_trans h3 l⟩
theorem Dk.int {n : Nat} {i : Int} : Dk n (.s (.int i)) := ⟨_, rfl, rfl, Nat.zero_le _⟩
theorem Dk.bl {n : Nat} {i : Bool} : Dk n (.s (.bl i)) := ⟨_, rfl, rfl, Nat.zero_le _⟩
theorem Dk.non {n : Nat} : Dk n (.s .non) := ⟨_, rfl, rfl, Nat.zero_le _⟩
theorem Dk.str {n : Nat} {z : Str} (h : PyData.strOk z = true) : Dk n (.s (.str z)) := ⟨_, rfl, h, Nat.zero_le _⟩
theorem Dks.of {n : Nat} : ∀ {ds : List P}, (∀ d ∈ ds, Dk n d) → Dks n ds
  | [], _ => ⟨[], rfl, rfl, Nat.zero_le _⟩
  | d :: ds, h => by
    obtain ⟨e, h1, h2, h3⟩ := h d List.mem_cons_self
    obtain ⟨es, k1, k2, k3⟩ := Dks.of (ds := ds) fun x hx => h x (List.mem_cons_of_mem _ hx)
    refine ⟨e :: es, ?_, ?_, ?_⟩
    · unfold P.dats
      rw [h1, k1]
    · unfold PyData.canLayAll0
      rw [h2, k2]
      rfl
    · unfold PyData.depthAll
      exact Nat.max_le.mpr ⟨h3, k3⟩
theorem Dk.lst {n : Nat} {ds : List P} (h : ∀ d ∈ ds, Dk n d) : Dk (n + 1) (.nd .lst ds) := by
  obtain ⟨es, k1, k2, k3⟩ := Dks.of h
  exact ⟨.list es, by unfold P.dat; rw [k1]; rfl, by unfold PyData.canLay0; exact k2, by unfold PyData.depth; omega⟩
theorem Dk.tup {n : Nat} {ds : List P} (h : ∀ d ∈ ds, Dk n d) : Dk (n + 1) (.nd .tup ds) := by
  obtain ⟨es, k1, k2, k3⟩ := Dks.of h
  exact ⟨.tuple es, by unfold P.dat; rw [k1]; rfl, by unfold PyData.canLay0; exact k2, by unfold PyData.depth; omega⟩
theorem shaped_of {n : Nat} (hn : n ≤ 64) {e : PyData} (h2 : e.canLay0 = true) (h3 : e.depth ≤ n) : SeqAt.shaped e = true := by
  unfold SeqAt.shaped
  rw [h2, Bool.true_and]
  exact decide_eq_true (by omega)
/-- a value is what it is -/
theorem pEq_refl {n : Bool} {d : P} (h : Dk 64 d) : pEq n d d = some (.s (.bl (!n))) := by
  obtain ⟨e, h1, h2, h3⟩ := h
  unfold pEq
  rw [h1]
  simp only
  rw [if_pos ⟨shaped_of (Nat.le_refl _) h2 h3, shaped_of (Nat.le_refl _) h2 h3⟩, SeqAt.eqv_refl e h2]
  cases n <;> rfl

end DL

/-! loops -/
namespace DL
open PySem PySem.Spec L2

section
variable {fg : P → Env → Option Env} {body : Env → Res (Fl × Env)}
/-- a loop that is never left early: I k holds when k of its rounds are done -/
theorem forF_all {ds : List P} (I : Nat → Env → Prop) (step : ∀ k d ρ, ds[k]? = some d → I k ρ → ∃ ρ1 ρ2, fg d ρ = some ρ1 ∧ (body ρ1 = .ok (.nx, ρ2) ∨ body ρ1 = .ok (.ct, ρ2)) ∧ I (k + 1) ρ2) :
    ∀ ρ, I 0 ρ → ∃ ρ', sForF fg body ds ρ = .ok (.nx, ρ') ∧ I ds.length ρ' := by
  have key : ∀ (es : List P) (n : Nat), ds.drop n = es → n + es.length = ds.length → ∀ ρ, I n ρ → ∃ ρ', sForF fg body es ρ = .ok (.nx, ρ') ∧ I ds.length ρ' := by
    intro es
    induction es with
    | nil =>
      intro n _ e2 ρ h
      have : n = ds.length := by simpa using e2
      subst this
      exact ⟨ρ, rfl, h⟩
    | cons d es ih =>
      intro n e1 e2 ρ h
      have e3 : ds[n]? = some d := by
        have := congrArg List.head? e1
        rw [List.head?_drop] at this
        exact this
      obtain ⟨ρ1, ρ2, h1, h2, h3⟩ := step n d ρ e3 h
      have e4 : ds.drop (n + 1) = es := by
        rw [← List.drop_drop, e1]
        rfl
      obtain ⟨ρ', h4, h5⟩ := ih (n + 1) e4 (by simp at e2; omega) ρ2 h3
      refine ⟨ρ', ?_, h5⟩
      unfold sForF
      rw [h1]
      simp only
      rcases h2 with h2 | h2
      · rw [h2]; exact h4
      · rw [h2]; exact h4
  intro ρ h
  exact key ds 0 rfl (by simp) ρ h
/-- .. or that may be left with an answer -/
theorem forF_ret {ds : List P} (I : Nat → Env → Prop) (R : O → Env → Prop) (step : ∀ k d ρ, ds[k]? = some d → I k ρ → ∃ ρ1 ρ2, fg d ρ = some ρ1 ∧ (((body ρ1 = .ok (.nx, ρ2) ∨ body ρ1 = .ok (.ct, ρ2)) ∧ I (k + 1) ρ2) ∨ ∃ o, body ρ1 = .ok (.rt o, ρ2) ∧ R o ρ2)) :
    ∀ ρ, I 0 ρ → ∃ ρ', (sForF fg body ds ρ = .ok (.nx, ρ') ∧ I ds.length ρ') ∨ ∃ o, sForF fg body ds ρ = .ok (.rt o, ρ') ∧ R o ρ' := by
  have key : ∀ (es : List P) (n : Nat), ds.drop n = es → n + es.length = ds.length → ∀ ρ, I n ρ → ∃ ρ', (sForF fg body es ρ = .ok (.nx, ρ') ∧ I ds.length ρ') ∨ ∃ o, sForF fg body es ρ = .ok (.rt o, ρ') ∧ R o ρ' := by
    intro es
    induction es with
    | nil =>
      intro n _ e2 ρ h
      have : n = ds.length := by simpa using e2
      subst this
      exact ⟨ρ, .inl ⟨rfl, h⟩⟩
    | cons d es ih =>
      intro n e1 e2 ρ h
      have e3 : ds[n]? = some d := by
        have := congrArg List.head? e1
        rw [List.head?_drop] at this
        exact this
      obtain ⟨ρ1, ρ2, h1, h2⟩ := step n d ρ e3 h
      have e4 : ds.drop (n + 1) = es := by
        rw [← List.drop_drop, e1]
        rfl
      rcases h2 with ⟨h2, h3⟩ | ⟨o, h2, h3⟩
      · obtain ⟨ρ', h4⟩ := ih (n + 1) e4 (by simp at e2; omega) ρ2 h3
        refine ⟨ρ', ?_⟩
        have e5 : sForF fg body (d :: es) ρ = sForF fg body es ρ2 := by
          conv => lhs; unfold sForF
          rw [h1]
          simp only
          rcases h2 with h2 | h2
          · rw [h2]; rfl
          · rw [h2]; rfl
        rw [e5]
        exact h4
      · refine ⟨ρ2, .inr ⟨o, ?_, h3⟩⟩
        unfold sForF
        rw [h1]
        simp only
        rw [h2]
        rfl
  intro ρ h
  exact key ds 0 rfl (by simp) ρ h
end
theorem rngP_length {i : Int} {n : Nat} : (rngP i n).length = n := by simp [rngP]
theorem rngP_get {i : Int} {n k : Nat} {d : P} (h : (rngP i n)[k]? = some d) : k < n ∧ d = .s (.int (i + k)) := by
  have hk : k < n := by
    have := (List.getElem?_eq_some_iff.mp h).1
    rwa [rngP_length] at this
  refine ⟨hk, ?_⟩
  unfold rngP at h
  simp [hk] at h
  exact h.symm
abbrev pInts (c : List Int) : List P := c.map fun i => .s (.int i)
abbrev oInts (c : List Int) : List O := c.map fun i => .p (.s (.int i))
theorem frzs_ints : ∀ c : List Int, O.frzs (oInts c) = pInts c
  | [] => rfl
  | i :: c => by
    show (O.frz (.p (.s (.int i)))) :: O.frzs (oInts c) = _
    rw [frzs_ints c]
    rfl
theorem frzs_ps : ∀ c : List P, O.frzs (c.map .p) = c
  | [] => rfl
  | i :: c => by
    show (O.frz (.p i)) :: O.frzs (c.map .p) = _
    rw [frzs_ps c]
    rfl
theorem allP_ps : ∀ c : List P, allP (c.map .p) = some c
  | [] => rfl
  | i :: c => by
    show (allP (c.map .p)).map (i :: ·) = _
    rw [allP_ps c]
    rfl
theorem cutP_mem {ks : List P} {lo hi : Option Int} {d : P} (h : d ∈ cutP ks lo hi) : d ∈ ks := List.mem_of_mem_drop (List.mem_of_mem_take h)
theorem cutP_len {ks : List P} {lo hi : Option Int} : (cutP ks lo hi).length ≤ ks.length := by
  unfold cutP
  rw [List.length_take, List.length_drop]
  omega
theorem ofString_length (s : String) : (Str.ofString s).length = s.length := by
  rw [Str.ofString_eq_toList]
  unfold Str.length
  simp [String.length]
theorem int_repr_len {k : Int} {n : Nat} (hn : 0 < n) (h : k.natAbs < 10 ^ n) : k.repr.length ≤ n + 1 := by
  cases k with
  | ofNat m =>
    have := (Nat.length_repr_le_iff (n := m) hn).mpr (by simpa using h)
    show m.repr.length ≤ _
    omega
  | negSucc m =>
    have := (Nat.length_repr_le_iff (n := m + 1) hn).mpr (by simpa using h)
    show ("-" ++ (m+1).repr).length ≤ _
    rw [String.length_append]
    have : ("-" : String).length = 1 := rfl
    omega
theorem sizeLine_big : 1000000 ≤ sizeLine := by rw [sizeLine_eq]; decide
end DL

/-! statement after statement -/
namespace DL
open PySem PySem.Spec L2
theorem seq_ok {f h : Env → Res (Fl × Env)} {ρ ρ' : Env} (e : f ρ = .ok (.nx, ρ')) : sSeqF f h ρ = h ρ' := by
  unfold sSeqF
  rw [e]
  rfl
theorem seq_rt {f h : Env → Res (Fl × Env)} {ρ ρ' : Env} {o : O} (e : f ρ = .ok (.rt o, ρ')) : sSeqF f h ρ = .ok (.rt o, ρ') := by
  unfold sSeqF
  rw [e]
  rfl
theorem seq_ct {f h : Env → Res (Fl × Env)} {ρ ρ' : Env} (e : f ρ = .ok (.ct, ρ')) : sSeqF f h ρ = .ok (.ct, ρ') := by
  unfold sSeqF
  rw [e]
  rfl
theorem seq_bk {f h : Env → Res (Fl × Env)} {ρ ρ' : Env} (e : f ρ = .ok (.bk, ρ')) : sSeqF f h ρ = .ok (.bk, ρ') := by
  unfold sSeqF
  rw [e]
  rfl
theorem seq_ex {f h : Env → Res (Fl × Env)} {ρ ρ' : Env} {c : Str} {fs : List (Str × P)} (e : f ρ = .ex c fs ρ') : sSeqF f h ρ = .ex c fs ρ' := by
  unfold sSeqF
  rw [e]
  rfl
theorem run_rt {n : Nat} {io : List Nat} {f : Env → Res (Fl × Env)} {os : List O} {o : O} {ρ' ρ : Env} {out : List (Nat × O)} (h : os.map some ++ List.replicate (n - os.length) none = ρ) (e : f ρ = .ok (.rt o, ρ')) (e2 : outO io ρ' [] = some out) : runB n io f os = .ok o out := by
  unfold runB outOf
  rw [h, e]
  simp only
  rw [e2]
theorem run_nx {n : Nat} {io : List Nat} {f : Env → Res (Fl × Env)} {os : List O} {ρ' ρ : Env} {out : List (Nat × O)} (h : os.map some ++ List.replicate (n - os.length) none = ρ) (e : f ρ = .ok (.nx, ρ')) (e2 : outO io ρ' [] = some out) : runB n io f os = .ok (.p (.s .non)) out := by
  unfold runB outOf
  rw [h, e]
  simp only
  rw [e2]
end DL

namespace DL.K93
open PySem PySem.Spec L2 DL
abbrev Pg : Program := PySem.Challenge.pw_describedonce_k93_history
def top (i : Nat) : Stmt := Pg.main.body.getD i (.Pass ⟨0, 0, 0, 0⟩)
def fas : List He.Fa := [.cls "History", .noat "History" "state", .noat "History" "past", .noat "History" "future", .exc "NothingLeft", .glo "NothingLeft", .glo "NoSuch", .meth "History" "versions", .glo "_law_draw", .glo "_law_pick", .meth "History" "move", .meth "History" "undo", .meth "History" "redo", .glo "DescribeError", .free "ValueError", .meth "History" "earlier", .glo "_law_int", .glo "_law_earlier", .glo "_law_stream", .glo "_law_state", .mkr "History", .glo "History", .glo "_law_moved", .glo "_law_same", .free "len", .free "range", .free "int", .free "str", .free "isinstance", .free "tuple", .free "list", .free "dict", .free "min", .free "max", .free "sum", .free "sorted", .free "zip", .free "enumerate", .free "reversed", .free "any", .free "all", .free "iter", .free "next", .free "bool", .free "set", .free "abs", .free "repr", .free "super", .glo "law"]
def fns : List He.DefD := [
  ⟨("_law_draw", none), "_law_draw", "_law_draw", defArgs (top 8), defBody (top 8), defScope (top 8), [], []⟩,
  ⟨("_law_pick", none), "_law_pick", "_law_pick", defArgs (top 9), defBody (top 9), defScope (top 9), [], []⟩,
  ⟨("_law_int", none), "_law_int", "_law_int", defArgs (top 10), defBody (top 10), defScope (top 10), [], []⟩,
  ⟨("_law_earlier", none), "_law_earlier", "_law_earlier", defArgs (top 13), defBody (top 13), defScope (top 13), [], []⟩,
  ⟨("_law_stream", none), "_law_stream", "_law_stream", defArgs (top 7), defBody (top 7), defScope (top 7), [], []⟩,
  ⟨("_law_state", none), "_law_state", "_law_state", defArgs (top 11), defBody (top 11), defScope (top 11), [], []⟩,
  ⟨("_law_moved", none), "_law_moved", "_law_moved", defArgs (top 12), defBody (top 12), defScope (top 12), [], []⟩,
  ⟨("_law_same", none), "_law_same", "_law_same", defArgs (top 14), defBody (top 14), defScope (top 14), [], []⟩,
  ⟨("History", some "__init__"), "__init__", "History.__init__", defArgs (inClass (top 5) 0), defBody (inClass (top 5) 0), defScope (inClass (top 5) 0), [], []⟩,
  ⟨("History", some "move"), "move", "History.move", defArgs (inClass (top 5) 1), defBody (inClass (top 5) 1), defScope (inClass (top 5) 1), [], []⟩,
  ⟨("History", some "undo"), "undo", "History.undo", defArgs (inClass (top 5) 2), defBody (inClass (top 5) 2), defScope (inClass (top 5) 2), [], []⟩,
  ⟨("History", some "redo"), "redo", "History.redo", defArgs (inClass (top 5) 3), defBody (inClass (top 5) 3), defScope (inClass (top 5) 3), [], []⟩,
  ⟨("History", some "versions"), "versions", "History.versions", defArgs (inClass (top 5) 4), defBody (inClass (top 5) 4), defScope (inClass (top 5) 4), [], []⟩,
  ⟨("History", some "earlier"), "earlier", "History.earlier", defArgs (inClass (top 5) 5), defBody (inClass (top 5) 5), defScope (inClass (top 5) 5), [], []⟩,
  ⟨("law", none), "law", "law", defArgs (top 15), defBody (top 15), defScope (top 15), [], []⟩]
def eis : List EI := [
  ⟨"NoSuch", "NoSuch.__init__", defArgs (inClass (top 2) 0), defBody (inClass (top 2) 0), defScope (inClass (top 2) 0), ["number"]⟩]
def anc : Anc := [("DescribeError", ["DescribeError", "ValueError", "Exception"]), ("NoSuch", ["NoSuch", "DescribeError", "ValueError", "Exception"]), ("NothingLeft", ["NothingLeft", "DescribeError", "ValueError", "Exception"])]
abbrev TX (K : PySem.W.Frag) (mg : Str → Option Value) := TxR fas fns eis (exsB Pg.main.file eis anc) K mg
section
variable {w : World} {K : PySem.W.Frag} {mg : Str → Option Value} {base : Heap}
theorem hfree (T : TX K mg) : ∀ n ∈ bset, mg n = none := by
  intro n h
  rcases List.mem_cons.mp h with rfl | h
  · exact T.free 24
  rcases List.mem_cons.mp h with rfl | h
  · exact T.free 25
  rcases List.mem_cons.mp h with rfl | h
  · exact T.free 26
  rcases List.mem_cons.mp h with rfl | h
  · exact T.free 27
  rcases List.mem_cons.mp h with rfl | h
  · exact T.free 28
  rcases List.mem_cons.mp h with rfl | h
  · exact T.free 29
  rcases List.mem_cons.mp h with rfl | h
  · exact T.free 30
  rcases List.mem_cons.mp h with rfl | h
  · exact T.free 31
  rcases List.mem_cons.mp h with rfl | h
  · exact T.free 32
  rcases List.mem_cons.mp h with rfl | h
  · exact T.free 33
  rcases List.mem_cons.mp h with rfl | h
  · exact T.free 34
  rcases List.mem_cons.mp h with rfl | h
  · exact T.free 35
  rcases List.mem_cons.mp h with rfl | h
  · exact T.free 36
  rcases List.mem_cons.mp h with rfl | h
  · exact T.free 37
  rcases List.mem_cons.mp h with rfl | h
  · exact T.free 38
  rcases List.mem_cons.mp h with rfl | h
  · exact T.free 39
  rcases List.mem_cons.mp h with rfl | h
  · exact T.free 40
  rcases List.mem_cons.mp h with rfl | h
  · exact T.free 41
  rcases List.mem_cons.mp h with rfl | h
  · exact T.free 42
  rcases List.mem_cons.mp h with rfl | h
  · exact T.free 43
  rcases List.mem_cons.mp h with rfl | h
  · exact T.free 44
  rcases List.mem_cons.mp h with rfl | h
  · exact T.free 45
  rcases List.mem_cons.mp h with rfl | h
  · exact T.free 46
  cases h
/-! error NoSuch -/
def m_NoSuch : Env → Res (DL.P × Env) := (dBin pAdd (dConst (.s (.str "no number "))) (dBi cStr (aCons (dVarF 1) aNil)))
theorem nsc_NoSuch : NdefX.NScope ["self", "number", "__class__"] ["self", "number"] ["__class__"] (defScope (inClass (top 2) 0)) := NdefX.nscope_by (by decide +kernel)
theorem ea_NoSuch (T : TX K mg) : Ea Pg w K mg base (He.ga K) "NoSuch" 1 2 1 m_NoSuch [("number", 1)] := by
  obtain ⟨⟨cc, cda, E⟩, iC, tI, hf⟩ := exiB_ok (T.exi 0) (T.r.ei 0) (T.free 47) rfl
  obtain ⟨fd, F, B⟩ := exi_ok (Pg := Pg) (w := w) (K := K) (mg := mg) (base := base) (cl := He.ga K) (k := 0) (N := ["self", "number", "__class__"]) (ps := ["self", "number"]) (m := 1) (mf := m_NoSuch) (qs := [("number", 1)]) E nsc_NoSuch rfl rfl rfl rfl rfl
    (fun _ _ _ _ _ _ us hd hl => match us, hl with | [_, _], _ => by subst hd; rfl) rfl (hfree T) (by intro q hq; exact hf q.1 (List.mem_map.mpr ⟨q, hq, rfl⟩)) (by decide) (by decide) (by decide)
    (fun A outer s H E cb => (dAdd dStr (fStr cb (aC (dVar 1) aN)))) (fun A outer s H E => (pss_one (ps_ost (pv 0) (pv 1)))) (fun L => ⟨_, rfl⟩) (fun _ => rfl) (fun _ => rfl)
  exact ⟨_, fd, _, E.T, iC, tI, F, B⟩
/-! History.__init__ -/
abbrev s_History___init__ : Stmt := (inClass (top 5) 0)
def b_History___init__ : Env → Res (Fl × Env) :=
  (sSeqF (sSetAtF "History" "state" (oP (dVarF 1)) (lName 0))
  (sSeqF (sSetAtF "History" "past" (oLst aNil) (lName 0))
  (sSetAtF "History" "future" (oLst aNil) (lName 0))))
def F_History___init__ : List O → FR := runB 2 [0] b_History___init__
theorem kp_History___init__ (T : TX K mg) : PySem.W.keepIn K (.ref (He.fAd K ("History", some "__init__"))) = true := fa_kp T.toTxt 8 (d := ⟨("History", some "__init__"), "__init__", "History.__init__", defArgs s_History___init__, defBody s_History___init__, defScope s_History___init__, [], []⟩)
theorem sc_History___init__ : FnScope ["self", "state"] ["self", "state"] (defScope s_History___init__) := ⟨rfl, rfl, rfl, by decide +kernel, rfl, by decide +kernel, by decide +kernel⟩
theorem ok_History___init__ (T : TX K mg) : Fa Pg w K mg base (He.ga K) 1 2 F_History___init__ (He.fAd K ("History", some "__init__")) :=
  fa_ok (ps := ["self", "state"]) (io := [0]) (name := "__init__") (qual := "History.__init__") (params := defArgs s_History___init__) (body := defBody s_History___init__) (scope := defScope s_History___init__) T.toTxt 8 (hfree T) sc_History___init__ (fun _ _ _ _ _ _ us hl => match us, hl with | [_, _], _ => rfl) fun cdv A outer s H E r c =>
  have cb := c.b
  (ssC (sSetAt (c := "History") (oE (dVar 1)) (lVar 0) (He.cls_ok (T.fact 0)) (He.noat_ok (T.fact 1)))
  (ssC (sSetAt (c := "History") (oList aN) (lVar 0) (He.cls_ok (T.fact 0)) (He.noat_ok (T.fact 2)))
  (ss1 (sSetAt (c := "History") (oList aN) (lVar 0) (He.cls_ok (T.fact 0)) (He.noat_ok (T.fact 3))))))
/-! History.move -/
abbrev s_History_move : Stmt := (inClass (top 5) 1)
def p_History_move_0 : Env → Res (Fl × Env) :=
  (sExprF (dFz (oKer kApp (mRecv isLst (a1L (lAttr "History" "past" (lName 0))) (mCons (a1Pp (dAtF (lAttr "History" "state" (lName 0)))) mNil)))))
def b_History_move : Env → Res (Fl × Env) :=
  (sSeqF p_History_move_0
  (sSeqF (sSetAtF "History" "future" (oLst aNil) (lName 0))
  (sSetAtF "History" "state" (oP (dVarF 1)) (lName 0))))
def F_History_move : List O → FR := runB 2 [0] b_History_move
theorem kp_History_move (T : TX K mg) : PySem.W.keepIn K (.ref (He.fAd K ("History", some "move"))) = true := fa_kp T.toTxt 9 (d := ⟨("History", some "move"), "move", "History.move", defArgs s_History_move, defBody s_History_move, defScope s_History_move, [], []⟩)
theorem sc_History_move : FnScope ["self", "state"] ["self", "state"] (defScope s_History_move) := ⟨rfl, rfl, rfl, by decide +kernel, rfl, by decide +kernel, by decide +kernel⟩
theorem ok_History_move (T : TX K mg) : Fa Pg w K mg base (He.ga K) 1 2 F_History_move (He.fAd K ("History", some "move")) :=
  fa_ok (ps := ["self", "state"]) (io := [0]) (name := "move") (qual := "History.move") (params := defArgs s_History_move) (body := defBody s_History_move) (scope := defScope s_History_move) T.toTxt 9 (hfree T) sc_History_move (fun _ _ _ _ _ _ us hl => match us, hl with | [_, _], _ => rfl) fun cdv A outer s H E r c =>
  have cb := c.b
  (ssC (sExpr (dOw (lApp (x1L (lAtt (c := "History") (lVar 0) (He.cls_ok (T.fact 0)) (He.noat_ok (T.fact 2)))) (mC (x1Q (dAt (lAtt (c := "History") (lVar 0) (He.cls_ok (T.fact 0)) (He.noat_ok (T.fact 1))))) m0))))
  (ssC (sSetAt (c := "History") (oList aN) (lVar 0) (He.cls_ok (T.fact 0)) (He.noat_ok (T.fact 3)))
  (ss1 (sSetAt (c := "History") (oE (dVar 1)) (lVar 0) (He.cls_ok (T.fact 0)) (He.noat_ok (T.fact 1))))))
/-! History.undo -/
abbrev s_History_undo : Stmt := (inClass (top 5) 2)
def p_History_undo_0 : Env → Res (Fl × Env) :=
  (sIfF (tBl (dBin (pEq false) (dAtT (lAttr "History" "past" (lName 0))) (dSeqF .lst aNil))) (fun ρ => .ex "NothingLeft" [] ρ) sNx)
def p_History_undo_1 : Env → Res (Fl × Env) :=
  (sExprF (dFz (oKer kApp (mRecv isLst (a1L (lAttr "History" "future" (lName 0))) (mCons (a1Pp (dAtF (lAttr "History" "state" (lName 0)))) mNil)))))
def p_History_undo_2 : Env → Res (Fl × Env) :=
  (sSetAtF "History" "state" (oKer kPop (mRecv isLst (a1L (lAttr "History" "past" (lName 0))) mNil)) (lName 0))
def b_History_undo : Env → Res (Fl × Env) :=
  (sSeqF p_History_undo_0
  (sSeqF p_History_undo_1
  p_History_undo_2))
def F_History_undo : List O → FR := runB 1 [0] b_History_undo
theorem kp_History_undo (T : TX K mg) : PySem.W.keepIn K (.ref (He.fAd K ("History", some "undo"))) = true := fa_kp T.toTxt 10 (d := ⟨("History", some "undo"), "undo", "History.undo", defArgs s_History_undo, defBody s_History_undo, defScope s_History_undo, [], []⟩)
theorem sc_History_undo : FnScope ["self"] ["self"] (defScope s_History_undo) := ⟨rfl, rfl, rfl, by decide +kernel, rfl, by decide +kernel, by decide +kernel⟩
theorem ok_History_undo (T : TX K mg) : Fa Pg w K mg base (He.ga K) 1 1 F_History_undo (He.fAd K ("History", some "undo")) :=
  fa_ok (ps := ["self"]) (io := [0]) (name := "undo") (qual := "History.undo") (params := defArgs s_History_undo) (body := defBody s_History_undo) (scope := defScope s_History_undo) T.toTxt 10 (hfree T) sc_History_undo (fun _ _ _ _ _ _ us hl => match us, hl with | [_], _ => rfl) fun cdv A outer s H E r c =>
  have cb := c.b
  (ssC (sIf (tC (dEq cb (dAtt (lAtt (c := "History") (lVar 0) (He.cls_ok (T.fact 0)) (He.noat_ok (T.fact 2)))) (dLst aN))) (ss1 (sRaise0 c (c := "NothingLeft") F.excBase_ValueError (He.exc_ok (T.fact 4)).1 (T.glo 5) (He.exc_ok (T.fact 4)).2.1 (He.exc_ok (T.fact 4)).2.2.1 (He.exc_ok (T.fact 4)).2.2.2)) ssN)
  (ssC (sExpr (dOw (lApp (x1L (lAtt (c := "History") (lVar 0) (He.cls_ok (T.fact 0)) (He.noat_ok (T.fact 3)))) (mC (x1Q (dAt (lAtt (c := "History") (lVar 0) (He.cls_ok (T.fact 0)) (He.noat_ok (T.fact 1))))) m0))))
  (ss1 (sSetAt (c := "History") (lPop (x1L (lAtt (c := "History") (lVar 0) (He.cls_ok (T.fact 0)) (He.noat_ok (T.fact 2))))) (lVar 0) (He.cls_ok (T.fact 0)) (He.noat_ok (T.fact 1))))))
/-! History.redo -/
abbrev s_History_redo : Stmt := (inClass (top 5) 3)
def p_History_redo_0 : Env → Res (Fl × Env) :=
  (sIfF (tBl (dBin (pEq false) (dAtT (lAttr "History" "future" (lName 0))) (dSeqF .lst aNil))) (fun ρ => .ex "NothingLeft" [] ρ) sNx)
def p_History_redo_1 : Env → Res (Fl × Env) :=
  (sExprF (dFz (oKer kApp (mRecv isLst (a1L (lAttr "History" "past" (lName 0))) (mCons (a1Pp (dAtF (lAttr "History" "state" (lName 0)))) mNil)))))
def p_History_redo_2 : Env → Res (Fl × Env) :=
  (sSetAtF "History" "state" (oKer kPop (mRecv isLst (a1L (lAttr "History" "future" (lName 0))) mNil)) (lName 0))
def b_History_redo : Env → Res (Fl × Env) :=
  (sSeqF p_History_redo_0
  (sSeqF p_History_redo_1
  p_History_redo_2))
def F_History_redo : List O → FR := runB 1 [0] b_History_redo
theorem kp_History_redo (T : TX K mg) : PySem.W.keepIn K (.ref (He.fAd K ("History", some "redo"))) = true := fa_kp T.toTxt 11 (d := ⟨("History", some "redo"), "redo", "History.redo", defArgs s_History_redo, defBody s_History_redo, defScope s_History_redo, [], []⟩)
theorem sc_History_redo : FnScope ["self"] ["self"] (defScope s_History_redo) := ⟨rfl, rfl, rfl, by decide +kernel, rfl, by decide +kernel, by decide +kernel⟩
theorem ok_History_redo (T : TX K mg) : Fa Pg w K mg base (He.ga K) 1 1 F_History_redo (He.fAd K ("History", some "redo")) :=
  fa_ok (ps := ["self"]) (io := [0]) (name := "redo") (qual := "History.redo") (params := defArgs s_History_redo) (body := defBody s_History_redo) (scope := defScope s_History_redo) T.toTxt 11 (hfree T) sc_History_redo (fun _ _ _ _ _ _ us hl => match us, hl with | [_], _ => rfl) fun cdv A outer s H E r c =>
  have cb := c.b
  (ssC (sIf (tC (dEq cb (dAtt (lAtt (c := "History") (lVar 0) (He.cls_ok (T.fact 0)) (He.noat_ok (T.fact 3)))) (dLst aN))) (ss1 (sRaise0 c (c := "NothingLeft") F.excBase_ValueError (He.exc_ok (T.fact 4)).1 (T.glo 5) (He.exc_ok (T.fact 4)).2.1 (He.exc_ok (T.fact 4)).2.2.1 (He.exc_ok (T.fact 4)).2.2.2)) ssN)
  (ssC (sExpr (dOw (lApp (x1L (lAtt (c := "History") (lVar 0) (He.cls_ok (T.fact 0)) (He.noat_ok (T.fact 2)))) (mC (x1Q (dAt (lAtt (c := "History") (lVar 0) (He.cls_ok (T.fact 0)) (He.noat_ok (T.fact 1))))) m0))))
  (ss1 (sSetAt (c := "History") (lPop (x1L (lAtt (c := "History") (lVar 0) (He.cls_ok (T.fact 0)) (He.noat_ok (T.fact 3))))) (lVar 0) (He.cls_ok (T.fact 0)) (He.noat_ok (T.fact 1))))))
/-! History.versions -/
abbrev s_History_versions : Stmt := (inClass (top 5) 4)
def b_History_versions : Env → Res (Fl × Env) :=
  (sRetF (oLst (aStar (dAtT (lAttr "History" "past" (lName 0))) (aCons (dAtF (lAttr "History" "state" (lName 0))) aNil))))
def F_History_versions : List O → FR := runB 1 [0] b_History_versions
theorem kp_History_versions (T : TX K mg) : PySem.W.keepIn K (.ref (He.fAd K ("History", some "versions"))) = true := fa_kp T.toTxt 12 (d := ⟨("History", some "versions"), "versions", "History.versions", defArgs s_History_versions, defBody s_History_versions, defScope s_History_versions, [], []⟩)
theorem sc_History_versions : FnScope ["self"] ["self"] (defScope s_History_versions) := ⟨rfl, rfl, rfl, by decide +kernel, rfl, by decide +kernel, by decide +kernel⟩
theorem ok_History_versions (T : TX K mg) : Fa Pg w K mg base (He.ga K) 1 1 F_History_versions (He.fAd K ("History", some "versions")) :=
  fa_ok (ps := ["self"]) (io := [0]) (name := "versions") (qual := "History.versions") (params := defArgs s_History_versions) (body := defBody s_History_versions) (scope := defScope s_History_versions) T.toTxt 12 (hfree T) sc_History_versions (fun _ _ _ _ _ _ us hl => match us, hl with | [_], _ => rfl) fun cdv A outer s H E r c =>
  have cb := c.b
  (ss1 (sRet (oList (aS (dAtt (lAtt (c := "History") (lVar 0) (He.cls_ok (T.fact 0)) (He.noat_ok (T.fact 2)))) (aC (dAt (lAtt (c := "History") (lVar 0) (He.cls_ok (T.fact 0)) (He.noat_ok (T.fact 1)))) aN)))))
/-! History.earlier -/
abbrev s_History_earlier : Stmt := (inClass (top 5) 5)
def p_History_earlier_0 : Env → Res (Fl × Env) :=
  (sIfF (tNotF (tBl (dChainF pLe pLe (dConst (.s (.int 0))) (dVarF 1) (dBi cLen (aCons (dAtT (lAttr "History" "past" (lName 0))) aNil))))) (sRaiseF "NoSuch" 2 1 m_NoSuch [("number", 1)] (aCons (dVarF 1) aNil)) sNx)
def p_History_earlier_1 : Env → Res (Fl × Env) :=
  (sRetF (oP (dBin pSubs (dFz (oCallM 1 F_History_versions (mMeth "History" "versions" (a1N 0) mNil))) (dBin pSub (dBi cLen (aCons (dAtT (lAttr "History" "past" (lName 0))) aNil)) (dVarF 1)))))
def b_History_earlier : Env → Res (Fl × Env) :=
  (sSeqF p_History_earlier_0
  p_History_earlier_1)
def F_History_earlier : List O → FR := runB 2 [0] b_History_earlier
theorem kp_History_earlier (T : TX K mg) : PySem.W.keepIn K (.ref (He.fAd K ("History", some "earlier"))) = true := fa_kp T.toTxt 13 (d := ⟨("History", some "earlier"), "earlier", "History.earlier", defArgs s_History_earlier, defBody s_History_earlier, defScope s_History_earlier, [], []⟩)
theorem sc_History_earlier : FnScope ["self", "steps"] ["self", "steps"] (defScope s_History_earlier) := ⟨rfl, rfl, rfl, by decide +kernel, rfl, by decide +kernel, by decide +kernel⟩
theorem ok_History_earlier (T : TX K mg) : Fa Pg w K mg base (He.ga K) 3 2 F_History_earlier (He.fAd K ("History", some "earlier")) :=
  fa_ok (ps := ["self", "steps"]) (io := [0]) (name := "earlier") (qual := "History.earlier") (params := defArgs s_History_earlier) (body := defBody s_History_earlier) (scope := defScope s_History_earlier) T.toTxt 13 (hfree T) sc_History_earlier (fun _ _ _ _ _ _ us hl => match us, hl with | [_, _], _ => rfl) fun cdv A outer s H E r c =>
  have cb := c.b
  (ssC (sIf (tNo (tC (dLeLe dInt (dVar 1) (fLen cb (aC (dAtt (lAtt (c := "History") (lVar 0) (He.cls_ok (T.fact 0)) (He.noat_ok (T.fact 2)))) aN))))) (ss1 (sRaiseI c r (ea_NoSuch T) (T.glo 6) (aC (dVar 1) aN))) ssN)
  (ss1 (sRet (oE (dIx cb (dOw (oMeth0 (c := "History") c r ⟨_, He.cls_ok (T.fact 0), He.meth_ok (T.fact 7), ok_History_versions T⟩ (x1N 0))) (dSub (fLen cb (aC (dAtt (lAtt (c := "History") (lVar 0) (He.cls_ok (T.fact 0)) (He.noat_ok (T.fact 2)))) aN)) (dVar 1)))))))
/-! _law_stream -/
abbrev s__law_stream : Stmt := (top 7)
def l__law_stream_0 : Env → Res (Fl × Env) :=
  (sIfF (tBl (dBin (pLt) (dVarF 2) (dConst (.s (.int 0))))) (sExprF (dFz (oKer kApp (mRecv isLst (a1N 1) (mCons (a1P (dBin pSub (dBin pMul (dUn pNeg (dConst (.s (.int 2)))) (dVarF 2)) (dConst (.s (.int 1))))) mNil))))) (sExprF (dFz (oKer kApp (mRecv isLst (a1N 1) (mCons (a1P (dBin pMul (dConst (.s (.int 2))) (dVarF 2))) mNil))))))
def p__law_stream_0 : Env → Res (Fl × Env) :=
  (sForD (iAnyF (dSlF (dVarF 0) bNo (bSo (dConst (.s (.int 63)))))) (gNm 2) l__law_stream_0)
def p__law_stream_1 : Env → Res (Fl × Env) :=
  (sRetF (oLst (aCons (dVarZ 1) (aCons (dConst (.s (.int 0))) (aCons (dConst (.s (.int 0))) (aCons (dConst (.s (.int 1))) (aCons (dConst (.s (.int 0))) aNil)))))))
def b__law_stream : Env → Res (Fl × Env) :=
  (sSeqF (sSetF 1 (oLst aNil))
  (sSeqF p__law_stream_0
  p__law_stream_1))
def F__law_stream : List O → FR := runB 3 [] b__law_stream
theorem kp__law_stream (T : TX K mg) : PySem.W.keepIn K (.ref (He.fAd K ("_law_stream", none))) = true := fa_kp T.toTxt 4 (d := ⟨("_law_stream", none), "_law_stream", "_law_stream", defArgs s__law_stream, defBody s__law_stream, defScope s__law_stream, [], []⟩)
theorem sc__law_stream : FnScope ["script", "cells", "cell"] ["script"] (defScope s__law_stream) := ⟨rfl, rfl, rfl, by decide +kernel, rfl, by decide +kernel, by decide +kernel⟩
theorem ok__law_stream (T : TX K mg) : Fa Pg w K mg base (He.ga K) 1 1 F__law_stream (He.fAd K ("_law_stream", none)) :=
  fa_ok (ps := ["script"]) (io := []) (name := "_law_stream") (qual := "_law_stream") (params := defArgs s__law_stream) (body := defBody s__law_stream) (scope := defScope s__law_stream) T.toTxt 4 (hfree T) sc__law_stream (fun _ _ _ _ _ _ us hl => match us, hl with | [_], _ => rfl) fun cdv A outer s H E r c =>
  have cb := c.b
  (ssC (sSet cb 1 (oList aN))
  (ssC (sFor c (iAny (dSl (dVar 0) bN (bS dInt))) (gNam cb 2) (ss1 (sIf (tC (dLt (dVar 2) dInt)) (ss1 (sExpr (dOw (lApp (x1N 1) (mC (x1P (dSub (dMul (dNeg dInt) (dVar 2)) dInt)) m0))))) (ss1 (sExpr (dOw (lApp (x1N 1) (mC (x1P (dMul dInt (dVar 2))) m0))))))))
  (ss1 (sRet (oList (aC (dVarz 1) (aC dInt (aC dInt (aC dInt (aC dInt aN))))))))))
/-! _law_draw -/
abbrev s__law_draw : Stmt := (top 8)
def p__law_draw_0 : Env → Res (Fl × Env) :=
  (sIfF (tAndF (tBl (dBin (pEq false) (dAtF (lIx (lName 0) (dConst (.s (.int 2))))) (dConst (.s (.int 0))))) (tAndF (tBl (dBin (pLt) (dAtF (lIx (lName 0) (dConst (.s (.int 1))))) (dBi cLen (aCons (dAtF (lIx (lName 0) (dConst (.s (.int 0))))) aNil)))) (tBl (dBin (pGe) (dBin pSubs (dAtF (lIx (lName 0) (dConst (.s (.int 0))))) (dAtF (lIx (lName 0) (dConst (.s (.int 1)))))) (dBin pPow (dConst (.s (.int 10))) (dConst (.s (.int 18)))))))) (sSeqF (sSetIxF (oP (dBin pSubs (dAtF (lIx (lName 0) (dConst (.s (.int 0))))) (dAtF (lIx (lName 0) (dConst (.s (.int 1))))))) (lName 0) (dConst (.s (.int 2))))
  (sSetIxF (oP (dBin pAdd (dAtF (lIx (lName 0) (dConst (.s (.int 1))))) (dConst (.s (.int 1))))) (lName 0) (dConst (.s (.int 1))))) sNx)
def p__law_draw_1 : Env → Res (Fl × Env) :=
  (sIfF (tBl (dBin (pGt) (dAtF (lIx (lName 0) (dConst (.s (.int 2))))) (dConst (.s (.int 0))))) (sSeqF (sSetF 3 (oP (dBin pMod (dBi cInt (aCons (dAtF (lIx (lName 0) (dConst (.s (.int 2))))) aNil)) (dVarF 1))))
  (sSeqF (sSetIxF (oP (dBin pDiv (dBi cInt (aCons (dAtF (lIx (lName 0) (dConst (.s (.int 2))))) aNil)) (dVarF 1))) (lName 0) (dConst (.s (.int 2))))
  (sRetF (oP (dVarF 3))))) sNx)
def p__law_draw_2 : Env → Res (Fl × Env) :=
  (sIfF (tBl (dBin (pLt) (dAtF (lIx (lName 0) (dConst (.s (.int 1))))) (dBi cLen (aCons (dAtF (lIx (lName 0) (dConst (.s (.int 0))))) aNil)))) (sSeqF (sSetF 2 (oP (dBin pSubs (dAtF (lIx (lName 0) (dConst (.s (.int 0))))) (dAtF (lIx (lName 0) (dConst (.s (.int 1))))))))
  (sSetIxF (oP (dBin pAdd (dAtF (lIx (lName 0) (dConst (.s (.int 1))))) (dConst (.s (.int 1))))) (lName 0) (dConst (.s (.int 1))))) sNx)
def p__law_draw_3 : Env → Res (Fl × Env) :=
  (sSetIxF (oP (dBin pAdd (dAtF (lIx (lName 0) (dConst (.s (.int 4))))) (dConst (.s (.int 1))))) (lName 0) (dConst (.s (.int 4))))
def p__law_draw_4 : Env → Res (Fl × Env) :=
  (sSetIxF (oP (dBin pMod (dBi cInt (aCons (dBin pAdd (dBin pAdd (dBin pMul (dAtF (lIx (lName 0) (dConst (.s (.int 3))))) (dConst (.s (.int 39373)))) (dBin pMul (dBin pAdd (dVarF 2) (dConst (.s (.int 17)))) (dConst (.s (.int 48271))))) (dBin pMul (dAtF (lIx (lName 0) (dConst (.s (.int 4))))) (dConst (.s (.int 69621))))) aNil)) (dConst (.s (.int 2147483647))))) (lName 0) (dConst (.s (.int 3))))
def p__law_draw_5 : Env → Res (Fl × Env) :=
  (sRetF (oP (dBin pMod (dBin pDiv (dBin pMod (dBi cInt (aCons (dBin pAdd (dBin pMul (dAtF (lIx (lName 0) (dConst (.s (.int 3))))) (dConst (.s (.int 16807)))) (dAtF (lIx (lName 0) (dConst (.s (.int 4)))))) aNil)) (dConst (.s (.int 2147483629)))) (dConst (.s (.int 5)))) (dVarF 1))))
def b__law_draw : Env → Res (Fl × Env) :=
  (sSeqF p__law_draw_0
  (sSeqF p__law_draw_1
  (sSeqF (sSetF 2 (oP (dConst (.s (.int 0)))))
  (sSeqF p__law_draw_2
  (sSeqF p__law_draw_3
  (sSeqF p__law_draw_4
  p__law_draw_5))))))
def F__law_draw : List O → FR := runB 4 [0] b__law_draw
theorem kp__law_draw (T : TX K mg) : PySem.W.keepIn K (.ref (He.fAd K ("_law_draw", none))) = true := fa_kp T.toTxt 0 (d := ⟨("_law_draw", none), "_law_draw", "_law_draw", defArgs s__law_draw, defBody s__law_draw, defScope s__law_draw, [], []⟩)
theorem sc__law_draw : FnScope ["s", "many", "cell", "told"] ["s", "many"] (defScope s__law_draw) := ⟨rfl, rfl, rfl, by decide +kernel, rfl, by decide +kernel, by decide +kernel⟩
theorem ok__law_draw (T : TX K mg) : Fa Pg w K mg base (He.ga K) 1 2 F__law_draw (He.fAd K ("_law_draw", none)) :=
  fa_ok (ps := ["s", "many"]) (io := [0]) (name := "_law_draw") (qual := "_law_draw") (params := defArgs s__law_draw) (body := defBody s__law_draw) (scope := defScope s__law_draw) T.toTxt 0 (hfree T) sc__law_draw (fun _ _ _ _ _ _ us hl => match us, hl with | [_, _], _ => rfl) fun cdv A outer s H E r c =>
  have cb := c.b
  (ssC (sIf (wAnd (tC (dEq cb (dAt (lIxx (lVar 0) dInt)) dInt)) (wAnd (tC (dLt (dAt (lIxx (lVar 0) dInt)) (fLen cb (aC (dAt (lIxx (lVar 0) dInt)) aN)))) (wAnd1 (tC (dGe (dIx cb (dAt (lIxx (lVar 0) dInt)) (dAt (lIxx (lVar 0) dInt))) (dPow dInt dInt)))))).t (ssC (sSetIx cb (oE (dIx cb (dAt (lIxx (lVar 0) dInt)) (dAt (lIxx (lVar 0) dInt)))) (lVar 0) dInt)
  (ss1 (sSetIx cb (oE (dAdd (dAt (lIxx (lVar 0) dInt)) dInt)) (lVar 0) dInt))) ssN)
  (ssC (sIf (tC (dGt (dAt (lIxx (lVar 0) dInt)) dInt)) (ssC (sSet cb 3 (oE (dMod (fInt cb (aC (dAt (lIxx (lVar 0) dInt)) aN)) (dVar 1))))
  (ssC (sSetIx cb (oE (dDiv (fInt cb (aC (dAt (lIxx (lVar 0) dInt)) aN)) (dVar 1))) (lVar 0) dInt)
  (ss1 (sRet (oE (dVar 3)))))) ssN)
  (ssC (sSet cb 2 (oE dInt))
  (ssC (sIf (tC (dLt (dAt (lIxx (lVar 0) dInt)) (fLen cb (aC (dAt (lIxx (lVar 0) dInt)) aN)))) (ssC (sSet cb 2 (oE (dIx cb (dAt (lIxx (lVar 0) dInt)) (dAt (lIxx (lVar 0) dInt)))))
  (ss1 (sSetIx cb (oE (dAdd (dAt (lIxx (lVar 0) dInt)) dInt)) (lVar 0) dInt))) ssN)
  (ssC (sSetIx cb (oE (dAdd (dAt (lIxx (lVar 0) dInt)) dInt)) (lVar 0) dInt)
  (ssC (sSetIx cb (oE (dMod (fInt cb (aC (dAdd (dAdd (dMul (dAt (lIxx (lVar 0) dInt)) dInt) (dMul (dAdd (dVar 2) dInt) dInt)) (dMul (dAt (lIxx (lVar 0) dInt)) dInt)) aN)) dInt)) (lVar 0) dInt)
  (ss1 (sRet (oE (dMod (dDiv (dMod (fInt cb (aC (dAdd (dMul (dAt (lIxx (lVar 0) dInt)) dInt) (dAt (lIxx (lVar 0) dInt))) aN)) dInt) dInt) (dVar 1)))))))))))
/-! _law_pick -/
abbrev s__law_pick : Stmt := (top 9)
def b__law_pick : Env → Res (Fl × Env) :=
  (sRetF (oP (dBin pSubs (dVarF 1) (dFz (oCallM 2 F__law_draw (mCons (a1N 0) (mCons (a1P (dBi cLen (aCons (dVarF 1) aNil))) mNil)))))))
def F__law_pick : List O → FR := runB 2 [0] b__law_pick
theorem kp__law_pick (T : TX K mg) : PySem.W.keepIn K (.ref (He.fAd K ("_law_pick", none))) = true := fa_kp T.toTxt 1 (d := ⟨("_law_pick", none), "_law_pick", "_law_pick", defArgs s__law_pick, defBody s__law_pick, defScope s__law_pick, [], []⟩)
theorem sc__law_pick : FnScope ["s", "row"] ["s", "row"] (defScope s__law_pick) := ⟨rfl, rfl, rfl, by decide +kernel, rfl, by decide +kernel, by decide +kernel⟩
theorem ok__law_pick (T : TX K mg) : Fa Pg w K mg base (He.ga K) 2 2 F__law_pick (He.fAd K ("_law_pick", none)) :=
  fa_ok (ps := ["s", "row"]) (io := [0]) (name := "_law_pick") (qual := "_law_pick") (params := defArgs s__law_pick) (body := defBody s__law_pick) (scope := defScope s__law_pick) T.toTxt 1 (hfree T) sc__law_pick (fun _ _ _ _ _ _ us hl => match us, hl with | [_, _], _ => rfl) fun cdv A outer s H E r c =>
  have cb := c.b
  (ss1 (sRet (oE (dIx cb (dVar 1) (dOw (oCall c r (ok__law_draw T) (T.glo 8) (kp__law_draw T) (mC (x1N 0) (mC (x1P (fLen cb (aC (dVar 1) aN))) m0))))))))
/-! _law_int -/
abbrev s__law_int : Stmt := (top 10)
def b__law_int : Env → Res (Fl × Env) :=
  (sRetF (oP (dAndF (dBi cIsi (aCons (dVarF 0) (aCons (dConst (.s (.ty "int"))) aNil))) (dNotF (dBi cIsi (aCons (dVarF 0) (aCons (dConst (.s (.ty "bool"))) aNil)))))))
def F__law_int : List O → FR := runB 1 [] b__law_int
theorem kp__law_int (T : TX K mg) : PySem.W.keepIn K (.ref (He.fAd K ("_law_int", none))) = true := fa_kp T.toTxt 2 (d := ⟨("_law_int", none), "_law_int", "_law_int", defArgs s__law_int, defBody s__law_int, defScope s__law_int, [], []⟩)
theorem sc__law_int : FnScope ["x"] ["x"] (defScope s__law_int) := ⟨rfl, rfl, rfl, by decide +kernel, rfl, by decide +kernel, by decide +kernel⟩
theorem ok__law_int (T : TX K mg) : Fa Pg w K mg base (He.ga K) 1 1 F__law_int (He.fAd K ("_law_int", none)) :=
  fa_ok (ps := ["x"]) (io := []) (name := "_law_int") (qual := "_law_int") (params := defArgs s__law_int) (body := defBody s__law_int) (scope := defScope s__law_int) T.toTxt 2 (hfree T) sc__law_int (fun _ _ _ _ _ _ us hl => match us, hl with | [_], _ => rfl) fun cdv A outer s H E r c =>
  have cb := c.b
  (ss1 (sRet (oE (dAndV (fIsi cb (aC (dVar 0) (aC (dTy cb) aN))) (dOne (dNot (fIsi cb (aC (dVar 0) (aC (dTy cb) aN)))))))))
theorem okh__law_int (T : TX K mg) : Fh Pg w K mg base (He.ga K) 1 1 F__law_int (He.fAd K ("_law_int", none)) :=
  fh_ok (ps := ["x"]) (io := []) (name := "_law_int") (qual := "_law_int") (params := defArgs s__law_int) (body := defBody s__law_int) (scope := defScope s__law_int) T.toTxt 2 (hfree T) sc__law_int (fun _ _ _ _ _ _ us hl => match us, hl with | [_], _ => rfl) fun cdv A outer s H E p rh hot cb =>
  (ss1 (sRet (oE (dAndV (fIsi cb (aC (dVar 0) (aC (dTy cb) aN))) (dOne (dNot (fIsi cb (aC (dVar 0) (aC (dTy cb) aN)))))))))
/-! _law_state -/
abbrev s__law_state : Stmt := (top 11)
def p__law_state_0 : Env → Res (Fl × Env) :=
  (sSetF 1 (oCallM 2 F__law_draw (mCons (a1N 0) (mCons (a1P (dConst (.s (.int 3)))) mNil))))
def p__law_state_1 : Env → Res (Fl × Env) :=
  (sIfF (tBl (dBin (pEq false) (dVarF 1) (dConst (.s (.int 0))))) (sRetF (oCallM 2 F__law_draw (mCons (a1N 0) (mCons (a1P (dConst (.s (.int 4)))) mNil)))) sNx)
def p__law_state_2 : Env → Res (Fl × Env) :=
  (sIfF (tBl (dBin (pEq false) (dVarF 1) (dConst (.s (.int 1))))) (sRetF (oCallM 2 F__law_pick (mCons (a1N 0) (mCons (a1P (dSeqF .lst (aCons (dConst (.s (.str ""))) (aCons (dConst (.s (.str "a"))) (aCons (dConst (.s (.str "b"))) (aCons (dConst (.s (.str "none"))) aNil)))))) mNil)))) sNx)
def p__law_state_3 : Env → Res (Fl × Env) :=
  (sRetF (oP (dSeqF .tup (aCons (dFz (oCallM 2 F__law_draw (mCons (a1N 0) (mCons (a1P (dConst (.s (.int 2)))) mNil)))) (aCons (dFz (oCallM 2 F__law_pick (mCons (a1N 0) (mCons (a1P (dSeqF .lst (aCons (dConst (.s (.str "a"))) (aCons (dConst (.s (.str ""))) aNil)))) mNil)))) aNil)))))
def b__law_state : Env → Res (Fl × Env) :=
  (sSeqF p__law_state_0
  (sSeqF p__law_state_1
  (sSeqF p__law_state_2
  p__law_state_3)))
def F__law_state : List O → FR := runB 2 [0] b__law_state
theorem kp__law_state (T : TX K mg) : PySem.W.keepIn K (.ref (He.fAd K ("_law_state", none))) = true := fa_kp T.toTxt 5 (d := ⟨("_law_state", none), "_law_state", "_law_state", defArgs s__law_state, defBody s__law_state, defScope s__law_state, [], []⟩)
theorem sc__law_state : FnScope ["s", "way"] ["s"] (defScope s__law_state) := ⟨rfl, rfl, rfl, by decide +kernel, rfl, by decide +kernel, by decide +kernel⟩
theorem ok__law_state (T : TX K mg) : Fa Pg w K mg base (He.ga K) 3 1 F__law_state (He.fAd K ("_law_state", none)) :=
  fa_ok (ps := ["s"]) (io := [0]) (name := "_law_state") (qual := "_law_state") (params := defArgs s__law_state) (body := defBody s__law_state) (scope := defScope s__law_state) T.toTxt 5 (hfree T) sc__law_state (fun _ _ _ _ _ _ us hl => match us, hl with | [_], _ => rfl) fun cdv A outer s H E r c =>
  have cb := c.b
  (ssC (sSet cb 1 (oCall c r (ok__law_draw T) (T.glo 8) (kp__law_draw T) (mC (x1N 0) (mC (x1P dInt) m0))))
  (ssC (sIf (tC (dEq cb (dVar 1) dInt)) (ss1 (sRet (oCall c r (ok__law_draw T) (T.glo 8) (kp__law_draw T) (mC (x1N 0) (mC (x1P dInt) m0))))) ssN)
  (ssC (sIf (tC (dEq cb (dVar 1) dInt)) (ss1 (sRet (oCall c r (ok__law_pick T) (T.glo 9) (kp__law_pick T) (mC (x1N 0) (mC (x1P (dLst (aC dStr (aC dStr (aC dStr (aC dStr aN)))))) m0))))) ssN)
  (ss1 (sRet (oE (dTup (aC (dOw (oCall c r (ok__law_draw T) (T.glo 8) (kp__law_draw T) (mC (x1N 0) (mC (x1P dInt) m0)))) (aC (dOw (oCall c r (ok__law_pick T) (T.glo 9) (kp__law_pick T) (mC (x1N 0) (mC (x1P (dLst (aC dStr (aC dStr aN)))) m0)))) aN)))))))))
/-! _law_moved -/
abbrev s__law_moved : Stmt := (top 12)
def p__law_moved_0 : Env → Res (Fl × Env) :=
  (sTryF 3 (fun c => subOf anc c "NothingLeft") (sSeqF (sIfF (tAndF (tBl (dBin (pEq false) (dVarF 1) (dConst (.s (.int 0))))) (tBl (dBin (pIsN true) (dFz (oCallM 2 F_History_move (mMeth "History" "move" (a1N 0) (mCons (a1P (dVarF 2)) mNil)))) (dConst (.s .non))))) (sRetF (oP (dConst (.s (.str "told"))))) sNx)
  (sSeqF (sIfF (tAndF (tBl (dBin (pEq false) (dVarF 1) (dConst (.s (.int 1))))) (tBl (dBin (pIsN true) (dFz (oCallM 1 F_History_undo (mMeth "History" "undo" (a1N 0) mNil))) (dConst (.s .non))))) (sRetF (oP (dConst (.s (.str "told"))))) sNx)
  (sIfF (tAndF (tBl (dBin (pEq false) (dVarF 1) (dConst (.s (.int 2))))) (tBl (dBin (pIsN true) (dFz (oCallM 1 F_History_redo (mMeth "History" "redo" (a1N 0) mNil))) (dConst (.s .non))))) (sRetF (oP (dConst (.s (.str "told"))))) sNx))) (fun cc fs => (uSeq (uIf (tAndF (tTru (dIsE 3 (subOf anc cc "DescribeError"))) (tAndF (tTru (dIsE 3 (subOf anc cc "ValueError"))) (tNotF (tTru (dIsE 3 (subOf anc cc "NoSuch")))))) (uSeq (uRet (dConst (.s (.str "nothing"))))
  uNil) uNil)
  (uSeq (uRet (dConst (.s (.str "other"))))
  uNil))))
def b__law_moved : Env → Res (Fl × Env) :=
  (sSeqF p__law_moved_0
  (sRetF (oP (dConst (.s (.str "done"))))))
def F__law_moved : List O → FR := runB 4 [0] b__law_moved
theorem kp__law_moved (T : TX K mg) : PySem.W.keepIn K (.ref (He.fAd K ("_law_moved", none))) = true := fa_kp T.toTxt 6 (d := ⟨("_law_moved", none), "_law_moved", "_law_moved", defArgs s__law_moved, defBody s__law_moved, defScope s__law_moved, [], []⟩)
theorem sc__law_moved : FnScope ["history", "way", "state", "e"] ["history", "way", "state"] (defScope s__law_moved) := ⟨rfl, rfl, rfl, by decide +kernel, rfl, by decide +kernel, by decide +kernel⟩
theorem ok__law_moved (T : TX K mg) : Fa Pg w K mg base (He.ga K) 2 3 F__law_moved (He.fAd K ("_law_moved", none)) :=
  fa_ok (ps := ["history", "way", "state"]) (io := [0]) (name := "_law_moved") (qual := "_law_moved") (params := defArgs s__law_moved) (body := defBody s__law_moved) (scope := defScope s__law_moved) T.toTxt 6 (hfree T) sc__law_moved (fun _ _ _ _ _ _ us hl => match us, hl with | [_, _, _], _ => rfl) fun cdv A outer s H E r c =>
  have cb := c.b
  (ssC (sTryAs c r 3 ⟨rfl, by decide, .inl (T.glo 5)⟩ (fun c b e => (anc_kit T.anc (by decide) e).2) (fun W pn xe c r => have cb := c.b; (ssC (sIf (wAnd (tC (dEq cb (dVar 1) dInt)) (wAnd1 (tC (dNotN (dOw (oMeth (c := "History") c r ⟨_, He.cls_ok (T.fact 0), He.meth_ok (T.fact 10), ok_History_move T⟩ (x1N 0) (mC (x1P (dVar 2)) m0))) dNon)))).t (ss1 (sRet (oE dStr))) ssN)
  (ssC (sIf (wAnd (tC (dEq cb (dVar 1) dInt)) (wAnd1 (tC (dNotN (dOw (oMeth0 (c := "History") c r ⟨_, He.cls_ok (T.fact 0), He.meth_ok (T.fact 11), ok_History_undo T⟩ (x1N 0))) dNon)))).t (ss1 (sRet (oE dStr))) ssN)
  (ss1 (sIf (wAnd (tC (dEq cb (dVar 1) dInt)) (wAnd1 (tC (dNotN (dOw (oMeth0 (c := "History") c r ⟨_, He.cls_ok (T.fact 0), He.meth_ok (T.fact 12), ok_History_redo T⟩ (x1N 0))) dNon)))).t (ss1 (sRet (oE dStr))) ssN))))) (fun a oe pn cc dd fvs fs su cb => (uC (uI (wAnd (tV (uIsG su cb 3 (T.glo 13) (fun b e => ⟨(anc_exc T.anc e).1, (anc_kit T.anc (by decide) e).1⟩))) (wAnd (tV (uIsV su cb 3 (T.free 14) (fun b e => ⟨(anc_exc T.anc e).1, anc_ve T.anc e⟩))) (wAnd1 (tNo (tV (uIsG su cb 3 (T.glo 6) (fun b e => ⟨(anc_exc T.anc e).1, (anc_kit T.anc (by decide) e).1⟩))))))).t (uC (uR dStr)
  uN) uN)
  (uC (uR dStr)
  uN))))
  (ss1 (sRet (oE dStr))))
/-! _law_earlier -/
abbrev s__law_earlier : Stmt := (top 13)
def p__law_earlier_0 : Env → Res (Fl × Env) :=
  (sTryF 2 (fun c => subOf anc c "NoSuch") (sRetF (oP (dSeqF .tup (aCons (dConst (.s (.str "state"))) (aCons (dFz (oCallM 2 F_History_earlier (mMeth "History" "earlier" (a1N 0) (mCons (a1P (dVarF 1)) mNil)))) aNil))))) (fun cc fs => (uSeq (uIf (tAndF (tTru (dCallHF 1 F__law_int (aCons (dXfc 2 "number" fs (hasF eis cc "number")) aNil))) (tAndF (tTru (dIsE 2 (subOf anc cc "DescribeError"))) (tNotF (tTru (dIsE 2 (subOf anc cc "NothingLeft")))))) (uSeq (uRet (dSeqF .tup (aCons (dConst (.s (.str "none"))) (aCons (dXfc 2 "number" fs (hasF eis cc "number")) aNil))))
  uNil) uNil)
  uNil)))
def p__law_earlier_1 : Env → Res (Fl × Env) :=
  (sRetF (oP (dSeqF .tup (aCons (dConst (.s (.str "other"))) (aCons (dConst (.s (.int 0))) aNil)))))
def b__law_earlier : Env → Res (Fl × Env) :=
  (sSeqF p__law_earlier_0
  p__law_earlier_1)
def F__law_earlier : List O → FR := runB 3 [0] b__law_earlier
theorem kp__law_earlier (T : TX K mg) : PySem.W.keepIn K (.ref (He.fAd K ("_law_earlier", none))) = true := fa_kp T.toTxt 3 (d := ⟨("_law_earlier", none), "_law_earlier", "_law_earlier", defArgs s__law_earlier, defBody s__law_earlier, defScope s__law_earlier, [], []⟩)
theorem sc__law_earlier : FnScope ["history", "steps", "e"] ["history", "steps"] (defScope s__law_earlier) := ⟨rfl, rfl, rfl, by decide +kernel, rfl, by decide +kernel, by decide +kernel⟩
theorem ok__law_earlier (T : TX K mg) : Fa Pg w K mg base (He.ga K) 4 2 F__law_earlier (He.fAd K ("_law_earlier", none)) :=
  fa_ok (ps := ["history", "steps"]) (io := [0]) (name := "_law_earlier") (qual := "_law_earlier") (params := defArgs s__law_earlier) (body := defBody s__law_earlier) (scope := defScope s__law_earlier) T.toTxt 3 (hfree T) sc__law_earlier (fun _ _ _ _ _ _ us hl => match us, hl with | [_, _], _ => rfl) fun cdv A outer s H E r c =>
  have cb := c.b
  (ssC (sTryAs c r 2 ⟨rfl, by decide, .inl (T.glo 6)⟩ (fun c b e => (anc_kit T.anc (by decide) e).2) (fun W pn xe c r => have cb := c.b; (ss1 (sRet (oE (dTup (aC dStr (aC (dOw (oMeth (c := "History") c r ⟨_, He.cls_ok (T.fact 0), He.meth_ok (T.fact 15), ok_History_earlier T⟩ (x1N 0) (mC (x1P (dVar 1)) m0))) aN))))))) (fun a oe pn cc dd fvs fs su cb => (uC (uI (wAnd (tV (uCall su (okh__law_int T) (T.glo 16) (kp__law_int T) (aC (uXf su 2 T.fld) aN))) (wAnd (tV (uIsG su cb 2 (T.glo 13) (fun b e => ⟨(anc_exc T.anc e).1, (anc_kit T.anc (by decide) e).1⟩))) (wAnd1 (tNo (tV (uIsG su cb 2 (T.glo 5) (fun b e => ⟨(anc_exc T.anc e).1, (anc_kit T.anc (by decide) e).1⟩))))))).t (uC (uR (dTup (aC dStr (aC (uXf su 2 T.fld) aN))))
  uN) uN)
  uN)))
  (ss1 (sRet (oE (dTup (aC dStr (aC dInt aN)))))))
/-! _law_same -/
abbrev s__law_same : Stmt := (top 14)
def p__law_same_0 : Env → Res (Fl × Env) :=
  (sSetF 5 (oP (dSeqF .tup (aCons (dConst (.s (.str "none"))) (aCons (dVarF 4) aNil)))))
def p__law_same_1 : Env → Res (Fl × Env) :=
  (sIfF (tBl (dChainF pLe pLt (dConst (.s (.int 0))) (dVarF 4) (dBi cLen (aCons (dVarF 2) aNil)))) (sSetF 5 (oP (dSeqF .tup (aCons (dConst (.s (.str "state"))) (aCons (dBin pSubs (dVarF 2) (dBin pSub (dBin pSub (dBi cLen (aCons (dVarF 2) aNil)) (dConst (.s (.int 1)))) (dVarF 4))) aNil))))) sNx)
def p__law_same_2 : Env → Res (Fl × Env) :=
  (sIfF (tBl (dBin (pEq true) (dFz (oCallM 2 F__law_earlier (mCons (a1N 0) (mCons (a1P (dVarF 4)) mNil)))) (dVarF 5))) (sRetF (oP (dConst (.s (.bl false))))) sNx)
def l__law_same_0 : Env → Res (Fl × Env) :=
  (sSeqF p__law_same_0
  (sSeqF p__law_same_1
  p__law_same_2))
def p__law_same_3 : Env → Res (Fl × Env) :=
  (sSetF 3 (oCallM 1 F_History_versions (mMeth "History" "versions" (a1N 0) mNil)))
def p__law_same_4 : Env → Res (Fl × Env) :=
  (sIfF (tOrF (tNotF (tTru (dBi cIsi (aCons (dVarT 3) (aCons (dConst (.s (.ty "list"))) aNil))))) (tOrF (tBl (dBin (pEq true) (dVarT 3) (dBin pSubs (dVarF 1) (dConst (.s (.int 0)))))) (tBl (dBin (pEq true) (dAtF (lAttr "History" "state" (lName 0))) (dBin pSubs (dVarF 2) (dBin pSub (dBi cLen (aCons (dVarF 2) aNil)) (dConst (.s (.int 1))))))))) (sRetF (oP (dConst (.s (.bl false))))) sNx)
def p__law_same_5 : Env → Res (Fl × Env) :=
  (sExprF (dFz (oKer kApp (mRecv isLst (a1N 3) (mCons (a1P (dConst (.s (.str "more")))) mNil)))))
def p__law_same_6 : Env → Res (Fl × Env) :=
  (sSetIxF (oP (dConst (.s (.str "other")))) (lName 3) (dConst (.s (.int 0))))
def p__law_same_7 : Env → Res (Fl × Env) :=
  (sIfF (tBl (dBin (pEq true) (dFz (oCallM 1 F_History_versions (mMeth "History" "versions" (a1N 0) mNil))) (dBin pSubs (dVarF 1) (dConst (.s (.int 0)))))) (sRetF (oP (dConst (.s (.bl false))))) sNx)
def p__law_same_8 : Env → Res (Fl × Env) :=
  (sForD (iRng2F (aCons (dUn pNeg (dConst (.s (.int 1)))) (aCons (dBin pAdd (dBi cLen (aCons (dVarF 2) aNil)) (dConst (.s (.int 2)))) aNil))) (gNm 4) l__law_same_0)
def b__law_same : Env → Res (Fl × Env) :=
  (sSeqF (sSetF 2 (oP (dBin pSubs (dVarF 1) (dConst (.s (.int 0))))))
  (sSeqF p__law_same_3
  (sSeqF p__law_same_4
  (sSeqF p__law_same_5
  (sSeqF p__law_same_6
  (sSeqF p__law_same_7
  (sSeqF p__law_same_8
  (sRetF (oP (dConst (.s (.bl true))))))))))))
def F__law_same : List O → FR := runB 6 [0] b__law_same
theorem kp__law_same (T : TX K mg) : PySem.W.keepIn K (.ref (He.fAd K ("_law_same", none))) = true := fa_kp T.toTxt 7 (d := ⟨("_law_same", none), "_law_same", "_law_same", defArgs s__law_same, defBody s__law_same, defScope s__law_same, [], []⟩)
theorem sc__law_same : FnScope ["history", "model", "now", "told", "steps", "due"] ["history", "model"] (defScope s__law_same) := ⟨rfl, rfl, rfl, by decide +kernel, rfl, by decide +kernel, by decide +kernel⟩
theorem ok__law_same (T : TX K mg) : Fa Pg w K mg base (He.ga K) 5 2 F__law_same (He.fAd K ("_law_same", none)) :=
  fa_ok (ps := ["history", "model"]) (io := [0]) (name := "_law_same") (qual := "_law_same") (params := defArgs s__law_same) (body := defBody s__law_same) (scope := defScope s__law_same) T.toTxt 7 (hfree T) sc__law_same (fun _ _ _ _ _ _ us hl => match us, hl with | [_, _], _ => rfl) fun cdv A outer s H E r c =>
  have cb := c.b
  (ssC (sSet cb 2 (oE (dIx cb (dVar 1) dInt)))
  (ssC (sSet cb 3 (oMeth0 (c := "History") c r ⟨_, He.cls_ok (T.fact 0), He.meth_ok (T.fact 7), ok_History_versions T⟩ (x1N 0)))
  (ssC (sIf (wOr (tNo (tV (fIsi cb (aC (dVart 3) (aC (dTy cb) aN))))) (wOr (tC (dNe cb (dVart 3) (dIx cb (dVar 1) dInt))) (wOr1 (tC (dNe cb (dAt (lAtt (c := "History") (lVar 0) (He.cls_ok (T.fact 0)) (He.noat_ok (T.fact 1)))) (dIx cb (dVar 2) (dSub (fLen cb (aC (dVar 2) aN)) dInt))))))).t (ss1 (sRet (oE dBl))) ssN)
  (ssC (sExpr (dOw (lApp (x1N 3) (mC (x1P dStr) m0))))
  (ssC (sSetIx cb (oE dStr) (lVar 3) dInt)
  (ssC (sIf (tC (dNe cb (dOw (oMeth0 (c := "History") c r ⟨_, He.cls_ok (T.fact 0), He.meth_ok (T.fact 7), ok_History_versions T⟩ (x1N 0))) (dIx cb (dVar 1) dInt))) (ss1 (sRet (oE dBl))) ssN)
  (ssC (sFor c (iR2 cb (aC (dNeg dInt) (aC (dAdd (fLen cb (aC (dVar 2) aN)) dInt) aN))) (gNam cb 4) (ssC (sSet cb 5 (oE (dTup (aC dStr (aC (dVar 4) aN)))))
  (ssC (sIf (tC (dLeLt dInt (dVar 4) (fLen cb (aC (dVar 2) aN)))) (ss1 (sSet cb 5 (oE (dTup (aC dStr (aC (dIx cb (dVar 2) (dSub (dSub (fLen cb (aC (dVar 2) aN)) dInt) (dVar 4))) aN)))))) ssN)
  (ss1 (sIf (tC (dNe cb (dOw (oCall c r (ok__law_earlier T) (T.glo 17) (kp__law_earlier T) (mC (x1N 0) (mC (x1P (dVar 4)) m0)))) (dVar 5))) (ss1 (sRet (oE dBl))) ssN)))))
  (ss1 (sRet (oE dBl))))))))))
/-! law -/
abbrev s_law : Stmt := (top 15)
def p_law_0 : Env → Res (Fl × Env) :=
  (sSetF 6 (oP (dBi cInt (aCons (dBin (pEq false) (dFz (oCallM 2 F__law_draw (mCons (a1N 1) (mCons (a1P (dConst (.s (.int 4)))) mNil)))) (dConst (.s (.int 0)))) aNil))))
def p_law_1 : Env → Res (Fl × Env) :=
  (sSetF 7 (oCallM 2 F__law_pick (mCons (a1N 1) (mCons (a1P (dSeqF .lst (aCons (dConst (.s (.int 0))) (aCons (dConst (.s (.int 0))) (aCons (dConst (.s (.int 0))) (aCons (dConst (.s (.int 1))) (aCons (dConst (.s (.int 1))) (aCons (dConst (.s (.int 2))) (aCons (dConst (.s (.int 2))) aNil))))))))) mNil))))
def p_law_2 : Env → Res (Fl × Env) :=
  (sSetF 9 (oP (dBin pSubs (dAtF (lIx (lName 4) (dVarF 6))) (dConst (.s (.int 0))))))
def p_law_3 : Env → Res (Fl × Env) :=
  (sSetF 10 (oP (dBin pSubs (dAtF (lIx (lName 4) (dVarF 6))) (dConst (.s (.int 1))))))
def p_law_4 : Env → Res (Fl × Env) :=
  (sIfF (tOrF (tAndF (tBl (dBin (pEq false) (dVarF 7) (dConst (.s (.int 1))))) (tBl (dBin (pEq false) (dBi cLen (aCons (dVarF 9) aNil)) (dConst (.s (.int 1)))))) (tAndF (tBl (dBin (pEq false) (dVarF 7) (dConst (.s (.int 2))))) (tBl (dBin (pEq false) (dVarF 10) (dSeqF .lst aNil))))) (sSetF 11 (oP (dConst (.s (.str "nothing"))))) sNx)
def p_law_5 : Env → Res (Fl × Env) :=
  (sIfF (tBl (dBin (pEq true) (dFz (oCallM 3 F__law_moved (mCons (a1L (lIx (lName 3) (dVarF 6))) (mCons (a1Pp (dVarF 7)) (mCons (a1Pp (dVarF 8)) mNil))))) (dVarF 11))) (sRetF (oP (dConst (.s (.bl false))))) sNx)
def p_law_6 : Env → Res (Fl × Env) :=
  (sIfF (tAndF (tBl (dBin (pEq false) (dVarF 11) (dConst (.s (.str "done"))))) (tBl (dBin (pEq false) (dVarF 7) (dConst (.s (.int 0)))))) (sSetIxF (oP (dSeqF .lst (aCons (dBin pAdd (dVarF 9) (dSeqF .lst (aCons (dVarF 8) aNil))) (aCons (dSeqF .lst aNil) aNil)))) (lName 4) (dVarF 6)) sNx)
def p_law_7 : Env → Res (Fl × Env) :=
  (sIfF (tAndF (tBl (dBin (pEq false) (dVarF 11) (dConst (.s (.str "done"))))) (tBl (dBin (pEq false) (dVarF 7) (dConst (.s (.int 1)))))) (sSetIxF (oP (dSeqF .lst (aCons (dSlF (dVarF 9) bNo (bSo (dUn pNeg (dConst (.s (.int 1)))))) (aCons (dBin pAdd (dVarF 10) (dSeqF .lst (aCons (dBin pSubs (dVarF 9) (dBin pSub (dBi cLen (aCons (dVarF 9) aNil)) (dConst (.s (.int 1))))) aNil))) aNil)))) (lName 4) (dVarF 6)) sNx)
def p_law_8 : Env → Res (Fl × Env) :=
  (sIfF (tAndF (tBl (dBin (pEq false) (dVarF 11) (dConst (.s (.str "done"))))) (tBl (dBin (pEq false) (dVarF 7) (dConst (.s (.int 2)))))) (sSetIxF (oP (dSeqF .lst (aCons (dBin pAdd (dVarF 9) (dSeqF .lst (aCons (dBin pSubs (dVarF 10) (dBin pSub (dBi cLen (aCons (dVarF 10) aNil)) (dConst (.s (.int 1))))) aNil))) (aCons (dSlF (dVarF 10) bNo (bSo (dUn pNeg (dConst (.s (.int 1)))))) aNil)))) (lName 4) (dVarF 6)) sNx)
def p_law_9 : Env → Res (Fl × Env) :=
  (sIfF (tAndF (tBl (dBin (pEq false) (dBin pMod (dVarF 5) (dConst (.s (.int 5)))) (dConst (.s (.int 0))))) (tNotF (tTru (dFz (oCallM 2 F__law_same (mCons (a1L (lIx (lName 3) (dVarF 6))) (mCons (a1Pp (dAtF (lIx (lName 4) (dVarF 6)))) mNil))))))) (sRetF (oP (dConst (.s (.bl false))))) sNx)
def p_law_10 : Env → Res (Fl × Env) :=
  (sIfF (tBl (dBin (pEq true) (dAtF (lAttr "History" "state" (lIx (lName 3) (dVarF 6)))) (dBin pSubs (dBin pSubs (dAtF (lIx (lName 4) (dVarF 6))) (dConst (.s (.int 0)))) (dBin pSub (dBi cLen (aCons (dBin pSubs (dAtF (lIx (lName 4) (dVarF 6))) (dConst (.s (.int 0)))) aNil)) (dConst (.s (.int 1))))))) (sRetF (oP (dConst (.s (.bl false))))) sNx)
def l_law_0 : Env → Res (Fl × Env) :=
  (sSeqF p_law_0
  (sSeqF p_law_1
  (sSeqF (sSetF 8 (oCallM 1 F__law_state (mCons (a1N 1) mNil)))
  (sSeqF p_law_2
  (sSeqF p_law_3
  (sSeqF (sSetF 11 (oP (dConst (.s (.str "done")))))
  (sSeqF p_law_4
  (sSeqF p_law_5
  (sSeqF p_law_6
  (sSeqF p_law_7
  (sSeqF p_law_8
  (sSeqF p_law_9
  p_law_10))))))))))))
def p_law_11 : Env → Res (Fl × Env) :=
  (sSetF 1 (oCallM 1 F__law_stream (mCons (a1P (dVarF 0)) mNil)))
def p_law_12 : Env → Res (Fl × Env) :=
  (sSetF 2 (oP (dSeqF .lst (aCons (dFz (oCallM 1 F__law_state (mCons (a1N 1) mNil))) (aCons (dFz (oCallM 1 F__law_state (mCons (a1N 1) mNil))) aNil)))))
def p_law_13 : Env → Res (Fl × Env) :=
  (sSetF 3 (oLstM (mCons (a1O (oMakeM 2 F_History___init__ "History" (mCons (a1P (dBin pSubs (dVarF 2) (dConst (.s (.int 0))))) mNil))) (mCons (a1O (oMakeM 2 F_History___init__ "History" (mCons (a1P (dBin pSubs (dVarF 2) (dConst (.s (.int 1))))) mNil))) mNil))))
def p_law_14 : Env → Res (Fl × Env) :=
  (sSetF 4 (oLst (aCons (dSeqF .lst (aCons (dSeqF .lst (aCons (dBin pSubs (dVarF 2) (dConst (.s (.int 0)))) aNil)) (aCons (dSeqF .lst aNil) aNil))) (aCons (dSeqF .lst (aCons (dSeqF .lst (aCons (dBin pSubs (dVarF 2) (dConst (.s (.int 1)))) aNil)) (aCons (dSeqF .lst aNil) aNil))) aNil))))
def p_law_15 : Env → Res (Fl × Env) :=
  (sForD (iRng1F (aCons (dBin pAdd (dConst (.s (.int 4))) (dFz (oCallM 2 F__law_draw (mCons (a1N 1) (mCons (a1P (dConst (.s (.int 37)))) mNil))))) aNil)) (gNm 5) l_law_0)
def p_law_16 : Env → Res (Fl × Env) :=
  (sRetF (oP (dAndF (dFz (oCallM 2 F__law_same (mCons (a1L (lIx (lName 3) (dConst (.s (.int 0))))) (mCons (a1Pp (dAtF (lIx (lName 4) (dConst (.s (.int 0)))))) mNil)))) (dFz (oCallM 2 F__law_same (mCons (a1L (lIx (lName 3) (dConst (.s (.int 1))))) (mCons (a1Pp (dAtF (lIx (lName 4) (dConst (.s (.int 1)))))) mNil)))))))
def b_law : Env → Res (Fl × Env) :=
  (sSeqF p_law_11
  (sSeqF p_law_12
  (sSeqF p_law_13
  (sSeqF p_law_14
  (sSeqF p_law_15
  p_law_16)))))
def F_law : List O → FR := runB 12 [] b_law
theorem kp_law (T : TX K mg) : PySem.W.keepIn K (.ref (He.fAd K ("law", none))) = true := fa_kp T.toTxt 14 (d := ⟨("law", none), "law", "law", defArgs s_law, defBody s_law, defScope s_law, [], []⟩)
theorem sc_law : FnScope ["script", "s", "firsts", "histories", "models", "k", "at", "way", "state", "now", "future", "due"] ["script"] (defScope s_law) := ⟨rfl, rfl, rfl, by decide +kernel, rfl, by decide +kernel, by decide +kernel⟩
theorem ok_law (T : TX K mg) : ∃ fd, (∀ (s : Shared) (v : Value), BindsTo s fd ⟨[v], []⟩ [("script", v)]) ∧ ∀ base : Heap, FnOk Pg w K mg base (L2N.CX Pg w) 6 (He.fAd K ("law", none)) fd ["script"] (spF ⟨K, He.ga K, none⟩ 1 F_law) :=
  fl_ok (x := "script") (io := []) (name := "law") (qual := "law") (params := defArgs s_law) (body := defBody s_law) (scope := defScope s_law) T.toTxt 14 (hfree T) sc_law (fun _ _ _ _ _ _ us hl => match us, hl with | [_], _ => rfl) fun base cdv A outer s H E r c =>
  have cb := c.b
  (ssC (sSet cb 1 (oCall c r (ok__law_stream T) (T.glo 18) (kp__law_stream T) (mC (x1P (dVar 0)) m0)))
  (ssC (sSet cb 2 (oE (dLst (aC (dOw (oCall c r (ok__law_state T) (T.glo 19) (kp__law_state T) (mC (x1N 1) m0))) (aC (dOw (oCall c r (ok__law_state T) (T.glo 19) (kp__law_state T) (mC (x1N 1) m0))) aN)))))
  (ssC (sSet cb 3 (oListM (mC (x1O (oMake (c := "History") c r ⟨_, He.mkr_ok (T.fact 20), ok_History___init__ T⟩ (T.glo 21) (mC (x1P (dIx cb (dVar 2) dInt)) m0))) (mC (x1O (oMake (c := "History") c r ⟨_, He.mkr_ok (T.fact 20), ok_History___init__ T⟩ (T.glo 21) (mC (x1P (dIx cb (dVar 2) dInt)) m0))) m0))))
  (ssC (sSet cb 4 (oList (aC (dLst (aC (dLst (aC (dIx cb (dVar 2) dInt) aN)) (aC (dLst aN) aN))) (aC (dLst (aC (dLst (aC (dIx cb (dVar 2) dInt) aN)) (aC (dLst aN) aN))) aN))))
  (ssC (sFor c (iR1 cb (aC (dAdd dInt (dOw (oCall c r (ok__law_draw T) (T.glo 8) (kp__law_draw T) (mC (x1N 1) (mC (x1P dInt) m0))))) aN)) (gNam cb 5) (ssC (sSet cb 6 (oE (fInt cb (aC (dEq cb (dOw (oCall c r (ok__law_draw T) (T.glo 8) (kp__law_draw T) (mC (x1N 1) (mC (x1P dInt) m0)))) dInt).de aN))))
  (ssC (sSet cb 7 (oCall c r (ok__law_pick T) (T.glo 9) (kp__law_pick T) (mC (x1N 1) (mC (x1P (dLst (aC dInt (aC dInt (aC dInt (aC dInt (aC dInt (aC dInt (aC dInt aN))))))))) m0))))
  (ssC (sSet cb 8 (oCall c r (ok__law_state T) (T.glo 19) (kp__law_state T) (mC (x1N 1) m0)))
  (ssC (sSet cb 9 (oE (dIx cb (dAt (lIxx (lVar 4) (dVar 6))) dInt)))
  (ssC (sSet cb 10 (oE (dIx cb (dAt (lIxx (lVar 4) (dVar 6))) dInt)))
  (ssC (sSet cb 11 (oE dStr))
  (ssC (sIf (wOr (wAnd (tC (dEq cb (dVar 7) dInt)) (wAnd1 (tC (dEq cb (fLen cb (aC (dVar 9) aN)) dInt)))).t (wOr1 (wAnd (tC (dEq cb (dVar 7) dInt)) (wAnd1 (tC (dEq cb (dVar 10) (dLst aN))))).t)).t (ss1 (sSet cb 11 (oE dStr))) ssN)
  (ssC (sIf (tC (dNe cb (dOw (oCall c r (ok__law_moved T) (T.glo 22) (kp__law_moved T) (mC (x1L (lIxx (lVar 3) (dVar 6))) (mC (x1Q (dVar 7)) (mC (x1Q (dVar 8)) m0))))) (dVar 11))) (ss1 (sRet (oE dBl))) ssN)
  (ssC (sIf (wAnd (tC (dEq cb (dVar 11) dStr)) (wAnd1 (tC (dEq cb (dVar 7) dInt)))).t (ss1 (sSetIx cb (oE (dLst (aC (dAdd (dVar 9) (dLst (aC (dVar 8) aN))) (aC (dLst aN) aN)))) (lVar 4) (dVar 6))) ssN)
  (ssC (sIf (wAnd (tC (dEq cb (dVar 11) dStr)) (wAnd1 (tC (dEq cb (dVar 7) dInt)))).t (ss1 (sSetIx cb (oE (dLst (aC (dSl (dVar 9) bN (bS (dNeg dInt))) (aC (dAdd (dVar 10) (dLst (aC (dIx cb (dVar 9) (dSub (fLen cb (aC (dVar 9) aN)) dInt)) aN))) aN)))) (lVar 4) (dVar 6))) ssN)
  (ssC (sIf (wAnd (tC (dEq cb (dVar 11) dStr)) (wAnd1 (tC (dEq cb (dVar 7) dInt)))).t (ss1 (sSetIx cb (oE (dLst (aC (dAdd (dVar 9) (dLst (aC (dIx cb (dVar 10) (dSub (fLen cb (aC (dVar 10) aN)) dInt)) aN))) (aC (dSl (dVar 10) bN (bS (dNeg dInt))) aN)))) (lVar 4) (dVar 6))) ssN)
  (ssC (sIf (wAnd (tC (dEq cb (dMod (dVar 5) dInt) dInt)) (wAnd1 (tNo (tV (dOw (oCall c r (ok__law_same T) (T.glo 23) (kp__law_same T) (mC (x1L (lIxx (lVar 3) (dVar 6))) (mC (x1Q (dAt (lIxx (lVar 4) (dVar 6)))) m0)))))))).t (ss1 (sRet (oE dBl))) ssN)
  (ss1 (sIf (tC (dNe cb (dAt (lAtt (c := "History") (lIxx (lVar 3) (dVar 6)) (He.cls_ok (T.fact 0)) (He.noat_ok (T.fact 1)))) (dIx cb (dIx cb (dAt (lIxx (lVar 4) (dVar 6))) dInt) (dSub (fLen cb (aC (dIx cb (dAt (lIxx (lVar 4) (dVar 6))) dInt) aN)) dInt)))) (ss1 (sRet (oE dBl))) ssN)))))))))))))))
  (ss1 (sRet (oE (dAndV (dOw (oCall c r (ok__law_same T) (T.glo 23) (kp__law_same T) (mC (x1L (lIxx (lVar 3) dInt)) (mC (x1Q (dAt (lIxx (lVar 4) dInt))) m0)))) (dOne (dOw (oCall c r (ok__law_same T) (T.glo 23) (kp__law_same T) (mC (x1L (lIxx (lVar 3) dInt)) (mC (x1Q (dAt (lIxx (lVar 4) dInt))) m0))))))))))))))
end
/-! the head -/
abbrev Rr : PySem.W.OpenRow := PySem.W.OpenLaw.row PySem.Challenge.rw_describedonce_k93_history
abbrev exs : PySem.W.Frag → Bool := exsB Pg.main.file eis anc
abbrev hk : PySem.W.Hook := hookR 4 fas fns eis exs
def ob (s : PySem.W.SharedT) : AlR := obsRG 4 fas fns eis exs (HandSHeadRun.getT s)
theorem ob_eq (s : PySem.W.SharedT) : ob s = hk.obs s.abs := obsRG_eq (HandSHeadRun.getT_eq s)
theorem run (w : World) : HandSHeadRun.RunEq Rr (PySem.W.view Rr.prog [15]) hk ob 3000 ["DescribeError", "NoSuch", "NothingLeft", "History", "_law_stream", "_law_draw", "_law_pick", "_law_int", "_law_state", "_law_moved", "_law_earlier", "_law_same"] w := by
  intro os
  kernel_rfl
theorem head (hF : ∀ ns : List Int, ns.length ≤ 63 → (∀ k ∈ ns, Builtin.Int.intBits k ≤ 1048576) → ∃ out, F_law [scr ns] = .ok (.p (.s (.bl true))) out) : PySem.Challenge.rw_describedonce_k93_history.Holds := by
  w_on; o_law
  refine HandSHeadRun.head_any (r := Rr) (q := PySem.W.view Rr.prog [15]) (H := hk) (ob := ob) (M := 3000) (loose := ["DescribeError", "NoSuch", "NothingLeft", "History", "_law_stream", "_law_draw", "_law_pick", "_law_int", "_law_state", "_law_moved", "_law_earlier", "_law_same"]) (d := HandSHeadRun.topDef Rr.prog 15) (kwd := []) ob_eq
    (by kernel_rfl) (fun s => by kernel_rfl) run (by kernel_rfl) (by kernel_rfl) (by kernel_rfl) (by rfl) (by first | assumption | decide +kernel) (by decide +kernel) ⟨rfl, rfl, rfl, rfl, rfl, by decide +kernel⟩ ?hw ?hc
  case hw => w_witness2
  case hc =>
    refine walk_ofD (l := PySem.Challenge.rw_describedonce_k93_history) (n := 63) (k := 6) (x := "script") (F := F_law) rfl (by decide) (by kernel_rfl) ⟨rfl, by decide, by decide⟩ hF ?F
    intro w mg fa h Y G hmg0
    obtain ⟨K, KX, c⟩ := Y
    have T : TX K mg := { ex := ⟨h, KX, G⟩, c := c.d, r := c }
    have hmg : mg ("law" : PySem.Str) = some (.ref fa) := by
      have e : (HandSHeadRun.topDef Rr.prog 15).name = ("law" : PySem.Str) := by kernel_rfl
      rw [← e]
      exact hmg0
    obtain ⟨fd, hb, hFn⟩ := ok_law (w := w) T
    have e := hmg.symm.trans (T.glo 48)
    cases e
    exact ⟨K, He.ga K, fd, KX, hb, hFn⟩
end DL.K93

namespace DL.K93
open PySem PySem.Spec L2 DL
def strm (c : List Int) (p t a b : Int) : O := .nd .lst [.p (.nd .lst (pInts c)), .p (.s (.int p)), .p (.s (.int t)), .p (.s (.int a)), .p (.s (.int b))]
theorem atI_ints {c : List Int} {p : Int} (h0 : 0 ≤ p) (h1 : p < c.length) : ∃ v, atI (pInts c) p = some (.s (.int v)) := by
  have hl : p.toNat < c.length := by omega
  refine ⟨c[p.toNat], ?_⟩
  unfold atI
  rw [nu_ixIn h0 (by simpa using h1)]
  simp [pInts, hl]
theorem draw_told {c : List Int} {p t a b many : Int} (h1 : 0 < t) (h2 : 0 < many) (h3 : many < 1073741824) : F__law_draw [strm c p t a b, .p (.s (.int many))] = .ok (.p (.s (.int (t % many)))) [(0, strm c p (t / many) a b)] := by
  have e1 : (t == 0) = false := by simp; omega
  unfold F__law_draw runB b__law_draw strm
  simp [res_ok, res_ex, ev_sSeqF, ev_sIfF, ev_sNx, ev_sSetF, ev_sAsgF, ev_sAugF, ev_sExprF, ev_sRetF, ev_sRetNF, ev_sForD, ev_dConst, ev_dVarF, ev_dVarZ, ev_dVarT, ev_dAtF, ev_dAtT, ev_lName, ev_lIx, ev_lAttr, ev_dBin, ev_dUn, ev_dNotF, ev_dAndF, ev_dOrF, ev_dIteF, ev_tTru, ev_tBl, ev_tAndF, ev_tOrF, ev_tNotF, ev_aNil, ev_aCons, ev_aStar, ev_dSeqF, ev_dChainF, ev_oP, ev_oMv, ev_oLst, ev_oLstM, ev_oDct, ev_dFz, ev_dBi, ev_oBi, ev_oBin, ev_gNm, ev_bNo, ev_bSo, ev_dSlF, ev_oSlF, ev_slF, ev_iAnyF, ev_a1P, ev_a1Pp, ev_a1O, ev_a1N, ev_a1L, ev_mNil, ev_mCons, ev_mMeth, ev_mRecv, ev_oKer, ev_oCallM, ev_oMakeM, ev_sSetIxF, ev_sSetAtF, ev_dCallF, ev_dCallHF, ev_sTryF, ev_sRaiseF, ev_uNil, ev_uRet, ev_uIf, ev_uSeq, ev_dIsE, ev_dXf, ev_dXfc, nu_eqI, nu_eqS, nu_add, nu_sub, nu_neg, nu_mul, nu_mulL, nu_div, nu_mod, nu_pow, nu_lt, nu_le, nu_gt, nu_ge, nu_isN, nu_ixL, nu_ixS, nu_ixT, nu_ixIn, nu_at0, nu_at1, nu_at2, nu_at3, nu_at4, nu_lenL, nu_lenS, nu_lenT, nu_int, nu_intB, nu_truI, nu_truB, nu_truN, nu_rg, nu_iR1, nu_iR2, List.length_cons, List.length_nil, List.getElem?_cons_zero, List.getElem?_cons_succ, List.set_cons_zero, List.set_cons_succ, Option.bind_some, Option.bind_none, Option.map_some, Option.map_none, at_, O.get, O.put, putAt, id, p_History_move_0, p_History_undo_0, p_History_undo_1, p_History_undo_2, p_History_redo_0, p_History_redo_1, p_History_redo_2, p_History_earlier_0, p_History_earlier_1, p__law_stream_0, p__law_stream_1, p__law_draw_0, p__law_draw_1, p__law_draw_2, p__law_draw_3, p__law_draw_4, p__law_draw_5, p__law_state_0, p__law_state_1, p__law_state_2, p__law_state_3, p__law_moved_0, p__law_earlier_0, p__law_earlier_1, p__law_same_0, p__law_same_1, p__law_same_2, p__law_same_3, p__law_same_4, p__law_same_5, p__law_same_6, p__law_same_7, p__law_same_8, p_law_0, p_law_1, p_law_2, p_law_3, p_law_4, p_law_5, p_law_6, p_law_7, p_law_8, p_law_9, p_law_10, p_law_11, p_law_12, p_law_13, p_law_14, p_law_15, p_law_16, e1, h1, h2, h3, ixN, setN, outOf, outO]
def mixA (cell a b : Int) : Int := (a * 39373 + (cell + 17) * 48271 + (b + 1) * 69621) % 2147483647
def outR (a b many : Int) : Int := (a * 16807 + (b + 1)) % 2147483629 / 5 % many
theorem draw_end {c : List Int} {p a b many : Int} (h1 : c.length ≤ p) (h2 : 0 < many) (h3 : many < 1073741824) : F__law_draw [strm c p 0 a b, .p (.s (.int many))] = .ok (.p (.s (.int (outR (mixA 0 a b) b many)))) [(0, strm c p 0 (mixA 0 a b) (b + 1))] := by
  have e1 : ¬ p < c.length := by omega
  unfold F__law_draw runB b__law_draw strm
  simp [res_ok, res_ex, ev_sSeqF, ev_sIfF, ev_sNx, ev_sSetF, ev_sAsgF, ev_sAugF, ev_sExprF, ev_sRetF, ev_sRetNF, ev_sForD, ev_dConst, ev_dVarF, ev_dVarZ, ev_dVarT, ev_dAtF, ev_dAtT, ev_lName, ev_lIx, ev_lAttr, ev_dBin, ev_dUn, ev_dNotF, ev_dAndF, ev_dOrF, ev_dIteF, ev_tTru, ev_tBl, ev_tAndF, ev_tOrF, ev_tNotF, ev_aNil, ev_aCons, ev_aStar, ev_dSeqF, ev_dChainF, ev_oP, ev_oMv, ev_oLst, ev_oLstM, ev_oDct, ev_dFz, ev_dBi, ev_oBi, ev_oBin, ev_gNm, ev_bNo, ev_bSo, ev_dSlF, ev_oSlF, ev_slF, ev_iAnyF, ev_a1P, ev_a1Pp, ev_a1O, ev_a1N, ev_a1L, ev_mNil, ev_mCons, ev_mMeth, ev_mRecv, ev_oKer, ev_oCallM, ev_oMakeM, ev_sSetIxF, ev_sSetAtF, ev_dCallF, ev_dCallHF, ev_sTryF, ev_sRaiseF, ev_uNil, ev_uRet, ev_uIf, ev_uSeq, ev_dIsE, ev_dXf, ev_dXfc, nu_eqI, nu_eqS, nu_add, nu_sub, nu_neg, nu_mul, nu_mulL, nu_div, nu_mod, nu_pow, nu_lt, nu_le, nu_gt, nu_ge, nu_isN, nu_ixL, nu_ixS, nu_ixT, nu_ixIn, nu_at0, nu_at1, nu_at2, nu_at3, nu_at4, nu_lenL, nu_lenS, nu_lenT, nu_int, nu_intB, nu_truI, nu_truB, nu_truN, nu_rg, nu_iR1, nu_iR2, List.length_cons, List.length_nil, List.getElem?_cons_zero, List.getElem?_cons_succ, List.set_cons_zero, List.set_cons_succ, Option.bind_some, Option.bind_none, Option.map_some, Option.map_none, at_, O.get, O.put, putAt, id, p_History_move_0, p_History_undo_0, p_History_undo_1, p_History_undo_2, p_History_redo_0, p_History_redo_1, p_History_redo_2, p_History_earlier_0, p_History_earlier_1, p__law_stream_0, p__law_stream_1, p__law_draw_0, p__law_draw_1, p__law_draw_2, p__law_draw_3, p__law_draw_4, p__law_draw_5, p__law_state_0, p__law_state_1, p__law_state_2, p__law_state_3, p__law_moved_0, p__law_earlier_0, p__law_earlier_1, p__law_same_0, p__law_same_1, p__law_same_2, p__law_same_3, p__law_same_4, p__law_same_5, p__law_same_6, p__law_same_7, p__law_same_8, p_law_0, p_law_1, p_law_2, p_law_3, p_law_4, p_law_5, p_law_6, p_law_7, p_law_8, p_law_9, p_law_10, p_law_11, p_law_12, p_law_13, p_law_14, p_law_15, p_law_16, e1, h1, h2, h3, ixN, setN, outOf, outO, outR, mixA]
theorem draw_big {c : List Int} {p a b v many : Int} (h0 : 0 ≤ p) (h1 : p < c.length) (hv : atI (pInts c) p = some (.s (.int v))) (h4 : 1000000000000000000 ≤ v) (h2 : 0 < many) (h3 : many < 1073741824) : F__law_draw [strm c p 0 a b, .p (.s (.int many))] = .ok (.p (.s (.int (v % many)))) [(0, strm c (p + 1) (v / many) a b)] := by
  have e2 : 0 < v := by omega
  unfold F__law_draw runB b__law_draw strm
  simp [res_ok, res_ex, ev_sSeqF, ev_sIfF, ev_sNx, ev_sSetF, ev_sAsgF, ev_sAugF, ev_sExprF, ev_sRetF, ev_sRetNF, ev_sForD, ev_dConst, ev_dVarF, ev_dVarZ, ev_dVarT, ev_dAtF, ev_dAtT, ev_lName, ev_lIx, ev_lAttr, ev_dBin, ev_dUn, ev_dNotF, ev_dAndF, ev_dOrF, ev_dIteF, ev_tTru, ev_tBl, ev_tAndF, ev_tOrF, ev_tNotF, ev_aNil, ev_aCons, ev_aStar, ev_dSeqF, ev_dChainF, ev_oP, ev_oMv, ev_oLst, ev_oLstM, ev_oDct, ev_dFz, ev_dBi, ev_oBi, ev_oBin, ev_gNm, ev_bNo, ev_bSo, ev_dSlF, ev_oSlF, ev_slF, ev_iAnyF, ev_a1P, ev_a1Pp, ev_a1O, ev_a1N, ev_a1L, ev_mNil, ev_mCons, ev_mMeth, ev_mRecv, ev_oKer, ev_oCallM, ev_oMakeM, ev_sSetIxF, ev_sSetAtF, ev_dCallF, ev_dCallHF, ev_sTryF, ev_sRaiseF, ev_uNil, ev_uRet, ev_uIf, ev_uSeq, ev_dIsE, ev_dXf, ev_dXfc, nu_eqI, nu_eqS, nu_add, nu_sub, nu_neg, nu_mul, nu_mulL, nu_div, nu_mod, nu_pow, nu_lt, nu_le, nu_gt, nu_ge, nu_isN, nu_ixL, nu_ixS, nu_ixT, nu_ixIn, nu_at0, nu_at1, nu_at2, nu_at3, nu_at4, nu_lenL, nu_lenS, nu_lenT, nu_int, nu_intB, nu_truI, nu_truB, nu_truN, nu_rg, nu_iR1, nu_iR2, List.length_cons, List.length_nil, List.getElem?_cons_zero, List.getElem?_cons_succ, List.set_cons_zero, List.set_cons_succ, Option.bind_some, Option.bind_none, Option.map_some, Option.map_none, at_, O.get, O.put, putAt, id, p_History_move_0, p_History_undo_0, p_History_undo_1, p_History_undo_2, p_History_redo_0, p_History_redo_1, p_History_redo_2, p_History_earlier_0, p_History_earlier_1, p__law_stream_0, p__law_stream_1, p__law_draw_0, p__law_draw_1, p__law_draw_2, p__law_draw_3, p__law_draw_4, p__law_draw_5, p__law_state_0, p__law_state_1, p__law_state_2, p__law_state_3, p__law_moved_0, p__law_earlier_0, p__law_earlier_1, p__law_same_0, p__law_same_1, p__law_same_2, p__law_same_3, p__law_same_4, p__law_same_5, p__law_same_6, p__law_same_7, p__law_same_8, p_law_0, p_law_1, p_law_2, p_law_3, p_law_4, p_law_5, p_law_6, p_law_7, p_law_8, p_law_9, p_law_10, p_law_11, p_law_12, p_law_13, p_law_14, p_law_15, p_law_16, e2, hv, h1, h2, h3, h4, ixN, setN, outOf, outO]
theorem draw_next {c : List Int} {p a b v many : Int} (h0 : 0 ≤ p) (h1 : p < c.length) (hv : atI (pInts c) p = some (.s (.int v))) (h4 : v < 1000000000000000000) (h2 : 0 < many) (h3 : many < 1073741824) : F__law_draw [strm c p 0 a b, .p (.s (.int many))] = .ok (.p (.s (.int (outR (mixA v a b) b many)))) [(0, strm c (p + 1) 0 (mixA v a b) (b + 1))] := by
  have e2 : ¬ 1000000000000000000 ≤ v := by omega
  unfold F__law_draw runB b__law_draw strm
  simp [res_ok, res_ex, ev_sSeqF, ev_sIfF, ev_sNx, ev_sSetF, ev_sAsgF, ev_sAugF, ev_sExprF, ev_sRetF, ev_sRetNF, ev_sForD, ev_dConst, ev_dVarF, ev_dVarZ, ev_dVarT, ev_dAtF, ev_dAtT, ev_lName, ev_lIx, ev_lAttr, ev_dBin, ev_dUn, ev_dNotF, ev_dAndF, ev_dOrF, ev_dIteF, ev_tTru, ev_tBl, ev_tAndF, ev_tOrF, ev_tNotF, ev_aNil, ev_aCons, ev_aStar, ev_dSeqF, ev_dChainF, ev_oP, ev_oMv, ev_oLst, ev_oLstM, ev_oDct, ev_dFz, ev_dBi, ev_oBi, ev_oBin, ev_gNm, ev_bNo, ev_bSo, ev_dSlF, ev_oSlF, ev_slF, ev_iAnyF, ev_a1P, ev_a1Pp, ev_a1O, ev_a1N, ev_a1L, ev_mNil, ev_mCons, ev_mMeth, ev_mRecv, ev_oKer, ev_oCallM, ev_oMakeM, ev_sSetIxF, ev_sSetAtF, ev_dCallF, ev_dCallHF, ev_sTryF, ev_sRaiseF, ev_uNil, ev_uRet, ev_uIf, ev_uSeq, ev_dIsE, ev_dXf, ev_dXfc, nu_eqI, nu_eqS, nu_add, nu_sub, nu_neg, nu_mul, nu_mulL, nu_div, nu_mod, nu_pow, nu_lt, nu_le, nu_gt, nu_ge, nu_isN, nu_ixL, nu_ixS, nu_ixT, nu_ixIn, nu_at0, nu_at1, nu_at2, nu_at3, nu_at4, nu_lenL, nu_lenS, nu_lenT, nu_int, nu_intB, nu_truI, nu_truB, nu_truN, nu_rg, nu_iR1, nu_iR2, List.length_cons, List.length_nil, List.getElem?_cons_zero, List.getElem?_cons_succ, List.set_cons_zero, List.set_cons_succ, Option.bind_some, Option.bind_none, Option.map_some, Option.map_none, at_, O.get, O.put, putAt, id, p_History_move_0, p_History_undo_0, p_History_undo_1, p_History_undo_2, p_History_redo_0, p_History_redo_1, p_History_redo_2, p_History_earlier_0, p_History_earlier_1, p__law_stream_0, p__law_stream_1, p__law_draw_0, p__law_draw_1, p__law_draw_2, p__law_draw_3, p__law_draw_4, p__law_draw_5, p__law_state_0, p__law_state_1, p__law_state_2, p__law_state_3, p__law_moved_0, p__law_earlier_0, p__law_earlier_1, p__law_same_0, p__law_same_1, p__law_same_2, p__law_same_3, p__law_same_4, p__law_same_5, p__law_same_6, p__law_same_7, p__law_same_8, p_law_0, p_law_1, p_law_2, p_law_3, p_law_4, p_law_5, p_law_6, p_law_7, p_law_8, p_law_9, p_law_10, p_law_11, p_law_12, p_law_13, p_law_14, p_law_15, p_law_16, e2, hv, h1, h2, h3, h4, ixN, setN, outOf, outO, outR, mixA]
/-- a stream -/
def SOk (o : O) : Prop := ∃ (c : List Int) (p t a b : Int), o = strm c p t a b ∧ 0 ≤ p ∧ 0 ≤ t
theorem draw {o : O} {many : Int} (h : SOk o) (h2 : 0 < many) (h3 : many < 1073741824) : ∃ r o', 0 ≤ r ∧ r < many ∧ SOk o' ∧ F__law_draw [o, .p (.s (.int many))] = .ok (.p (.s (.int r))) [(0, o')] := by
  obtain ⟨c, p, t, a, b, rfl, hp, ht⟩ := h
  by_cases h1 : 0 < t
  · exact ⟨_, _, Int.emod_nonneg _ (by omega), Int.emod_lt_of_pos _ h2, ⟨_, _, _, _, _, rfl, hp, Int.ediv_nonneg ht (by omega)⟩, draw_told h1 h2 h3⟩
  · obtain rfl : t = 0 := by omega
    by_cases h5 : p < c.length
    · obtain ⟨v, hv⟩ := atI_ints hp h5
      by_cases h6 : 1000000000000000000 ≤ v
      · exact ⟨_, _, Int.emod_nonneg _ (by omega), Int.emod_lt_of_pos _ h2, ⟨_, _, _, _, _, rfl, by omega, Int.ediv_nonneg (by omega) (by omega)⟩, draw_big hp h5 hv h6 h2 h3⟩
      · exact ⟨_, _, Int.emod_nonneg _ (by omega), Int.emod_lt_of_pos _ h2, ⟨_, _, _, _, _, rfl, by omega, by omega⟩, draw_next hp h5 hv (by omega) h2 h3⟩
    · exact ⟨_, _, Int.emod_nonneg _ (by omega), Int.emod_lt_of_pos _ h2, ⟨_, _, _, _, _, rfl, by omega, by omega⟩, draw_end (by omega) h2 h3⟩
/-! the stream -/
theorem mk_stream {ns : List Int} (hl : ns.length ≤ 63) : ∃ o, SOk o ∧ F__law_stream [scr ns] = .ok o [] := by
  obtain ⟨ρ', e, cells, x, hρ, hc⟩ := forF_all (fg := gNm 2) (body := l__law_stream_0)
    (ds := cutP (pInts ns) none (some 63)) (fun k ρ => ∃ (cells : List Int) (x : Option O), ρ = [some (scr ns), some (.nd .lst (oInts cells)), x] ∧ cells.length = k) (by
      rintro k d ρ hd ⟨cells, x, rfl, rfl⟩
      have hm := cutP_mem (List.mem_of_getElem? hd)
      have hk : cells.length < sizeLine := by
        have := (List.getElem?_eq_some_iff.mp hd).1
        have := cutP_len (ks := pInts ns) (lo := none) (hi := some 63)
        have := sizeLine_big
        simp at this ⊢
        simp at *
        omega
      obtain ⟨i, _, rfl⟩ := List.mem_map.mp hm
      refine ⟨_, _, rfl, .inl ?_, cells ++ [if i < 0 then -2 * i - 1 else 2 * i], some (.p (.s (.int i))), rfl, by simp⟩
      by_cases h : i < 0
      · unfold l__law_stream_0
        simp [res_ok, res_ex, ev_sSeqF, ev_sIfF, ev_sNx, ev_sSetF, ev_sAsgF, ev_sAugF, ev_sExprF, ev_sRetF, ev_sRetNF, ev_sForD, ev_dConst, ev_dVarF, ev_dVarZ, ev_dVarT, ev_dAtF, ev_dAtT, ev_lName, ev_lIx, ev_lAttr, ev_dBin, ev_dUn, ev_dNotF, ev_dAndF, ev_dOrF, ev_dIteF, ev_tTru, ev_tBl, ev_tAndF, ev_tOrF, ev_tNotF, ev_aNil, ev_aCons, ev_aStar, ev_dSeqF, ev_dChainF, ev_oP, ev_oMv, ev_oLst, ev_oLstM, ev_oDct, ev_dFz, ev_dBi, ev_oBi, ev_oBin, ev_gNm, ev_bNo, ev_bSo, ev_dSlF, ev_oSlF, ev_slF, ev_iAnyF, ev_a1P, ev_a1Pp, ev_a1O, ev_a1N, ev_a1L, ev_mNil, ev_mCons, ev_mMeth, ev_mRecv, ev_oKer, ev_oCallM, ev_oMakeM, ev_sSetIxF, ev_sSetAtF, ev_dCallF, ev_dCallHF, ev_sTryF, ev_sRaiseF, ev_uNil, ev_uRet, ev_uIf, ev_uSeq, ev_dIsE, ev_dXf, ev_dXfc, nu_eqI, nu_eqS, nu_add, nu_sub, nu_neg, nu_mul, nu_mulL, nu_div, nu_mod, nu_pow, nu_lt, nu_le, nu_gt, nu_ge, nu_isN, nu_ixL, nu_ixS, nu_ixT, nu_ixIn, nu_at0, nu_at1, nu_at2, nu_at3, nu_at4, nu_lenL, nu_lenS, nu_lenT, nu_int, nu_intB, nu_truI, nu_truB, nu_truN, nu_rg, nu_iR1, nu_iR2, List.length_cons, List.length_nil, List.getElem?_cons_zero, List.getElem?_cons_succ, List.set_cons_zero, List.set_cons_succ, Option.bind_some, Option.bind_none, Option.map_some, Option.map_none, at_, O.get, O.put, putAt, id, p_History_move_0, p_History_undo_0, p_History_undo_1, p_History_undo_2, p_History_redo_0, p_History_redo_1, p_History_redo_2, p_History_earlier_0, p_History_earlier_1, p__law_stream_0, p__law_stream_1, p__law_draw_0, p__law_draw_1, p__law_draw_2, p__law_draw_3, p__law_draw_4, p__law_draw_5, p__law_state_0, p__law_state_1, p__law_state_2, p__law_state_3, p__law_moved_0, p__law_earlier_0, p__law_earlier_1, p__law_same_0, p__law_same_1, p__law_same_2, p__law_same_3, p__law_same_4, p__law_same_5, p__law_same_6, p__law_same_7, p__law_same_8, p_law_0, p_law_1, p_law_2, p_law_3, p_law_4, p_law_5, p_law_6, p_law_7, p_law_8, p_law_9, p_law_10, p_law_11, p_law_12, p_law_13, p_law_14, p_law_15, p_law_16, h, chkT, isLst, kerF, avOws, kApp, hk, O.frz]
      · unfold l__law_stream_0
        simp [res_ok, res_ex, ev_sSeqF, ev_sIfF, ev_sNx, ev_sSetF, ev_sAsgF, ev_sAugF, ev_sExprF, ev_sRetF, ev_sRetNF, ev_sForD, ev_dConst, ev_dVarF, ev_dVarZ, ev_dVarT, ev_dAtF, ev_dAtT, ev_lName, ev_lIx, ev_lAttr, ev_dBin, ev_dUn, ev_dNotF, ev_dAndF, ev_dOrF, ev_dIteF, ev_tTru, ev_tBl, ev_tAndF, ev_tOrF, ev_tNotF, ev_aNil, ev_aCons, ev_aStar, ev_dSeqF, ev_dChainF, ev_oP, ev_oMv, ev_oLst, ev_oLstM, ev_oDct, ev_dFz, ev_dBi, ev_oBi, ev_oBin, ev_gNm, ev_bNo, ev_bSo, ev_dSlF, ev_oSlF, ev_slF, ev_iAnyF, ev_a1P, ev_a1Pp, ev_a1O, ev_a1N, ev_a1L, ev_mNil, ev_mCons, ev_mMeth, ev_mRecv, ev_oKer, ev_oCallM, ev_oMakeM, ev_sSetIxF, ev_sSetAtF, ev_dCallF, ev_dCallHF, ev_sTryF, ev_sRaiseF, ev_uNil, ev_uRet, ev_uIf, ev_uSeq, ev_dIsE, ev_dXf, ev_dXfc, nu_eqI, nu_eqS, nu_add, nu_sub, nu_neg, nu_mul, nu_mulL, nu_div, nu_mod, nu_pow, nu_lt, nu_le, nu_gt, nu_ge, nu_isN, nu_ixL, nu_ixS, nu_ixT, nu_ixIn, nu_at0, nu_at1, nu_at2, nu_at3, nu_at4, nu_lenL, nu_lenS, nu_lenT, nu_int, nu_intB, nu_truI, nu_truB, nu_truN, nu_rg, nu_iR1, nu_iR2, List.length_cons, List.length_nil, List.getElem?_cons_zero, List.getElem?_cons_succ, List.set_cons_zero, List.set_cons_succ, Option.bind_some, Option.bind_none, Option.map_some, Option.map_none, at_, O.get, O.put, putAt, id, p_History_move_0, p_History_undo_0, p_History_undo_1, p_History_undo_2, p_History_redo_0, p_History_redo_1, p_History_redo_2, p_History_earlier_0, p_History_earlier_1, p__law_stream_0, p__law_stream_1, p__law_draw_0, p__law_draw_1, p__law_draw_2, p__law_draw_3, p__law_draw_4, p__law_draw_5, p__law_state_0, p__law_state_1, p__law_state_2, p__law_state_3, p__law_moved_0, p__law_earlier_0, p__law_earlier_1, p__law_same_0, p__law_same_1, p__law_same_2, p__law_same_3, p__law_same_4, p__law_same_5, p__law_same_6, p__law_same_7, p__law_same_8, p_law_0, p_law_1, p_law_2, p_law_3, p_law_4, p_law_5, p_law_6, p_law_7, p_law_8, p_law_9, p_law_10, p_law_11, p_law_12, p_law_13, p_law_14, p_law_15, p_law_16, h, chkT, isLst, kerF, avOws, kApp, hk, O.frz]) [some (scr ns), some (.nd .lst []), none] ⟨[], none, rfl, rfl⟩
  subst hρ
  refine ⟨strm cells 0 0 1 0, ⟨_, _, _, _, _, rfl, by omega, by omega⟩, ?_⟩
  have hs : (5 : Nat) ≤ sizeLine := by have := sizeLine_big; omega
  unfold F__law_stream runB b__law_stream
  have e' := e
  unfold scr at e' ⊢
  simp [res_ok, res_ex, ev_sSeqF, ev_sIfF, ev_sNx, ev_sSetF, ev_sAsgF, ev_sAugF, ev_sExprF, ev_sRetF, ev_sRetNF, ev_sForD, ev_dConst, ev_dVarF, ev_dVarZ, ev_dVarT, ev_dAtF, ev_dAtT, ev_lName, ev_lIx, ev_lAttr, ev_dBin, ev_dUn, ev_dNotF, ev_dAndF, ev_dOrF, ev_dIteF, ev_tTru, ev_tBl, ev_tAndF, ev_tOrF, ev_tNotF, ev_aNil, ev_aCons, ev_aStar, ev_dSeqF, ev_dChainF, ev_oP, ev_oMv, ev_oLst, ev_oLstM, ev_oDct, ev_dFz, ev_dBi, ev_oBi, ev_oBin, ev_gNm, ev_bNo, ev_bSo, ev_dSlF, ev_oSlF, ev_slF, ev_iAnyF, ev_a1P, ev_a1Pp, ev_a1O, ev_a1N, ev_a1L, ev_mNil, ev_mCons, ev_mMeth, ev_mRecv, ev_oKer, ev_oCallM, ev_oMakeM, ev_sSetIxF, ev_sSetAtF, ev_dCallF, ev_dCallHF, ev_sTryF, ev_sRaiseF, ev_uNil, ev_uRet, ev_uIf, ev_uSeq, ev_dIsE, ev_dXf, ev_dXfc, nu_eqI, nu_eqS, nu_add, nu_sub, nu_neg, nu_mul, nu_mulL, nu_div, nu_mod, nu_pow, nu_lt, nu_le, nu_gt, nu_ge, nu_isN, nu_ixL, nu_ixS, nu_ixT, nu_ixIn, nu_at0, nu_at1, nu_at2, nu_at3, nu_at4, nu_lenL, nu_lenS, nu_lenT, nu_int, nu_intB, nu_truI, nu_truB, nu_truN, nu_rg, nu_iR1, nu_iR2, List.length_cons, List.length_nil, List.getElem?_cons_zero, List.getElem?_cons_succ, List.set_cons_zero, List.set_cons_succ, Option.bind_some, Option.bind_none, Option.map_some, Option.map_none, at_, O.get, O.put, putAt, id, p_History_move_0, p_History_undo_0, p_History_undo_1, p_History_undo_2, p_History_redo_0, p_History_redo_1, p_History_redo_2, p_History_earlier_0, p_History_earlier_1, p__law_stream_0, p__law_stream_1, p__law_draw_0, p__law_draw_1, p__law_draw_2, p__law_draw_3, p__law_draw_4, p__law_draw_5, p__law_state_0, p__law_state_1, p__law_state_2, p__law_state_3, p__law_moved_0, p__law_earlier_0, p__law_earlier_1, p__law_same_0, p__law_same_1, p__law_same_2, p__law_same_3, p__law_same_4, p__law_same_5, p__law_same_6, p__law_same_7, p__law_same_8, p_law_0, p_law_1, p_law_2, p_law_3, p_law_4, p_law_5, p_law_6, p_law_7, p_law_8, p_law_9, p_law_10, p_law_11, p_law_12, p_law_13, p_law_14, p_law_15, p_law_16, pSl, e', outOf, outO, strm, O.frz, frzs_ints, hs]
end DL.K93

namespace DL.K93
open PySem PySem.Spec L2 DL
theorem pick {o : O} {ks : List P} (h : SOk o) (h1 : 0 < ks.length) (h2 : ks.length < 1000) : ∃ d o', d ∈ ks ∧ SOk o' ∧ F__law_pick [o, .p (.nd .lst ks)] = .ok (.p d) [(0, o')] := by
  obtain ⟨r, o', k1, k2, k3, k4⟩ := draw (many := ks.length) h (by omega) (by omega)
  have hr : r.toNat < ks.length := by omega
  refine ⟨ks[r.toNat], o', List.getElem_mem hr, k3, ?_⟩
  have e : atI ks r = some ks[r.toNat] := by
    unfold atI
    rw [nu_ixIn k1 k2]
    simp [hr]
  unfold F__law_pick runB b__law_pick
  simp [res_ok, res_ex, ev_sSeqF, ev_sIfF, ev_sNx, ev_sSetF, ev_sAsgF, ev_sAugF, ev_sExprF, ev_sRetF, ev_sRetNF, ev_sForD, ev_dConst, ev_dVarF, ev_dVarZ, ev_dVarT, ev_dAtF, ev_dAtT, ev_lName, ev_lIx, ev_lAttr, ev_dBin, ev_dUn, ev_dNotF, ev_dAndF, ev_dOrF, ev_dIteF, ev_tTru, ev_tBl, ev_tAndF, ev_tOrF, ev_tNotF, ev_aNil, ev_aCons, ev_aStar, ev_dSeqF, ev_dChainF, ev_oP, ev_oMv, ev_oLst, ev_oLstM, ev_oDct, ev_dFz, ev_dBi, ev_oBi, ev_oBin, ev_gNm, ev_bNo, ev_bSo, ev_dSlF, ev_oSlF, ev_slF, ev_iAnyF, ev_a1P, ev_a1Pp, ev_a1O, ev_a1N, ev_a1L, ev_mNil, ev_mCons, ev_mMeth, ev_mRecv, ev_oKer, ev_oCallM, ev_oMakeM, ev_sSetIxF, ev_sSetAtF, ev_dCallF, ev_dCallHF, ev_sTryF, ev_sRaiseF, ev_uNil, ev_uRet, ev_uIf, ev_uSeq, ev_dIsE, ev_dXf, ev_dXfc, nu_eqI, nu_eqS, nu_add, nu_sub, nu_neg, nu_mul, nu_mulL, nu_div, nu_mod, nu_pow, nu_lt, nu_le, nu_gt, nu_ge, nu_isN, nu_ixL, nu_ixS, nu_ixT, nu_ixIn, nu_at0, nu_at1, nu_at2, nu_at3, nu_at4, nu_lenL, nu_lenS, nu_lenT, nu_int, nu_intB, nu_truI, nu_truB, nu_truN, nu_rg, nu_iR1, nu_iR2, List.length_cons, List.length_nil, List.getElem?_cons_zero, List.getElem?_cons_succ, List.set_cons_zero, List.set_cons_succ, Option.bind_some, Option.bind_none, Option.map_some, Option.map_none, at_, O.get, O.put, putAt, id, p_History_move_0, p_History_undo_0, p_History_undo_1, p_History_undo_2, p_History_redo_0, p_History_redo_1, p_History_redo_2, p_History_earlier_0, p_History_earlier_1, p__law_stream_0, p__law_stream_1, p__law_draw_0, p__law_draw_1, p__law_draw_2, p__law_draw_3, p__law_draw_4, p__law_draw_5, p__law_state_0, p__law_state_1, p__law_state_2, p__law_state_3, p__law_moved_0, p__law_earlier_0, p__law_earlier_1, p__law_same_0, p__law_same_1, p__law_same_2, p__law_same_3, p__law_same_4, p__law_same_5, p__law_same_6, p__law_same_7, p__law_same_8, p_law_0, p_law_1, p_law_2, p_law_3, p_law_4, p_law_5, p_law_6, p_law_7, p_law_8, p_law_9, p_law_10, p_law_11, p_law_12, p_law_13, p_law_14, p_law_15, p_law_16, callF, fill, back, k4, O.frz, e, outOf, outO]
/-- a state of the law -/
def StOk (d : P) : Prop := Dk 10 d
theorem state {o : O} (h : SOk o) : ∃ d o', StOk d ∧ SOk o' ∧ F__law_state [o] = .ok (.p d) [(0, o')] := by
  obtain ⟨r, o1, k1, k2, k3, k4⟩ := draw (many := 3) h (by omega) (by omega)
  have hs : (4 : Nat) ≤ sizeLine := by have := sizeLine_big; omega
  have hs2 : (2 : Nat) ≤ sizeLine := by have := sizeLine_big; omega
  by_cases e0 : r = 0
  · subst e0
    obtain ⟨r, o2, l1, l2, l3, l4⟩ := draw (many := 4) k3 (by omega) (by omega)
    refine ⟨.s (.int r), o2, Dk.int, l3, ?_⟩
    unfold F__law_state runB b__law_state
    simp [res_ok, res_ex, ev_sSeqF, ev_sIfF, ev_sNx, ev_sSetF, ev_sAsgF, ev_sAugF, ev_sExprF, ev_sRetF, ev_sRetNF, ev_sForD, ev_dConst, ev_dVarF, ev_dVarZ, ev_dVarT, ev_dAtF, ev_dAtT, ev_lName, ev_lIx, ev_lAttr, ev_dBin, ev_dUn, ev_dNotF, ev_dAndF, ev_dOrF, ev_dIteF, ev_tTru, ev_tBl, ev_tAndF, ev_tOrF, ev_tNotF, ev_aNil, ev_aCons, ev_aStar, ev_dSeqF, ev_dChainF, ev_oP, ev_oMv, ev_oLst, ev_oLstM, ev_oDct, ev_dFz, ev_dBi, ev_oBi, ev_oBin, ev_gNm, ev_bNo, ev_bSo, ev_dSlF, ev_oSlF, ev_slF, ev_iAnyF, ev_a1P, ev_a1Pp, ev_a1O, ev_a1N, ev_a1L, ev_mNil, ev_mCons, ev_mMeth, ev_mRecv, ev_oKer, ev_oCallM, ev_oMakeM, ev_sSetIxF, ev_sSetAtF, ev_dCallF, ev_dCallHF, ev_sTryF, ev_sRaiseF, ev_uNil, ev_uRet, ev_uIf, ev_uSeq, ev_dIsE, ev_dXf, ev_dXfc, nu_eqI, nu_eqS, nu_add, nu_sub, nu_neg, nu_mul, nu_mulL, nu_div, nu_mod, nu_pow, nu_lt, nu_le, nu_gt, nu_ge, nu_isN, nu_ixL, nu_ixS, nu_ixT, nu_ixIn, nu_at0, nu_at1, nu_at2, nu_at3, nu_at4, nu_lenL, nu_lenS, nu_lenT, nu_int, nu_intB, nu_truI, nu_truB, nu_truN, nu_rg, nu_iR1, nu_iR2, List.length_cons, List.length_nil, List.getElem?_cons_zero, List.getElem?_cons_succ, List.set_cons_zero, List.set_cons_succ, Option.bind_some, Option.bind_none, Option.map_some, Option.map_none, at_, O.get, O.put, putAt, id, p_History_move_0, p_History_undo_0, p_History_undo_1, p_History_undo_2, p_History_redo_0, p_History_redo_1, p_History_redo_2, p_History_earlier_0, p_History_earlier_1, p__law_stream_0, p__law_stream_1, p__law_draw_0, p__law_draw_1, p__law_draw_2, p__law_draw_3, p__law_draw_4, p__law_draw_5, p__law_state_0, p__law_state_1, p__law_state_2, p__law_state_3, p__law_moved_0, p__law_earlier_0, p__law_earlier_1, p__law_same_0, p__law_same_1, p__law_same_2, p__law_same_3, p__law_same_4, p__law_same_5, p__law_same_6, p__law_same_7, p__law_same_8, p_law_0, p_law_1, p_law_2, p_law_3, p_law_4, p_law_5, p_law_6, p_law_7, p_law_8, p_law_9, p_law_10, p_law_11, p_law_12, p_law_13, p_law_14, p_law_15, p_law_16, callF, fill, back, k4, l4, O.frz, outOf, outO]
  · by_cases e1 : r = 1
    · subst e1
      obtain ⟨d, o2, l1, l3, l4⟩ := pick (ks := [.s (.str ""), .s (.str "a"), .s (.str "b"), .s (.str "none")]) k3 (by simp) (by simp)
      refine ⟨d, o2, ?_, l3, ?_⟩
      · simp only [List.mem_cons, List.not_mem_nil, or_false] at l1
        rcases l1 with rfl | rfl | rfl | rfl <;> exact Dk.str (by decide +kernel)
      · unfold F__law_state runB b__law_state
        simp [res_ok, res_ex, ev_sSeqF, ev_sIfF, ev_sNx, ev_sSetF, ev_sAsgF, ev_sAugF, ev_sExprF, ev_sRetF, ev_sRetNF, ev_sForD, ev_dConst, ev_dVarF, ev_dVarZ, ev_dVarT, ev_dAtF, ev_dAtT, ev_lName, ev_lIx, ev_lAttr, ev_dBin, ev_dUn, ev_dNotF, ev_dAndF, ev_dOrF, ev_dIteF, ev_tTru, ev_tBl, ev_tAndF, ev_tOrF, ev_tNotF, ev_aNil, ev_aCons, ev_aStar, ev_dSeqF, ev_dChainF, ev_oP, ev_oMv, ev_oLst, ev_oLstM, ev_oDct, ev_dFz, ev_dBi, ev_oBi, ev_oBin, ev_gNm, ev_bNo, ev_bSo, ev_dSlF, ev_oSlF, ev_slF, ev_iAnyF, ev_a1P, ev_a1Pp, ev_a1O, ev_a1N, ev_a1L, ev_mNil, ev_mCons, ev_mMeth, ev_mRecv, ev_oKer, ev_oCallM, ev_oMakeM, ev_sSetIxF, ev_sSetAtF, ev_dCallF, ev_dCallHF, ev_sTryF, ev_sRaiseF, ev_uNil, ev_uRet, ev_uIf, ev_uSeq, ev_dIsE, ev_dXf, ev_dXfc, nu_eqI, nu_eqS, nu_add, nu_sub, nu_neg, nu_mul, nu_mulL, nu_div, nu_mod, nu_pow, nu_lt, nu_le, nu_gt, nu_ge, nu_isN, nu_ixL, nu_ixS, nu_ixT, nu_ixIn, nu_at0, nu_at1, nu_at2, nu_at3, nu_at4, nu_lenL, nu_lenS, nu_lenT, nu_int, nu_intB, nu_truI, nu_truB, nu_truN, nu_rg, nu_iR1, nu_iR2, List.length_cons, List.length_nil, List.getElem?_cons_zero, List.getElem?_cons_succ, List.set_cons_zero, List.set_cons_succ, Option.bind_some, Option.bind_none, Option.map_some, Option.map_none, at_, O.get, O.put, putAt, id, p_History_move_0, p_History_undo_0, p_History_undo_1, p_History_undo_2, p_History_redo_0, p_History_redo_1, p_History_redo_2, p_History_earlier_0, p_History_earlier_1, p__law_stream_0, p__law_stream_1, p__law_draw_0, p__law_draw_1, p__law_draw_2, p__law_draw_3, p__law_draw_4, p__law_draw_5, p__law_state_0, p__law_state_1, p__law_state_2, p__law_state_3, p__law_moved_0, p__law_earlier_0, p__law_earlier_1, p__law_same_0, p__law_same_1, p__law_same_2, p__law_same_3, p__law_same_4, p__law_same_5, p__law_same_6, p__law_same_7, p__law_same_8, p_law_0, p_law_1, p_law_2, p_law_3, p_law_4, p_law_5, p_law_6, p_law_7, p_law_8, p_law_9, p_law_10, p_law_11, p_law_12, p_law_13, p_law_14, p_law_15, p_law_16, callF, fill, back, k4, l4, O.frz, outOf, outO, hs]
    · obtain ⟨r2, o2, l1, l2, l3, l4⟩ := draw (many := 2) k3 (by omega) (by omega)
      obtain ⟨d, o3, m1, m3, m4⟩ := pick (ks := [.s (.str "a"), .s (.str "")]) l3 (by simp) (by simp)
      refine ⟨.nd .tup [.s (.int r2), d], o3, ?_, m3, ?_⟩
      · simp only [List.mem_cons, List.not_mem_nil, or_false] at m1
        refine Dk.mono (Dk.tup (n := 1) ?_) (by omega)
        intro x hx
        simp only [List.mem_cons, List.not_mem_nil, or_false] at hx
        rcases hx with rfl | rfl
        · exact Dk.int
        · rcases m1 with rfl | rfl <;> exact Dk.str (by decide +kernel)
      · have z0 : (r == 0) = false := by simpa using e0
        have z1 : (r == 1) = false := by simpa using e1
        unfold F__law_state runB b__law_state
        simp [res_ok, res_ex, ev_sSeqF, ev_sIfF, ev_sNx, ev_sSetF, ev_sAsgF, ev_sAugF, ev_sExprF, ev_sRetF, ev_sRetNF, ev_sForD, ev_dConst, ev_dVarF, ev_dVarZ, ev_dVarT, ev_dAtF, ev_dAtT, ev_lName, ev_lIx, ev_lAttr, ev_dBin, ev_dUn, ev_dNotF, ev_dAndF, ev_dOrF, ev_dIteF, ev_tTru, ev_tBl, ev_tAndF, ev_tOrF, ev_tNotF, ev_aNil, ev_aCons, ev_aStar, ev_dSeqF, ev_dChainF, ev_oP, ev_oMv, ev_oLst, ev_oLstM, ev_oDct, ev_dFz, ev_dBi, ev_oBi, ev_oBin, ev_gNm, ev_bNo, ev_bSo, ev_dSlF, ev_oSlF, ev_slF, ev_iAnyF, ev_a1P, ev_a1Pp, ev_a1O, ev_a1N, ev_a1L, ev_mNil, ev_mCons, ev_mMeth, ev_mRecv, ev_oKer, ev_oCallM, ev_oMakeM, ev_sSetIxF, ev_sSetAtF, ev_dCallF, ev_dCallHF, ev_sTryF, ev_sRaiseF, ev_uNil, ev_uRet, ev_uIf, ev_uSeq, ev_dIsE, ev_dXf, ev_dXfc, nu_eqI, nu_eqS, nu_add, nu_sub, nu_neg, nu_mul, nu_mulL, nu_div, nu_mod, nu_pow, nu_lt, nu_le, nu_gt, nu_ge, nu_isN, nu_ixL, nu_ixS, nu_ixT, nu_ixIn, nu_at0, nu_at1, nu_at2, nu_at3, nu_at4, nu_lenL, nu_lenS, nu_lenT, nu_int, nu_intB, nu_truI, nu_truB, nu_truN, nu_rg, nu_iR1, nu_iR2, List.length_cons, List.length_nil, List.getElem?_cons_zero, List.getElem?_cons_succ, List.set_cons_zero, List.set_cons_succ, Option.bind_some, Option.bind_none, Option.map_some, Option.map_none, at_, O.get, O.put, putAt, id, p_History_move_0, p_History_undo_0, p_History_undo_1, p_History_undo_2, p_History_redo_0, p_History_redo_1, p_History_redo_2, p_History_earlier_0, p_History_earlier_1, p__law_stream_0, p__law_stream_1, p__law_draw_0, p__law_draw_1, p__law_draw_2, p__law_draw_3, p__law_draw_4, p__law_draw_5, p__law_state_0, p__law_state_1, p__law_state_2, p__law_state_3, p__law_moved_0, p__law_earlier_0, p__law_earlier_1, p__law_same_0, p__law_same_1, p__law_same_2, p__law_same_3, p__law_same_4, p__law_same_5, p__law_same_6, p__law_same_7, p__law_same_8, p_law_0, p_law_1, p_law_2, p_law_3, p_law_4, p_law_5, p_law_6, p_law_7, p_law_8, p_law_9, p_law_10, p_law_11, p_law_12, p_law_13, p_law_14, p_law_15, p_law_16, callF, fill, back, k4, l4, m4, z0, z1, O.frz, outOf, outO, hs2]
end DL.K93

namespace DL.K93
open PySem PySem.Spec L2 DL
theorem pEq_nil {n : Bool} {ks : List P} (h : ∀ d ∈ ks, Dk 60 d) : pEq n (.nd .lst ks) (.nd .lst []) = some (.s (.bl (n ^^ ks.isEmpty))) := by
  obtain ⟨es, k1, k2, k3⟩ := Dks.of h
  have s1 : SeqAt.shaped (.list es) = true := shaped_of (n := 61) (by omega) (by unfold PyData.canLay0; exact k2) (by unfold PyData.depth; omega)
  have e1 : P.dat (.nd .lst ks) = some (.list es) := by unfold P.dat; rw [k1]; rfl
  have e2 : P.dat (.nd .lst []) = some (.list []) := rfl
  have s2 : SeqAt.shaped (.list []) = true := rfl
  unfold pEq
  rw [e1, e2]
  simp only
  rw [if_pos ⟨s1, s2⟩]
  have e3 : PyData.eqv (.list es) (.list []) = ks.isEmpty := by
    cases ks with
    | nil => cases k1; rfl
    | cons d ds =>
      obtain ⟨e, g1, g2, g3⟩ := h d List.mem_cons_self
      unfold P.dats at k1
      rw [g1] at k1
      cases g4 : P.dats ds with
      | none => rw [g4] at k1; cases k1
      | some r =>
        rw [g4] at k1
        have : es = e :: r := by simpa using k1.symm
        subst this
        rfl
  rw [e3]
abbrev hF : List Str := ["state", "past", "future"]
def his (s : P) (pa fu : List P) : O := .nd (.ins "History" hF) [.p s, .nd .lst (pa.map .p), .nd .lst (fu.map .p)]
theorem i0 : ixOf "state" hF = some 0 := by decide +kernel
theorem i1 : ixOf "past" hF = some 1 := by decide +kernel
theorem i2 : ixOf "future" hF = some 2 := by decide +kernel
theorem j0 : ixOf "state" ([] : List Str) = none := rfl
theorem j1 : ixOf "past" (["state"] : List Str) = none := by decide +kernel
theorem j2 : ixOf "future" (["state", "past"] : List Str) = none := by decide +kernel
theorem m1 : ixOf "move" hF = none := by decide +kernel
theorem m2 : ixOf "undo" hF = none := by decide +kernel
theorem m3 : ixOf "redo" hF = none := by decide +kernel
theorem m4 : ixOf "versions" hF = none := by decide +kernel
theorem m5 : ixOf "earlier" hF = none := by decide +kernel
theorem h_init {s : P} : F_History___init__ [.nd (.ins "History" []) [], .p s] = .ok (.p (.s .non)) [(0, his s [] [])] := by
  unfold F_History___init__ runB b_History___init__ his
  simp [res_ok, res_ex, ev_sSeqF, ev_sIfF, ev_sNx, ev_sSetF, ev_sAsgF, ev_sAugF, ev_sExprF, ev_sRetF, ev_sRetNF, ev_sForD, ev_dConst, ev_dVarF, ev_dVarZ, ev_dVarT, ev_dAtF, ev_dAtT, ev_lName, ev_lIx, ev_lAttr, ev_dBin, ev_dUn, ev_dNotF, ev_dAndF, ev_dOrF, ev_dIteF, ev_tTru, ev_tBl, ev_tAndF, ev_tOrF, ev_tNotF, ev_aNil, ev_aCons, ev_aStar, ev_dSeqF, ev_dChainF, ev_oP, ev_oMv, ev_oLst, ev_oLstM, ev_oDct, ev_dFz, ev_dBi, ev_oBi, ev_oBin, ev_gNm, ev_bNo, ev_bSo, ev_dSlF, ev_oSlF, ev_slF, ev_iAnyF, ev_a1P, ev_a1Pp, ev_a1O, ev_a1N, ev_a1L, ev_mNil, ev_mCons, ev_mMeth, ev_mRecv, ev_oKer, ev_oCallM, ev_oMakeM, ev_sSetIxF, ev_sSetAtF, ev_dCallF, ev_dCallHF, ev_sTryF, ev_sRaiseF, ev_uNil, ev_uRet, ev_uIf, ev_uSeq, ev_dIsE, ev_dXf, ev_dXfc, nu_eqI, nu_eqS, nu_add, nu_sub, nu_neg, nu_mul, nu_mulL, nu_div, nu_mod, nu_pow, nu_lt, nu_le, nu_gt, nu_ge, nu_isN, nu_ixL, nu_ixS, nu_ixT, nu_ixIn, nu_at0, nu_at1, nu_at2, nu_at3, nu_at4, nu_lenL, nu_lenS, nu_lenT, nu_int, nu_intB, nu_truI, nu_truB, nu_truN, nu_rg, nu_iR1, nu_iR2, List.length_cons, List.length_nil, List.getElem?_cons_zero, List.getElem?_cons_succ, List.set_cons_zero, List.set_cons_succ, Option.bind_some, Option.bind_none, Option.map_some, Option.map_none, at_, O.get, O.put, putAt, id, p_History_move_0, p_History_undo_0, p_History_undo_1, p_History_undo_2, p_History_redo_0, p_History_redo_1, p_History_redo_2, p_History_earlier_0, p_History_earlier_1, p__law_stream_0, p__law_stream_1, p__law_draw_0, p__law_draw_1, p__law_draw_2, p__law_draw_3, p__law_draw_4, p__law_draw_5, p__law_state_0, p__law_state_1, p__law_state_2, p__law_state_3, p__law_moved_0, p__law_earlier_0, p__law_earlier_1, p__law_same_0, p__law_same_1, p__law_same_2, p__law_same_3, p__law_same_4, p__law_same_5, p__law_same_6, p__law_same_7, p__law_same_8, p_law_0, p_law_1, p_law_2, p_law_3, p_law_4, p_law_5, p_law_6, p_law_7, p_law_8, p_law_9, p_law_10, p_law_11, p_law_12, p_law_13, p_law_14, p_law_15, p_law_16, setA, j0, j1, j2, outOf, outO]
theorem h_move {s d : P} {pa fu : List P} (h : pa.length < sizeLine) : F_History_move [his s pa fu, .p d] = .ok (.p (.s .non)) [(0, his d (pa ++ [s]) [])] := by
  unfold F_History_move runB b_History_move his
  simp [res_ok, res_ex, ev_sSeqF, ev_sIfF, ev_sNx, ev_sSetF, ev_sAsgF, ev_sAugF, ev_sExprF, ev_sRetF, ev_sRetNF, ev_sForD, ev_dConst, ev_dVarF, ev_dVarZ, ev_dVarT, ev_dAtF, ev_dAtT, ev_lName, ev_lIx, ev_lAttr, ev_dBin, ev_dUn, ev_dNotF, ev_dAndF, ev_dOrF, ev_dIteF, ev_tTru, ev_tBl, ev_tAndF, ev_tOrF, ev_tNotF, ev_aNil, ev_aCons, ev_aStar, ev_dSeqF, ev_dChainF, ev_oP, ev_oMv, ev_oLst, ev_oLstM, ev_oDct, ev_dFz, ev_dBi, ev_oBi, ev_oBin, ev_gNm, ev_bNo, ev_bSo, ev_dSlF, ev_oSlF, ev_slF, ev_iAnyF, ev_a1P, ev_a1Pp, ev_a1O, ev_a1N, ev_a1L, ev_mNil, ev_mCons, ev_mMeth, ev_mRecv, ev_oKer, ev_oCallM, ev_oMakeM, ev_sSetIxF, ev_sSetAtF, ev_dCallF, ev_dCallHF, ev_sTryF, ev_sRaiseF, ev_uNil, ev_uRet, ev_uIf, ev_uSeq, ev_dIsE, ev_dXf, ev_dXfc, nu_eqI, nu_eqS, nu_add, nu_sub, nu_neg, nu_mul, nu_mulL, nu_div, nu_mod, nu_pow, nu_lt, nu_le, nu_gt, nu_ge, nu_isN, nu_ixL, nu_ixS, nu_ixT, nu_ixIn, nu_at0, nu_at1, nu_at2, nu_at3, nu_at4, nu_lenL, nu_lenS, nu_lenT, nu_int, nu_intB, nu_truI, nu_truB, nu_truN, nu_rg, nu_iR1, nu_iR2, List.length_cons, List.length_nil, List.getElem?_cons_zero, List.getElem?_cons_succ, List.set_cons_zero, List.set_cons_succ, Option.bind_some, Option.bind_none, Option.map_some, Option.map_none, at_, O.get, O.put, putAt, id, p_History_move_0, p_History_undo_0, p_History_undo_1, p_History_undo_2, p_History_redo_0, p_History_redo_1, p_History_redo_2, p_History_earlier_0, p_History_earlier_1, p__law_stream_0, p__law_stream_1, p__law_draw_0, p__law_draw_1, p__law_draw_2, p__law_draw_3, p__law_draw_4, p__law_draw_5, p__law_state_0, p__law_state_1, p__law_state_2, p__law_state_3, p__law_moved_0, p__law_earlier_0, p__law_earlier_1, p__law_same_0, p__law_same_1, p__law_same_2, p__law_same_3, p__law_same_4, p__law_same_5, p__law_same_6, p__law_same_7, p__law_same_8, p_law_0, p_law_1, p_law_2, p_law_3, p_law_4, p_law_5, p_law_6, p_law_7, p_law_8, p_law_9, p_law_10, p_law_11, p_law_12, p_law_13, p_law_14, p_law_15, p_law_16, setA, i0, i1, i2, outOf, outO, chkT, isLst, kerF, avOws, kApp, O.frz, h]
theorem h_undo0 {s : P} {fu : List P} : F_History_undo [his s [] fu] = .ex "NothingLeft" [] [(0, his s [] fu)] := by
  have e := pEq_nil (n := false) (ks := []) (fun d h => by cases h)
  unfold F_History_undo runB b_History_undo his
  simp [res_ok, res_ex, ev_sSeqF, ev_sIfF, ev_sNx, ev_sSetF, ev_sAsgF, ev_sAugF, ev_sExprF, ev_sRetF, ev_sRetNF, ev_sForD, ev_dConst, ev_dVarF, ev_dVarZ, ev_dVarT, ev_dAtF, ev_dAtT, ev_lName, ev_lIx, ev_lAttr, ev_dBin, ev_dUn, ev_dNotF, ev_dAndF, ev_dOrF, ev_dIteF, ev_tTru, ev_tBl, ev_tAndF, ev_tOrF, ev_tNotF, ev_aNil, ev_aCons, ev_aStar, ev_dSeqF, ev_dChainF, ev_oP, ev_oMv, ev_oLst, ev_oLstM, ev_oDct, ev_dFz, ev_dBi, ev_oBi, ev_oBin, ev_gNm, ev_bNo, ev_bSo, ev_dSlF, ev_oSlF, ev_slF, ev_iAnyF, ev_a1P, ev_a1Pp, ev_a1O, ev_a1N, ev_a1L, ev_mNil, ev_mCons, ev_mMeth, ev_mRecv, ev_oKer, ev_oCallM, ev_oMakeM, ev_sSetIxF, ev_sSetAtF, ev_dCallF, ev_dCallHF, ev_sTryF, ev_sRaiseF, ev_uNil, ev_uRet, ev_uIf, ev_uSeq, ev_dIsE, ev_dXf, ev_dXfc, nu_eqI, nu_eqS, nu_add, nu_sub, nu_neg, nu_mul, nu_mulL, nu_div, nu_mod, nu_pow, nu_lt, nu_le, nu_gt, nu_ge, nu_isN, nu_ixL, nu_ixS, nu_ixT, nu_ixIn, nu_at0, nu_at1, nu_at2, nu_at3, nu_at4, nu_lenL, nu_lenS, nu_lenT, nu_int, nu_intB, nu_truI, nu_truB, nu_truN, nu_rg, nu_iR1, nu_iR2, List.length_cons, List.length_nil, List.getElem?_cons_zero, List.getElem?_cons_succ, List.set_cons_zero, List.set_cons_succ, Option.bind_some, Option.bind_none, Option.map_some, Option.map_none, at_, O.get, O.put, putAt, id, p_History_move_0, p_History_undo_0, p_History_undo_1, p_History_undo_2, p_History_redo_0, p_History_redo_1, p_History_redo_2, p_History_earlier_0, p_History_earlier_1, p__law_stream_0, p__law_stream_1, p__law_draw_0, p__law_draw_1, p__law_draw_2, p__law_draw_3, p__law_draw_4, p__law_draw_5, p__law_state_0, p__law_state_1, p__law_state_2, p__law_state_3, p__law_moved_0, p__law_earlier_0, p__law_earlier_1, p__law_same_0, p__law_same_1, p__law_same_2, p__law_same_3, p__law_same_4, p__law_same_5, p__law_same_6, p__law_same_7, p__law_same_8, p_law_0, p_law_1, p_law_2, p_law_3, p_law_4, p_law_5, p_law_6, p_law_7, p_law_8, p_law_9, p_law_10, p_law_11, p_law_12, p_law_13, p_law_14, p_law_15, p_law_16, setA, i0, i1, i2, outOf, outO, O.top, allP, oSt, e]
theorem h_undo {s d : P} {pa fu : List P} (hd : ∀ x ∈ pa ++ [d], Dk 60 x) (h : fu.length < sizeLine) : F_History_undo [his s (pa ++ [d]) fu] = .ok (.p (.s .non)) [(0, his d pa (fu ++ [s]))] := by
  have e := pEq_nil (n := false) hd
  have e2 : (pa ++ [d]).isEmpty = false := by simp
  have e3 := allP_ps (pa ++ [d])
  have hs : 0 ≤ sizeLine := Nat.zero_le _
  rw [e2] at e
  unfold F_History_undo runB b_History_undo his
  simp only [List.map_append, List.map_cons, List.map_nil] at e3
  simp [res_ok, res_ex, ev_sSeqF, ev_sIfF, ev_sNx, ev_sSetF, ev_sAsgF, ev_sAugF, ev_sExprF, ev_sRetF, ev_sRetNF, ev_sForD, ev_dConst, ev_dVarF, ev_dVarZ, ev_dVarT, ev_dAtF, ev_dAtT, ev_lName, ev_lIx, ev_lAttr, ev_dBin, ev_dUn, ev_dNotF, ev_dAndF, ev_dOrF, ev_dIteF, ev_tTru, ev_tBl, ev_tAndF, ev_tOrF, ev_tNotF, ev_aNil, ev_aCons, ev_aStar, ev_dSeqF, ev_dChainF, ev_oP, ev_oMv, ev_oLst, ev_oLstM, ev_oDct, ev_dFz, ev_dBi, ev_oBi, ev_oBin, ev_gNm, ev_bNo, ev_bSo, ev_dSlF, ev_oSlF, ev_slF, ev_iAnyF, ev_a1P, ev_a1Pp, ev_a1O, ev_a1N, ev_a1L, ev_mNil, ev_mCons, ev_mMeth, ev_mRecv, ev_oKer, ev_oCallM, ev_oMakeM, ev_sSetIxF, ev_sSetAtF, ev_dCallF, ev_dCallHF, ev_sTryF, ev_sRaiseF, ev_uNil, ev_uRet, ev_uIf, ev_uSeq, ev_dIsE, ev_dXf, ev_dXfc, nu_eqI, nu_eqS, nu_add, nu_sub, nu_neg, nu_mul, nu_mulL, nu_div, nu_mod, nu_pow, nu_lt, nu_le, nu_gt, nu_ge, nu_isN, nu_ixL, nu_ixS, nu_ixT, nu_ixIn, nu_at0, nu_at1, nu_at2, nu_at3, nu_at4, nu_lenL, nu_lenS, nu_lenT, nu_int, nu_intB, nu_truI, nu_truB, nu_truN, nu_rg, nu_iR1, nu_iR2, List.length_cons, List.length_nil, List.getElem?_cons_zero, List.getElem?_cons_succ, List.set_cons_zero, List.set_cons_succ, Option.bind_some, Option.bind_none, Option.map_some, Option.map_none, at_, O.get, O.put, putAt, id, p_History_move_0, p_History_undo_0, p_History_undo_1, p_History_undo_2, p_History_redo_0, p_History_redo_1, p_History_redo_2, p_History_earlier_0, p_History_earlier_1, p__law_stream_0, p__law_stream_1, p__law_draw_0, p__law_draw_1, p__law_draw_2, p__law_draw_3, p__law_draw_4, p__law_draw_5, p__law_state_0, p__law_state_1, p__law_state_2, p__law_state_3, p__law_moved_0, p__law_earlier_0, p__law_earlier_1, p__law_same_0, p__law_same_1, p__law_same_2, p__law_same_3, p__law_same_4, p__law_same_5, p__law_same_6, p__law_same_7, p__law_same_8, p_law_0, p_law_1, p_law_2, p_law_3, p_law_4, p_law_5, p_law_6, p_law_7, p_law_8, p_law_9, p_law_10, p_law_11, p_law_12, p_law_13, p_law_14, p_law_15, p_law_16, setA, i0, i1, i2, outOf, outO, O.top, e3, oSt, e, chkT, isLst, kerF, avOws, kApp, kPop, O.frz, h]
end DL.K93

namespace DL.K93
open PySem PySem.Spec L2 DL
theorem h_redo0 {s : P} {pa : List P} : F_History_redo [his s pa []] = .ex "NothingLeft" [] [(0, his s pa [])] := by
  have e := pEq_nil (n := false) (ks := []) (fun d h => by cases h)
  unfold F_History_redo runB b_History_redo his
  simp [res_ok, res_ex, ev_sSeqF, ev_sIfF, ev_sNx, ev_sSetF, ev_sAsgF, ev_sAugF, ev_sExprF, ev_sRetF, ev_sRetNF, ev_sForD, ev_dConst, ev_dVarF, ev_dVarZ, ev_dVarT, ev_dAtF, ev_dAtT, ev_lName, ev_lIx, ev_lAttr, ev_dBin, ev_dUn, ev_dNotF, ev_dAndF, ev_dOrF, ev_dIteF, ev_tTru, ev_tBl, ev_tAndF, ev_tOrF, ev_tNotF, ev_aNil, ev_aCons, ev_aStar, ev_dSeqF, ev_dChainF, ev_oP, ev_oMv, ev_oLst, ev_oLstM, ev_oDct, ev_dFz, ev_dBi, ev_oBi, ev_oBin, ev_gNm, ev_bNo, ev_bSo, ev_dSlF, ev_oSlF, ev_slF, ev_iAnyF, ev_a1P, ev_a1Pp, ev_a1O, ev_a1N, ev_a1L, ev_mNil, ev_mCons, ev_mMeth, ev_mRecv, ev_oKer, ev_oCallM, ev_oMakeM, ev_sSetIxF, ev_sSetAtF, ev_dCallF, ev_dCallHF, ev_sTryF, ev_sRaiseF, ev_uNil, ev_uRet, ev_uIf, ev_uSeq, ev_dIsE, ev_dXf, ev_dXfc, nu_eqI, nu_eqS, nu_add, nu_sub, nu_neg, nu_mul, nu_mulL, nu_div, nu_mod, nu_pow, nu_lt, nu_le, nu_gt, nu_ge, nu_isN, nu_ixL, nu_ixS, nu_ixT, nu_ixIn, nu_at0, nu_at1, nu_at2, nu_at3, nu_at4, nu_lenL, nu_lenS, nu_lenT, nu_int, nu_intB, nu_truI, nu_truB, nu_truN, nu_rg, nu_iR1, nu_iR2, List.length_cons, List.length_nil, List.getElem?_cons_zero, List.getElem?_cons_succ, List.set_cons_zero, List.set_cons_succ, Option.bind_some, Option.bind_none, Option.map_some, Option.map_none, at_, O.get, O.put, putAt, id, p_History_move_0, p_History_undo_0, p_History_undo_1, p_History_undo_2, p_History_redo_0, p_History_redo_1, p_History_redo_2, p_History_earlier_0, p_History_earlier_1, p__law_stream_0, p__law_stream_1, p__law_draw_0, p__law_draw_1, p__law_draw_2, p__law_draw_3, p__law_draw_4, p__law_draw_5, p__law_state_0, p__law_state_1, p__law_state_2, p__law_state_3, p__law_moved_0, p__law_earlier_0, p__law_earlier_1, p__law_same_0, p__law_same_1, p__law_same_2, p__law_same_3, p__law_same_4, p__law_same_5, p__law_same_6, p__law_same_7, p__law_same_8, p_law_0, p_law_1, p_law_2, p_law_3, p_law_4, p_law_5, p_law_6, p_law_7, p_law_8, p_law_9, p_law_10, p_law_11, p_law_12, p_law_13, p_law_14, p_law_15, p_law_16, setA, i0, i1, i2, outOf, outO, O.top, allP, oSt, e]
theorem h_redo {s d : P} {pa fu : List P} (hd : ∀ x ∈ fu ++ [d], Dk 60 x) (h : pa.length < sizeLine) : F_History_redo [his s pa (fu ++ [d])] = .ok (.p (.s .non)) [(0, his d (pa ++ [s]) fu)] := by
  have e := pEq_nil (n := false) hd
  have e2 : (fu ++ [d]).isEmpty = false := by simp
  have e3 := allP_ps (fu ++ [d])
  have hs : 0 ≤ sizeLine := Nat.zero_le _
  rw [e2] at e
  unfold F_History_redo runB b_History_redo his
  simp only [List.map_append, List.map_cons, List.map_nil] at e3
  simp [res_ok, res_ex, ev_sSeqF, ev_sIfF, ev_sNx, ev_sSetF, ev_sAsgF, ev_sAugF, ev_sExprF, ev_sRetF, ev_sRetNF, ev_sForD, ev_dConst, ev_dVarF, ev_dVarZ, ev_dVarT, ev_dAtF, ev_dAtT, ev_lName, ev_lIx, ev_lAttr, ev_dBin, ev_dUn, ev_dNotF, ev_dAndF, ev_dOrF, ev_dIteF, ev_tTru, ev_tBl, ev_tAndF, ev_tOrF, ev_tNotF, ev_aNil, ev_aCons, ev_aStar, ev_dSeqF, ev_dChainF, ev_oP, ev_oMv, ev_oLst, ev_oLstM, ev_oDct, ev_dFz, ev_dBi, ev_oBi, ev_oBin, ev_gNm, ev_bNo, ev_bSo, ev_dSlF, ev_oSlF, ev_slF, ev_iAnyF, ev_a1P, ev_a1Pp, ev_a1O, ev_a1N, ev_a1L, ev_mNil, ev_mCons, ev_mMeth, ev_mRecv, ev_oKer, ev_oCallM, ev_oMakeM, ev_sSetIxF, ev_sSetAtF, ev_dCallF, ev_dCallHF, ev_sTryF, ev_sRaiseF, ev_uNil, ev_uRet, ev_uIf, ev_uSeq, ev_dIsE, ev_dXf, ev_dXfc, nu_eqI, nu_eqS, nu_add, nu_sub, nu_neg, nu_mul, nu_mulL, nu_div, nu_mod, nu_pow, nu_lt, nu_le, nu_gt, nu_ge, nu_isN, nu_ixL, nu_ixS, nu_ixT, nu_ixIn, nu_at0, nu_at1, nu_at2, nu_at3, nu_at4, nu_lenL, nu_lenS, nu_lenT, nu_int, nu_intB, nu_truI, nu_truB, nu_truN, nu_rg, nu_iR1, nu_iR2, List.length_cons, List.length_nil, List.getElem?_cons_zero, List.getElem?_cons_succ, List.set_cons_zero, List.set_cons_succ, Option.bind_some, Option.bind_none, Option.map_some, Option.map_none, at_, O.get, O.put, putAt, id, p_History_move_0, p_History_undo_0, p_History_undo_1, p_History_undo_2, p_History_redo_0, p_History_redo_1, p_History_redo_2, p_History_earlier_0, p_History_earlier_1, p__law_stream_0, p__law_stream_1, p__law_draw_0, p__law_draw_1, p__law_draw_2, p__law_draw_3, p__law_draw_4, p__law_draw_5, p__law_state_0, p__law_state_1, p__law_state_2, p__law_state_3, p__law_moved_0, p__law_earlier_0, p__law_earlier_1, p__law_same_0, p__law_same_1, p__law_same_2, p__law_same_3, p__law_same_4, p__law_same_5, p__law_same_6, p__law_same_7, p__law_same_8, p_law_0, p_law_1, p_law_2, p_law_3, p_law_4, p_law_5, p_law_6, p_law_7, p_law_8, p_law_9, p_law_10, p_law_11, p_law_12, p_law_13, p_law_14, p_law_15, p_law_16, setA, i0, i1, i2, outOf, outO, O.top, e3, oSt, e, chkT, isLst, kerF, avOws, kApp, kPop, O.frz, h]
theorem h_versions {s : P} {pa fu : List P} (h : pa.length < sizeLine) : F_History_versions [his s pa fu] = .ok (.nd .lst ((pa ++ [s]).map .p)) [(0, his s pa fu)] := by
  have e3 := allP_ps pa
  have h' : pa.length + 1 ≤ sizeLine := h
  unfold F_History_versions runB b_History_versions his
  simp [res_ok, res_ex, ev_sSeqF, ev_sIfF, ev_sNx, ev_sSetF, ev_sAsgF, ev_sAugF, ev_sExprF, ev_sRetF, ev_sRetNF, ev_sForD, ev_dConst, ev_dVarF, ev_dVarZ, ev_dVarT, ev_dAtF, ev_dAtT, ev_lName, ev_lIx, ev_lAttr, ev_dBin, ev_dUn, ev_dNotF, ev_dAndF, ev_dOrF, ev_dIteF, ev_tTru, ev_tBl, ev_tAndF, ev_tOrF, ev_tNotF, ev_aNil, ev_aCons, ev_aStar, ev_dSeqF, ev_dChainF, ev_oP, ev_oMv, ev_oLst, ev_oLstM, ev_oDct, ev_dFz, ev_dBi, ev_oBi, ev_oBin, ev_gNm, ev_bNo, ev_bSo, ev_dSlF, ev_oSlF, ev_slF, ev_iAnyF, ev_a1P, ev_a1Pp, ev_a1O, ev_a1N, ev_a1L, ev_mNil, ev_mCons, ev_mMeth, ev_mRecv, ev_oKer, ev_oCallM, ev_oMakeM, ev_sSetIxF, ev_sSetAtF, ev_dCallF, ev_dCallHF, ev_sTryF, ev_sRaiseF, ev_uNil, ev_uRet, ev_uIf, ev_uSeq, ev_dIsE, ev_dXf, ev_dXfc, nu_eqI, nu_eqS, nu_add, nu_sub, nu_neg, nu_mul, nu_mulL, nu_div, nu_mod, nu_pow, nu_lt, nu_le, nu_gt, nu_ge, nu_isN, nu_ixL, nu_ixS, nu_ixT, nu_ixIn, nu_at0, nu_at1, nu_at2, nu_at3, nu_at4, nu_lenL, nu_lenS, nu_lenT, nu_int, nu_intB, nu_truI, nu_truB, nu_truN, nu_rg, nu_iR1, nu_iR2, List.length_cons, List.length_nil, List.getElem?_cons_zero, List.getElem?_cons_succ, List.set_cons_zero, List.set_cons_succ, Option.bind_some, Option.bind_none, Option.map_some, Option.map_none, at_, O.get, O.put, putAt, id, p_History_move_0, p_History_undo_0, p_History_undo_1, p_History_undo_2, p_History_redo_0, p_History_redo_1, p_History_redo_2, p_History_earlier_0, p_History_earlier_1, p__law_stream_0, p__law_stream_1, p__law_draw_0, p__law_draw_1, p__law_draw_2, p__law_draw_3, p__law_draw_4, p__law_draw_5, p__law_state_0, p__law_state_1, p__law_state_2, p__law_state_3, p__law_moved_0, p__law_earlier_0, p__law_earlier_1, p__law_same_0, p__law_same_1, p__law_same_2, p__law_same_3, p__law_same_4, p__law_same_5, p__law_same_6, p__law_same_7, p__law_same_8, p_law_0, p_law_1, p_law_2, p_law_3, p_law_4, p_law_5, p_law_6, p_law_7, p_law_8, p_law_9, p_law_10, p_law_11, p_law_12, p_law_13, p_law_14, p_law_15, p_law_16, i0, i1, i2, outOf, outO, O.top, e3, oSt, h']
theorem h_earlier {s : P} {pa fu : List P} {k : Nat} {d : P} (h : pa.length < sizeLine) (hk : k ≤ pa.length) (hd : (pa ++ [s])[pa.length - k]? = some d) : F_History_earlier [his s pa fu, .p (.s (.int k))] = .ok (.p d) [(0, his s pa fu)] := by
  have e3 := allP_ps pa
  have e4 := h_versions (s := s) (fu := fu) h
  have e5 : atI (pa ++ [s]) ((pa.length : Int) - (k : Int)) = some d := by
    unfold atI
    rw [nu_ixIn (by omega) (by simp; omega)]
    rw [show ((pa.length : Int) - (k : Int)).toNat = pa.length - k by omega]
    exact hd
  have e6 := frzs_ps (pa ++ [s])
  simp only [List.map_append, List.map_cons, List.map_nil] at e6 e4
  unfold F_History_earlier runB b_History_earlier
  unfold his at e4 ⊢
  simp [res_ok, res_ex, ev_sSeqF, ev_sIfF, ev_sNx, ev_sSetF, ev_sAsgF, ev_sAugF, ev_sExprF, ev_sRetF, ev_sRetNF, ev_sForD, ev_dConst, ev_dVarF, ev_dVarZ, ev_dVarT, ev_dAtF, ev_dAtT, ev_lName, ev_lIx, ev_lAttr, ev_dBin, ev_dUn, ev_dNotF, ev_dAndF, ev_dOrF, ev_dIteF, ev_tTru, ev_tBl, ev_tAndF, ev_tOrF, ev_tNotF, ev_aNil, ev_aCons, ev_aStar, ev_dSeqF, ev_dChainF, ev_oP, ev_oMv, ev_oLst, ev_oLstM, ev_oDct, ev_dFz, ev_dBi, ev_oBi, ev_oBin, ev_gNm, ev_bNo, ev_bSo, ev_dSlF, ev_oSlF, ev_slF, ev_iAnyF, ev_a1P, ev_a1Pp, ev_a1O, ev_a1N, ev_a1L, ev_mNil, ev_mCons, ev_mMeth, ev_mRecv, ev_oKer, ev_oCallM, ev_oMakeM, ev_sSetIxF, ev_sSetAtF, ev_dCallF, ev_dCallHF, ev_sTryF, ev_sRaiseF, ev_uNil, ev_uRet, ev_uIf, ev_uSeq, ev_dIsE, ev_dXf, ev_dXfc, nu_eqI, nu_eqS, nu_add, nu_sub, nu_neg, nu_mul, nu_mulL, nu_div, nu_mod, nu_pow, nu_lt, nu_le, nu_gt, nu_ge, nu_isN, nu_ixL, nu_ixS, nu_ixT, nu_ixIn, nu_at0, nu_at1, nu_at2, nu_at3, nu_at4, nu_lenL, nu_lenS, nu_lenT, nu_int, nu_intB, nu_truI, nu_truB, nu_truN, nu_rg, nu_iR1, nu_iR2, List.length_cons, List.length_nil, List.getElem?_cons_zero, List.getElem?_cons_succ, List.set_cons_zero, List.set_cons_succ, Option.bind_some, Option.bind_none, Option.map_some, Option.map_none, at_, O.get, O.put, putAt, id, p_History_move_0, p_History_undo_0, p_History_undo_1, p_History_undo_2, p_History_redo_0, p_History_redo_1, p_History_redo_2, p_History_earlier_0, p_History_earlier_1, p__law_stream_0, p__law_stream_1, p__law_draw_0, p__law_draw_1, p__law_draw_2, p__law_draw_3, p__law_draw_4, p__law_draw_5, p__law_state_0, p__law_state_1, p__law_state_2, p__law_state_3, p__law_moved_0, p__law_earlier_0, p__law_earlier_1, p__law_same_0, p__law_same_1, p__law_same_2, p__law_same_3, p__law_same_4, p__law_same_5, p__law_same_6, p__law_same_7, p__law_same_8, p_law_0, p_law_1, p_law_2, p_law_3, p_law_4, p_law_5, p_law_6, p_law_7, p_law_8, p_law_9, p_law_10, p_law_11, p_law_12, p_law_13, p_law_14, p_law_15, p_law_16, i0, i1, i2, m4, chkM, conOf, outOf, outO, O.top, e3, oSt, hk, e4, callF, fill, back, O.frz, e6, e5]
theorem m_no {k : Int} (h1 : -1000000 ≤ k) (h2 : k ≤ 1000000) : ∃ z ρ, m_NoSuch [none, some (.p (.s (.int k))), none] = .ok (.s (.str z), ρ) := by
  have hl : k.natAbs.log2 < 1920 := by
    by_cases h0 : k.natAbs = 0
    · rw [h0]; decide
    · have h3 : k.natAbs < 2 ^ 20 := by omega
      have := (Nat.log2_lt h0).mpr h3
      omega
  have h4 := int_repr_len (k := k) (n := 7) (by omega) (by omega)
  have h5 : (Str.ofString "no number ").length + (Str.ofString k.repr).length ≤ sizeLine := by
    have := sizeLine_big
    rw [ofString_length, ofString_length]
    have : ("no number " : String).length = 10 := rfl
    omega
  refine ⟨Str.ofString "no number " ++ Str.ofString k.repr, [none, some (.p (.s (.int k))), none], ?_⟩
  have e : toString k = k.repr := rfl
  unfold m_NoSuch
  simp only [res_ok, res_ex, ev_sSeqF, ev_sIfF, ev_sNx, ev_sSetF, ev_sAsgF, ev_sAugF, ev_sExprF, ev_sRetF, ev_sRetNF, ev_sForD, ev_dConst, ev_dVarF, ev_dVarZ, ev_dVarT, ev_dAtF, ev_dAtT, ev_lName, ev_lIx, ev_lAttr, ev_dBin, ev_dUn, ev_dNotF, ev_dAndF, ev_dOrF, ev_dIteF, ev_tTru, ev_tBl, ev_tAndF, ev_tOrF, ev_tNotF, ev_aNil, ev_aCons, ev_aStar, ev_dSeqF, ev_dChainF, ev_oP, ev_oMv, ev_oLst, ev_oLstM, ev_oDct, ev_dFz, ev_dBi, ev_oBi, ev_oBin, ev_gNm, ev_bNo, ev_bSo, ev_dSlF, ev_oSlF, ev_slF, ev_iAnyF, ev_a1P, ev_a1Pp, ev_a1O, ev_a1N, ev_a1L, ev_mNil, ev_mCons, ev_mMeth, ev_mRecv, ev_oKer, ev_oCallM, ev_oMakeM, ev_sSetIxF, ev_sSetAtF, ev_dCallF, ev_dCallHF, ev_sTryF, ev_sRaiseF, ev_uNil, ev_uRet, ev_uIf, ev_uSeq, ev_dIsE, ev_dXf, ev_dXfc, nu_eqI, nu_eqS, nu_add, nu_sub, nu_neg, nu_mul, nu_mulL, nu_div, nu_mod, nu_pow, nu_lt, nu_le, nu_gt, nu_ge, nu_isN, nu_ixL, nu_ixS, nu_ixT, nu_ixIn, nu_at0, nu_at1, nu_at2, nu_at3, nu_at4, nu_lenL, nu_lenS, nu_lenT, nu_int, nu_intB, nu_truI, nu_truB, nu_truN, nu_rg, nu_iR1, nu_iR2, List.length_cons, List.length_nil, List.getElem?_cons_zero, List.getElem?_cons_succ, List.set_cons_zero, List.set_cons_succ, Option.bind_some, Option.bind_none, Option.map_some, Option.map_none, at_, O.get, O.put, putAt, id, p_History_move_0, p_History_undo_0, p_History_undo_1, p_History_undo_2, p_History_redo_0, p_History_redo_1, p_History_redo_2, p_History_earlier_0, p_History_earlier_1, p__law_stream_0, p__law_stream_1, p__law_draw_0, p__law_draw_1, p__law_draw_2, p__law_draw_3, p__law_draw_4, p__law_draw_5, p__law_state_0, p__law_state_1, p__law_state_2, p__law_state_3, p__law_moved_0, p__law_earlier_0, p__law_earlier_1, p__law_same_0, p__law_same_1, p__law_same_2, p__law_same_3, p__law_same_4, p__law_same_5, p__law_same_6, p__law_same_7, p__law_same_8, p_law_0, p_law_1, p_law_2, p_law_3, p_law_4, p_law_5, p_law_6, p_law_7, p_law_8, p_law_9, p_law_10, p_law_11, p_law_12, p_law_13, p_law_14, p_law_15, p_law_16, cStr, hl, if_true, pAdd, pOr, pI0, pCatS, e, h5]
theorem h_none {s : P} {pa fu : List P} {k : Int} (h : pa.length < sizeLine) (h1 : -1000000 ≤ k) (h2 : k ≤ 1000000) (hk : ¬ (0 ≤ k ∧ k ≤ pa.length)) : F_History_earlier [his s pa fu, .p (.s (.int k))] = .ex "NoSuch" [("number", .s (.int k))] [(0, his s pa fu)] := by
  have e3 := allP_ps pa
  obtain ⟨z, ρ, em⟩ := m_no h1 h2
  unfold F_History_earlier runB b_History_earlier his
  by_cases h0 : 0 ≤ k
  · have h1 : ¬ k ≤ (pa.length : Int) := fun z => hk ⟨h0, z⟩
    simp [res_ok, res_ex, ev_sSeqF, ev_sIfF, ev_sNx, ev_sSetF, ev_sAsgF, ev_sAugF, ev_sExprF, ev_sRetF, ev_sRetNF, ev_sForD, ev_dConst, ev_dVarF, ev_dVarZ, ev_dVarT, ev_dAtF, ev_dAtT, ev_lName, ev_lIx, ev_lAttr, ev_dBin, ev_dUn, ev_dNotF, ev_dAndF, ev_dOrF, ev_dIteF, ev_tTru, ev_tBl, ev_tAndF, ev_tOrF, ev_tNotF, ev_aNil, ev_aCons, ev_aStar, ev_dSeqF, ev_dChainF, ev_oP, ev_oMv, ev_oLst, ev_oLstM, ev_oDct, ev_dFz, ev_dBi, ev_oBi, ev_oBin, ev_gNm, ev_bNo, ev_bSo, ev_dSlF, ev_oSlF, ev_slF, ev_iAnyF, ev_a1P, ev_a1Pp, ev_a1O, ev_a1N, ev_a1L, ev_mNil, ev_mCons, ev_mMeth, ev_mRecv, ev_oKer, ev_oCallM, ev_oMakeM, ev_sSetIxF, ev_sSetAtF, ev_dCallF, ev_dCallHF, ev_sTryF, ev_sRaiseF, ev_uNil, ev_uRet, ev_uIf, ev_uSeq, ev_dIsE, ev_dXf, ev_dXfc, nu_eqI, nu_eqS, nu_add, nu_sub, nu_neg, nu_mul, nu_mulL, nu_div, nu_mod, nu_pow, nu_lt, nu_le, nu_gt, nu_ge, nu_isN, nu_ixL, nu_ixS, nu_ixT, nu_ixIn, nu_at0, nu_at1, nu_at2, nu_at3, nu_at4, nu_lenL, nu_lenS, nu_lenT, nu_int, nu_intB, nu_truI, nu_truB, nu_truN, nu_rg, nu_iR1, nu_iR2, List.length_cons, List.length_nil, List.getElem?_cons_zero, List.getElem?_cons_succ, List.set_cons_zero, List.set_cons_succ, Option.bind_some, Option.bind_none, Option.map_some, Option.map_none, at_, O.get, O.put, putAt, id, p_History_move_0, p_History_undo_0, p_History_undo_1, p_History_undo_2, p_History_redo_0, p_History_redo_1, p_History_redo_2, p_History_earlier_0, p_History_earlier_1, p__law_stream_0, p__law_stream_1, p__law_draw_0, p__law_draw_1, p__law_draw_2, p__law_draw_3, p__law_draw_4, p__law_draw_5, p__law_state_0, p__law_state_1, p__law_state_2, p__law_state_3, p__law_moved_0, p__law_earlier_0, p__law_earlier_1, p__law_same_0, p__law_same_1, p__law_same_2, p__law_same_3, p__law_same_4, p__law_same_5, p__law_same_6, p__law_same_7, p__law_same_8, p_law_0, p_law_1, p_law_2, p_law_3, p_law_4, p_law_5, p_law_6, p_law_7, p_law_8, p_law_9, p_law_10, p_law_11, p_law_12, p_law_13, p_law_14, p_law_15, p_law_16, i0, i1, i2, m4, chkM, conOf, outOf, outO, O.top, e3, oSt, h0, h1, fldsP, em]
  · simp [res_ok, res_ex, ev_sSeqF, ev_sIfF, ev_sNx, ev_sSetF, ev_sAsgF, ev_sAugF, ev_sExprF, ev_sRetF, ev_sRetNF, ev_sForD, ev_dConst, ev_dVarF, ev_dVarZ, ev_dVarT, ev_dAtF, ev_dAtT, ev_lName, ev_lIx, ev_lAttr, ev_dBin, ev_dUn, ev_dNotF, ev_dAndF, ev_dOrF, ev_dIteF, ev_tTru, ev_tBl, ev_tAndF, ev_tOrF, ev_tNotF, ev_aNil, ev_aCons, ev_aStar, ev_dSeqF, ev_dChainF, ev_oP, ev_oMv, ev_oLst, ev_oLstM, ev_oDct, ev_dFz, ev_dBi, ev_oBi, ev_oBin, ev_gNm, ev_bNo, ev_bSo, ev_dSlF, ev_oSlF, ev_slF, ev_iAnyF, ev_a1P, ev_a1Pp, ev_a1O, ev_a1N, ev_a1L, ev_mNil, ev_mCons, ev_mMeth, ev_mRecv, ev_oKer, ev_oCallM, ev_oMakeM, ev_sSetIxF, ev_sSetAtF, ev_dCallF, ev_dCallHF, ev_sTryF, ev_sRaiseF, ev_uNil, ev_uRet, ev_uIf, ev_uSeq, ev_dIsE, ev_dXf, ev_dXfc, nu_eqI, nu_eqS, nu_add, nu_sub, nu_neg, nu_mul, nu_mulL, nu_div, nu_mod, nu_pow, nu_lt, nu_le, nu_gt, nu_ge, nu_isN, nu_ixL, nu_ixS, nu_ixT, nu_ixIn, nu_at0, nu_at1, nu_at2, nu_at3, nu_at4, nu_lenL, nu_lenS, nu_lenT, nu_int, nu_intB, nu_truI, nu_truB, nu_truN, nu_rg, nu_iR1, nu_iR2, List.length_cons, List.length_nil, List.getElem?_cons_zero, List.getElem?_cons_succ, List.set_cons_zero, List.set_cons_succ, Option.bind_some, Option.bind_none, Option.map_some, Option.map_none, at_, O.get, O.put, putAt, id, p_History_move_0, p_History_undo_0, p_History_undo_1, p_History_undo_2, p_History_redo_0, p_History_redo_1, p_History_redo_2, p_History_earlier_0, p_History_earlier_1, p__law_stream_0, p__law_stream_1, p__law_draw_0, p__law_draw_1, p__law_draw_2, p__law_draw_3, p__law_draw_4, p__law_draw_5, p__law_state_0, p__law_state_1, p__law_state_2, p__law_state_3, p__law_moved_0, p__law_earlier_0, p__law_earlier_1, p__law_same_0, p__law_same_1, p__law_same_2, p__law_same_3, p__law_same_4, p__law_same_5, p__law_same_6, p__law_same_7, p__law_same_8, p_law_0, p_law_1, p_law_2, p_law_3, p_law_4, p_law_5, p_law_6, p_law_7, p_law_8, p_law_9, p_law_10, p_law_11, p_law_12, p_law_13, p_law_14, p_law_15, p_law_16, i0, i1, i2, m4, chkM, conOf, outOf, outO, O.top, e3, oSt, h0, fldsP, em]
end DL.K93

namespace DL.K93
open PySem PySem.Spec L2 DL
theorem hasF0 : hasF eis "NoSuch" "number" = true := by decide +kernel
theorem s00 : subOf anc "NoSuch" "NoSuch" = some true := by decide +kernel
theorem s01 : subOf anc "NoSuch" "DescribeError" = some true := by decide +kernel
theorem s02 : subOf anc "NoSuch" "NothingLeft" = some false := by decide +kernel
theorem s10 : subOf anc "NothingLeft" "NothingLeft" = some true := by decide +kernel
theorem s11 : subOf anc "NothingLeft" "DescribeError" = some true := by decide +kernel
theorem s12 : subOf anc "NothingLeft" "ValueError" = some true := by decide +kernel
theorem s13 : subOf anc "NothingLeft" "NoSuch" = some false := by decide +kernel
theorem f_int {i : Int} : F__law_int [.p (.s (.int i))] = .ok (.p (.s (.bl true))) [] := by
  unfold F__law_int runB b__law_int
  simp [res_ok, res_ex, ev_sSeqF, ev_sIfF, ev_sNx, ev_sSetF, ev_sAsgF, ev_sAugF, ev_sExprF, ev_sRetF, ev_sRetNF, ev_sForD, ev_dConst, ev_dVarF, ev_dVarZ, ev_dVarT, ev_dAtF, ev_dAtT, ev_lName, ev_lIx, ev_lAttr, ev_dBin, ev_dUn, ev_dNotF, ev_dAndF, ev_dOrF, ev_dIteF, ev_tTru, ev_tBl, ev_tAndF, ev_tOrF, ev_tNotF, ev_aNil, ev_aCons, ev_aStar, ev_dSeqF, ev_dChainF, ev_oP, ev_oMv, ev_oLst, ev_oLstM, ev_oDct, ev_dFz, ev_dBi, ev_oBi, ev_oBin, ev_gNm, ev_bNo, ev_bSo, ev_dSlF, ev_oSlF, ev_slF, ev_iAnyF, ev_a1P, ev_a1Pp, ev_a1O, ev_a1N, ev_a1L, ev_mNil, ev_mCons, ev_mMeth, ev_mRecv, ev_oKer, ev_oCallM, ev_oMakeM, ev_sSetIxF, ev_sSetAtF, ev_dCallF, ev_dCallHF, ev_sTryF, ev_sRaiseF, ev_uNil, ev_uRet, ev_uIf, ev_uSeq, ev_dIsE, ev_dXf, ev_dXfc, nu_eqI, nu_eqS, nu_add, nu_sub, nu_neg, nu_mul, nu_mulL, nu_div, nu_mod, nu_pow, nu_lt, nu_le, nu_gt, nu_ge, nu_isN, nu_ixL, nu_ixS, nu_ixT, nu_ixIn, nu_at0, nu_at1, nu_at2, nu_at3, nu_at4, nu_lenL, nu_lenS, nu_lenT, nu_int, nu_intB, nu_truI, nu_truB, nu_truN, nu_rg, nu_iR1, nu_iR2, List.length_cons, List.length_nil, List.getElem?_cons_zero, List.getElem?_cons_succ, List.set_cons_zero, List.set_cons_succ, Option.bind_some, Option.bind_none, Option.map_some, Option.map_none, at_, O.get, O.put, putAt, id, p_History_move_0, p_History_undo_0, p_History_undo_1, p_History_undo_2, p_History_redo_0, p_History_redo_1, p_History_redo_2, p_History_earlier_0, p_History_earlier_1, p__law_stream_0, p__law_stream_1, p__law_draw_0, p__law_draw_1, p__law_draw_2, p__law_draw_3, p__law_draw_4, p__law_draw_5, p__law_state_0, p__law_state_1, p__law_state_2, p__law_state_3, p__law_moved_0, p__law_earlier_0, p__law_earlier_1, p__law_same_0, p__law_same_1, p__law_same_2, p__law_same_3, p__law_same_4, p__law_same_5, p__law_same_6, p__law_same_7, p__law_same_8, p_law_0, p_law_1, p_law_2, p_law_3, p_law_4, p_law_5, p_law_6, p_law_7, p_law_8, p_law_9, p_law_10, p_law_11, p_law_12, p_law_13, p_law_14, p_law_15, p_law_16, cIsi, P.ty, tyIs, outOf, outO]
theorem l_earlier {s : P} {pa fu : List P} {k : Nat} {d : P} (h : pa.length < sizeLine) (hk : k ≤ pa.length) (hd : (pa ++ [s])[pa.length - k]? = some d) : F__law_earlier [his s pa fu, .p (.s (.int k))] = .ok (.p (.nd .tup [.s (.str "state"), d])) [(0, his s pa fu)] := by
  have e4 := h_earlier (fu := fu) h hk hd
  have hs : 2 ≤ sizeLine := by have := sizeLine_big; omega
  unfold F__law_earlier runB b__law_earlier
  unfold his at e4 ⊢
  simp [res_ok, res_ex, ev_sSeqF, ev_sIfF, ev_sNx, ev_sSetF, ev_sAsgF, ev_sAugF, ev_sExprF, ev_sRetF, ev_sRetNF, ev_sForD, ev_dConst, ev_dVarF, ev_dVarZ, ev_dVarT, ev_dAtF, ev_dAtT, ev_lName, ev_lIx, ev_lAttr, ev_dBin, ev_dUn, ev_dNotF, ev_dAndF, ev_dOrF, ev_dIteF, ev_tTru, ev_tBl, ev_tAndF, ev_tOrF, ev_tNotF, ev_aNil, ev_aCons, ev_aStar, ev_dSeqF, ev_dChainF, ev_oP, ev_oMv, ev_oLst, ev_oLstM, ev_oDct, ev_dFz, ev_dBi, ev_oBi, ev_oBin, ev_gNm, ev_bNo, ev_bSo, ev_dSlF, ev_oSlF, ev_slF, ev_iAnyF, ev_a1P, ev_a1Pp, ev_a1O, ev_a1N, ev_a1L, ev_mNil, ev_mCons, ev_mMeth, ev_mRecv, ev_oKer, ev_oCallM, ev_oMakeM, ev_sSetIxF, ev_sSetAtF, ev_dCallF, ev_dCallHF, ev_sTryF, ev_sRaiseF, ev_uNil, ev_uRet, ev_uIf, ev_uSeq, ev_dIsE, ev_dXf, ev_dXfc, nu_eqI, nu_eqS, nu_add, nu_sub, nu_neg, nu_mul, nu_mulL, nu_div, nu_mod, nu_pow, nu_lt, nu_le, nu_gt, nu_ge, nu_isN, nu_ixL, nu_ixS, nu_ixT, nu_ixIn, nu_at0, nu_at1, nu_at2, nu_at3, nu_at4, nu_lenL, nu_lenS, nu_lenT, nu_int, nu_intB, nu_truI, nu_truB, nu_truN, nu_rg, nu_iR1, nu_iR2, List.length_cons, List.length_nil, List.getElem?_cons_zero, List.getElem?_cons_succ, List.set_cons_zero, List.set_cons_succ, Option.bind_some, Option.bind_none, Option.map_some, Option.map_none, at_, O.get, O.put, putAt, id, p_History_move_0, p_History_undo_0, p_History_undo_1, p_History_undo_2, p_History_redo_0, p_History_redo_1, p_History_redo_2, p_History_earlier_0, p_History_earlier_1, p__law_stream_0, p__law_stream_1, p__law_draw_0, p__law_draw_1, p__law_draw_2, p__law_draw_3, p__law_draw_4, p__law_draw_5, p__law_state_0, p__law_state_1, p__law_state_2, p__law_state_3, p__law_moved_0, p__law_earlier_0, p__law_earlier_1, p__law_same_0, p__law_same_1, p__law_same_2, p__law_same_3, p__law_same_4, p__law_same_5, p__law_same_6, p__law_same_7, p__law_same_8, p_law_0, p_law_1, p_law_2, p_law_3, p_law_4, p_law_5, p_law_6, p_law_7, p_law_8, p_law_9, p_law_10, p_law_11, p_law_12, p_law_13, p_law_14, p_law_15, p_law_16, m5, chkM, conOf, outOf, outO, e4, callF, fill, back, O.frz, hs]
theorem l_none {s : P} {pa fu : List P} {k : Int} (h : pa.length < sizeLine) (h1 : -1000000 ≤ k) (h2 : k ≤ 1000000) (hk : ¬ (0 ≤ k ∧ k ≤ pa.length)) : F__law_earlier [his s pa fu, .p (.s (.int k))] = .ok (.p (.nd .tup [.s (.str "none"), .s (.int k)])) [(0, his s pa fu)] := by
  have e4 := h_none (s := s) (fu := fu) h h1 h2 hk
  have hs : 2 ≤ sizeLine := by have := sizeLine_big; omega
  unfold F__law_earlier runB b__law_earlier
  unfold his at e4 ⊢
  simp [res_ok, res_ex, ev_sSeqF, ev_sIfF, ev_sNx, ev_sSetF, ev_sAsgF, ev_sAugF, ev_sExprF, ev_sRetF, ev_sRetNF, ev_sForD, ev_dConst, ev_dVarF, ev_dVarZ, ev_dVarT, ev_dAtF, ev_dAtT, ev_lName, ev_lIx, ev_lAttr, ev_dBin, ev_dUn, ev_dNotF, ev_dAndF, ev_dOrF, ev_dIteF, ev_tTru, ev_tBl, ev_tAndF, ev_tOrF, ev_tNotF, ev_aNil, ev_aCons, ev_aStar, ev_dSeqF, ev_dChainF, ev_oP, ev_oMv, ev_oLst, ev_oLstM, ev_oDct, ev_dFz, ev_dBi, ev_oBi, ev_oBin, ev_gNm, ev_bNo, ev_bSo, ev_dSlF, ev_oSlF, ev_slF, ev_iAnyF, ev_a1P, ev_a1Pp, ev_a1O, ev_a1N, ev_a1L, ev_mNil, ev_mCons, ev_mMeth, ev_mRecv, ev_oKer, ev_oCallM, ev_oMakeM, ev_sSetIxF, ev_sSetAtF, ev_dCallF, ev_dCallHF, ev_sTryF, ev_sRaiseF, ev_uNil, ev_uRet, ev_uIf, ev_uSeq, ev_dIsE, ev_dXf, ev_dXfc, nu_eqI, nu_eqS, nu_add, nu_sub, nu_neg, nu_mul, nu_mulL, nu_div, nu_mod, nu_pow, nu_lt, nu_le, nu_gt, nu_ge, nu_isN, nu_ixL, nu_ixS, nu_ixT, nu_ixIn, nu_at0, nu_at1, nu_at2, nu_at3, nu_at4, nu_lenL, nu_lenS, nu_lenT, nu_int, nu_intB, nu_truI, nu_truB, nu_truN, nu_rg, nu_iR1, nu_iR2, List.length_cons, List.length_nil, List.getElem?_cons_zero, List.getElem?_cons_succ, List.set_cons_zero, List.set_cons_succ, Option.bind_some, Option.bind_none, Option.map_some, Option.map_none, at_, O.get, O.put, putAt, id, p_History_move_0, p_History_undo_0, p_History_undo_1, p_History_undo_2, p_History_redo_0, p_History_redo_1, p_History_redo_2, p_History_earlier_0, p_History_earlier_1, p__law_stream_0, p__law_stream_1, p__law_draw_0, p__law_draw_1, p__law_draw_2, p__law_draw_3, p__law_draw_4, p__law_draw_5, p__law_state_0, p__law_state_1, p__law_state_2, p__law_state_3, p__law_moved_0, p__law_earlier_0, p__law_earlier_1, p__law_same_0, p__law_same_1, p__law_same_2, p__law_same_3, p__law_same_4, p__law_same_5, p__law_same_6, p__law_same_7, p__law_same_8, p_law_0, p_law_1, p_law_2, p_law_3, p_law_4, p_law_5, p_law_6, p_law_7, p_law_8, p_law_9, p_law_10, p_law_11, p_law_12, p_law_13, p_law_14, p_law_15, p_law_16, m5, chkM, conOf, outOf, outO, e4, callF, fill, back, O.frz, hs, s00, s01, s02, hasF0, P.nxs, P.nx, f_int, List.lookup]
theorem moved0 {s d : P} {pa fu : List P} (h : pa.length < sizeLine) : F__law_moved [his s pa fu, .p (.s (.int 0)), .p d] = .ok (.p (.s (.str "done"))) [(0, his d (pa ++ [s]) [])] := by
  have e4 := h_move (s := s) (d := d) (fu := fu) h
  unfold F__law_moved runB b__law_moved
  unfold his at e4 ⊢
  simp [res_ok, res_ex, ev_sSeqF, ev_sIfF, ev_sNx, ev_sSetF, ev_sAsgF, ev_sAugF, ev_sExprF, ev_sRetF, ev_sRetNF, ev_sForD, ev_dConst, ev_dVarF, ev_dVarZ, ev_dVarT, ev_dAtF, ev_dAtT, ev_lName, ev_lIx, ev_lAttr, ev_dBin, ev_dUn, ev_dNotF, ev_dAndF, ev_dOrF, ev_dIteF, ev_tTru, ev_tBl, ev_tAndF, ev_tOrF, ev_tNotF, ev_aNil, ev_aCons, ev_aStar, ev_dSeqF, ev_dChainF, ev_oP, ev_oMv, ev_oLst, ev_oLstM, ev_oDct, ev_dFz, ev_dBi, ev_oBi, ev_oBin, ev_gNm, ev_bNo, ev_bSo, ev_dSlF, ev_oSlF, ev_slF, ev_iAnyF, ev_a1P, ev_a1Pp, ev_a1O, ev_a1N, ev_a1L, ev_mNil, ev_mCons, ev_mMeth, ev_mRecv, ev_oKer, ev_oCallM, ev_oMakeM, ev_sSetIxF, ev_sSetAtF, ev_dCallF, ev_dCallHF, ev_sTryF, ev_sRaiseF, ev_uNil, ev_uRet, ev_uIf, ev_uSeq, ev_dIsE, ev_dXf, ev_dXfc, nu_eqI, nu_eqS, nu_add, nu_sub, nu_neg, nu_mul, nu_mulL, nu_div, nu_mod, nu_pow, nu_lt, nu_le, nu_gt, nu_ge, nu_isN, nu_ixL, nu_ixS, nu_ixT, nu_ixIn, nu_at0, nu_at1, nu_at2, nu_at3, nu_at4, nu_lenL, nu_lenS, nu_lenT, nu_int, nu_intB, nu_truI, nu_truB, nu_truN, nu_rg, nu_iR1, nu_iR2, List.length_cons, List.length_nil, List.getElem?_cons_zero, List.getElem?_cons_succ, List.set_cons_zero, List.set_cons_succ, Option.bind_some, Option.bind_none, Option.map_some, Option.map_none, at_, O.get, O.put, putAt, id, p_History_move_0, p_History_undo_0, p_History_undo_1, p_History_undo_2, p_History_redo_0, p_History_redo_1, p_History_redo_2, p_History_earlier_0, p_History_earlier_1, p__law_stream_0, p__law_stream_1, p__law_draw_0, p__law_draw_1, p__law_draw_2, p__law_draw_3, p__law_draw_4, p__law_draw_5, p__law_state_0, p__law_state_1, p__law_state_2, p__law_state_3, p__law_moved_0, p__law_earlier_0, p__law_earlier_1, p__law_same_0, p__law_same_1, p__law_same_2, p__law_same_3, p__law_same_4, p__law_same_5, p__law_same_6, p__law_same_7, p__law_same_8, p_law_0, p_law_1, p_law_2, p_law_3, p_law_4, p_law_5, p_law_6, p_law_7, p_law_8, p_law_9, p_law_10, p_law_11, p_law_12, p_law_13, p_law_14, p_law_15, p_law_16, m1, chkM, conOf, outOf, outO, e4, callF, fill, back, O.frz]
theorem moved1n {s d : P} {fu : List P} : F__law_moved [his s [] fu, .p (.s (.int 1)), .p d] = .ok (.p (.s (.str "nothing"))) [(0, his s [] fu)] := by
  have e4 := h_undo0 (s := s) (fu := fu)
  unfold F__law_moved runB b__law_moved
  unfold his at e4 ⊢
  simp only [List.map_nil] at e4 ⊢
  simp [res_ok, res_ex, ev_sSeqF, ev_sIfF, ev_sNx, ev_sSetF, ev_sAsgF, ev_sAugF, ev_sExprF, ev_sRetF, ev_sRetNF, ev_sForD, ev_dConst, ev_dVarF, ev_dVarZ, ev_dVarT, ev_dAtF, ev_dAtT, ev_lName, ev_lIx, ev_lAttr, ev_dBin, ev_dUn, ev_dNotF, ev_dAndF, ev_dOrF, ev_dIteF, ev_tTru, ev_tBl, ev_tAndF, ev_tOrF, ev_tNotF, ev_aNil, ev_aCons, ev_aStar, ev_dSeqF, ev_dChainF, ev_oP, ev_oMv, ev_oLst, ev_oLstM, ev_oDct, ev_dFz, ev_dBi, ev_oBi, ev_oBin, ev_gNm, ev_bNo, ev_bSo, ev_dSlF, ev_oSlF, ev_slF, ev_iAnyF, ev_a1P, ev_a1Pp, ev_a1O, ev_a1N, ev_a1L, ev_mNil, ev_mCons, ev_mMeth, ev_mRecv, ev_oKer, ev_oCallM, ev_oMakeM, ev_sSetIxF, ev_sSetAtF, ev_dCallF, ev_dCallHF, ev_sTryF, ev_sRaiseF, ev_uNil, ev_uRet, ev_uIf, ev_uSeq, ev_dIsE, ev_dXf, ev_dXfc, nu_eqI, nu_eqS, nu_add, nu_sub, nu_neg, nu_mul, nu_mulL, nu_div, nu_mod, nu_pow, nu_lt, nu_le, nu_gt, nu_ge, nu_isN, nu_ixL, nu_ixS, nu_ixT, nu_ixIn, nu_at0, nu_at1, nu_at2, nu_at3, nu_at4, nu_lenL, nu_lenS, nu_lenT, nu_int, nu_intB, nu_truI, nu_truB, nu_truN, nu_rg, nu_iR1, nu_iR2, List.length_cons, List.length_nil, List.getElem?_cons_zero, List.getElem?_cons_succ, List.set_cons_zero, List.set_cons_succ, Option.bind_some, Option.bind_none, Option.map_some, Option.map_none, at_, O.get, O.put, putAt, id, p_History_move_0, p_History_undo_0, p_History_undo_1, p_History_undo_2, p_History_redo_0, p_History_redo_1, p_History_redo_2, p_History_earlier_0, p_History_earlier_1, p__law_stream_0, p__law_stream_1, p__law_draw_0, p__law_draw_1, p__law_draw_2, p__law_draw_3, p__law_draw_4, p__law_draw_5, p__law_state_0, p__law_state_1, p__law_state_2, p__law_state_3, p__law_moved_0, p__law_earlier_0, p__law_earlier_1, p__law_same_0, p__law_same_1, p__law_same_2, p__law_same_3, p__law_same_4, p__law_same_5, p__law_same_6, p__law_same_7, p__law_same_8, p_law_0, p_law_1, p_law_2, p_law_3, p_law_4, p_law_5, p_law_6, p_law_7, p_law_8, p_law_9, p_law_10, p_law_11, p_law_12, p_law_13, p_law_14, p_law_15, p_law_16, m2, chkM, conOf, outOf, outO, e4, callF, fill, back, O.frz, s10, s11, s12, s13, P.nx]
theorem moved1 {s d x : P} {pa fu : List P} (hd : ∀ x ∈ pa ++ [d], Dk 60 x) (h : fu.length < sizeLine) : F__law_moved [his s (pa ++ [d]) fu, .p (.s (.int 1)), .p x] = .ok (.p (.s (.str "done"))) [(0, his d pa (fu ++ [s]))] := by
  have e4 := h_undo (s := s) hd h
  unfold F__law_moved runB b__law_moved
  unfold his at e4 ⊢
  simp only [List.map_append, List.map_cons, List.map_nil] at e4 ⊢
  simp [res_ok, res_ex, ev_sSeqF, ev_sIfF, ev_sNx, ev_sSetF, ev_sAsgF, ev_sAugF, ev_sExprF, ev_sRetF, ev_sRetNF, ev_sForD, ev_dConst, ev_dVarF, ev_dVarZ, ev_dVarT, ev_dAtF, ev_dAtT, ev_lName, ev_lIx, ev_lAttr, ev_dBin, ev_dUn, ev_dNotF, ev_dAndF, ev_dOrF, ev_dIteF, ev_tTru, ev_tBl, ev_tAndF, ev_tOrF, ev_tNotF, ev_aNil, ev_aCons, ev_aStar, ev_dSeqF, ev_dChainF, ev_oP, ev_oMv, ev_oLst, ev_oLstM, ev_oDct, ev_dFz, ev_dBi, ev_oBi, ev_oBin, ev_gNm, ev_bNo, ev_bSo, ev_dSlF, ev_oSlF, ev_slF, ev_iAnyF, ev_a1P, ev_a1Pp, ev_a1O, ev_a1N, ev_a1L, ev_mNil, ev_mCons, ev_mMeth, ev_mRecv, ev_oKer, ev_oCallM, ev_oMakeM, ev_sSetIxF, ev_sSetAtF, ev_dCallF, ev_dCallHF, ev_sTryF, ev_sRaiseF, ev_uNil, ev_uRet, ev_uIf, ev_uSeq, ev_dIsE, ev_dXf, ev_dXfc, nu_eqI, nu_eqS, nu_add, nu_sub, nu_neg, nu_mul, nu_mulL, nu_div, nu_mod, nu_pow, nu_lt, nu_le, nu_gt, nu_ge, nu_isN, nu_ixL, nu_ixS, nu_ixT, nu_ixIn, nu_at0, nu_at1, nu_at2, nu_at3, nu_at4, nu_lenL, nu_lenS, nu_lenT, nu_int, nu_intB, nu_truI, nu_truB, nu_truN, nu_rg, nu_iR1, nu_iR2, List.length_cons, List.length_nil, List.getElem?_cons_zero, List.getElem?_cons_succ, List.set_cons_zero, List.set_cons_succ, Option.bind_some, Option.bind_none, Option.map_some, Option.map_none, at_, O.get, O.put, putAt, id, p_History_move_0, p_History_undo_0, p_History_undo_1, p_History_undo_2, p_History_redo_0, p_History_redo_1, p_History_redo_2, p_History_earlier_0, p_History_earlier_1, p__law_stream_0, p__law_stream_1, p__law_draw_0, p__law_draw_1, p__law_draw_2, p__law_draw_3, p__law_draw_4, p__law_draw_5, p__law_state_0, p__law_state_1, p__law_state_2, p__law_state_3, p__law_moved_0, p__law_earlier_0, p__law_earlier_1, p__law_same_0, p__law_same_1, p__law_same_2, p__law_same_3, p__law_same_4, p__law_same_5, p__law_same_6, p__law_same_7, p__law_same_8, p_law_0, p_law_1, p_law_2, p_law_3, p_law_4, p_law_5, p_law_6, p_law_7, p_law_8, p_law_9, p_law_10, p_law_11, p_law_12, p_law_13, p_law_14, p_law_15, p_law_16, m2, chkM, conOf, outOf, outO, e4, callF, fill, back, O.frz]
theorem moved2n {s d : P} {pa : List P} : F__law_moved [his s pa [], .p (.s (.int 2)), .p d] = .ok (.p (.s (.str "nothing"))) [(0, his s pa [])] := by
  have e4 := h_redo0 (s := s) (pa := pa)
  unfold F__law_moved runB b__law_moved
  unfold his at e4 ⊢
  simp only [List.map_nil] at e4 ⊢
  simp [res_ok, res_ex, ev_sSeqF, ev_sIfF, ev_sNx, ev_sSetF, ev_sAsgF, ev_sAugF, ev_sExprF, ev_sRetF, ev_sRetNF, ev_sForD, ev_dConst, ev_dVarF, ev_dVarZ, ev_dVarT, ev_dAtF, ev_dAtT, ev_lName, ev_lIx, ev_lAttr, ev_dBin, ev_dUn, ev_dNotF, ev_dAndF, ev_dOrF, ev_dIteF, ev_tTru, ev_tBl, ev_tAndF, ev_tOrF, ev_tNotF, ev_aNil, ev_aCons, ev_aStar, ev_dSeqF, ev_dChainF, ev_oP, ev_oMv, ev_oLst, ev_oLstM, ev_oDct, ev_dFz, ev_dBi, ev_oBi, ev_oBin, ev_gNm, ev_bNo, ev_bSo, ev_dSlF, ev_oSlF, ev_slF, ev_iAnyF, ev_a1P, ev_a1Pp, ev_a1O, ev_a1N, ev_a1L, ev_mNil, ev_mCons, ev_mMeth, ev_mRecv, ev_oKer, ev_oCallM, ev_oMakeM, ev_sSetIxF, ev_sSetAtF, ev_dCallF, ev_dCallHF, ev_sTryF, ev_sRaiseF, ev_uNil, ev_uRet, ev_uIf, ev_uSeq, ev_dIsE, ev_dXf, ev_dXfc, nu_eqI, nu_eqS, nu_add, nu_sub, nu_neg, nu_mul, nu_mulL, nu_div, nu_mod, nu_pow, nu_lt, nu_le, nu_gt, nu_ge, nu_isN, nu_ixL, nu_ixS, nu_ixT, nu_ixIn, nu_at0, nu_at1, nu_at2, nu_at3, nu_at4, nu_lenL, nu_lenS, nu_lenT, nu_int, nu_intB, nu_truI, nu_truB, nu_truN, nu_rg, nu_iR1, nu_iR2, List.length_cons, List.length_nil, List.getElem?_cons_zero, List.getElem?_cons_succ, List.set_cons_zero, List.set_cons_succ, Option.bind_some, Option.bind_none, Option.map_some, Option.map_none, at_, O.get, O.put, putAt, id, p_History_move_0, p_History_undo_0, p_History_undo_1, p_History_undo_2, p_History_redo_0, p_History_redo_1, p_History_redo_2, p_History_earlier_0, p_History_earlier_1, p__law_stream_0, p__law_stream_1, p__law_draw_0, p__law_draw_1, p__law_draw_2, p__law_draw_3, p__law_draw_4, p__law_draw_5, p__law_state_0, p__law_state_1, p__law_state_2, p__law_state_3, p__law_moved_0, p__law_earlier_0, p__law_earlier_1, p__law_same_0, p__law_same_1, p__law_same_2, p__law_same_3, p__law_same_4, p__law_same_5, p__law_same_6, p__law_same_7, p__law_same_8, p_law_0, p_law_1, p_law_2, p_law_3, p_law_4, p_law_5, p_law_6, p_law_7, p_law_8, p_law_9, p_law_10, p_law_11, p_law_12, p_law_13, p_law_14, p_law_15, p_law_16, m3, chkM, conOf, outOf, outO, e4, callF, fill, back, O.frz, s10, s11, s12, s13, P.nx]
theorem moved2 {s d x : P} {pa fu : List P} (hd : ∀ x ∈ fu ++ [d], Dk 60 x) (h : pa.length < sizeLine) : F__law_moved [his s pa (fu ++ [d]), .p (.s (.int 2)), .p x] = .ok (.p (.s (.str "done"))) [(0, his d (pa ++ [s]) fu)] := by
  have e4 := h_redo (s := s) hd h
  unfold F__law_moved runB b__law_moved
  unfold his at e4 ⊢
  simp only [List.map_append, List.map_cons, List.map_nil] at e4 ⊢
  simp [res_ok, res_ex, ev_sSeqF, ev_sIfF, ev_sNx, ev_sSetF, ev_sAsgF, ev_sAugF, ev_sExprF, ev_sRetF, ev_sRetNF, ev_sForD, ev_dConst, ev_dVarF, ev_dVarZ, ev_dVarT, ev_dAtF, ev_dAtT, ev_lName, ev_lIx, ev_lAttr, ev_dBin, ev_dUn, ev_dNotF, ev_dAndF, ev_dOrF, ev_dIteF, ev_tTru, ev_tBl, ev_tAndF, ev_tOrF, ev_tNotF, ev_aNil, ev_aCons, ev_aStar, ev_dSeqF, ev_dChainF, ev_oP, ev_oMv, ev_oLst, ev_oLstM, ev_oDct, ev_dFz, ev_dBi, ev_oBi, ev_oBin, ev_gNm, ev_bNo, ev_bSo, ev_dSlF, ev_oSlF, ev_slF, ev_iAnyF, ev_a1P, ev_a1Pp, ev_a1O, ev_a1N, ev_a1L, ev_mNil, ev_mCons, ev_mMeth, ev_mRecv, ev_oKer, ev_oCallM, ev_oMakeM, ev_sSetIxF, ev_sSetAtF, ev_dCallF, ev_dCallHF, ev_sTryF, ev_sRaiseF, ev_uNil, ev_uRet, ev_uIf, ev_uSeq, ev_dIsE, ev_dXf, ev_dXfc, nu_eqI, nu_eqS, nu_add, nu_sub, nu_neg, nu_mul, nu_mulL, nu_div, nu_mod, nu_pow, nu_lt, nu_le, nu_gt, nu_ge, nu_isN, nu_ixL, nu_ixS, nu_ixT, nu_ixIn, nu_at0, nu_at1, nu_at2, nu_at3, nu_at4, nu_lenL, nu_lenS, nu_lenT, nu_int, nu_intB, nu_truI, nu_truB, nu_truN, nu_rg, nu_iR1, nu_iR2, List.length_cons, List.length_nil, List.getElem?_cons_zero, List.getElem?_cons_succ, List.set_cons_zero, List.set_cons_succ, Option.bind_some, Option.bind_none, Option.map_some, Option.map_none, at_, O.get, O.put, putAt, id, p_History_move_0, p_History_undo_0, p_History_undo_1, p_History_undo_2, p_History_redo_0, p_History_redo_1, p_History_redo_2, p_History_earlier_0, p_History_earlier_1, p__law_stream_0, p__law_stream_1, p__law_draw_0, p__law_draw_1, p__law_draw_2, p__law_draw_3, p__law_draw_4, p__law_draw_5, p__law_state_0, p__law_state_1, p__law_state_2, p__law_state_3, p__law_moved_0, p__law_earlier_0, p__law_earlier_1, p__law_same_0, p__law_same_1, p__law_same_2, p__law_same_3, p__law_same_4, p__law_same_5, p__law_same_6, p__law_same_7, p__law_same_8, p_law_0, p_law_1, p_law_2, p_law_3, p_law_4, p_law_5, p_law_6, p_law_7, p_law_8, p_law_9, p_law_10, p_law_11, p_law_12, p_law_13, p_law_14, p_law_15, p_law_16, m3, chkM, conOf, outOf, outO, e4, callF, fill, back, O.frz]
end DL.K93

namespace DL.K93
open PySem PySem.Spec L2 DL
abbrev mdl (now fut : List P) : P := .nd .lst [.nd .lst now, .nd .lst fut]
theorem same_loop {s : P} {pa fu : List P} (t : O) (hd : ∀ x ∈ pa ++ [s], Dk 50 x) (h : pa.length ≤ 10000) : ∃ x4 x5 : Option O, sForF (gNm 4) l__law_same_0 (rngP (-1) ((pa.length : Int) + 1 + 2 + 1).toNat) [some (his s pa fu), some (.p (mdl (pa ++ [s]) fu)), some (.p (.nd .lst (pa ++ [s]))), some t, none, none] = .ok (.nx, [some (his s pa fu), some (.p (mdl (pa ++ [s]) fu)), some (.p (.nd .lst (pa ++ [s]))), some t, x4, x5]) := by
  have hs := sizeLine_big
  have hpl : pa.length < sizeLine := by omega
  have hn2 : 2 ≤ sizeLine := by omega
  -- the loop
  obtain ⟨ρ', e, x4, x5, rfl⟩ := forF_all (fg := gNm 4) (body := l__law_same_0) (ds := rngP (-1) ((pa.length : Int) + 1 + 2 + 1).toNat) (fun _ ρ => ∃ x4 x5 : Option O, ρ = [some (his s pa fu), some (.p (mdl (pa ++ [s]) fu)), some (.p (.nd .lst (pa ++ [s]))), some t, x4, x5]) (by
      rintro k d ρ hk ⟨x4, x5, rfl⟩
      obtain ⟨hk1, rfl⟩ := rngP_get hk
      by_cases hin : 0 ≤ (-1 + k : Int) ∧ (-1 + k : Int) < pa.length + 1
      · have hj : k - 1 < (pa ++ [s]).length := by simp; omega
        have hj2 : pa.length - (k - 1) < (pa ++ [s]).length := by simp; omega
        have e1 : (-1 + k : Int) = ((k - 1 : Nat) : Int) := by omega
        rw [e1] at hin ⊢
        have el := l_earlier (s := s) (fu := fu) (k := k - 1) hpl (by omega) (List.getElem?_eq_getElem hj2)
        have ea2 : atI (pa ++ [s]) ((pa.length : Int) - ((k - 1 : Nat) : Int)) = some (pa ++ [s])[pa.length - (k - 1)] := by
          unfold atI
          rw [nu_ixIn (by omega) (by simp; omega)]
          rw [show ((pa.length : Int) - ((k - 1 : Nat) : Int)).toNat = pa.length - (k - 1) by omega]
          exact List.getElem?_eq_getElem hj2
        have eq3 := pEq_refl (n := true) (d := .nd .tup [.s (.str "state"), (pa ++ [s])[pa.length - (k - 1)]]) (Dk.mono (Dk.tup (n := 50) (by
          intro x hx
          simp only [List.mem_cons, List.not_mem_nil, or_false] at hx
          rcases hx with rfl | rfl
          · exact Dk.str (by decide +kernel)
          · exact hd _ (List.getElem_mem _))) (m := 64) (by omega))
        refine ⟨_, _, rfl, .inl ?_, some (.p (.s (.int ((k - 1 : Nat) : Int)))), some (.p (.nd .tup [.s (.str "state"), (pa ++ [s])[pa.length - (k - 1)]])), rfl⟩
        unfold l__law_same_0
        simp [res_ok, res_ex, ev_sSeqF, ev_sIfF, ev_sNx, ev_sSetF, ev_sAsgF, ev_sAugF, ev_sExprF, ev_sRetF, ev_sRetNF, ev_sForD, ev_dConst, ev_dVarF, ev_dVarZ, ev_dVarT, ev_dAtF, ev_dAtT, ev_lName, ev_lIx, ev_lAttr, ev_dBin, ev_dUn, ev_dNotF, ev_dAndF, ev_dOrF, ev_dIteF, ev_tTru, ev_tBl, ev_tAndF, ev_tOrF, ev_tNotF, ev_aNil, ev_aCons, ev_aStar, ev_dSeqF, ev_dChainF, ev_oP, ev_oMv, ev_oLst, ev_oLstM, ev_oDct, ev_dFz, ev_dBi, ev_oBi, ev_oBin, ev_gNm, ev_bNo, ev_bSo, ev_dSlF, ev_oSlF, ev_slF, ev_iAnyF, ev_a1P, ev_a1Pp, ev_a1O, ev_a1N, ev_a1L, ev_mNil, ev_mCons, ev_mMeth, ev_mRecv, ev_oKer, ev_oCallM, ev_oMakeM, ev_sSetIxF, ev_sSetAtF, ev_dCallF, ev_dCallHF, ev_sTryF, ev_sRaiseF, ev_uNil, ev_uRet, ev_uIf, ev_uSeq, ev_dIsE, ev_dXf, ev_dXfc, nu_eqI, nu_eqS, nu_add, nu_sub, nu_neg, nu_mul, nu_mulL, nu_div, nu_mod, nu_pow, nu_lt, nu_le, nu_gt, nu_ge, nu_isN, nu_ixL, nu_ixS, nu_ixT, nu_ixIn, nu_at0, nu_at1, nu_at2, nu_at3, nu_at4, nu_lenL, nu_lenS, nu_lenT, nu_int, nu_intB, nu_truI, nu_truB, nu_truN, nu_rg, nu_iR1, nu_iR2, List.length_cons, List.length_nil, List.getElem?_cons_zero, List.getElem?_cons_succ, List.set_cons_zero, List.set_cons_succ, Option.bind_some, Option.bind_none, Option.map_some, Option.map_none, at_, O.get, O.put, putAt, id, p_History_move_0, p_History_undo_0, p_History_undo_1, p_History_undo_2, p_History_redo_0, p_History_redo_1, p_History_redo_2, p_History_earlier_0, p_History_earlier_1, p__law_stream_0, p__law_stream_1, p__law_draw_0, p__law_draw_1, p__law_draw_2, p__law_draw_3, p__law_draw_4, p__law_draw_5, p__law_state_0, p__law_state_1, p__law_state_2, p__law_state_3, p__law_moved_0, p__law_earlier_0, p__law_earlier_1, p__law_same_0, p__law_same_1, p__law_same_2, p__law_same_3, p__law_same_4, p__law_same_5, p__law_same_6, p__law_same_7, p__law_same_8, p_law_0, p_law_1, p_law_2, p_law_3, p_law_4, p_law_5, p_law_6, p_law_7, p_law_8, p_law_9, p_law_10, p_law_11, p_law_12, p_law_13, p_law_14, p_law_15, p_law_16, hin.1, hin.2, hn2, ea2, el, callF, fill, back, O.frz, eq3]
      · have el := l_none (s := s) (fu := fu) (k := (-1 + k : Int)) hpl (by omega) (by omega) (by omega)
        have eq3 := pEq_refl (n := true) (d := .nd .tup [.s (.str "none"), .s (.int (-1 + k))]) (Dk.mono (Dk.tup (n := 50) (by
          intro x hx
          simp only [List.mem_cons, List.not_mem_nil, or_false] at hx
          rcases hx with rfl | rfl
          · exact Dk.str (by decide +kernel)
          · exact Dk.int)) (m := 64) (by omega))
        refine ⟨_, _, rfl, .inl ?_, some (.p (.s (.int (-1 + k)))), some (.p (.nd .tup [.s (.str "none"), .s (.int (-1 + k))])), rfl⟩
        unfold l__law_same_0
        by_cases h0 : 0 ≤ (-1 + k : Int)
        · have h1 : ¬ (-1 + k : Int) < pa.length + 1 := fun z => hin ⟨h0, z⟩
          simp [res_ok, res_ex, ev_sSeqF, ev_sIfF, ev_sNx, ev_sSetF, ev_sAsgF, ev_sAugF, ev_sExprF, ev_sRetF, ev_sRetNF, ev_sForD, ev_dConst, ev_dVarF, ev_dVarZ, ev_dVarT, ev_dAtF, ev_dAtT, ev_lName, ev_lIx, ev_lAttr, ev_dBin, ev_dUn, ev_dNotF, ev_dAndF, ev_dOrF, ev_dIteF, ev_tTru, ev_tBl, ev_tAndF, ev_tOrF, ev_tNotF, ev_aNil, ev_aCons, ev_aStar, ev_dSeqF, ev_dChainF, ev_oP, ev_oMv, ev_oLst, ev_oLstM, ev_oDct, ev_dFz, ev_dBi, ev_oBi, ev_oBin, ev_gNm, ev_bNo, ev_bSo, ev_dSlF, ev_oSlF, ev_slF, ev_iAnyF, ev_a1P, ev_a1Pp, ev_a1O, ev_a1N, ev_a1L, ev_mNil, ev_mCons, ev_mMeth, ev_mRecv, ev_oKer, ev_oCallM, ev_oMakeM, ev_sSetIxF, ev_sSetAtF, ev_dCallF, ev_dCallHF, ev_sTryF, ev_sRaiseF, ev_uNil, ev_uRet, ev_uIf, ev_uSeq, ev_dIsE, ev_dXf, ev_dXfc, nu_eqI, nu_eqS, nu_add, nu_sub, nu_neg, nu_mul, nu_mulL, nu_div, nu_mod, nu_pow, nu_lt, nu_le, nu_gt, nu_ge, nu_isN, nu_ixL, nu_ixS, nu_ixT, nu_ixIn, nu_at0, nu_at1, nu_at2, nu_at3, nu_at4, nu_lenL, nu_lenS, nu_lenT, nu_int, nu_intB, nu_truI, nu_truB, nu_truN, nu_rg, nu_iR1, nu_iR2, List.length_cons, List.length_nil, List.getElem?_cons_zero, List.getElem?_cons_succ, List.set_cons_zero, List.set_cons_succ, Option.bind_some, Option.bind_none, Option.map_some, Option.map_none, at_, O.get, O.put, putAt, id, p_History_move_0, p_History_undo_0, p_History_undo_1, p_History_undo_2, p_History_redo_0, p_History_redo_1, p_History_redo_2, p_History_earlier_0, p_History_earlier_1, p__law_stream_0, p__law_stream_1, p__law_draw_0, p__law_draw_1, p__law_draw_2, p__law_draw_3, p__law_draw_4, p__law_draw_5, p__law_state_0, p__law_state_1, p__law_state_2, p__law_state_3, p__law_moved_0, p__law_earlier_0, p__law_earlier_1, p__law_same_0, p__law_same_1, p__law_same_2, p__law_same_3, p__law_same_4, p__law_same_5, p__law_same_6, p__law_same_7, p__law_same_8, p_law_0, p_law_1, p_law_2, p_law_3, p_law_4, p_law_5, p_law_6, p_law_7, p_law_8, p_law_9, p_law_10, p_law_11, p_law_12, p_law_13, p_law_14, p_law_15, p_law_16, h0, h1, hn2, el, callF, fill, back, O.frz, eq3]
        · simp [res_ok, res_ex, ev_sSeqF, ev_sIfF, ev_sNx, ev_sSetF, ev_sAsgF, ev_sAugF, ev_sExprF, ev_sRetF, ev_sRetNF, ev_sForD, ev_dConst, ev_dVarF, ev_dVarZ, ev_dVarT, ev_dAtF, ev_dAtT, ev_lName, ev_lIx, ev_lAttr, ev_dBin, ev_dUn, ev_dNotF, ev_dAndF, ev_dOrF, ev_dIteF, ev_tTru, ev_tBl, ev_tAndF, ev_tOrF, ev_tNotF, ev_aNil, ev_aCons, ev_aStar, ev_dSeqF, ev_dChainF, ev_oP, ev_oMv, ev_oLst, ev_oLstM, ev_oDct, ev_dFz, ev_dBi, ev_oBi, ev_oBin, ev_gNm, ev_bNo, ev_bSo, ev_dSlF, ev_oSlF, ev_slF, ev_iAnyF, ev_a1P, ev_a1Pp, ev_a1O, ev_a1N, ev_a1L, ev_mNil, ev_mCons, ev_mMeth, ev_mRecv, ev_oKer, ev_oCallM, ev_oMakeM, ev_sSetIxF, ev_sSetAtF, ev_dCallF, ev_dCallHF, ev_sTryF, ev_sRaiseF, ev_uNil, ev_uRet, ev_uIf, ev_uSeq, ev_dIsE, ev_dXf, ev_dXfc, nu_eqI, nu_eqS, nu_add, nu_sub, nu_neg, nu_mul, nu_mulL, nu_div, nu_mod, nu_pow, nu_lt, nu_le, nu_gt, nu_ge, nu_isN, nu_ixL, nu_ixS, nu_ixT, nu_ixIn, nu_at0, nu_at1, nu_at2, nu_at3, nu_at4, nu_lenL, nu_lenS, nu_lenT, nu_int, nu_intB, nu_truI, nu_truB, nu_truN, nu_rg, nu_iR1, nu_iR2, List.length_cons, List.length_nil, List.getElem?_cons_zero, List.getElem?_cons_succ, List.set_cons_zero, List.set_cons_succ, Option.bind_some, Option.bind_none, Option.map_some, Option.map_none, at_, O.get, O.put, putAt, id, p_History_move_0, p_History_undo_0, p_History_undo_1, p_History_undo_2, p_History_redo_0, p_History_redo_1, p_History_redo_2, p_History_earlier_0, p_History_earlier_1, p__law_stream_0, p__law_stream_1, p__law_draw_0, p__law_draw_1, p__law_draw_2, p__law_draw_3, p__law_draw_4, p__law_draw_5, p__law_state_0, p__law_state_1, p__law_state_2, p__law_state_3, p__law_moved_0, p__law_earlier_0, p__law_earlier_1, p__law_same_0, p__law_same_1, p__law_same_2, p__law_same_3, p__law_same_4, p__law_same_5, p__law_same_6, p__law_same_7, p__law_same_8, p_law_0, p_law_1, p_law_2, p_law_3, p_law_4, p_law_5, p_law_6, p_law_7, p_law_8, p_law_9, p_law_10, p_law_11, p_law_12, p_law_13, p_law_14, p_law_15, p_law_16, h0, hn2, el, callF, fill, back, O.frz, eq3]) [some (his s pa fu), some (.p (mdl (pa ++ [s]) fu)), some (.p (.nd .lst (pa ++ [s]))), some t, none, none] ⟨_, _, rfl⟩
  exact ⟨x4, x5, e⟩
abbrev e0 (s : P) (pa fu : List P) (x3 x4 x5 : Option O) : Env := [some (his s pa fu), some (.p (mdl (pa ++ [s]) fu)), some (.p (.nd .lst (pa ++ [s]))), x3, x4, x5]
section
variable {s : P} {pa fu : List P} {x3 x4 x5 : Option O}
theorem at_last {pa : List P} {s : P} : atI (pa ++ [s]) (pa.length : Int) = some s := by
  unfold atI
  rw [nu_ixIn (by omega) (by simp; omega)]
  simp
theorem same3 (h : pa.length < sizeLine) : p__law_same_3 (e0 s pa fu x3 x4 x5) = .ok (.nx, e0 s pa fu (some (.nd .lst ((pa ++ [s]).map .p))) x4 x5) := by
  have ev := h_versions (s := s) (fu := fu) h
  unfold p__law_same_3 e0
  unfold his at *
  simp [res_ok, res_ex, ev_sSeqF, ev_sIfF, ev_sNx, ev_sSetF, ev_sAsgF, ev_sAugF, ev_sExprF, ev_sRetF, ev_sRetNF, ev_sForD, ev_dConst, ev_dVarF, ev_dVarZ, ev_dVarT, ev_dAtF, ev_dAtT, ev_lName, ev_lIx, ev_lAttr, ev_dBin, ev_dUn, ev_dNotF, ev_dAndF, ev_dOrF, ev_dIteF, ev_tTru, ev_tBl, ev_tAndF, ev_tOrF, ev_tNotF, ev_aNil, ev_aCons, ev_aStar, ev_dSeqF, ev_dChainF, ev_oP, ev_oMv, ev_oLst, ev_oLstM, ev_oDct, ev_dFz, ev_dBi, ev_oBi, ev_oBin, ev_gNm, ev_bNo, ev_bSo, ev_dSlF, ev_oSlF, ev_slF, ev_iAnyF, ev_a1P, ev_a1Pp, ev_a1O, ev_a1N, ev_a1L, ev_mNil, ev_mCons, ev_mMeth, ev_mRecv, ev_oKer, ev_oCallM, ev_oMakeM, ev_sSetIxF, ev_sSetAtF, ev_dCallF, ev_dCallHF, ev_sTryF, ev_sRaiseF, ev_uNil, ev_uRet, ev_uIf, ev_uSeq, ev_dIsE, ev_dXf, ev_dXfc, nu_eqI, nu_eqS, nu_add, nu_sub, nu_neg, nu_mul, nu_mulL, nu_div, nu_mod, nu_pow, nu_lt, nu_le, nu_gt, nu_ge, nu_isN, nu_ixL, nu_ixS, nu_ixT, nu_ixIn, nu_at0, nu_at1, nu_at2, nu_at3, nu_at4, nu_lenL, nu_lenS, nu_lenT, nu_int, nu_intB, nu_truI, nu_truB, nu_truN, nu_rg, nu_iR1, nu_iR2, List.length_cons, List.length_nil, List.getElem?_cons_zero, List.getElem?_cons_succ, List.set_cons_zero, List.set_cons_succ, Option.bind_some, Option.bind_none, Option.map_some, Option.map_none, at_, O.get, O.put, putAt, id, m4, chkM, conOf, callF, fill, back, ev]
theorem same4 (hd : ∀ x ∈ pa ++ [s], Dk 50 x) : p__law_same_4 (e0 s pa fu (some (.nd .lst ((pa ++ [s]).map .p))) x4 x5) = .ok (.nx, e0 s pa fu (some (.nd .lst ((pa ++ [s]).map .p))) x4 x5) := by
  have ea := allP_ps (pa ++ [s])
  have eq1 := pEq_refl (n := true) (Dk.mono (Dk.lst hd) (m := 64) (by omega))
  have eq2 := pEq_refl (n := true) (Dk.mono (hd s (by simp)) (m := 64) (by omega))
  have ei := at_last (pa := pa) (s := s)
  unfold p__law_same_4 e0
  unfold his mdl at *
  simp only [List.map_append, List.map_cons, List.map_nil] at ea ⊢
  simp [res_ok, res_ex, ev_sSeqF, ev_sIfF, ev_sNx, ev_sSetF, ev_sAsgF, ev_sAugF, ev_sExprF, ev_sRetF, ev_sRetNF, ev_sForD, ev_dConst, ev_dVarF, ev_dVarZ, ev_dVarT, ev_dAtF, ev_dAtT, ev_lName, ev_lIx, ev_lAttr, ev_dBin, ev_dUn, ev_dNotF, ev_dAndF, ev_dOrF, ev_dIteF, ev_tTru, ev_tBl, ev_tAndF, ev_tOrF, ev_tNotF, ev_aNil, ev_aCons, ev_aStar, ev_dSeqF, ev_dChainF, ev_oP, ev_oMv, ev_oLst, ev_oLstM, ev_oDct, ev_dFz, ev_dBi, ev_oBi, ev_oBin, ev_gNm, ev_bNo, ev_bSo, ev_dSlF, ev_oSlF, ev_slF, ev_iAnyF, ev_a1P, ev_a1Pp, ev_a1O, ev_a1N, ev_a1L, ev_mNil, ev_mCons, ev_mMeth, ev_mRecv, ev_oKer, ev_oCallM, ev_oMakeM, ev_sSetIxF, ev_sSetAtF, ev_dCallF, ev_dCallHF, ev_sTryF, ev_sRaiseF, ev_uNil, ev_uRet, ev_uIf, ev_uSeq, ev_dIsE, ev_dXf, ev_dXfc, nu_eqI, nu_eqS, nu_add, nu_sub, nu_neg, nu_mul, nu_mulL, nu_div, nu_mod, nu_pow, nu_lt, nu_le, nu_gt, nu_ge, nu_isN, nu_ixL, nu_ixS, nu_ixT, nu_ixIn, nu_at0, nu_at1, nu_at2, nu_at3, nu_at4, nu_lenL, nu_lenS, nu_lenT, nu_int, nu_intB, nu_truI, nu_truB, nu_truN, nu_rg, nu_iR1, nu_iR2, List.length_cons, List.length_nil, List.getElem?_cons_zero, List.getElem?_cons_succ, List.set_cons_zero, List.set_cons_succ, Option.bind_some, Option.bind_none, Option.map_some, Option.map_none, at_, O.get, O.put, putAt, id, i0, cIsi, P.ty, tyIs, O.top, ea, oSt, eq1, ei, eq2]
theorem same5 (h : pa.length + 1 < sizeLine) : p__law_same_5 (e0 s pa fu (some (.nd .lst ((pa ++ [s]).map .p))) x4 x5) = .ok (.nx, e0 s pa fu (some (.nd .lst ((pa ++ [s]).map .p ++ [.p (.s (.str "more"))]))) x4 x5) := by
  unfold p__law_same_5 e0
  unfold his mdl at *
  simp [res_ok, res_ex, ev_sSeqF, ev_sIfF, ev_sNx, ev_sSetF, ev_sAsgF, ev_sAugF, ev_sExprF, ev_sRetF, ev_sRetNF, ev_sForD, ev_dConst, ev_dVarF, ev_dVarZ, ev_dVarT, ev_dAtF, ev_dAtT, ev_lName, ev_lIx, ev_lAttr, ev_dBin, ev_dUn, ev_dNotF, ev_dAndF, ev_dOrF, ev_dIteF, ev_tTru, ev_tBl, ev_tAndF, ev_tOrF, ev_tNotF, ev_aNil, ev_aCons, ev_aStar, ev_dSeqF, ev_dChainF, ev_oP, ev_oMv, ev_oLst, ev_oLstM, ev_oDct, ev_dFz, ev_dBi, ev_oBi, ev_oBin, ev_gNm, ev_bNo, ev_bSo, ev_dSlF, ev_oSlF, ev_slF, ev_iAnyF, ev_a1P, ev_a1Pp, ev_a1O, ev_a1N, ev_a1L, ev_mNil, ev_mCons, ev_mMeth, ev_mRecv, ev_oKer, ev_oCallM, ev_oMakeM, ev_sSetIxF, ev_sSetAtF, ev_dCallF, ev_dCallHF, ev_sTryF, ev_sRaiseF, ev_uNil, ev_uRet, ev_uIf, ev_uSeq, ev_dIsE, ev_dXf, ev_dXfc, nu_eqI, nu_eqS, nu_add, nu_sub, nu_neg, nu_mul, nu_mulL, nu_div, nu_mod, nu_pow, nu_lt, nu_le, nu_gt, nu_ge, nu_isN, nu_ixL, nu_ixS, nu_ixT, nu_ixIn, nu_at0, nu_at1, nu_at2, nu_at3, nu_at4, nu_lenL, nu_lenS, nu_lenT, nu_int, nu_intB, nu_truI, nu_truB, nu_truN, nu_rg, nu_iR1, nu_iR2, List.length_cons, List.length_nil, List.getElem?_cons_zero, List.getElem?_cons_succ, List.set_cons_zero, List.set_cons_succ, Option.bind_some, Option.bind_none, Option.map_some, Option.map_none, at_, O.get, O.put, putAt, id, chkT, isLst, kerF, avOws, kApp, O.frz, h]
theorem same6 {xs : List O} (h : 0 < xs.length) : p__law_same_6 (e0 s pa fu (some (.nd .lst xs)) x4 x5) = .ok (.nx, e0 s pa fu (some (.nd .lst (xs.set 0 (.p (.s (.str "other")))))) x4 x5) := by
  have h' : (0 : Int) < xs.length := by omega
  unfold p__law_same_6 e0
  unfold his mdl at *
  simp [res_ok, res_ex, ev_sSeqF, ev_sIfF, ev_sNx, ev_sSetF, ev_sAsgF, ev_sAugF, ev_sExprF, ev_sRetF, ev_sRetNF, ev_sForD, ev_dConst, ev_dVarF, ev_dVarZ, ev_dVarT, ev_dAtF, ev_dAtT, ev_lName, ev_lIx, ev_lAttr, ev_dBin, ev_dUn, ev_dNotF, ev_dAndF, ev_dOrF, ev_dIteF, ev_tTru, ev_tBl, ev_tAndF, ev_tOrF, ev_tNotF, ev_aNil, ev_aCons, ev_aStar, ev_dSeqF, ev_dChainF, ev_oP, ev_oMv, ev_oLst, ev_oLstM, ev_oDct, ev_dFz, ev_dBi, ev_oBi, ev_oBin, ev_gNm, ev_bNo, ev_bSo, ev_dSlF, ev_oSlF, ev_slF, ev_iAnyF, ev_a1P, ev_a1Pp, ev_a1O, ev_a1N, ev_a1L, ev_mNil, ev_mCons, ev_mMeth, ev_mRecv, ev_oKer, ev_oCallM, ev_oMakeM, ev_sSetIxF, ev_sSetAtF, ev_dCallF, ev_dCallHF, ev_sTryF, ev_sRaiseF, ev_uNil, ev_uRet, ev_uIf, ev_uSeq, ev_dIsE, ev_dXf, ev_dXfc, nu_eqI, nu_eqS, nu_add, nu_sub, nu_neg, nu_mul, nu_mulL, nu_div, nu_mod, nu_pow, nu_lt, nu_le, nu_gt, nu_ge, nu_isN, nu_ixL, nu_ixS, nu_ixT, nu_ixIn, nu_at0, nu_at1, nu_at2, nu_at3, nu_at4, nu_lenL, nu_lenS, nu_lenT, nu_int, nu_intB, nu_truI, nu_truB, nu_truN, nu_rg, nu_iR1, nu_iR2, List.length_cons, List.length_nil, List.getElem?_cons_zero, List.getElem?_cons_succ, List.set_cons_zero, List.set_cons_succ, Option.bind_some, Option.bind_none, Option.map_some, Option.map_none, at_, O.get, O.put, putAt, id, setN, ixN, h', h]
theorem same7 (h : pa.length < sizeLine) (hd : ∀ x ∈ pa ++ [s], Dk 50 x) : p__law_same_7 (e0 s pa fu x3 x4 x5) = .ok (.nx, e0 s pa fu x3 x4 x5) := by
  have ev := h_versions (s := s) (fu := fu) h
  have ef := frzs_ps (pa ++ [s])
  have eq1 := pEq_refl (n := true) (Dk.mono (Dk.lst hd) (m := 64) (by omega))
  unfold p__law_same_7 e0
  unfold his mdl at *
  simp only [List.map_append, List.map_cons, List.map_nil] at ev ef ⊢
  simp [res_ok, res_ex, ev_sSeqF, ev_sIfF, ev_sNx, ev_sSetF, ev_sAsgF, ev_sAugF, ev_sExprF, ev_sRetF, ev_sRetNF, ev_sForD, ev_dConst, ev_dVarF, ev_dVarZ, ev_dVarT, ev_dAtF, ev_dAtT, ev_lName, ev_lIx, ev_lAttr, ev_dBin, ev_dUn, ev_dNotF, ev_dAndF, ev_dOrF, ev_dIteF, ev_tTru, ev_tBl, ev_tAndF, ev_tOrF, ev_tNotF, ev_aNil, ev_aCons, ev_aStar, ev_dSeqF, ev_dChainF, ev_oP, ev_oMv, ev_oLst, ev_oLstM, ev_oDct, ev_dFz, ev_dBi, ev_oBi, ev_oBin, ev_gNm, ev_bNo, ev_bSo, ev_dSlF, ev_oSlF, ev_slF, ev_iAnyF, ev_a1P, ev_a1Pp, ev_a1O, ev_a1N, ev_a1L, ev_mNil, ev_mCons, ev_mMeth, ev_mRecv, ev_oKer, ev_oCallM, ev_oMakeM, ev_sSetIxF, ev_sSetAtF, ev_dCallF, ev_dCallHF, ev_sTryF, ev_sRaiseF, ev_uNil, ev_uRet, ev_uIf, ev_uSeq, ev_dIsE, ev_dXf, ev_dXfc, nu_eqI, nu_eqS, nu_add, nu_sub, nu_neg, nu_mul, nu_mulL, nu_div, nu_mod, nu_pow, nu_lt, nu_le, nu_gt, nu_ge, nu_isN, nu_ixL, nu_ixS, nu_ixT, nu_ixIn, nu_at0, nu_at1, nu_at2, nu_at3, nu_at4, nu_lenL, nu_lenS, nu_lenT, nu_int, nu_intB, nu_truI, nu_truB, nu_truN, nu_rg, nu_iR1, nu_iR2, List.length_cons, List.length_nil, List.getElem?_cons_zero, List.getElem?_cons_succ, List.set_cons_zero, List.set_cons_succ, Option.bind_some, Option.bind_none, Option.map_some, Option.map_none, at_, O.get, O.put, putAt, id, m4, chkM, conOf, callF, fill, back, ev, O.frz, ef, eq1]
theorem same8 {t : O} (h : pa.length ≤ 10000) (hd : ∀ x ∈ pa ++ [s], Dk 50 x) : ∃ x4 x5, p__law_same_8 (e0 s pa fu (some t) none none) = .ok (.nx, e0 s pa fu (some t) x4 x5) := by
  obtain ⟨x4, x5, el⟩ := same_loop (s := s) (fu := fu) t hd h
  refine ⟨x4, x5, ?_⟩
  have z2 : rgO ((pa.length : Int) + 1 + 2) = true := nu_rg (by omega) (by omega)
  unfold p__law_same_8 e0
  unfold his mdl at *
  simp [res_ok, res_ex, ev_sSeqF, ev_sIfF, ev_sNx, ev_sSetF, ev_sAsgF, ev_sAugF, ev_sExprF, ev_sRetF, ev_sRetNF, ev_sForD, ev_dConst, ev_dVarF, ev_dVarZ, ev_dVarT, ev_dAtF, ev_dAtT, ev_lName, ev_lIx, ev_lAttr, ev_dBin, ev_dUn, ev_dNotF, ev_dAndF, ev_dOrF, ev_dIteF, ev_tTru, ev_tBl, ev_tAndF, ev_tOrF, ev_tNotF, ev_aNil, ev_aCons, ev_aStar, ev_dSeqF, ev_dChainF, ev_oP, ev_oMv, ev_oLst, ev_oLstM, ev_oDct, ev_dFz, ev_dBi, ev_oBi, ev_oBin, ev_gNm, ev_bNo, ev_bSo, ev_dSlF, ev_oSlF, ev_slF, ev_iAnyF, ev_a1P, ev_a1Pp, ev_a1O, ev_a1N, ev_a1L, ev_mNil, ev_mCons, ev_mMeth, ev_mRecv, ev_oKer, ev_oCallM, ev_oMakeM, ev_sSetIxF, ev_sSetAtF, ev_dCallF, ev_dCallHF, ev_sTryF, ev_sRaiseF, ev_uNil, ev_uRet, ev_uIf, ev_uSeq, ev_dIsE, ev_dXf, ev_dXfc, nu_eqI, nu_eqS, nu_add, nu_sub, nu_neg, nu_mul, nu_mulL, nu_div, nu_mod, nu_pow, nu_lt, nu_le, nu_gt, nu_ge, nu_isN, nu_ixL, nu_ixS, nu_ixT, nu_ixIn, nu_at0, nu_at1, nu_at2, nu_at3, nu_at4, nu_lenL, nu_lenS, nu_lenT, nu_int, nu_intB, nu_truI, nu_truB, nu_truN, nu_rg, nu_iR1, nu_iR2, List.length_cons, List.length_nil, List.getElem?_cons_zero, List.getElem?_cons_succ, List.set_cons_zero, List.set_cons_succ, Option.bind_some, Option.bind_none, Option.map_some, Option.map_none, at_, O.get, O.put, putAt, id, z2, el]
end
theorem same {s : P} {pa fu : List P} (hd : ∀ x ∈ pa ++ [s], Dk 50 x) (h : pa.length ≤ 10000) : F__law_same [his s pa fu, .p (mdl (pa ++ [s]) fu)] = .ok (.p (.s (.bl true))) [(0, his s pa fu)] := by
  have hs := sizeLine_big
  have hpl : pa.length < sizeLine := by omega
  have hp1 : pa.length + 1 < sizeLine := by omega
  obtain ⟨x4, x5, el⟩ := same8 (s := s) (fu := fu) (t := (O.nd .lst (((pa ++ [s]).map O.p ++ [O.p (.s (.str "more"))]).set 0 (O.p (.s (.str "other")))))) h hd
  refine run_rt (ρ := [some (his s pa fu), some (.p (mdl (pa ++ [s]) fu)), none, none, none, none]) (ρ' := e0 s pa fu (some (O.nd .lst (((pa ++ [s]).map O.p ++ [O.p (.s (.str "more"))]).set 0 (O.p (.s (.str "other")))))) x4 x5) rfl ?_ rfl
  unfold b__law_same
  rw [seq_ok (ρ' := e0 s pa fu none none none) (by simp [res_ok, res_ex, ev_sSeqF, ev_sIfF, ev_sNx, ev_sSetF, ev_sAsgF, ev_sAugF, ev_sExprF, ev_sRetF, ev_sRetNF, ev_sForD, ev_dConst, ev_dVarF, ev_dVarZ, ev_dVarT, ev_dAtF, ev_dAtT, ev_lName, ev_lIx, ev_lAttr, ev_dBin, ev_dUn, ev_dNotF, ev_dAndF, ev_dOrF, ev_dIteF, ev_tTru, ev_tBl, ev_tAndF, ev_tOrF, ev_tNotF, ev_aNil, ev_aCons, ev_aStar, ev_dSeqF, ev_dChainF, ev_oP, ev_oMv, ev_oLst, ev_oLstM, ev_oDct, ev_dFz, ev_dBi, ev_oBi, ev_oBin, ev_gNm, ev_bNo, ev_bSo, ev_dSlF, ev_oSlF, ev_slF, ev_iAnyF, ev_a1P, ev_a1Pp, ev_a1O, ev_a1N, ev_a1L, ev_mNil, ev_mCons, ev_mMeth, ev_mRecv, ev_oKer, ev_oCallM, ev_oMakeM, ev_sSetIxF, ev_sSetAtF, ev_dCallF, ev_dCallHF, ev_sTryF, ev_sRaiseF, ev_uNil, ev_uRet, ev_uIf, ev_uSeq, ev_dIsE, ev_dXf, ev_dXfc, nu_eqI, nu_eqS, nu_add, nu_sub, nu_neg, nu_mul, nu_mulL, nu_div, nu_mod, nu_pow, nu_lt, nu_le, nu_gt, nu_ge, nu_isN, nu_ixL, nu_ixS, nu_ixT, nu_ixIn, nu_at0, nu_at1, nu_at2, nu_at3, nu_at4, nu_lenL, nu_lenS, nu_lenT, nu_int, nu_intB, nu_truI, nu_truB, nu_truN, nu_rg, nu_iR1, nu_iR2, List.length_cons, List.length_nil, List.getElem?_cons_zero, List.getElem?_cons_succ, List.set_cons_zero, List.set_cons_succ, Option.bind_some, Option.bind_none, Option.map_some, Option.map_none, at_, O.get, O.put, putAt, id]), seq_ok (same3 hpl), seq_ok (same4 hd), seq_ok (same5 hp1), seq_ok (same6 (by simp)), seq_ok (same7 hpl hd), seq_ok el]
  rfl
end DL.K93

namespace DL.K93
open PySem PySem.Spec L2 DL
theorem cut_init {xs : List P} {x : P} : cutP (xs ++ [x]) none (some (-1)) = xs := by
  unfold cutP HT.sIx
  simp
  rw [show (-1 + ((xs.length : Int) + 1)).toNat = xs.length by omega]
  simp
theorem add_lst {a b : List P} (h : a.length + b.length ≤ sizeLine) : pAdd (.nd .lst a) (.nd .lst b) = some (.nd .lst (a ++ b)) := by
  simp [pAdd, pOr, pI0, pCatS, pCatL, h]
/-- both the histories and the models -/
def Both (n : Nat) (Hs Ms : List O) : Prop := Hs.length = 2 ∧ Ms.length = 2 ∧ ∀ a, a < 2 → ∃ s pa fu, Hs[a]? = some (his s pa fu) ∧ Ms[a]? = some (.p (mdl (pa ++ [s]) fu)) ∧ (∀ x ∈ pa ++ [s], StOk x) ∧ (∀ x ∈ fu, StOk x) ∧ pa.length ≤ n ∧ fu.length ≤ n
theorem Both.step {n a : Nat} {Hs Ms : List O} (h : Both n Hs Ms) (ha : a < 2) {s : P} {pa fu : List P} (h1 : ∀ x ∈ pa ++ [s], StOk x) (h2 : ∀ x ∈ fu, StOk x) (h3 : pa.length ≤ n + 1) (h4 : fu.length ≤ n + 1) : Both (n + 1) (Hs.set a (his s pa fu)) (Ms.set a (.p (mdl (pa ++ [s]) fu))) := by
  obtain ⟨l1, l2, l3⟩ := h
  refine ⟨by simpa using l1, by simpa using l2, fun b hb => ?_⟩
  by_cases e : a = b
  · subst e
    exact ⟨s, pa, fu, by rw [List.getElem?_set_self (by omega)], by rw [List.getElem?_set_self (by omega)], h1, h2, h3, h4⟩
  · obtain ⟨s', pa', fu', k1, k2, k3, k4, k5, k6⟩ := l3 b hb
    exact ⟨s', pa', fu', by rw [List.getElem?_set_ne e]; exact k1, by rw [List.getElem?_set_ne e]; exact k2, k3, k4, by omega, by omega⟩
abbrev eL (x0 x1 x2 : Option O) (Hs Ms : List O) (k : P) (x6 x7 x8 x9 x10 x11 : Option O) : Env := [x0, x1, x2, some (.nd .lst Hs), some (.nd .lst Ms), some (.p k), x6, x7, x8, x9, x10, x11]
section
variable {x0 x1 x2 x6 x7 x8 x9 x10 x11 : Option O} {Hs Ms : List O} {a : Nat} {s d k : P} {pa fu : List P}
theorem ix_a {n a : Nat} (h : a < n) : ixN n (a : Int) = some a := by
  rw [nu_ixIn (by omega) (by omega)]
  simp
theorem st2 (la : a < Ms.length) (e2 : Ms[a]? = some (.p (mdl (pa ++ [s]) fu))) : p_law_2 (eL x0 x1 x2 Hs Ms k (some (.p (.s (.int a)))) x7 x8 x9 x10 x11) = .ok (.nx, eL x0 x1 x2 Hs Ms k (some (.p (.s (.int a)))) x7 x8 (some (.p (.nd .lst (pa ++ [s])))) x10 x11) := by
  have ia := ix_a la
  unfold p_law_2 eL
  simp [res_ok, res_ex, ev_sSeqF, ev_sIfF, ev_sNx, ev_sSetF, ev_sAsgF, ev_sAugF, ev_sExprF, ev_sRetF, ev_sRetNF, ev_sForD, ev_dConst, ev_dVarF, ev_dVarZ, ev_dVarT, ev_dAtF, ev_dAtT, ev_lName, ev_lIx, ev_lAttr, ev_dBin, ev_dUn, ev_dNotF, ev_dAndF, ev_dOrF, ev_dIteF, ev_tTru, ev_tBl, ev_tAndF, ev_tOrF, ev_tNotF, ev_aNil, ev_aCons, ev_aStar, ev_dSeqF, ev_dChainF, ev_oP, ev_oMv, ev_oLst, ev_oLstM, ev_oDct, ev_dFz, ev_dBi, ev_oBi, ev_oBin, ev_gNm, ev_bNo, ev_bSo, ev_dSlF, ev_oSlF, ev_slF, ev_iAnyF, ev_a1P, ev_a1Pp, ev_a1O, ev_a1N, ev_a1L, ev_mNil, ev_mCons, ev_mMeth, ev_mRecv, ev_oKer, ev_oCallM, ev_oMakeM, ev_sSetIxF, ev_sSetAtF, ev_dCallF, ev_dCallHF, ev_sTryF, ev_sRaiseF, ev_uNil, ev_uRet, ev_uIf, ev_uSeq, ev_dIsE, ev_dXf, ev_dXfc, nu_eqI, nu_eqS, nu_add, nu_sub, nu_neg, nu_mul, nu_mulL, nu_div, nu_mod, nu_pow, nu_lt, nu_le, nu_gt, nu_ge, nu_isN, nu_ixL, nu_ixS, nu_ixT, nu_ixIn, nu_at0, nu_at1, nu_at2, nu_at3, nu_at4, nu_lenL, nu_lenS, nu_lenT, nu_int, nu_intB, nu_truI, nu_truB, nu_truN, nu_rg, nu_iR1, nu_iR2, List.length_cons, List.length_nil, List.getElem?_cons_zero, List.getElem?_cons_succ, List.set_cons_zero, List.set_cons_succ, Option.bind_some, Option.bind_none, Option.map_some, Option.map_none, at_, O.get, O.put, putAt, id, ia, e2]
theorem st3 (la : a < Ms.length) (e2 : Ms[a]? = some (.p (mdl (pa ++ [s]) fu))) : p_law_3 (eL x0 x1 x2 Hs Ms k (some (.p (.s (.int a)))) x7 x8 x9 x10 x11) = .ok (.nx, eL x0 x1 x2 Hs Ms k (some (.p (.s (.int a)))) x7 x8 x9 (some (.p (.nd .lst fu))) x11) := by
  have ia := ix_a la
  unfold p_law_3 eL
  simp [res_ok, res_ex, ev_sSeqF, ev_sIfF, ev_sNx, ev_sSetF, ev_sAsgF, ev_sAugF, ev_sExprF, ev_sRetF, ev_sRetNF, ev_sForD, ev_dConst, ev_dVarF, ev_dVarZ, ev_dVarT, ev_dAtF, ev_dAtT, ev_lName, ev_lIx, ev_lAttr, ev_dBin, ev_dUn, ev_dNotF, ev_dAndF, ev_dOrF, ev_dIteF, ev_tTru, ev_tBl, ev_tAndF, ev_tOrF, ev_tNotF, ev_aNil, ev_aCons, ev_aStar, ev_dSeqF, ev_dChainF, ev_oP, ev_oMv, ev_oLst, ev_oLstM, ev_oDct, ev_dFz, ev_dBi, ev_oBi, ev_oBin, ev_gNm, ev_bNo, ev_bSo, ev_dSlF, ev_oSlF, ev_slF, ev_iAnyF, ev_a1P, ev_a1Pp, ev_a1O, ev_a1N, ev_a1L, ev_mNil, ev_mCons, ev_mMeth, ev_mRecv, ev_oKer, ev_oCallM, ev_oMakeM, ev_sSetIxF, ev_sSetAtF, ev_dCallF, ev_dCallHF, ev_sTryF, ev_sRaiseF, ev_uNil, ev_uRet, ev_uIf, ev_uSeq, ev_dIsE, ev_dXf, ev_dXfc, nu_eqI, nu_eqS, nu_add, nu_sub, nu_neg, nu_mul, nu_mulL, nu_div, nu_mod, nu_pow, nu_lt, nu_le, nu_gt, nu_ge, nu_isN, nu_ixL, nu_ixS, nu_ixT, nu_ixIn, nu_at0, nu_at1, nu_at2, nu_at3, nu_at4, nu_lenL, nu_lenS, nu_lenT, nu_int, nu_intB, nu_truI, nu_truB, nu_truN, nu_rg, nu_iR1, nu_iR2, List.length_cons, List.length_nil, List.getElem?_cons_zero, List.getElem?_cons_succ, List.set_cons_zero, List.set_cons_succ, Option.bind_some, Option.bind_none, Option.map_some, Option.map_none, at_, O.get, O.put, putAt, id, ia, e2]

abbrev dnV : P := .s (.str "done")
abbrev ntV : P := .s (.str "nothing")
theorem dd1 : pEq false dnV dnV = some (.s (.bl true)) := by rw [nu_eqS (by decide +kernel) (by decide +kernel)]; simp
theorem dd2 : pEq false ntV dnV = some (.s (.bl false)) := by rw [nu_eqS (by decide +kernel) (by decide +kernel), show (("nothing" : Str) == "done") = false by decide +kernel]; rfl
theorem dd3 : pEq true dnV dnV = some (.s (.bl false)) := by rw [nu_eqS (by decide +kernel) (by decide +kernel)]; simp
theorem dd4 : pEq true ntV ntV = some (.s (.bl false)) := by rw [nu_eqS (by decide +kernel) (by decide +kernel)]; simp
abbrev wI (i : Int) : Option O := some (.p (.s (.int i)))
theorem emp : 0 ≤ sizeLine := Nat.zero_le _
/-- what is due -/
theorem st4_0 {now fut : List P} {w : Option O} : p_law_4 (eL x0 x1 x2 Hs Ms k w (wI 0) x8 x9 x10 x11) = .ok (.nx, eL x0 x1 x2 Hs Ms k w (wI 0) x8 x9 x10 x11) := by
  unfold p_law_4 eL wI
  simp [res_ok, res_ex, ev_sSeqF, ev_sIfF, ev_sNx, ev_sSetF, ev_sAsgF, ev_sAugF, ev_sExprF, ev_sRetF, ev_sRetNF, ev_sForD, ev_dConst, ev_dVarF, ev_dVarZ, ev_dVarT, ev_dAtF, ev_dAtT, ev_lName, ev_lIx, ev_lAttr, ev_dBin, ev_dUn, ev_dNotF, ev_dAndF, ev_dOrF, ev_dIteF, ev_tTru, ev_tBl, ev_tAndF, ev_tOrF, ev_tNotF, ev_aNil, ev_aCons, ev_aStar, ev_dSeqF, ev_dChainF, ev_oP, ev_oMv, ev_oLst, ev_oLstM, ev_oDct, ev_dFz, ev_dBi, ev_oBi, ev_oBin, ev_gNm, ev_bNo, ev_bSo, ev_dSlF, ev_oSlF, ev_slF, ev_iAnyF, ev_a1P, ev_a1Pp, ev_a1O, ev_a1N, ev_a1L, ev_mNil, ev_mCons, ev_mMeth, ev_mRecv, ev_oKer, ev_oCallM, ev_oMakeM, ev_sSetIxF, ev_sSetAtF, ev_dCallF, ev_dCallHF, ev_sTryF, ev_sRaiseF, ev_uNil, ev_uRet, ev_uIf, ev_uSeq, ev_dIsE, ev_dXf, ev_dXfc, nu_eqI, nu_eqS, nu_add, nu_sub, nu_neg, nu_mul, nu_mulL, nu_div, nu_mod, nu_pow, nu_lt, nu_le, nu_gt, nu_ge, nu_isN, nu_ixL, nu_ixS, nu_ixT, nu_ixIn, nu_at0, nu_at1, nu_at2, nu_at3, nu_at4, nu_lenL, nu_lenS, nu_lenT, nu_int, nu_intB, nu_truI, nu_truB, nu_truN, nu_rg, nu_iR1, nu_iR2, List.length_cons, List.length_nil, List.getElem?_cons_zero, List.getElem?_cons_succ, List.set_cons_zero, List.set_cons_succ, Option.bind_some, Option.bind_none, Option.map_some, Option.map_none, at_, O.get, O.put, putAt, id]
theorem st4_1n {fut : P} {w : Option O} : p_law_4 (eL x0 x1 x2 Hs Ms k w (wI 1) x8 (some (.p (.nd .lst ([] ++ [s])))) x10 x11) = .ok (.nx, eL x0 x1 x2 Hs Ms k w (wI 1) x8 (some (.p (.nd .lst ([] ++ [s])))) x10 (some (.p ntV))) := by
  unfold p_law_4 eL wI
  simp [res_ok, res_ex, ev_sSeqF, ev_sIfF, ev_sNx, ev_sSetF, ev_sAsgF, ev_sAugF, ev_sExprF, ev_sRetF, ev_sRetNF, ev_sForD, ev_dConst, ev_dVarF, ev_dVarZ, ev_dVarT, ev_dAtF, ev_dAtT, ev_lName, ev_lIx, ev_lAttr, ev_dBin, ev_dUn, ev_dNotF, ev_dAndF, ev_dOrF, ev_dIteF, ev_tTru, ev_tBl, ev_tAndF, ev_tOrF, ev_tNotF, ev_aNil, ev_aCons, ev_aStar, ev_dSeqF, ev_dChainF, ev_oP, ev_oMv, ev_oLst, ev_oLstM, ev_oDct, ev_dFz, ev_dBi, ev_oBi, ev_oBin, ev_gNm, ev_bNo, ev_bSo, ev_dSlF, ev_oSlF, ev_slF, ev_iAnyF, ev_a1P, ev_a1Pp, ev_a1O, ev_a1N, ev_a1L, ev_mNil, ev_mCons, ev_mMeth, ev_mRecv, ev_oKer, ev_oCallM, ev_oMakeM, ev_sSetIxF, ev_sSetAtF, ev_dCallF, ev_dCallHF, ev_sTryF, ev_sRaiseF, ev_uNil, ev_uRet, ev_uIf, ev_uSeq, ev_dIsE, ev_dXf, ev_dXfc, nu_eqI, nu_eqS, nu_add, nu_sub, nu_neg, nu_mul, nu_mulL, nu_div, nu_mod, nu_pow, nu_lt, nu_le, nu_gt, nu_ge, nu_isN, nu_ixL, nu_ixS, nu_ixT, nu_ixIn, nu_at0, nu_at1, nu_at2, nu_at3, nu_at4, nu_lenL, nu_lenS, nu_lenT, nu_int, nu_intB, nu_truI, nu_truB, nu_truN, nu_rg, nu_iR1, nu_iR2, List.length_cons, List.length_nil, List.getElem?_cons_zero, List.getElem?_cons_succ, List.set_cons_zero, List.set_cons_succ, Option.bind_some, Option.bind_none, Option.map_some, Option.map_none, at_, O.get, O.put, putAt, id]
theorem st4_1 {w : Option O} (h : pa.length ≠ 0) : p_law_4 (eL x0 x1 x2 Hs Ms k w (wI 1) x8 (some (.p (.nd .lst (pa ++ [s])))) x10 x11) = .ok (.nx, eL x0 x1 x2 Hs Ms k w (wI 1) x8 (some (.p (.nd .lst (pa ++ [s])))) x10 x11) := by
  have e : ((pa.length : Int) + 1 == 1) = false := by simp; omega
  unfold p_law_4 eL wI
  simp [res_ok, res_ex, ev_sSeqF, ev_sIfF, ev_sNx, ev_sSetF, ev_sAsgF, ev_sAugF, ev_sExprF, ev_sRetF, ev_sRetNF, ev_sForD, ev_dConst, ev_dVarF, ev_dVarZ, ev_dVarT, ev_dAtF, ev_dAtT, ev_lName, ev_lIx, ev_lAttr, ev_dBin, ev_dUn, ev_dNotF, ev_dAndF, ev_dOrF, ev_dIteF, ev_tTru, ev_tBl, ev_tAndF, ev_tOrF, ev_tNotF, ev_aNil, ev_aCons, ev_aStar, ev_dSeqF, ev_dChainF, ev_oP, ev_oMv, ev_oLst, ev_oLstM, ev_oDct, ev_dFz, ev_dBi, ev_oBi, ev_oBin, ev_gNm, ev_bNo, ev_bSo, ev_dSlF, ev_oSlF, ev_slF, ev_iAnyF, ev_a1P, ev_a1Pp, ev_a1O, ev_a1N, ev_a1L, ev_mNil, ev_mCons, ev_mMeth, ev_mRecv, ev_oKer, ev_oCallM, ev_oMakeM, ev_sSetIxF, ev_sSetAtF, ev_dCallF, ev_dCallHF, ev_sTryF, ev_sRaiseF, ev_uNil, ev_uRet, ev_uIf, ev_uSeq, ev_dIsE, ev_dXf, ev_dXfc, nu_eqI, nu_eqS, nu_add, nu_sub, nu_neg, nu_mul, nu_mulL, nu_div, nu_mod, nu_pow, nu_lt, nu_le, nu_gt, nu_ge, nu_isN, nu_ixL, nu_ixS, nu_ixT, nu_ixIn, nu_at0, nu_at1, nu_at2, nu_at3, nu_at4, nu_lenL, nu_lenS, nu_lenT, nu_int, nu_intB, nu_truI, nu_truB, nu_truN, nu_rg, nu_iR1, nu_iR2, List.length_cons, List.length_nil, List.getElem?_cons_zero, List.getElem?_cons_succ, List.set_cons_zero, List.set_cons_succ, Option.bind_some, Option.bind_none, Option.map_some, Option.map_none, at_, O.get, O.put, putAt, id, e]
theorem st4_2n {w : Option O} : p_law_4 (eL x0 x1 x2 Hs Ms k w (wI 2) x8 x9 (some (.p (.nd .lst []))) x11) = .ok (.nx, eL x0 x1 x2 Hs Ms k w (wI 2) x8 x9 (some (.p (.nd .lst []))) (some (.p ntV))) := by
  have e := pEq_nil (n := false) (ks := []) (fun d h => by cases h)
  have z := emp
  unfold p_law_4 eL wI
  simp [res_ok, res_ex, ev_sSeqF, ev_sIfF, ev_sNx, ev_sSetF, ev_sAsgF, ev_sAugF, ev_sExprF, ev_sRetF, ev_sRetNF, ev_sForD, ev_dConst, ev_dVarF, ev_dVarZ, ev_dVarT, ev_dAtF, ev_dAtT, ev_lName, ev_lIx, ev_lAttr, ev_dBin, ev_dUn, ev_dNotF, ev_dAndF, ev_dOrF, ev_dIteF, ev_tTru, ev_tBl, ev_tAndF, ev_tOrF, ev_tNotF, ev_aNil, ev_aCons, ev_aStar, ev_dSeqF, ev_dChainF, ev_oP, ev_oMv, ev_oLst, ev_oLstM, ev_oDct, ev_dFz, ev_dBi, ev_oBi, ev_oBin, ev_gNm, ev_bNo, ev_bSo, ev_dSlF, ev_oSlF, ev_slF, ev_iAnyF, ev_a1P, ev_a1Pp, ev_a1O, ev_a1N, ev_a1L, ev_mNil, ev_mCons, ev_mMeth, ev_mRecv, ev_oKer, ev_oCallM, ev_oMakeM, ev_sSetIxF, ev_sSetAtF, ev_dCallF, ev_dCallHF, ev_sTryF, ev_sRaiseF, ev_uNil, ev_uRet, ev_uIf, ev_uSeq, ev_dIsE, ev_dXf, ev_dXfc, nu_eqI, nu_eqS, nu_add, nu_sub, nu_neg, nu_mul, nu_mulL, nu_div, nu_mod, nu_pow, nu_lt, nu_le, nu_gt, nu_ge, nu_isN, nu_ixL, nu_ixS, nu_ixT, nu_ixIn, nu_at0, nu_at1, nu_at2, nu_at3, nu_at4, nu_lenL, nu_lenS, nu_lenT, nu_int, nu_intB, nu_truI, nu_truB, nu_truN, nu_rg, nu_iR1, nu_iR2, List.length_cons, List.length_nil, List.getElem?_cons_zero, List.getElem?_cons_succ, List.set_cons_zero, List.set_cons_succ, Option.bind_some, Option.bind_none, Option.map_some, Option.map_none, at_, O.get, O.put, putAt, id, e, z]
theorem st4_2 {w : Option O} (h : ∀ x ∈ fu ++ [d], Dk 60 x) : p_law_4 (eL x0 x1 x2 Hs Ms k w (wI 2) x8 x9 (some (.p (.nd .lst (fu ++ [d])))) x11) = .ok (.nx, eL x0 x1 x2 Hs Ms k w (wI 2) x8 x9 (some (.p (.nd .lst (fu ++ [d])))) x11) := by
  have e := pEq_nil (n := false) h
  have e2 : (fu ++ [d]).isEmpty = false := by simp
  have z := emp
  unfold p_law_4 eL wI
  simp [res_ok, res_ex, ev_sSeqF, ev_sIfF, ev_sNx, ev_sSetF, ev_sAsgF, ev_sAugF, ev_sExprF, ev_sRetF, ev_sRetNF, ev_sForD, ev_dConst, ev_dVarF, ev_dVarZ, ev_dVarT, ev_dAtF, ev_dAtT, ev_lName, ev_lIx, ev_lAttr, ev_dBin, ev_dUn, ev_dNotF, ev_dAndF, ev_dOrF, ev_dIteF, ev_tTru, ev_tBl, ev_tAndF, ev_tOrF, ev_tNotF, ev_aNil, ev_aCons, ev_aStar, ev_dSeqF, ev_dChainF, ev_oP, ev_oMv, ev_oLst, ev_oLstM, ev_oDct, ev_dFz, ev_dBi, ev_oBi, ev_oBin, ev_gNm, ev_bNo, ev_bSo, ev_dSlF, ev_oSlF, ev_slF, ev_iAnyF, ev_a1P, ev_a1Pp, ev_a1O, ev_a1N, ev_a1L, ev_mNil, ev_mCons, ev_mMeth, ev_mRecv, ev_oKer, ev_oCallM, ev_oMakeM, ev_sSetIxF, ev_sSetAtF, ev_dCallF, ev_dCallHF, ev_sTryF, ev_sRaiseF, ev_uNil, ev_uRet, ev_uIf, ev_uSeq, ev_dIsE, ev_dXf, ev_dXfc, nu_eqI, nu_eqS, nu_add, nu_sub, nu_neg, nu_mul, nu_mulL, nu_div, nu_mod, nu_pow, nu_lt, nu_le, nu_gt, nu_ge, nu_isN, nu_ixL, nu_ixS, nu_ixT, nu_ixIn, nu_at0, nu_at1, nu_at2, nu_at3, nu_at4, nu_lenL, nu_lenS, nu_lenT, nu_int, nu_intB, nu_truI, nu_truB, nu_truN, nu_rg, nu_iR1, nu_iR2, List.length_cons, List.length_nil, List.getElem?_cons_zero, List.getElem?_cons_succ, List.set_cons_zero, List.set_cons_succ, Option.bind_some, Option.bind_none, Option.map_some, Option.map_none, at_, O.get, O.put, putAt, id, e, e2, z]
/-- the deed -/
theorem st5 {w : P} {due : V} {h h' : O} (la : a < Hs.length) (e1 : Hs[a]? = some h) (hm : F__law_moved [h, .p w, .p d] = .ok (.p (.s due)) [(0, h')]) (hq : pEq true (.s due) (.s due) = some (.s (.bl false))) : p_law_5 (eL x0 x1 x2 Hs Ms k (wI a) (some (.p w)) (some (.p d)) x9 x10 (some (.p (.s due)))) = .ok (.nx, eL x0 x1 x2 (Hs.set a h') Ms k (wI a) (some (.p w)) (some (.p d)) x9 x10 (some (.p (.s due)))) := by
  have ia := ix_a la
  unfold p_law_5 eL wI
  simp [res_ok, res_ex, ev_sSeqF, ev_sIfF, ev_sNx, ev_sSetF, ev_sAsgF, ev_sAugF, ev_sExprF, ev_sRetF, ev_sRetNF, ev_sForD, ev_dConst, ev_dVarF, ev_dVarZ, ev_dVarT, ev_dAtF, ev_dAtT, ev_lName, ev_lIx, ev_lAttr, ev_dBin, ev_dUn, ev_dNotF, ev_dAndF, ev_dOrF, ev_dIteF, ev_tTru, ev_tBl, ev_tAndF, ev_tOrF, ev_tNotF, ev_aNil, ev_aCons, ev_aStar, ev_dSeqF, ev_dChainF, ev_oP, ev_oMv, ev_oLst, ev_oLstM, ev_oDct, ev_dFz, ev_dBi, ev_oBi, ev_oBin, ev_gNm, ev_bNo, ev_bSo, ev_dSlF, ev_oSlF, ev_slF, ev_iAnyF, ev_a1P, ev_a1Pp, ev_a1O, ev_a1N, ev_a1L, ev_mNil, ev_mCons, ev_mMeth, ev_mRecv, ev_oKer, ev_oCallM, ev_oMakeM, ev_sSetIxF, ev_sSetAtF, ev_dCallF, ev_dCallHF, ev_sTryF, ev_sRaiseF, ev_uNil, ev_uRet, ev_uIf, ev_uSeq, ev_dIsE, ev_dXf, ev_dXfc, nu_eqI, nu_eqS, nu_add, nu_sub, nu_neg, nu_mul, nu_mulL, nu_div, nu_mod, nu_pow, nu_lt, nu_le, nu_gt, nu_ge, nu_isN, nu_ixL, nu_ixS, nu_ixT, nu_ixIn, nu_at0, nu_at1, nu_at2, nu_at3, nu_at4, nu_lenL, nu_lenS, nu_lenT, nu_int, nu_intB, nu_truI, nu_truB, nu_truN, nu_rg, nu_iR1, nu_iR2, List.length_cons, List.length_nil, List.getElem?_cons_zero, List.getElem?_cons_succ, List.set_cons_zero, List.set_cons_succ, Option.bind_some, Option.bind_none, Option.map_some, Option.map_none, at_, O.get, O.put, putAt, id, ia, e1, callF, fill, back, hm, O.frz, hq]
/-- nothing done -/
theorem st6n : p_law_6 (eL x0 x1 x2 Hs Ms k x6 x7 x8 x9 x10 (some (.p ntV))) = .ok (.nx, eL x0 x1 x2 Hs Ms k x6 x7 x8 x9 x10 (some (.p ntV))) := by
  have e := dd2
  unfold p_law_6 eL
  simp [res_ok, res_ex, ev_sSeqF, ev_sIfF, ev_sNx, ev_sSetF, ev_sAsgF, ev_sAugF, ev_sExprF, ev_sRetF, ev_sRetNF, ev_sForD, ev_dConst, ev_dVarF, ev_dVarZ, ev_dVarT, ev_dAtF, ev_dAtT, ev_lName, ev_lIx, ev_lAttr, ev_dBin, ev_dUn, ev_dNotF, ev_dAndF, ev_dOrF, ev_dIteF, ev_tTru, ev_tBl, ev_tAndF, ev_tOrF, ev_tNotF, ev_aNil, ev_aCons, ev_aStar, ev_dSeqF, ev_dChainF, ev_oP, ev_oMv, ev_oLst, ev_oLstM, ev_oDct, ev_dFz, ev_dBi, ev_oBi, ev_oBin, ev_gNm, ev_bNo, ev_bSo, ev_dSlF, ev_oSlF, ev_slF, ev_iAnyF, ev_a1P, ev_a1Pp, ev_a1O, ev_a1N, ev_a1L, ev_mNil, ev_mCons, ev_mMeth, ev_mRecv, ev_oKer, ev_oCallM, ev_oMakeM, ev_sSetIxF, ev_sSetAtF, ev_dCallF, ev_dCallHF, ev_sTryF, ev_sRaiseF, ev_uNil, ev_uRet, ev_uIf, ev_uSeq, ev_dIsE, ev_dXf, ev_dXfc, nu_eqI, nu_eqS, nu_add, nu_sub, nu_neg, nu_mul, nu_mulL, nu_div, nu_mod, nu_pow, nu_lt, nu_le, nu_gt, nu_ge, nu_isN, nu_ixL, nu_ixS, nu_ixT, nu_ixIn, nu_at0, nu_at1, nu_at2, nu_at3, nu_at4, nu_lenL, nu_lenS, nu_lenT, nu_int, nu_intB, nu_truI, nu_truB, nu_truN, nu_rg, nu_iR1, nu_iR2, List.length_cons, List.length_nil, List.getElem?_cons_zero, List.getElem?_cons_succ, List.set_cons_zero, List.set_cons_succ, Option.bind_some, Option.bind_none, Option.map_some, Option.map_none, at_, O.get, O.put, putAt, id, e]
theorem st7n : p_law_7 (eL x0 x1 x2 Hs Ms k x6 x7 x8 x9 x10 (some (.p ntV))) = .ok (.nx, eL x0 x1 x2 Hs Ms k x6 x7 x8 x9 x10 (some (.p ntV))) := by
  have e := dd2
  unfold p_law_7 eL
  simp [res_ok, res_ex, ev_sSeqF, ev_sIfF, ev_sNx, ev_sSetF, ev_sAsgF, ev_sAugF, ev_sExprF, ev_sRetF, ev_sRetNF, ev_sForD, ev_dConst, ev_dVarF, ev_dVarZ, ev_dVarT, ev_dAtF, ev_dAtT, ev_lName, ev_lIx, ev_lAttr, ev_dBin, ev_dUn, ev_dNotF, ev_dAndF, ev_dOrF, ev_dIteF, ev_tTru, ev_tBl, ev_tAndF, ev_tOrF, ev_tNotF, ev_aNil, ev_aCons, ev_aStar, ev_dSeqF, ev_dChainF, ev_oP, ev_oMv, ev_oLst, ev_oLstM, ev_oDct, ev_dFz, ev_dBi, ev_oBi, ev_oBin, ev_gNm, ev_bNo, ev_bSo, ev_dSlF, ev_oSlF, ev_slF, ev_iAnyF, ev_a1P, ev_a1Pp, ev_a1O, ev_a1N, ev_a1L, ev_mNil, ev_mCons, ev_mMeth, ev_mRecv, ev_oKer, ev_oCallM, ev_oMakeM, ev_sSetIxF, ev_sSetAtF, ev_dCallF, ev_dCallHF, ev_sTryF, ev_sRaiseF, ev_uNil, ev_uRet, ev_uIf, ev_uSeq, ev_dIsE, ev_dXf, ev_dXfc, nu_eqI, nu_eqS, nu_add, nu_sub, nu_neg, nu_mul, nu_mulL, nu_div, nu_mod, nu_pow, nu_lt, nu_le, nu_gt, nu_ge, nu_isN, nu_ixL, nu_ixS, nu_ixT, nu_ixIn, nu_at0, nu_at1, nu_at2, nu_at3, nu_at4, nu_lenL, nu_lenS, nu_lenT, nu_int, nu_intB, nu_truI, nu_truB, nu_truN, nu_rg, nu_iR1, nu_iR2, List.length_cons, List.length_nil, List.getElem?_cons_zero, List.getElem?_cons_succ, List.set_cons_zero, List.set_cons_succ, Option.bind_some, Option.bind_none, Option.map_some, Option.map_none, at_, O.get, O.put, putAt, id, e]
theorem st8n : p_law_8 (eL x0 x1 x2 Hs Ms k x6 x7 x8 x9 x10 (some (.p ntV))) = .ok (.nx, eL x0 x1 x2 Hs Ms k x6 x7 x8 x9 x10 (some (.p ntV))) := by
  have e := dd2
  unfold p_law_8 eL
  simp [res_ok, res_ex, ev_sSeqF, ev_sIfF, ev_sNx, ev_sSetF, ev_sAsgF, ev_sAugF, ev_sExprF, ev_sRetF, ev_sRetNF, ev_sForD, ev_dConst, ev_dVarF, ev_dVarZ, ev_dVarT, ev_dAtF, ev_dAtT, ev_lName, ev_lIx, ev_lAttr, ev_dBin, ev_dUn, ev_dNotF, ev_dAndF, ev_dOrF, ev_dIteF, ev_tTru, ev_tBl, ev_tAndF, ev_tOrF, ev_tNotF, ev_aNil, ev_aCons, ev_aStar, ev_dSeqF, ev_dChainF, ev_oP, ev_oMv, ev_oLst, ev_oLstM, ev_oDct, ev_dFz, ev_dBi, ev_oBi, ev_oBin, ev_gNm, ev_bNo, ev_bSo, ev_dSlF, ev_oSlF, ev_slF, ev_iAnyF, ev_a1P, ev_a1Pp, ev_a1O, ev_a1N, ev_a1L, ev_mNil, ev_mCons, ev_mMeth, ev_mRecv, ev_oKer, ev_oCallM, ev_oMakeM, ev_sSetIxF, ev_sSetAtF, ev_dCallF, ev_dCallHF, ev_sTryF, ev_sRaiseF, ev_uNil, ev_uRet, ev_uIf, ev_uSeq, ev_dIsE, ev_dXf, ev_dXfc, nu_eqI, nu_eqS, nu_add, nu_sub, nu_neg, nu_mul, nu_mulL, nu_div, nu_mod, nu_pow, nu_lt, nu_le, nu_gt, nu_ge, nu_isN, nu_ixL, nu_ixS, nu_ixT, nu_ixIn, nu_at0, nu_at1, nu_at2, nu_at3, nu_at4, nu_lenL, nu_lenS, nu_lenT, nu_int, nu_intB, nu_truI, nu_truB, nu_truN, nu_rg, nu_iR1, nu_iR2, List.length_cons, List.length_nil, List.getElem?_cons_zero, List.getElem?_cons_succ, List.set_cons_zero, List.set_cons_succ, Option.bind_some, Option.bind_none, Option.map_some, Option.map_none, at_, O.get, O.put, putAt, id, e]
/-- another way -/
theorem st6o {i : Int} (h : (i == 0) = false) : p_law_6 (eL x0 x1 x2 Hs Ms k x6 (wI i) x8 x9 x10 (some (.p dnV))) = .ok (.nx, eL x0 x1 x2 Hs Ms k x6 (wI i) x8 x9 x10 (some (.p dnV))) := by
  have e := dd1
  unfold p_law_6 eL wI
  simp [res_ok, res_ex, ev_sSeqF, ev_sIfF, ev_sNx, ev_sSetF, ev_sAsgF, ev_sAugF, ev_sExprF, ev_sRetF, ev_sRetNF, ev_sForD, ev_dConst, ev_dVarF, ev_dVarZ, ev_dVarT, ev_dAtF, ev_dAtT, ev_lName, ev_lIx, ev_lAttr, ev_dBin, ev_dUn, ev_dNotF, ev_dAndF, ev_dOrF, ev_dIteF, ev_tTru, ev_tBl, ev_tAndF, ev_tOrF, ev_tNotF, ev_aNil, ev_aCons, ev_aStar, ev_dSeqF, ev_dChainF, ev_oP, ev_oMv, ev_oLst, ev_oLstM, ev_oDct, ev_dFz, ev_dBi, ev_oBi, ev_oBin, ev_gNm, ev_bNo, ev_bSo, ev_dSlF, ev_oSlF, ev_slF, ev_iAnyF, ev_a1P, ev_a1Pp, ev_a1O, ev_a1N, ev_a1L, ev_mNil, ev_mCons, ev_mMeth, ev_mRecv, ev_oKer, ev_oCallM, ev_oMakeM, ev_sSetIxF, ev_sSetAtF, ev_dCallF, ev_dCallHF, ev_sTryF, ev_sRaiseF, ev_uNil, ev_uRet, ev_uIf, ev_uSeq, ev_dIsE, ev_dXf, ev_dXfc, nu_eqI, nu_eqS, nu_add, nu_sub, nu_neg, nu_mul, nu_mulL, nu_div, nu_mod, nu_pow, nu_lt, nu_le, nu_gt, nu_ge, nu_isN, nu_ixL, nu_ixS, nu_ixT, nu_ixIn, nu_at0, nu_at1, nu_at2, nu_at3, nu_at4, nu_lenL, nu_lenS, nu_lenT, nu_int, nu_intB, nu_truI, nu_truB, nu_truN, nu_rg, nu_iR1, nu_iR2, List.length_cons, List.length_nil, List.getElem?_cons_zero, List.getElem?_cons_succ, List.set_cons_zero, List.set_cons_succ, Option.bind_some, Option.bind_none, Option.map_some, Option.map_none, at_, O.get, O.put, putAt, id, e, h]
theorem st7o {i : Int} (h : (i == 1) = false) : p_law_7 (eL x0 x1 x2 Hs Ms k x6 (wI i) x8 x9 x10 (some (.p dnV))) = .ok (.nx, eL x0 x1 x2 Hs Ms k x6 (wI i) x8 x9 x10 (some (.p dnV))) := by
  have e := dd1
  unfold p_law_7 eL wI
  simp [res_ok, res_ex, ev_sSeqF, ev_sIfF, ev_sNx, ev_sSetF, ev_sAsgF, ev_sAugF, ev_sExprF, ev_sRetF, ev_sRetNF, ev_sForD, ev_dConst, ev_dVarF, ev_dVarZ, ev_dVarT, ev_dAtF, ev_dAtT, ev_lName, ev_lIx, ev_lAttr, ev_dBin, ev_dUn, ev_dNotF, ev_dAndF, ev_dOrF, ev_dIteF, ev_tTru, ev_tBl, ev_tAndF, ev_tOrF, ev_tNotF, ev_aNil, ev_aCons, ev_aStar, ev_dSeqF, ev_dChainF, ev_oP, ev_oMv, ev_oLst, ev_oLstM, ev_oDct, ev_dFz, ev_dBi, ev_oBi, ev_oBin, ev_gNm, ev_bNo, ev_bSo, ev_dSlF, ev_oSlF, ev_slF, ev_iAnyF, ev_a1P, ev_a1Pp, ev_a1O, ev_a1N, ev_a1L, ev_mNil, ev_mCons, ev_mMeth, ev_mRecv, ev_oKer, ev_oCallM, ev_oMakeM, ev_sSetIxF, ev_sSetAtF, ev_dCallF, ev_dCallHF, ev_sTryF, ev_sRaiseF, ev_uNil, ev_uRet, ev_uIf, ev_uSeq, ev_dIsE, ev_dXf, ev_dXfc, nu_eqI, nu_eqS, nu_add, nu_sub, nu_neg, nu_mul, nu_mulL, nu_div, nu_mod, nu_pow, nu_lt, nu_le, nu_gt, nu_ge, nu_isN, nu_ixL, nu_ixS, nu_ixT, nu_ixIn, nu_at0, nu_at1, nu_at2, nu_at3, nu_at4, nu_lenL, nu_lenS, nu_lenT, nu_int, nu_intB, nu_truI, nu_truB, nu_truN, nu_rg, nu_iR1, nu_iR2, List.length_cons, List.length_nil, List.getElem?_cons_zero, List.getElem?_cons_succ, List.set_cons_zero, List.set_cons_succ, Option.bind_some, Option.bind_none, Option.map_some, Option.map_none, at_, O.get, O.put, putAt, id, e, h]
theorem st8o {i : Int} (h : (i == 2) = false) : p_law_8 (eL x0 x1 x2 Hs Ms k x6 (wI i) x8 x9 x10 (some (.p dnV))) = .ok (.nx, eL x0 x1 x2 Hs Ms k x6 (wI i) x8 x9 x10 (some (.p dnV))) := by
  have e := dd1
  unfold p_law_8 eL wI
  simp [res_ok, res_ex, ev_sSeqF, ev_sIfF, ev_sNx, ev_sSetF, ev_sAsgF, ev_sAugF, ev_sExprF, ev_sRetF, ev_sRetNF, ev_sForD, ev_dConst, ev_dVarF, ev_dVarZ, ev_dVarT, ev_dAtF, ev_dAtT, ev_lName, ev_lIx, ev_lAttr, ev_dBin, ev_dUn, ev_dNotF, ev_dAndF, ev_dOrF, ev_dIteF, ev_tTru, ev_tBl, ev_tAndF, ev_tOrF, ev_tNotF, ev_aNil, ev_aCons, ev_aStar, ev_dSeqF, ev_dChainF, ev_oP, ev_oMv, ev_oLst, ev_oLstM, ev_oDct, ev_dFz, ev_dBi, ev_oBi, ev_oBin, ev_gNm, ev_bNo, ev_bSo, ev_dSlF, ev_oSlF, ev_slF, ev_iAnyF, ev_a1P, ev_a1Pp, ev_a1O, ev_a1N, ev_a1L, ev_mNil, ev_mCons, ev_mMeth, ev_mRecv, ev_oKer, ev_oCallM, ev_oMakeM, ev_sSetIxF, ev_sSetAtF, ev_dCallF, ev_dCallHF, ev_sTryF, ev_sRaiseF, ev_uNil, ev_uRet, ev_uIf, ev_uSeq, ev_dIsE, ev_dXf, ev_dXfc, nu_eqI, nu_eqS, nu_add, nu_sub, nu_neg, nu_mul, nu_mulL, nu_div, nu_mod, nu_pow, nu_lt, nu_le, nu_gt, nu_ge, nu_isN, nu_ixL, nu_ixS, nu_ixT, nu_ixIn, nu_at0, nu_at1, nu_at2, nu_at3, nu_at4, nu_lenL, nu_lenS, nu_lenT, nu_int, nu_intB, nu_truI, nu_truB, nu_truN, nu_rg, nu_iR1, nu_iR2, List.length_cons, List.length_nil, List.getElem?_cons_zero, List.getElem?_cons_succ, List.set_cons_zero, List.set_cons_succ, Option.bind_some, Option.bind_none, Option.map_some, Option.map_none, at_, O.get, O.put, putAt, id, e, h]
/-- the model's deed -/
theorem st6 (la : a < Ms.length) (hz : pa.length + 2 ≤ sizeLine) : p_law_6 (eL x0 x1 x2 Hs Ms k (wI a) (wI 0) (some (.p d)) (some (.p (.nd .lst (pa ++ [s])))) x10 (some (.p dnV))) = .ok (.nx, eL x0 x1 x2 Hs (Ms.set a (.p (mdl ((pa ++ [s]) ++ [d]) []))) k (wI a) (wI 0) (some (.p d)) (some (.p (.nd .lst (pa ++ [s])))) x10 (some (.p dnV))) := by
  have e := dd1
  have ia := ix_a la
  have z0 := emp
  have z1 : 1 ≤ sizeLine := by have := sizeLine_big; omega
  have z2 : 2 ≤ sizeLine := by have := sizeLine_big; omega
  have ad := add_lst (a := pa ++ [s]) (b := [d]) (by simpa using hz)
  unfold p_law_6 eL wI mdl
  simp only [List.append_assoc] at ad ⊢
  simp [res_ok, res_ex, ev_sSeqF, ev_sIfF, ev_sNx, ev_sSetF, ev_sAsgF, ev_sAugF, ev_sExprF, ev_sRetF, ev_sRetNF, ev_sForD, ev_dConst, ev_dVarF, ev_dVarZ, ev_dVarT, ev_dAtF, ev_dAtT, ev_lName, ev_lIx, ev_lAttr, ev_dBin, ev_dUn, ev_dNotF, ev_dAndF, ev_dOrF, ev_dIteF, ev_tTru, ev_tBl, ev_tAndF, ev_tOrF, ev_tNotF, ev_aNil, ev_aCons, ev_aStar, ev_dSeqF, ev_dChainF, ev_oP, ev_oMv, ev_oLst, ev_oLstM, ev_oDct, ev_dFz, ev_dBi, ev_oBi, ev_oBin, ev_gNm, ev_bNo, ev_bSo, ev_dSlF, ev_oSlF, ev_slF, ev_iAnyF, ev_a1P, ev_a1Pp, ev_a1O, ev_a1N, ev_a1L, ev_mNil, ev_mCons, ev_mMeth, ev_mRecv, ev_oKer, ev_oCallM, ev_oMakeM, ev_sSetIxF, ev_sSetAtF, ev_dCallF, ev_dCallHF, ev_sTryF, ev_sRaiseF, ev_uNil, ev_uRet, ev_uIf, ev_uSeq, ev_dIsE, ev_dXf, ev_dXfc, nu_eqI, nu_eqS, nu_add, nu_sub, nu_neg, nu_mul, nu_mulL, nu_div, nu_mod, nu_pow, nu_lt, nu_le, nu_gt, nu_ge, nu_isN, nu_ixL, nu_ixS, nu_ixT, nu_ixIn, nu_at0, nu_at1, nu_at2, nu_at3, nu_at4, nu_lenL, nu_lenS, nu_lenT, nu_int, nu_intB, nu_truI, nu_truB, nu_truN, nu_rg, nu_iR1, nu_iR2, List.length_cons, List.length_nil, List.getElem?_cons_zero, List.getElem?_cons_succ, List.set_cons_zero, List.set_cons_succ, Option.bind_some, Option.bind_none, Option.map_some, Option.map_none, at_, O.get, O.put, putAt, id, e, ia, z0, z1, z2, ad, setN]
theorem st7 (la : a < Ms.length) (hz : fu.length + 1 ≤ sizeLine) : p_law_7 (eL x0 x1 x2 Hs Ms k (wI a) (wI 1) x8 (some (.p (.nd .lst (pa ++ [s])))) (some (.p (.nd .lst fu))) (some (.p dnV))) = .ok (.nx, eL x0 x1 x2 Hs (Ms.set a (.p (mdl pa (fu ++ [s])))) k (wI a) (wI 1) x8 (some (.p (.nd .lst (pa ++ [s])))) (some (.p (.nd .lst fu))) (some (.p dnV))) := by
  have e := dd1
  have ia := ix_a la
  have z0 := emp
  have z1 : 1 ≤ sizeLine := by have := sizeLine_big; omega
  have z2 : 2 ≤ sizeLine := by have := sizeLine_big; omega
  have ad := add_lst (a := fu) (b := [s]) (by simpa using hz)
  have ci := cut_init (xs := pa) (x := s)
  have al := at_last (pa := pa) (s := s)
  unfold p_law_7 eL wI mdl
  simp [res_ok, res_ex, ev_sSeqF, ev_sIfF, ev_sNx, ev_sSetF, ev_sAsgF, ev_sAugF, ev_sExprF, ev_sRetF, ev_sRetNF, ev_sForD, ev_dConst, ev_dVarF, ev_dVarZ, ev_dVarT, ev_dAtF, ev_dAtT, ev_lName, ev_lIx, ev_lAttr, ev_dBin, ev_dUn, ev_dNotF, ev_dAndF, ev_dOrF, ev_dIteF, ev_tTru, ev_tBl, ev_tAndF, ev_tOrF, ev_tNotF, ev_aNil, ev_aCons, ev_aStar, ev_dSeqF, ev_dChainF, ev_oP, ev_oMv, ev_oLst, ev_oLstM, ev_oDct, ev_dFz, ev_dBi, ev_oBi, ev_oBin, ev_gNm, ev_bNo, ev_bSo, ev_dSlF, ev_oSlF, ev_slF, ev_iAnyF, ev_a1P, ev_a1Pp, ev_a1O, ev_a1N, ev_a1L, ev_mNil, ev_mCons, ev_mMeth, ev_mRecv, ev_oKer, ev_oCallM, ev_oMakeM, ev_sSetIxF, ev_sSetAtF, ev_dCallF, ev_dCallHF, ev_sTryF, ev_sRaiseF, ev_uNil, ev_uRet, ev_uIf, ev_uSeq, ev_dIsE, ev_dXf, ev_dXfc, nu_eqI, nu_eqS, nu_add, nu_sub, nu_neg, nu_mul, nu_mulL, nu_div, nu_mod, nu_pow, nu_lt, nu_le, nu_gt, nu_ge, nu_isN, nu_ixL, nu_ixS, nu_ixT, nu_ixIn, nu_at0, nu_at1, nu_at2, nu_at3, nu_at4, nu_lenL, nu_lenS, nu_lenT, nu_int, nu_intB, nu_truI, nu_truB, nu_truN, nu_rg, nu_iR1, nu_iR2, List.length_cons, List.length_nil, List.getElem?_cons_zero, List.getElem?_cons_succ, List.set_cons_zero, List.set_cons_succ, Option.bind_some, Option.bind_none, Option.map_some, Option.map_none, at_, O.get, O.put, putAt, id, e, ia, z0, z1, z2, ad, setN, pSl, ci, al]
theorem st8 (la : a < Ms.length) (hz : pa.length + 2 ≤ sizeLine) : p_law_8 (eL x0 x1 x2 Hs Ms k (wI a) (wI 2) x8 (some (.p (.nd .lst (pa ++ [s])))) (some (.p (.nd .lst (fu ++ [d])))) (some (.p dnV))) = .ok (.nx, eL x0 x1 x2 Hs (Ms.set a (.p (mdl ((pa ++ [s]) ++ [d]) fu))) k (wI a) (wI 2) x8 (some (.p (.nd .lst (pa ++ [s])))) (some (.p (.nd .lst (fu ++ [d])))) (some (.p dnV))) := by
  have e := dd1
  have ia := ix_a la
  have z0 := emp
  have z1 : 1 ≤ sizeLine := by have := sizeLine_big; omega
  have z2 : 2 ≤ sizeLine := by have := sizeLine_big; omega
  have ad := add_lst (a := pa ++ [s]) (b := [d]) (by simpa using hz)
  have ci := cut_init (xs := fu) (x := d)
  have al := at_last (pa := fu) (s := d)
  unfold p_law_8 eL wI mdl
  simp only [List.append_assoc] at ad ⊢
  simp [res_ok, res_ex, ev_sSeqF, ev_sIfF, ev_sNx, ev_sSetF, ev_sAsgF, ev_sAugF, ev_sExprF, ev_sRetF, ev_sRetNF, ev_sForD, ev_dConst, ev_dVarF, ev_dVarZ, ev_dVarT, ev_dAtF, ev_dAtT, ev_lName, ev_lIx, ev_lAttr, ev_dBin, ev_dUn, ev_dNotF, ev_dAndF, ev_dOrF, ev_dIteF, ev_tTru, ev_tBl, ev_tAndF, ev_tOrF, ev_tNotF, ev_aNil, ev_aCons, ev_aStar, ev_dSeqF, ev_dChainF, ev_oP, ev_oMv, ev_oLst, ev_oLstM, ev_oDct, ev_dFz, ev_dBi, ev_oBi, ev_oBin, ev_gNm, ev_bNo, ev_bSo, ev_dSlF, ev_oSlF, ev_slF, ev_iAnyF, ev_a1P, ev_a1Pp, ev_a1O, ev_a1N, ev_a1L, ev_mNil, ev_mCons, ev_mMeth, ev_mRecv, ev_oKer, ev_oCallM, ev_oMakeM, ev_sSetIxF, ev_sSetAtF, ev_dCallF, ev_dCallHF, ev_sTryF, ev_sRaiseF, ev_uNil, ev_uRet, ev_uIf, ev_uSeq, ev_dIsE, ev_dXf, ev_dXfc, nu_eqI, nu_eqS, nu_add, nu_sub, nu_neg, nu_mul, nu_mulL, nu_div, nu_mod, nu_pow, nu_lt, nu_le, nu_gt, nu_ge, nu_isN, nu_ixL, nu_ixS, nu_ixT, nu_ixIn, nu_at0, nu_at1, nu_at2, nu_at3, nu_at4, nu_lenL, nu_lenS, nu_lenT, nu_int, nu_intB, nu_truI, nu_truB, nu_truN, nu_rg, nu_iR1, nu_iR2, List.length_cons, List.length_nil, List.getElem?_cons_zero, List.getElem?_cons_succ, List.set_cons_zero, List.set_cons_succ, Option.bind_some, Option.bind_none, Option.map_some, Option.map_none, at_, O.get, O.put, putAt, id, e, ia, z0, z1, z2, ad, setN, pSl, ci, al]
/-- the comparisons -/
theorem st9 (la : a < Hs.length) (lb : a < Ms.length) (e1 : Hs[a]? = some (his s pa fu)) (e2 : Ms[a]? = some (.p (mdl (pa ++ [s]) fu))) (hd : ∀ x ∈ pa ++ [s], Dk 50 x) (h : pa.length ≤ 10000) {i : Int} : p_law_9 (eL x0 x1 x2 Hs Ms (.s (.int i)) (wI a) x7 x8 x9 x10 x11) = .ok (.nx, eL x0 x1 x2 Hs Ms (.s (.int i)) (wI a) x7 x8 x9 x10 x11) := by
  have ia := ix_a la
  have ib := ix_a lb
  have sm := same (fu := fu) hd h
  have ss : Hs.set a (his s pa fu) = Hs := set_same e1
  unfold p_law_9 eL wI
  by_cases h5 : (i % 5 == 0) = true
  · simp [res_ok, res_ex, ev_sSeqF, ev_sIfF, ev_sNx, ev_sSetF, ev_sAsgF, ev_sAugF, ev_sExprF, ev_sRetF, ev_sRetNF, ev_sForD, ev_dConst, ev_dVarF, ev_dVarZ, ev_dVarT, ev_dAtF, ev_dAtT, ev_lName, ev_lIx, ev_lAttr, ev_dBin, ev_dUn, ev_dNotF, ev_dAndF, ev_dOrF, ev_dIteF, ev_tTru, ev_tBl, ev_tAndF, ev_tOrF, ev_tNotF, ev_aNil, ev_aCons, ev_aStar, ev_dSeqF, ev_dChainF, ev_oP, ev_oMv, ev_oLst, ev_oLstM, ev_oDct, ev_dFz, ev_dBi, ev_oBi, ev_oBin, ev_gNm, ev_bNo, ev_bSo, ev_dSlF, ev_oSlF, ev_slF, ev_iAnyF, ev_a1P, ev_a1Pp, ev_a1O, ev_a1N, ev_a1L, ev_mNil, ev_mCons, ev_mMeth, ev_mRecv, ev_oKer, ev_oCallM, ev_oMakeM, ev_sSetIxF, ev_sSetAtF, ev_dCallF, ev_dCallHF, ev_sTryF, ev_sRaiseF, ev_uNil, ev_uRet, ev_uIf, ev_uSeq, ev_dIsE, ev_dXf, ev_dXfc, nu_eqI, nu_eqS, nu_add, nu_sub, nu_neg, nu_mul, nu_mulL, nu_div, nu_mod, nu_pow, nu_lt, nu_le, nu_gt, nu_ge, nu_isN, nu_ixL, nu_ixS, nu_ixT, nu_ixIn, nu_at0, nu_at1, nu_at2, nu_at3, nu_at4, nu_lenL, nu_lenS, nu_lenT, nu_int, nu_intB, nu_truI, nu_truB, nu_truN, nu_rg, nu_iR1, nu_iR2, List.length_cons, List.length_nil, List.getElem?_cons_zero, List.getElem?_cons_succ, List.set_cons_zero, List.set_cons_succ, Option.bind_some, Option.bind_none, Option.map_some, Option.map_none, at_, O.get, O.put, putAt, id, ia, ib, e1, e2, h5, callF, fill, back, sm, O.frz, ss]
  · have h6 : (i % 5 == 0) = false := by simpa using h5
    simp [res_ok, res_ex, ev_sSeqF, ev_sIfF, ev_sNx, ev_sSetF, ev_sAsgF, ev_sAugF, ev_sExprF, ev_sRetF, ev_sRetNF, ev_sForD, ev_dConst, ev_dVarF, ev_dVarZ, ev_dVarT, ev_dAtF, ev_dAtT, ev_lName, ev_lIx, ev_lAttr, ev_dBin, ev_dUn, ev_dNotF, ev_dAndF, ev_dOrF, ev_dIteF, ev_tTru, ev_tBl, ev_tAndF, ev_tOrF, ev_tNotF, ev_aNil, ev_aCons, ev_aStar, ev_dSeqF, ev_dChainF, ev_oP, ev_oMv, ev_oLst, ev_oLstM, ev_oDct, ev_dFz, ev_dBi, ev_oBi, ev_oBin, ev_gNm, ev_bNo, ev_bSo, ev_dSlF, ev_oSlF, ev_slF, ev_iAnyF, ev_a1P, ev_a1Pp, ev_a1O, ev_a1N, ev_a1L, ev_mNil, ev_mCons, ev_mMeth, ev_mRecv, ev_oKer, ev_oCallM, ev_oMakeM, ev_sSetIxF, ev_sSetAtF, ev_dCallF, ev_dCallHF, ev_sTryF, ev_sRaiseF, ev_uNil, ev_uRet, ev_uIf, ev_uSeq, ev_dIsE, ev_dXf, ev_dXfc, nu_eqI, nu_eqS, nu_add, nu_sub, nu_neg, nu_mul, nu_mulL, nu_div, nu_mod, nu_pow, nu_lt, nu_le, nu_gt, nu_ge, nu_isN, nu_ixL, nu_ixS, nu_ixT, nu_ixIn, nu_at0, nu_at1, nu_at2, nu_at3, nu_at4, nu_lenL, nu_lenS, nu_lenT, nu_int, nu_intB, nu_truI, nu_truB, nu_truN, nu_rg, nu_iR1, nu_iR2, List.length_cons, List.length_nil, List.getElem?_cons_zero, List.getElem?_cons_succ, List.set_cons_zero, List.set_cons_succ, Option.bind_some, Option.bind_none, Option.map_some, Option.map_none, at_, O.get, O.put, putAt, id, ia, ib, e1, e2, h6]
theorem st10 (la : a < Hs.length) (lb : a < Ms.length) (e1 : Hs[a]? = some (his s pa fu)) (e2 : Ms[a]? = some (.p (mdl (pa ++ [s]) fu))) (hd : ∀ x ∈ pa ++ [s], Dk 50 x) : p_law_10 (eL x0 x1 x2 Hs Ms k (wI a) x7 x8 x9 x10 x11) = .ok (.nx, eL x0 x1 x2 Hs Ms k (wI a) x7 x8 x9 x10 x11) := by
  have ia := ix_a la
  have ib := ix_a lb
  have eq2 := pEq_refl (n := true) (Dk.mono (hd s (by simp)) (m := 64) (by omega))
  have al := at_last (pa := pa) (s := s)
  unfold p_law_10 eL wI
  unfold his mdl at *
  simp [res_ok, res_ex, ev_sSeqF, ev_sIfF, ev_sNx, ev_sSetF, ev_sAsgF, ev_sAugF, ev_sExprF, ev_sRetF, ev_sRetNF, ev_sForD, ev_dConst, ev_dVarF, ev_dVarZ, ev_dVarT, ev_dAtF, ev_dAtT, ev_lName, ev_lIx, ev_lAttr, ev_dBin, ev_dUn, ev_dNotF, ev_dAndF, ev_dOrF, ev_dIteF, ev_tTru, ev_tBl, ev_tAndF, ev_tOrF, ev_tNotF, ev_aNil, ev_aCons, ev_aStar, ev_dSeqF, ev_dChainF, ev_oP, ev_oMv, ev_oLst, ev_oLstM, ev_oDct, ev_dFz, ev_dBi, ev_oBi, ev_oBin, ev_gNm, ev_bNo, ev_bSo, ev_dSlF, ev_oSlF, ev_slF, ev_iAnyF, ev_a1P, ev_a1Pp, ev_a1O, ev_a1N, ev_a1L, ev_mNil, ev_mCons, ev_mMeth, ev_mRecv, ev_oKer, ev_oCallM, ev_oMakeM, ev_sSetIxF, ev_sSetAtF, ev_dCallF, ev_dCallHF, ev_sTryF, ev_sRaiseF, ev_uNil, ev_uRet, ev_uIf, ev_uSeq, ev_dIsE, ev_dXf, ev_dXfc, nu_eqI, nu_eqS, nu_add, nu_sub, nu_neg, nu_mul, nu_mulL, nu_div, nu_mod, nu_pow, nu_lt, nu_le, nu_gt, nu_ge, nu_isN, nu_ixL, nu_ixS, nu_ixT, nu_ixIn, nu_at0, nu_at1, nu_at2, nu_at3, nu_at4, nu_lenL, nu_lenS, nu_lenT, nu_int, nu_intB, nu_truI, nu_truB, nu_truN, nu_rg, nu_iR1, nu_iR2, List.length_cons, List.length_nil, List.getElem?_cons_zero, List.getElem?_cons_succ, List.set_cons_zero, List.set_cons_succ, Option.bind_some, Option.bind_none, Option.map_some, Option.map_none, at_, O.get, O.put, putAt, id, ia, ib, e1, e2, i0, eq2, al]
end
end DL.K93

namespace DL.K93
open PySem PySem.Spec L2 DL
section
variable {x0 x1 x2 x6 x7 x8 x9 x10 x11 : Option O} {Hs Ms : List O} {s d k : P} {pa fu : List P} {o o' : O}
theorem st0 {r : Int} (h : F__law_draw [o, .p (.s (.int 4))] = .ok (.p (.s (.int r))) [(0, o')]) : p_law_0 (eL x0 (some o) x2 Hs Ms k x6 x7 x8 x9 x10 x11) = .ok (.nx, eL x0 (some o') x2 Hs Ms k (wI ((if r = 0 then 1 else 0 : Nat) : Int)) x7 x8 x9 x10 x11) := by
  unfold p_law_0 eL wI
  by_cases e : r = 0
  · simp [res_ok, res_ex, ev_sSeqF, ev_sIfF, ev_sNx, ev_sSetF, ev_sAsgF, ev_sAugF, ev_sExprF, ev_sRetF, ev_sRetNF, ev_sForD, ev_dConst, ev_dVarF, ev_dVarZ, ev_dVarT, ev_dAtF, ev_dAtT, ev_lName, ev_lIx, ev_lAttr, ev_dBin, ev_dUn, ev_dNotF, ev_dAndF, ev_dOrF, ev_dIteF, ev_tTru, ev_tBl, ev_tAndF, ev_tOrF, ev_tNotF, ev_aNil, ev_aCons, ev_aStar, ev_dSeqF, ev_dChainF, ev_oP, ev_oMv, ev_oLst, ev_oLstM, ev_oDct, ev_dFz, ev_dBi, ev_oBi, ev_oBin, ev_gNm, ev_bNo, ev_bSo, ev_dSlF, ev_oSlF, ev_slF, ev_iAnyF, ev_a1P, ev_a1Pp, ev_a1O, ev_a1N, ev_a1L, ev_mNil, ev_mCons, ev_mMeth, ev_mRecv, ev_oKer, ev_oCallM, ev_oMakeM, ev_sSetIxF, ev_sSetAtF, ev_dCallF, ev_dCallHF, ev_sTryF, ev_sRaiseF, ev_uNil, ev_uRet, ev_uIf, ev_uSeq, ev_dIsE, ev_dXf, ev_dXfc, nu_eqI, nu_eqS, nu_add, nu_sub, nu_neg, nu_mul, nu_mulL, nu_div, nu_mod, nu_pow, nu_lt, nu_le, nu_gt, nu_ge, nu_isN, nu_ixL, nu_ixS, nu_ixT, nu_ixIn, nu_at0, nu_at1, nu_at2, nu_at3, nu_at4, nu_lenL, nu_lenS, nu_lenT, nu_int, nu_intB, nu_truI, nu_truB, nu_truN, nu_rg, nu_iR1, nu_iR2, List.length_cons, List.length_nil, List.getElem?_cons_zero, List.getElem?_cons_succ, List.set_cons_zero, List.set_cons_succ, Option.bind_some, Option.bind_none, Option.map_some, Option.map_none, at_, O.get, O.put, putAt, id, callF, fill, back, h, O.frz, e]
  · have e2 : (r == 0) = false := by simpa using e
    simp [res_ok, res_ex, ev_sSeqF, ev_sIfF, ev_sNx, ev_sSetF, ev_sAsgF, ev_sAugF, ev_sExprF, ev_sRetF, ev_sRetNF, ev_sForD, ev_dConst, ev_dVarF, ev_dVarZ, ev_dVarT, ev_dAtF, ev_dAtT, ev_lName, ev_lIx, ev_lAttr, ev_dBin, ev_dUn, ev_dNotF, ev_dAndF, ev_dOrF, ev_dIteF, ev_tTru, ev_tBl, ev_tAndF, ev_tOrF, ev_tNotF, ev_aNil, ev_aCons, ev_aStar, ev_dSeqF, ev_dChainF, ev_oP, ev_oMv, ev_oLst, ev_oLstM, ev_oDct, ev_dFz, ev_dBi, ev_oBi, ev_oBin, ev_gNm, ev_bNo, ev_bSo, ev_dSlF, ev_oSlF, ev_slF, ev_iAnyF, ev_a1P, ev_a1Pp, ev_a1O, ev_a1N, ev_a1L, ev_mNil, ev_mCons, ev_mMeth, ev_mRecv, ev_oKer, ev_oCallM, ev_oMakeM, ev_sSetIxF, ev_sSetAtF, ev_dCallF, ev_dCallHF, ev_sTryF, ev_sRaiseF, ev_uNil, ev_uRet, ev_uIf, ev_uSeq, ev_dIsE, ev_dXf, ev_dXfc, nu_eqI, nu_eqS, nu_add, nu_sub, nu_neg, nu_mul, nu_mulL, nu_div, nu_mod, nu_pow, nu_lt, nu_le, nu_gt, nu_ge, nu_isN, nu_ixL, nu_ixS, nu_ixT, nu_ixIn, nu_at0, nu_at1, nu_at2, nu_at3, nu_at4, nu_lenL, nu_lenS, nu_lenT, nu_int, nu_intB, nu_truI, nu_truB, nu_truN, nu_rg, nu_iR1, nu_iR2, List.length_cons, List.length_nil, List.getElem?_cons_zero, List.getElem?_cons_succ, List.set_cons_zero, List.set_cons_succ, Option.bind_some, Option.bind_none, Option.map_some, Option.map_none, at_, O.get, O.put, putAt, id, callF, fill, back, h, O.frz, e, e2]
theorem st1 {w : P} (h : F__law_pick [o, .p (.nd .lst [.s (.int 0), .s (.int 0), .s (.int 0), .s (.int 1), .s (.int 1), .s (.int 2), .s (.int 2)])] = .ok (.p w) [(0, o')]) : p_law_1 (eL x0 (some o) x2 Hs Ms k x6 x7 x8 x9 x10 x11) = .ok (.nx, eL x0 (some o') x2 Hs Ms k x6 (some (.p w)) x8 x9 x10 x11) := by
  have z : 7 ≤ sizeLine := by have := sizeLine_big; omega
  unfold p_law_1 eL
  simp [res_ok, res_ex, ev_sSeqF, ev_sIfF, ev_sNx, ev_sSetF, ev_sAsgF, ev_sAugF, ev_sExprF, ev_sRetF, ev_sRetNF, ev_sForD, ev_dConst, ev_dVarF, ev_dVarZ, ev_dVarT, ev_dAtF, ev_dAtT, ev_lName, ev_lIx, ev_lAttr, ev_dBin, ev_dUn, ev_dNotF, ev_dAndF, ev_dOrF, ev_dIteF, ev_tTru, ev_tBl, ev_tAndF, ev_tOrF, ev_tNotF, ev_aNil, ev_aCons, ev_aStar, ev_dSeqF, ev_dChainF, ev_oP, ev_oMv, ev_oLst, ev_oLstM, ev_oDct, ev_dFz, ev_dBi, ev_oBi, ev_oBin, ev_gNm, ev_bNo, ev_bSo, ev_dSlF, ev_oSlF, ev_slF, ev_iAnyF, ev_a1P, ev_a1Pp, ev_a1O, ev_a1N, ev_a1L, ev_mNil, ev_mCons, ev_mMeth, ev_mRecv, ev_oKer, ev_oCallM, ev_oMakeM, ev_sSetIxF, ev_sSetAtF, ev_dCallF, ev_dCallHF, ev_sTryF, ev_sRaiseF, ev_uNil, ev_uRet, ev_uIf, ev_uSeq, ev_dIsE, ev_dXf, ev_dXfc, nu_eqI, nu_eqS, nu_add, nu_sub, nu_neg, nu_mul, nu_mulL, nu_div, nu_mod, nu_pow, nu_lt, nu_le, nu_gt, nu_ge, nu_isN, nu_ixL, nu_ixS, nu_ixT, nu_ixIn, nu_at0, nu_at1, nu_at2, nu_at3, nu_at4, nu_lenL, nu_lenS, nu_lenT, nu_int, nu_intB, nu_truI, nu_truB, nu_truN, nu_rg, nu_iR1, nu_iR2, List.length_cons, List.length_nil, List.getElem?_cons_zero, List.getElem?_cons_succ, List.set_cons_zero, List.set_cons_succ, Option.bind_some, Option.bind_none, Option.map_some, Option.map_none, at_, O.get, O.put, putAt, id, callF, fill, back, h, O.frz, z]
theorem st1b (h : F__law_state [o] = .ok (.p d) [(0, o')]) : (sSetF 8 (oCallM 1 F__law_state (mCons (a1N 1) mNil))) (eL x0 (some o) x2 Hs Ms k x6 x7 x8 x9 x10 x11) = .ok (.nx, eL x0 (some o') x2 Hs Ms k x6 x7 (some (.p d)) x9 x10 x11) := by
  unfold eL
  simp [res_ok, res_ex, ev_sSeqF, ev_sIfF, ev_sNx, ev_sSetF, ev_sAsgF, ev_sAugF, ev_sExprF, ev_sRetF, ev_sRetNF, ev_sForD, ev_dConst, ev_dVarF, ev_dVarZ, ev_dVarT, ev_dAtF, ev_dAtT, ev_lName, ev_lIx, ev_lAttr, ev_dBin, ev_dUn, ev_dNotF, ev_dAndF, ev_dOrF, ev_dIteF, ev_tTru, ev_tBl, ev_tAndF, ev_tOrF, ev_tNotF, ev_aNil, ev_aCons, ev_aStar, ev_dSeqF, ev_dChainF, ev_oP, ev_oMv, ev_oLst, ev_oLstM, ev_oDct, ev_dFz, ev_dBi, ev_oBi, ev_oBin, ev_gNm, ev_bNo, ev_bSo, ev_dSlF, ev_oSlF, ev_slF, ev_iAnyF, ev_a1P, ev_a1Pp, ev_a1O, ev_a1N, ev_a1L, ev_mNil, ev_mCons, ev_mMeth, ev_mRecv, ev_oKer, ev_oCallM, ev_oMakeM, ev_sSetIxF, ev_sSetAtF, ev_dCallF, ev_dCallHF, ev_sTryF, ev_sRaiseF, ev_uNil, ev_uRet, ev_uIf, ev_uSeq, ev_dIsE, ev_dXf, ev_dXfc, nu_eqI, nu_eqS, nu_add, nu_sub, nu_neg, nu_mul, nu_mulL, nu_div, nu_mod, nu_pow, nu_lt, nu_le, nu_gt, nu_ge, nu_isN, nu_ixL, nu_ixS, nu_ixT, nu_ixIn, nu_at0, nu_at1, nu_at2, nu_at3, nu_at4, nu_lenL, nu_lenS, nu_lenT, nu_int, nu_intB, nu_truI, nu_truB, nu_truN, nu_rg, nu_iR1, nu_iR2, List.length_cons, List.length_nil, List.getElem?_cons_zero, List.getElem?_cons_succ, List.set_cons_zero, List.set_cons_succ, Option.bind_some, Option.bind_none, Option.map_some, Option.map_none, at_, O.get, O.put, putAt, id, callF, fill, back, h, O.frz]
theorem st3b : (sSetF 11 (oP (dConst (.s (.str "done"))))) (eL x0 x1 x2 Hs Ms k x6 x7 x8 x9 x10 x11) = .ok (.nx, eL x0 x1 x2 Hs Ms k x6 x7 x8 x9 x10 (some (.p dnV))) := by
  unfold eL
  simp [res_ok, res_ex, ev_sSeqF, ev_sIfF, ev_sNx, ev_sSetF, ev_sAsgF, ev_sAugF, ev_sExprF, ev_sRetF, ev_sRetNF, ev_sForD, ev_dConst, ev_dVarF, ev_dVarZ, ev_dVarT, ev_dAtF, ev_dAtT, ev_lName, ev_lIx, ev_lAttr, ev_dBin, ev_dUn, ev_dNotF, ev_dAndF, ev_dOrF, ev_dIteF, ev_tTru, ev_tBl, ev_tAndF, ev_tOrF, ev_tNotF, ev_aNil, ev_aCons, ev_aStar, ev_dSeqF, ev_dChainF, ev_oP, ev_oMv, ev_oLst, ev_oLstM, ev_oDct, ev_dFz, ev_dBi, ev_oBi, ev_oBin, ev_gNm, ev_bNo, ev_bSo, ev_dSlF, ev_oSlF, ev_slF, ev_iAnyF, ev_a1P, ev_a1Pp, ev_a1O, ev_a1N, ev_a1L, ev_mNil, ev_mCons, ev_mMeth, ev_mRecv, ev_oKer, ev_oCallM, ev_oMakeM, ev_sSetIxF, ev_sSetAtF, ev_dCallF, ev_dCallHF, ev_sTryF, ev_sRaiseF, ev_uNil, ev_uRet, ev_uIf, ev_uSeq, ev_dIsE, ev_dXf, ev_dXfc, nu_eqI, nu_eqS, nu_add, nu_sub, nu_neg, nu_mul, nu_mulL, nu_div, nu_mod, nu_pow, nu_lt, nu_le, nu_gt, nu_ge, nu_isN, nu_ixL, nu_ixS, nu_ixT, nu_ixIn, nu_at0, nu_at1, nu_at2, nu_at3, nu_at4, nu_lenL, nu_lenS, nu_lenT, nu_int, nu_intB, nu_truI, nu_truB, nu_truN, nu_rg, nu_iR1, nu_iR2, List.length_cons, List.length_nil, List.getElem?_cons_zero, List.getElem?_cons_succ, List.set_cons_zero, List.set_cons_succ, Option.bind_some, Option.bind_none, Option.map_some, Option.map_none, at_, O.get, O.put, putAt, id]
theorem round {n : Nat} (hs : SOk o) (hb : Both n Hs Ms) (hn : n ≤ 5000) {i : Int} : ∃ o' Hs' Ms' x6' x7' x8' x9' x10' x11', SOk o' ∧ Both (n + 1) Hs' Ms' ∧
    l_law_0 (eL x0 (some o) x2 Hs Ms (.s (.int i)) x6 x7 x8 x9 x10 x11) = .ok (.nx, eL x0 (some o') x2 Hs' Ms' (.s (.int i)) x6' x7' x8' x9' x10' x11') := by
  have zb := sizeLine_big
  obtain ⟨r, o1, _, _, s1, c1⟩ := draw (many := 4) hs (by omega) (by omega)
  obtain ⟨w, o2, hw, s2, c2⟩ := pick (ks := [.s (.int 0), .s (.int 0), .s (.int 0), .s (.int 1), .s (.int 1), .s (.int 2), .s (.int 2)]) s1 (by simp) (by simp)
  obtain ⟨d, o3, hd, s3, c3⟩ := state s2
  obtain ⟨a, ha⟩ : ∃ a : Nat, a = if r = 0 then 1 else 0 := ⟨_, rfl⟩
  have la : a < 2 := by rw [ha]; split <;> omega
  have hb0 := hb
  obtain ⟨l1, l2, l3⟩ := hb
  obtain ⟨s, pa, fu, e1, e2, g1, g2, g3, g4⟩ := l3 a la
  have lH : a < Hs.length := by omega
  have lM : a < Ms.length := by omega
  have b1 := st0 (x0 := x0) (x2 := x2) (Hs := Hs) (Ms := Ms) (k := .s (.int i)) (x6 := x6) (x7 := x7) (x8 := x8) (x9 := x9) (x10 := x10) (x11 := x11) c1
  rw [← ha] at b1
  -- the ends
  have fin : ∀ {Hs' Ms' : List O} {s' : P} {pa' fu' : List P} {x7 x8 x9 x10 x11 : Option O}, Hs'.length = 2 → Ms'.length = 2 → Hs'[a]? = some (his s' pa' fu') → Ms'[a]? = some (.p (mdl (pa' ++ [s']) fu')) → (∀ x ∈ pa' ++ [s'], StOk x) → pa'.length ≤ 10000 →
      sSeqF p_law_9 p_law_10 (eL x0 (some o3) x2 Hs' Ms' (.s (.int i)) (wI a) x7 x8 x9 x10 x11) = .ok (.nx, eL x0 (some o3) x2 Hs' Ms' (.s (.int i)) (wI a) x7 x8 x9 x10 x11) := by
    intro Hs' Ms' s' pa' fu' x7 x8 x9 x10 x11 q1 q2 q3 q4 q5 q6
    have q7 : ∀ x ∈ pa' ++ [s'], Dk 50 x := fun x hx => Dk.mono (q5 x hx) (by omega)
    rw [seq_ok (st9 (by omega) (by omega) q3 q4 q7 q6)]
    exact st10 (by omega) (by omega) q3 q4 q7
  have pre : l_law_0 (eL x0 (some o) x2 Hs Ms (.s (.int i)) x6 x7 x8 x9 x10 x11) = sSeqF p_law_4 (sSeqF p_law_5 (sSeqF p_law_6 (sSeqF p_law_7 (sSeqF p_law_8 (sSeqF p_law_9 p_law_10))))) (eL x0 (some o3) x2 Hs Ms (.s (.int i)) (wI a) (some (.p w)) (some (.p d)) (some (.p (.nd .lst (pa ++ [s])))) (some (.p (.nd .lst fu))) (some (.p dnV))) := by
    unfold l_law_0
    rw [seq_ok b1, seq_ok (st1 c2), seq_ok (st1b c3), seq_ok (st2 lM e2), seq_ok (st3 lM e2), seq_ok st3b]
  rw [pre]
  have g1' : ∀ x ∈ pa ++ [s], Dk 60 x := fun x hx => Dk.mono (g1 x hx) (by omega)
  have nochange : Both (n + 1) Hs Ms := by
    have h1 := set_same e1
    have h2 := set_same e2
    have := hb0.step la g1 g2 (by omega) (by omega)
    rwa [h1, h2] at this
  have hw2 : w = .s (.int 0) ∨ w = .s (.int 1) ∨ w = .s (.int 2) := by
    simp only [List.mem_cons, List.not_mem_nil, or_false] at hw
    rcases hw with h | h | h | h | h | h | h <;> simp [h]
  have getH : ∀ {x : O}, (Hs.set a x)[a]? = some x := fun {x} => List.getElem?_set_self lH
  have getM : ∀ {x : O}, (Ms.set a x)[a]? = some x := fun {x} => List.getElem?_set_self lM
  rcases hw2 with rfl | rfl | rfl
  · -- a move
    have n1 : ∀ x ∈ (pa ++ [s]) ++ [d], StOk x := fun x hx => by
      rcases List.mem_append.mp hx with h | h
      · exact g1 x h
      · rw [List.mem_singleton.mp h]; exact hd
    rw [seq_ok (st4_0 (now := []) (fut := [])), seq_ok (st5 lH e1 (moved0 (by omega)) dd3), seq_ok (st6 (by simpa using lM) (by omega)), seq_ok (st7o (by decide)), seq_ok (st8o (by decide)), fin (by simpa using l1) (by simpa using l2) getH getM n1 (by simp; omega)]
    exact ⟨_, _, _, _, _, _, _, _, _, s3, hb0.step la n1 (by simp) (by simp; omega) (by simp), rfl⟩
  · -- back
    by_cases hp : pa = []
    · subst hp
      have hm := moved1n (s := s) (fu := fu) (d := d)
      rw [seq_ok (st4_1n (fut := d)), seq_ok (st5 lH e1 hm dd4), seq_ok st6n, seq_ok st7n, seq_ok st8n, set_same e1, fin l1 l2 e1 e2 g1 (by simp)]
      exact ⟨_, _, _, _, _, _, _, _, _, s3, nochange, rfl⟩
    · obtain ⟨pa', t, rfl⟩ : ∃ pa' t, pa = pa' ++ [t] := ⟨pa.dropLast, pa.getLast hp, (List.dropLast_concat_getLast hp).symm⟩
      have n1 : ∀ x ∈ pa' ++ [t], StOk x := fun x hx => g1 x (List.mem_append_left _ hx)
      have n2 : ∀ x ∈ fu ++ [s], StOk x := fun x hx => by
        rcases List.mem_append.mp hx with h | h
        · exact g2 x h
        · rw [List.mem_singleton.mp h]; exact g1 s (by simp)
      have hm := moved1 (s := s) (fu := fu) (x := d) (pa := pa') (d := t) (fun x hx => Dk.mono (n1 x hx) (by omega)) (by omega)
      have hl : pa'.length + 1 ≤ n := by simpa using g3
      rw [seq_ok (st4_1 (by simp)), seq_ok (st5 lH e1 hm dd3), seq_ok (st6o (by decide)), seq_ok (st7 (by simpa using lM) (by omega)), seq_ok (st8o (by decide)), fin (by simpa using l1) (by simpa using l2) getH getM n1 (by omega)]
      exact ⟨_, _, _, _, _, _, _, _, _, s3, hb0.step la n1 n2 (by omega) (by simp; omega), rfl⟩
  · -- forth
    by_cases hp : fu = []
    · subst hp
      have hm := moved2n (s := s) (pa := pa) (d := d)
      rw [seq_ok st4_2n, seq_ok (st5 lH e1 hm dd4), seq_ok st6n, seq_ok st7n, seq_ok st8n, set_same e1, fin l1 l2 e1 e2 g1 (by omega)]
      exact ⟨_, _, _, _, _, _, _, _, _, s3, nochange, rfl⟩
    · obtain ⟨fu', t, rfl⟩ : ∃ pa' t, fu = pa' ++ [t] := ⟨fu.dropLast, fu.getLast hp, (List.dropLast_concat_getLast hp).symm⟩
      have n1 : ∀ x ∈ (pa ++ [s]) ++ [t], StOk x := fun x hx => by
        rcases List.mem_append.mp hx with h | h
        · exact g1 x h
        · rw [List.mem_singleton.mp h]; exact g2 t (by simp)
      have n2 : ∀ x ∈ fu', StOk x := fun x hx => g2 x (List.mem_append_left _ hx)
      have hm := moved2 (s := s) (pa := pa) (x := d) (fu := fu') (d := t) (fun x hx => Dk.mono (g2 x hx) (by omega)) (by omega)
      have hl : fu'.length + 1 ≤ n := by simpa using g4
      rw [seq_ok (st4_2 (fun x hx => Dk.mono (g2 x hx) (by omega))), seq_ok (st5 lH e1 hm dd3), seq_ok (st6o (by decide)), seq_ok (st7o (by decide)), seq_ok (st8 (by simpa using lM) (by omega)), fin (by simpa using l1) (by simpa using l2) getH getM n1 (by simp; omega)]
      exact ⟨_, _, _, _, _, _, _, _, _, s3, hb0.step la n1 n2 (by simp; omega) (by omega), rfl⟩
end
end DL.K93

namespace DL.K93
open PySem PySem.Spec L2 DL
section
variable {x0 x1 x2 x3 x4 x5 x6 x7 x8 x9 x10 x11 : Option O} {Hs Ms : List O} {s t d k : P} {pa fu : List P} {o o' : O}
theorem la11 {sc : P} (h : F__law_stream [.p sc] = .ok o []) : p_law_11 [some (.p sc), x1, x2, x3, x4, x5, x6, x7, x8, x9, x10, x11] = .ok (.nx, [some (.p sc), some o, x2, x3, x4, x5, x6, x7, x8, x9, x10, x11]) := by
  unfold p_law_11
  simp [res_ok, res_ex, ev_sSeqF, ev_sIfF, ev_sNx, ev_sSetF, ev_sAsgF, ev_sAugF, ev_sExprF, ev_sRetF, ev_sRetNF, ev_sForD, ev_dConst, ev_dVarF, ev_dVarZ, ev_dVarT, ev_dAtF, ev_dAtT, ev_lName, ev_lIx, ev_lAttr, ev_dBin, ev_dUn, ev_dNotF, ev_dAndF, ev_dOrF, ev_dIteF, ev_tTru, ev_tBl, ev_tAndF, ev_tOrF, ev_tNotF, ev_aNil, ev_aCons, ev_aStar, ev_dSeqF, ev_dChainF, ev_oP, ev_oMv, ev_oLst, ev_oLstM, ev_oDct, ev_dFz, ev_dBi, ev_oBi, ev_oBin, ev_gNm, ev_bNo, ev_bSo, ev_dSlF, ev_oSlF, ev_slF, ev_iAnyF, ev_a1P, ev_a1Pp, ev_a1O, ev_a1N, ev_a1L, ev_mNil, ev_mCons, ev_mMeth, ev_mRecv, ev_oKer, ev_oCallM, ev_oMakeM, ev_sSetIxF, ev_sSetAtF, ev_dCallF, ev_dCallHF, ev_sTryF, ev_sRaiseF, ev_uNil, ev_uRet, ev_uIf, ev_uSeq, ev_dIsE, ev_dXf, ev_dXfc, nu_eqI, nu_eqS, nu_add, nu_sub, nu_neg, nu_mul, nu_mulL, nu_div, nu_mod, nu_pow, nu_lt, nu_le, nu_gt, nu_ge, nu_isN, nu_ixL, nu_ixS, nu_ixT, nu_ixIn, nu_at0, nu_at1, nu_at2, nu_at3, nu_at4, nu_lenL, nu_lenS, nu_lenT, nu_int, nu_intB, nu_truI, nu_truB, nu_truN, nu_rg, nu_iR1, nu_iR2, List.length_cons, List.length_nil, List.getElem?_cons_zero, List.getElem?_cons_succ, List.set_cons_zero, List.set_cons_succ, Option.bind_some, Option.bind_none, Option.map_some, Option.map_none, at_, O.get, O.put, putAt, id, callF, fill, back, h]
theorem la12 {o1 o2 : O} (h : F__law_state [o] = .ok (.p s) [(0, o1)]) (h2 : F__law_state [o1] = .ok (.p t) [(0, o2)]) : p_law_12 [x0, some o, x2, x3, x4, x5, x6, x7, x8, x9, x10, x11] = .ok (.nx, [x0, some o2, some (.p (.nd .lst [s, t])), x3, x4, x5, x6, x7, x8, x9, x10, x11]) := by
  have z : 2 ≤ sizeLine := by have := sizeLine_big; omega
  unfold p_law_12
  simp [res_ok, res_ex, ev_sSeqF, ev_sIfF, ev_sNx, ev_sSetF, ev_sAsgF, ev_sAugF, ev_sExprF, ev_sRetF, ev_sRetNF, ev_sForD, ev_dConst, ev_dVarF, ev_dVarZ, ev_dVarT, ev_dAtF, ev_dAtT, ev_lName, ev_lIx, ev_lAttr, ev_dBin, ev_dUn, ev_dNotF, ev_dAndF, ev_dOrF, ev_dIteF, ev_tTru, ev_tBl, ev_tAndF, ev_tOrF, ev_tNotF, ev_aNil, ev_aCons, ev_aStar, ev_dSeqF, ev_dChainF, ev_oP, ev_oMv, ev_oLst, ev_oLstM, ev_oDct, ev_dFz, ev_dBi, ev_oBi, ev_oBin, ev_gNm, ev_bNo, ev_bSo, ev_dSlF, ev_oSlF, ev_slF, ev_iAnyF, ev_a1P, ev_a1Pp, ev_a1O, ev_a1N, ev_a1L, ev_mNil, ev_mCons, ev_mMeth, ev_mRecv, ev_oKer, ev_oCallM, ev_oMakeM, ev_sSetIxF, ev_sSetAtF, ev_dCallF, ev_dCallHF, ev_sTryF, ev_sRaiseF, ev_uNil, ev_uRet, ev_uIf, ev_uSeq, ev_dIsE, ev_dXf, ev_dXfc, nu_eqI, nu_eqS, nu_add, nu_sub, nu_neg, nu_mul, nu_mulL, nu_div, nu_mod, nu_pow, nu_lt, nu_le, nu_gt, nu_ge, nu_isN, nu_ixL, nu_ixS, nu_ixT, nu_ixIn, nu_at0, nu_at1, nu_at2, nu_at3, nu_at4, nu_lenL, nu_lenS, nu_lenT, nu_int, nu_intB, nu_truI, nu_truB, nu_truN, nu_rg, nu_iR1, nu_iR2, List.length_cons, List.length_nil, List.getElem?_cons_zero, List.getElem?_cons_succ, List.set_cons_zero, List.set_cons_succ, Option.bind_some, Option.bind_none, Option.map_some, Option.map_none, at_, O.get, O.put, putAt, id, callF, fill, back, h, h2, O.frz, z]
theorem la13 : p_law_13 [x0, x1, some (.p (.nd .lst [s, t])), x3, x4, x5, x6, x7, x8, x9, x10, x11] = .ok (.nx, [x0, x1, some (.p (.nd .lst [s, t])), some (.nd .lst [his s [] [], his t [] []]), x4, x5, x6, x7, x8, x9, x10, x11]) := by
  have z : 2 ≤ sizeLine := by have := sizeLine_big; omega
  have i1 := h_init (s := s)
  have i2 := h_init (s := t)
  unfold p_law_13
  simp [res_ok, res_ex, ev_sSeqF, ev_sIfF, ev_sNx, ev_sSetF, ev_sAsgF, ev_sAugF, ev_sExprF, ev_sRetF, ev_sRetNF, ev_sForD, ev_dConst, ev_dVarF, ev_dVarZ, ev_dVarT, ev_dAtF, ev_dAtT, ev_lName, ev_lIx, ev_lAttr, ev_dBin, ev_dUn, ev_dNotF, ev_dAndF, ev_dOrF, ev_dIteF, ev_tTru, ev_tBl, ev_tAndF, ev_tOrF, ev_tNotF, ev_aNil, ev_aCons, ev_aStar, ev_dSeqF, ev_dChainF, ev_oP, ev_oMv, ev_oLst, ev_oLstM, ev_oDct, ev_dFz, ev_dBi, ev_oBi, ev_oBin, ev_gNm, ev_bNo, ev_bSo, ev_dSlF, ev_oSlF, ev_slF, ev_iAnyF, ev_a1P, ev_a1Pp, ev_a1O, ev_a1N, ev_a1L, ev_mNil, ev_mCons, ev_mMeth, ev_mRecv, ev_oKer, ev_oCallM, ev_oMakeM, ev_sSetIxF, ev_sSetAtF, ev_dCallF, ev_dCallHF, ev_sTryF, ev_sRaiseF, ev_uNil, ev_uRet, ev_uIf, ev_uSeq, ev_dIsE, ev_dXf, ev_dXfc, nu_eqI, nu_eqS, nu_add, nu_sub, nu_neg, nu_mul, nu_mulL, nu_div, nu_mod, nu_pow, nu_lt, nu_le, nu_gt, nu_ge, nu_isN, nu_ixL, nu_ixS, nu_ixT, nu_ixIn, nu_at0, nu_at1, nu_at2, nu_at3, nu_at4, nu_lenL, nu_lenS, nu_lenT, nu_int, nu_intB, nu_truI, nu_truB, nu_truN, nu_rg, nu_iR1, nu_iR2, List.length_cons, List.length_nil, List.getElem?_cons_zero, List.getElem?_cons_succ, List.set_cons_zero, List.set_cons_succ, Option.bind_some, Option.bind_none, Option.map_some, Option.map_none, at_, O.get, O.put, putAt, id, callF, fill, back, i1, i2, O.frz, z, avOws, avs, List.lookup]
theorem la14 : p_law_14 [x0, x1, some (.p (.nd .lst [s, t])), x3, x4, x5, x6, x7, x8, x9, x10, x11] = .ok (.nx, [x0, x1, some (.p (.nd .lst [s, t])), x3, some (.nd .lst [.p (mdl ([] ++ [s]) []), .p (mdl ([] ++ [t]) [])]), x5, x6, x7, x8, x9, x10, x11]) := by
  have z : 2 ≤ sizeLine := by have := sizeLine_big; omega
  have z1 : 1 ≤ sizeLine := by have := sizeLine_big; omega
  have z0 := emp
  unfold p_law_14 mdl
  simp [res_ok, res_ex, ev_sSeqF, ev_sIfF, ev_sNx, ev_sSetF, ev_sAsgF, ev_sAugF, ev_sExprF, ev_sRetF, ev_sRetNF, ev_sForD, ev_dConst, ev_dVarF, ev_dVarZ, ev_dVarT, ev_dAtF, ev_dAtT, ev_lName, ev_lIx, ev_lAttr, ev_dBin, ev_dUn, ev_dNotF, ev_dAndF, ev_dOrF, ev_dIteF, ev_tTru, ev_tBl, ev_tAndF, ev_tOrF, ev_tNotF, ev_aNil, ev_aCons, ev_aStar, ev_dSeqF, ev_dChainF, ev_oP, ev_oMv, ev_oLst, ev_oLstM, ev_oDct, ev_dFz, ev_dBi, ev_oBi, ev_oBin, ev_gNm, ev_bNo, ev_bSo, ev_dSlF, ev_oSlF, ev_slF, ev_iAnyF, ev_a1P, ev_a1Pp, ev_a1O, ev_a1N, ev_a1L, ev_mNil, ev_mCons, ev_mMeth, ev_mRecv, ev_oKer, ev_oCallM, ev_oMakeM, ev_sSetIxF, ev_sSetAtF, ev_dCallF, ev_dCallHF, ev_sTryF, ev_sRaiseF, ev_uNil, ev_uRet, ev_uIf, ev_uSeq, ev_dIsE, ev_dXf, ev_dXfc, nu_eqI, nu_eqS, nu_add, nu_sub, nu_neg, nu_mul, nu_mulL, nu_div, nu_mod, nu_pow, nu_lt, nu_le, nu_gt, nu_ge, nu_isN, nu_ixL, nu_ixS, nu_ixT, nu_ixIn, nu_at0, nu_at1, nu_at2, nu_at3, nu_at4, nu_lenL, nu_lenS, nu_lenT, nu_int, nu_intB, nu_truI, nu_truB, nu_truN, nu_rg, nu_iR1, nu_iR2, List.length_cons, List.length_nil, List.getElem?_cons_zero, List.getElem?_cons_succ, List.set_cons_zero, List.set_cons_succ, Option.bind_some, Option.bind_none, Option.map_some, Option.map_none, at_, O.get, O.put, putAt, id, z, z0, z1]
theorem la16 {s t : P} {pa pb fu fv : List P} (h1 : ∀ x ∈ pa ++ [s], Dk 50 x) (h2 : pa.length ≤ 10000) (h3 : ∀ x ∈ pb ++ [t], Dk 50 x) (h4 : pb.length ≤ 10000) :
    p_law_16 [x0, x1, x2, some (.nd .lst [his s pa fu, his t pb fv]), some (.nd .lst [.p (mdl (pa ++ [s]) fu), .p (mdl (pb ++ [t]) fv)]), x5, x6, x7, x8, x9, x10, x11] = .ok (.rt (.p (.s (.bl true))), [x0, x1, x2, some (.nd .lst [his s pa fu, his t pb fv]), some (.nd .lst [.p (mdl (pa ++ [s]) fu), .p (mdl (pb ++ [t]) fv)]), x5, x6, x7, x8, x9, x10, x11]) := by
  have e1 := same (fu := fu) h1 h2
  have e2 := same (fu := fv) h3 h4
  have i0 : ixN 2 0 = some 0 := rfl
  have i1 : ixN 2 1 = some 1 := rfl
  unfold p_law_16
  simp [res_ok, res_ex, ev_sSeqF, ev_sIfF, ev_sNx, ev_sSetF, ev_sAsgF, ev_sAugF, ev_sExprF, ev_sRetF, ev_sRetNF, ev_sForD, ev_dConst, ev_dVarF, ev_dVarZ, ev_dVarT, ev_dAtF, ev_dAtT, ev_lName, ev_lIx, ev_lAttr, ev_dBin, ev_dUn, ev_dNotF, ev_dAndF, ev_dOrF, ev_dIteF, ev_tTru, ev_tBl, ev_tAndF, ev_tOrF, ev_tNotF, ev_aNil, ev_aCons, ev_aStar, ev_dSeqF, ev_dChainF, ev_oP, ev_oMv, ev_oLst, ev_oLstM, ev_oDct, ev_dFz, ev_dBi, ev_oBi, ev_oBin, ev_gNm, ev_bNo, ev_bSo, ev_dSlF, ev_oSlF, ev_slF, ev_iAnyF, ev_a1P, ev_a1Pp, ev_a1O, ev_a1N, ev_a1L, ev_mNil, ev_mCons, ev_mMeth, ev_mRecv, ev_oKer, ev_oCallM, ev_oMakeM, ev_sSetIxF, ev_sSetAtF, ev_dCallF, ev_dCallHF, ev_sTryF, ev_sRaiseF, ev_uNil, ev_uRet, ev_uIf, ev_uSeq, ev_dIsE, ev_dXf, ev_dXfc, nu_eqI, nu_eqS, nu_add, nu_sub, nu_neg, nu_mul, nu_mulL, nu_div, nu_mod, nu_pow, nu_lt, nu_le, nu_gt, nu_ge, nu_isN, nu_ixL, nu_ixS, nu_ixT, nu_ixIn, nu_at0, nu_at1, nu_at2, nu_at3, nu_at4, nu_lenL, nu_lenS, nu_lenT, nu_int, nu_intB, nu_truI, nu_truB, nu_truN, nu_rg, nu_iR1, nu_iR2, List.length_cons, List.length_nil, List.getElem?_cons_zero, List.getElem?_cons_succ, List.set_cons_zero, List.set_cons_succ, Option.bind_some, Option.bind_none, Option.map_some, Option.map_none, at_, O.get, O.put, putAt, id, callF, fill, back, e1, e2, O.frz, i0, i1]
end
def LI (x0 x2 : Option O) (n : Nat) (ρ : Env) : Prop := ∃ (o : O) (Hs Ms : List O) (x5 x6 x7 x8 x9 x10 x11 : Option O), SOk o ∧ Both n Hs Ms ∧ ρ = [x0, some o, x2, some (.nd .lst Hs), some (.nd .lst Ms), x5, x6, x7, x8, x9, x10, x11]
theorem la15 {x0 x2 x5 x6 x7 x8 x9 x10 x11 : Option O} {o : O} {Hs Ms : List O} (hs : SOk o) (hb : Both 0 Hs Ms) : ∃ ρ', p_law_15 [x0, some o, x2, some (.nd .lst Hs), some (.nd .lst Ms), x5, x6, x7, x8, x9, x10, x11] = .ok (.nx, ρ') ∧ LI x0 x2 100 ρ' := by
  obtain ⟨r, o1, r0, r1, s1, c1⟩ := draw (many := 37) hs (by omega) (by omega)
  obtain ⟨ρ', e, o2, Hs', Ms', y5, y6, y7, y8, y9, y10, y11, s2, b2, rfl⟩ := forF_all (fg := gNm 5) (body := l_law_0) (ds := rngP 0 (4 + r).toNat) (fun n ρ => LI x0 x2 n ρ) (by
      rintro n d ρ hk ⟨o, Hs, Ms, x5, x6, x7, x8, x9, x10, x11, hs, hb, rfl⟩
      obtain ⟨hk1, rfl⟩ := rngP_get hk
      obtain ⟨o', Hs', Ms', y6, y7, y8, y9, y10, y11, hs', hb', e⟩ := round (x0 := x0) (x2 := x2) (x6 := x6) (x7 := x7) (x8 := x8) (x9 := x9) (x10 := x10) (x11 := x11) hs hb (by omega) (i := 0 + (n : Int))
      exact ⟨_, _, rfl, .inl e, o', Hs', Ms', _, y6, y7, y8, y9, y10, y11, hs', hb', rfl⟩) [x0, some o1, x2, some (.nd .lst Hs), some (.nd .lst Ms), x5, x6, x7, x8, x9, x10, x11] ⟨o1, Hs, Ms, _, _, _, _, _, _, _, s1, hb, rfl⟩
  have z2 : rgO (4 + r) = true := nu_rg (by omega) (by omega)
  refine ⟨_, ?_, o2, Hs', Ms', y5, y6, y7, y8, y9, y10, y11, s2, ?_, rfl⟩
  · unfold p_law_15
    simp [res_ok, res_ex, ev_sSeqF, ev_sIfF, ev_sNx, ev_sSetF, ev_sAsgF, ev_sAugF, ev_sExprF, ev_sRetF, ev_sRetNF, ev_sForD, ev_dConst, ev_dVarF, ev_dVarZ, ev_dVarT, ev_dAtF, ev_dAtT, ev_lName, ev_lIx, ev_lAttr, ev_dBin, ev_dUn, ev_dNotF, ev_dAndF, ev_dOrF, ev_dIteF, ev_tTru, ev_tBl, ev_tAndF, ev_tOrF, ev_tNotF, ev_aNil, ev_aCons, ev_aStar, ev_dSeqF, ev_dChainF, ev_oP, ev_oMv, ev_oLst, ev_oLstM, ev_oDct, ev_dFz, ev_dBi, ev_oBi, ev_oBin, ev_gNm, ev_bNo, ev_bSo, ev_dSlF, ev_oSlF, ev_slF, ev_iAnyF, ev_a1P, ev_a1Pp, ev_a1O, ev_a1N, ev_a1L, ev_mNil, ev_mCons, ev_mMeth, ev_mRecv, ev_oKer, ev_oCallM, ev_oMakeM, ev_sSetIxF, ev_sSetAtF, ev_dCallF, ev_dCallHF, ev_sTryF, ev_sRaiseF, ev_uNil, ev_uRet, ev_uIf, ev_uSeq, ev_dIsE, ev_dXf, ev_dXfc, nu_eqI, nu_eqS, nu_add, nu_sub, nu_neg, nu_mul, nu_mulL, nu_div, nu_mod, nu_pow, nu_lt, nu_le, nu_gt, nu_ge, nu_isN, nu_ixL, nu_ixS, nu_ixT, nu_ixIn, nu_at0, nu_at1, nu_at2, nu_at3, nu_at4, nu_lenL, nu_lenS, nu_lenT, nu_int, nu_intB, nu_truI, nu_truB, nu_truN, nu_rg, nu_iR1, nu_iR2, List.length_cons, List.length_nil, List.getElem?_cons_zero, List.getElem?_cons_succ, List.set_cons_zero, List.set_cons_succ, Option.bind_some, Option.bind_none, Option.map_some, Option.map_none, at_, O.get, O.put, putAt, id, callF, fill, back, c1, O.frz, z2, e]
  · obtain ⟨l1, l2, l3⟩ := b2
    refine ⟨l1, l2, fun a ha => ?_⟩
    obtain ⟨s, pa, fu, k1, k2, k3, k4, k5, k6⟩ := l3 a ha
    have : (rngP 0 (4 + r).toNat).length = (4 + r).toNat := rngP_length
    exact ⟨s, pa, fu, k1, k2, k3, k4, by omega, by omega⟩
theorem law_true {ns : List Int} (hl : ns.length ≤ 63) : ∃ out, F_law [scr ns] = .ok (.p (.s (.bl true))) out := by
  obtain ⟨o, s0, e0⟩ := mk_stream hl
  obtain ⟨s', o1, g1, s1, e1⟩ := state s0
  obtain ⟨t', o2, g2, s2, e2⟩ := state s1
  have hb : Both 0 [his s' [] [], his t' [] []] [.p (mdl ([] ++ [s']) []), .p (mdl ([] ++ [t']) [])] := by
    refine ⟨rfl, rfl, fun a ha => ?_⟩
    obtain rfl | rfl : a = 0 ∨ a = 1 := by omega
    · exact ⟨s', [], [], rfl, rfl, by simpa using g1, by simp, by simp, by simp⟩
    · exact ⟨t', [], [], rfl, rfl, by simpa using g2, by simp, by simp, by simp⟩
  obtain ⟨ρ', e5, o3, Hs, Ms, y5, y6, y7, y8, y9, y10, y11, s3, b3, rfl⟩ := la15 (x0 := some (scr ns)) (x2 := some (.p (.nd .lst [s', t']))) (x5 := none) (x6 := none) (x7 := none) (x8 := none) (x9 := none) (x10 := none) (x11 := none) s2 hb
  obtain ⟨l1, l2, l3⟩ := b3
  obtain ⟨s, pa, fu, k1, k2, k3, k4, k5, k6⟩ := l3 0 (by omega)
  obtain ⟨t, pb, fv, m1, m2, m3, m4, m5, m6⟩ := l3 1 (by omega)
  have eH : Hs = [his s pa fu, his t pb fv] := by
    match Hs, l1 with
    | [a, b], _ => simp at k1 m1; rw [k1, m1]
  have eM : Ms = [.p (mdl (pa ++ [s]) fu), .p (mdl (pb ++ [t]) fv)] := by
    match Ms, l2 with
    | [a, b], _ => simp at k2 m2; rw [k2, m2]
  subst eH eM
  unfold scr at *
  have key := la16 (x0 := some (.p (.nd .slst (pInts ns)))) (x1 := some o3) (x2 := some (.p (.nd .lst [s', t']))) (x5 := y5) (x6 := y6) (x7 := y7) (x8 := y8) (x9 := y9) (x10 := y10) (x11 := y11) (fu := fu) (fv := fv) (fun x hx => Dk.mono (k3 x hx) (by omega)) (by omega) (fun x hx => Dk.mono (m3 x hx) (by omega)) (by omega)
  have key2 : b_law [some (.p (.nd .slst (pInts ns))), none, none, none, none, none, none, none, none, none, none, none] = .ok (.rt (.p (.s (.bl true))), [some (.p (.nd .slst (pInts ns))), some o3, some (.p (.nd .lst [s', t'])), some (.nd .lst [his s pa fu, his t pb fv]), some (.nd .lst [.p (mdl (pa ++ [s]) fu), .p (mdl (pb ++ [t]) fv)]), y5, y6, y7, y8, y9, y10, y11]) := by
    unfold b_law
    rw [seq_ok (la11 e0), seq_ok (la12 e1 e2), seq_ok la13, seq_ok la14, seq_ok e5]
    exact key
  exact ⟨[], run_rt rfl key2 rfl⟩
theorem holds : PySem.Challenge.rw_describedonce_k93_history.Holds := head fun ns hl _ => law_true hl
end DL.K93

theorem PySem.Challenge.cw_describedonce_k93_history_holds : PySem.Challenge.rw_describedonce_k93_history.Holds :=
  DL.K93.holds
