import PyProof.Rows.All
import Wide.All
import OpenK.AllK
import Wide.FinOn
import HandS.ForMost
import HandS.ForExc
import HandS.Walk
import HandS.Wide
import HandS.Deep
import HandS.TupAny
import HandS.SortInts
import HandS.More
import HandS.Conv
import HandS.ForSpec
import HandS.IsInst
import HandS.Style
import HandS.TupLe
import PySem.Challenge.RW_standloss_k16_whole_draws
set_option Elab.async false
set_option linter.all false
set_option maxRecDepth 100000
/-! Affine mirror, part 1: data, owned trees, the relation to the abstract heap. -/
namespace AM
open PySem L2

/-- plain data -/
inductive D where
  | non | bl (b : Bool) | int (i : Int) | str (s : Str) | lst (ds : List D) | tup (ds : List D) | exc (c : Str) (ds : List D) | scr (ns : List Int) | obj (c : Str) (fs : List Str) (ds : List D)
/-- what a slot holds: shared data, or a tree whose lists, objects, dicts nobody else knows -/
inductive W where
  | sh (d : D) | ol (ws : List W) | ot (ws : List W) | ob (c : Str) (fs : List Str) (ws : List W) | dk (ks : List Key) (ws : List W) | dt (ks : List (List Key)) (ws : List W)

structure GX where
  K : PySem.W.Frag
  mg : Str → Option Value

/-- an exception that is held as a value -/
def exv (a C : Addr) (d : Option Addr) : HO := .ext fun h => ∃ (oe : Obj) (vs : Array Value), h.get? a = some oe ∧ oe.cls = .ref C ∧ oe.dict = d ∧ oe.data = .fields vs

section
variable (G : GX) (B H : Hp)
mutual
def repD : D → V → Prop
  | .non, v => v = .non
  | .bl b, v => v = .bl b
  | .int i, v => v = .int i
  | .str s, v => v = .str s
  | .lst ds, v => ∃ a vs, v = .ref a ∧ B a = some (.lst vs) ∧ repDs ds vs
  | .scr ns, v => ∃ a, v = .ref a ∧ SqL G.K B a (ns.map V.int)
  | .tup ds, v => ∃ a vs, v = .ref a ∧ SqT G.K B a vs ∧ repDs ds vs
  | .exc c ds, v => ∃ a C d, v = .ref a ∧ G.mg c = some (.ref C) ∧ B a = some (exv a C d) ∧
      ((d = none ∧ ds = []) ∨ ∃ dd x, d = some dd ∧ B dd = some (.xd [(("place" : Str), x)]) ∧ repDs ds [x])
  | .obj c fs ds, v => ∃ p dx C vs, v = .ref p ∧ G.mg c = some (.ref C) ∧ B p = some (.ins C dx (fs.zip vs)) ∧ B dx = some (.own p) ∧ fs.length = vs.length ∧ repDs ds vs
def repDs : List D → List V → Prop
  | [], vs => vs = []
  | d :: ds, vs => ∃ v r, vs = v :: r ∧ repD d v ∧ repDs ds r
end
mutual
def relW : W → V → List Addr → Prop
  | .sh d, v, f => repD G B d v ∧ f = []
  | .ol ws, v, f => ∃ p vs g, v = .ref p ∧ H p = some (.lst vs) ∧ relWs ws vs g ∧ f = p :: g
  | .ot ws, v, f => ∃ p vs, v = .ref p ∧ B p = some (.tup vs) ∧ relWs ws vs f
  | .ob c fs ws, v, f => ∃ p dx C vs g, v = .ref p ∧ G.mg c = some (.ref C) ∧ H p = some (.ins C dx (fs.zip vs)) ∧ H dx = some (.own p) ∧ fs.length = vs.length ∧ relWs ws vs g ∧ f = p :: dx :: g
  | .dk ks ws, v, f => ∃ p vs g, v = .ref p ∧ H p = some (.dK (ks.zip vs)) ∧ ks.length = vs.length ∧ relWs ws vs g ∧ f = p :: g
  | .dt ks ws, v, f => ∃ p vs g, v = .ref p ∧ H p = some (.dT (ks.zip vs)) ∧ ks.length = vs.length ∧ relWs ws vs g ∧ f = p :: g
def relWs : List W → List V → List Addr → Prop
  | [], vs, f => vs = [] ∧ f = []
  | w :: ws, vs, f => ∃ v r g1 g2, vs = v :: r ∧ relW w v g1 ∧ relWs ws r g2 ∧ f = g1 ++ g2
end
end

mutual
def W.toD : W → Option D
  | .sh d => some d
  | .ol ws => (W.toDs ws).map D.lst
  | .ot ws => (W.toDs ws).map D.tup
  | .ob c fs ws => (W.toDs ws).map (D.obj c fs)
  | .dk _ _ => none
  | .dt _ _ => none
def W.toDs : List W → Option (List D)
  | [] => some []
  | w :: ws => match W.toD w, W.toDs ws with
    | some d, some ds => some (d :: ds)
    | _, _ => none
end

/-! ### frames -/
section
variable {G : GX} {B H B' H' : Hp}
theorem sqT_of_same {K : PySem.W.Frag} {a : Addr} {xs : List V} (e : Same B B') (h : SqT K B a xs) : SqT K B' a xs := by
  rcases h with (h | ⟨o, h⟩) | h
  · exact .inl (.inl (e _ _ h))
  · exact .inl (.inr ⟨o, e _ _ h⟩)
  · exact .inr h
mutual
theorem repD_mono (e : Same B B') : ∀ {d : D} {v : V}, repD G B d v → repD G B' d v
  | .non, _, h => by simpa [repD] using h
  | .bl _, _, h => by simpa [repD] using h
  | .int _, _, h => by simpa [repD] using h
  | .str _, _, h => by simpa [repD] using h
  | .lst ds, v, h => by
    simp only [repD] at h ⊢
    obtain ⟨a, vs, h1, h2, h3⟩ := h
    exact ⟨a, vs, h1, e _ _ h2, repDs_mono e h3⟩
  | .scr ns, v, h => by
    simp only [repD] at h ⊢
    obtain ⟨a, h1, h2⟩ := h
    exact ⟨a, h1, Same.seq e h2⟩
  | .tup ds, v, h => by
    simp only [repD] at h ⊢
    obtain ⟨a, vs, h1, h2, h3⟩ := h
    exact ⟨a, vs, h1, sqT_of_same e h2, repDs_mono e h3⟩
  | .exc c ds, v, h => by
    simp only [repD] at h ⊢
    obtain ⟨a, C, d, h1, h2, h3, h4⟩ := h
    refine ⟨a, C, d, h1, h2, e _ _ h3, ?_⟩
    rcases h4 with h4 | ⟨dd, x, h5, h6, h7⟩
    · exact .inl h4
    · exact .inr ⟨dd, x, h5, e _ _ h6, repDs_mono e h7⟩
  | .obj c fs ds, v, h => by
    simp only [repD] at h ⊢
    obtain ⟨p, dx, C, vs, h1, h2, h3, h4, h5, h6⟩ := h
    exact ⟨p, dx, C, vs, h1, h2, e _ _ h3, e _ _ h4, h5, repDs_mono e h6⟩
theorem repDs_mono (e : Same B B') : ∀ {ds : List D} {vs : List V}, repDs G B ds vs → repDs G B' ds vs
  | [], _, h => by simpa [repDs] using h
  | d :: ds, vs, h => by
    simp only [repDs] at h ⊢
    obtain ⟨v, r, h1, h2, h3⟩ := h
    exact ⟨v, r, h1, repD_mono e h2, repDs_mono e h3⟩
end
mutual
theorem relW_frame (e : Same B B') : ∀ {w : W} {v : V} {f : List Addr}, relW G B H w v f → (∀ q ∈ f, H' q = H q) → relW G B' H' w v f
  | .sh d, v, f, h, _ => by
    simp only [relW] at h ⊢
    exact ⟨repD_mono e h.1, h.2⟩
  | .ol ws, v, f, h, k => by
    simp only [relW] at h ⊢
    obtain ⟨p, vs, g, h1, h2, h3, rfl⟩ := h
    exact ⟨p, vs, g, h1, (k p (by simp)).trans h2, relWs_frame e h3 (fun q hq => k q (by simp [hq])), rfl⟩
  | .ot ws, v, f, h, k => by
    simp only [relW] at h ⊢
    obtain ⟨p, vs, h1, h2, h3⟩ := h
    exact ⟨p, vs, h1, e _ _ h2, relWs_frame e h3 k⟩
  | .ob c fs ws, v, f, h, k => by
    simp only [relW] at h ⊢
    obtain ⟨p, dx, C, vs, g, h1, h2, h3, h4, h5, h6, rfl⟩ := h
    exact ⟨p, dx, C, vs, g, h1, h2, (k p (by simp)).trans h3, (k dx (by simp)).trans h4, h5, relWs_frame e h6 (fun q hq => k q (by simp [hq])), rfl⟩
  | .dk ks ws, v, f, h, k => by
    simp only [relW] at h ⊢
    obtain ⟨p, vs, g, h1, h2, h3, h4, rfl⟩ := h
    exact ⟨p, vs, g, h1, (k p (by simp)).trans h2, h3, relWs_frame e h4 (fun q hq => k q (by simp [hq])), rfl⟩
  | .dt ks ws, v, f, h, k => by
    simp only [relW] at h ⊢
    obtain ⟨p, vs, g, h1, h2, h3, h4, rfl⟩ := h
    exact ⟨p, vs, g, h1, (k p (by simp)).trans h2, h3, relWs_frame e h4 (fun q hq => k q (by simp [hq])), rfl⟩
theorem relWs_frame (e : Same B B') : ∀ {ws : List W} {vs : List V} {f : List Addr}, relWs G B H ws vs f → (∀ q ∈ f, H' q = H q) → relWs G B' H' ws vs f
  | [], _, _, h, _ => by simpa [relWs] using h
  | w :: ws, vs, f, h, k => by
    simp only [relWs] at h ⊢
    obtain ⟨v, r, g1, g2, h1, h2, h3, rfl⟩ := h
    exact ⟨v, r, g1, g2, h1, relW_frame e h2 (fun q hq => k q (by simp [hq])), relWs_frame e h3 (fun q hq => k q (by simp [hq])), rfl⟩
end
/-! what stands at an owned address -/
mutual
theorem relW_live : ∀ {w : W} {v : V} {f : List Addr}, relW G B H w v f → ∀ q ∈ f, H q ≠ none
  | .sh d, v, f, h, q, hq => by
    simp only [relW] at h
    rw [h.2] at hq
    simp at hq
  | .ol ws, v, f, h, q, hq => by
    simp only [relW] at h
    obtain ⟨p, vs, g, h1, h2, h3, rfl⟩ := h
    rcases List.mem_cons.mp hq with rfl | hq
    · simp [h2]
    · exact relWs_live h3 q hq
  | .ot ws, v, f, h, q, hq => by
    simp only [relW] at h
    obtain ⟨p, vs, h1, h2, h3⟩ := h
    exact relWs_live h3 q hq
  | .ob c fs ws, v, f, h, q, hq => by
    simp only [relW] at h
    obtain ⟨p, dx, C, vs, g, h1, h2, h3, h4, h5, h6, rfl⟩ := h
    rcases List.mem_cons.mp hq with rfl | hq
    · simp [h3]
    · rcases List.mem_cons.mp hq with rfl | hq
      · simp [h4]
      · exact relWs_live h6 q hq
  | .dk ks ws, v, f, h, q, hq => by
    simp only [relW] at h
    obtain ⟨p, vs, g, h1, h2, h3, h4, rfl⟩ := h
    rcases List.mem_cons.mp hq with rfl | hq
    · simp [h2]
    · exact relWs_live h4 q hq
  | .dt ks ws, v, f, h, q, hq => by
    simp only [relW] at h
    obtain ⟨p, vs, g, h1, h2, h3, h4, rfl⟩ := h
    rcases List.mem_cons.mp hq with rfl | hq
    · simp [h2]
    · exact relWs_live h4 q hq
theorem relWs_live : ∀ {ws : List W} {vs : List V} {f : List Addr}, relWs G B H ws vs f → ∀ q ∈ f, H q ≠ none
  | [], _, _, h, q, hq => by
    simp only [relWs] at h
    rw [h.2] at hq
    simp at hq
  | w :: ws, vs, f, h, q, hq => by
    simp only [relWs] at h
    obtain ⟨v, r, g1, g2, h1, h2, h3, rfl⟩ := h
    rcases List.mem_append.mp hq with hq | hq
    · exact relW_live h2 q hq
    · exact relWs_live h3 q hq
end
/-! an owned tree let go: its data -/
mutual
theorem relW_toD (e : Same B B') : ∀ {w : W} {v : V} {f : List Addr} {d : D}, relW G B H w v f → w.toD = some d → (∀ q ∈ f, B' q = H q) → repD G B' d v
  | .sh d0, v, f, d, h, t, k => by
    simp only [relW] at h
    simp only [W.toD, Option.some.injEq] at t
    subst t
    exact repD_mono e h.1
  | .ol ws, v, f, d, h, t, k => by
    simp only [relW] at h
    obtain ⟨p, vs, g, h1, h2, h3, rfl⟩ := h
    simp only [W.toD, Option.map_eq_some_iff] at t
    obtain ⟨ds, t1, rfl⟩ := t
    simp only [repD]
    exact ⟨p, vs, h1, (k p (by simp)).trans h2, relWs_toD e h3 t1 (fun q hq => k q (by simp [hq]))⟩
  | .ot ws, v, f, d, h, t, k => by
    simp only [relW] at h
    obtain ⟨p, vs, h1, h2, h3⟩ := h
    simp only [W.toD, Option.map_eq_some_iff] at t
    obtain ⟨ds, t1, rfl⟩ := t
    simp only [repD]
    exact ⟨p, vs, h1, SqT.of (e _ _ h2), relWs_toD e h3 t1 k⟩
  | .ob c fs ws, v, f, d, h, t, k => by
    simp only [relW] at h
    obtain ⟨p, dx, C, vs, g, h1, h2, h3, h4, h5, h6, rfl⟩ := h
    simp only [W.toD, Option.map_eq_some_iff] at t
    obtain ⟨ds, t1, rfl⟩ := t
    simp only [repD]
    exact ⟨p, dx, C, vs, h1, h2, (k p (by simp)).trans h3, (k dx (by simp)).trans h4, h5, relWs_toD e h6 t1 (fun q hq => k q (by simp [hq]))⟩
  | .dk _ _, _, _, _, _, t, _ => by simp [W.toD] at t
  | .dt _ _, _, _, _, _, t, _ => by simp [W.toD] at t
theorem relWs_toD (e : Same B B') : ∀ {ws : List W} {vs : List V} {f : List Addr} {ds : List D}, relWs G B H ws vs f → W.toDs ws = some ds → (∀ q ∈ f, B' q = H q) → repDs G B' ds vs
  | [], vs, f, ds, h, t, k => by
    simp only [relWs] at h
    simp only [W.toDs, Option.some.injEq] at t
    subst t
    simp only [repDs]
    exact h.1
  | w :: ws, vs, f, ds, h, t, k => by
    simp only [relWs] at h
    obtain ⟨v, r, g1, g2, h1, h2, h3, rfl⟩ := h
    simp only [W.toDs] at t
    split at t
    · rename_i d ds' e1 e2
      simp only [Option.some.injEq] at t
      subst t
      simp only [repDs]
      exact ⟨v, r, h1, relW_toD e h2 e1 (fun q hq => k q (by simp [hq])), relWs_toD e h3 e2 (fun q hq => k q (by simp [hq]))⟩
    · exact absurd t (by simp)
end
theorem repDs_length : ∀ {ds : List D} {vs : List V}, repDs G B ds vs → ds.length = vs.length
  | [], _, h => by simp only [repDs] at h; simp [h]
  | d :: ds, vs, h => by
    simp only [repDs] at h
    obtain ⟨v, r, rfl, _, h3⟩ := h
    simp [repDs_length h3]
theorem relWs_length : ∀ {ws : List W} {vs : List V} {f : List Addr}, relWs G B H ws vs f → ws.length = vs.length
  | [], _, _, h => by simp only [relWs] at h; simp [h.1]
  | w :: ws, vs, f, h => by
    simp only [relWs] at h
    obtain ⟨v, r, g1, g2, rfl, _, h3, _⟩ := h
    simp [relWs_length h3]
theorem repDs_get : ∀ {ds : List D} {vs : List V} {i : Nat} {d : D}, repDs G B ds vs → ds[i]? = some d → ∃ v, vs[i]? = some v ∧ repD G B d v
  | [], _, i, d, _, e => by simp at e
  | d0 :: ds, vs, 0, d, h, e => by
    simp only [repDs] at h
    obtain ⟨v, r, rfl, h2, h3⟩ := h
    simp at e
    subst e
    exact ⟨v, by simp, h2⟩
  | d0 :: ds, vs, i + 1, d, h, e => by
    simp only [repDs] at h
    obtain ⟨v, r, rfl, h2, h3⟩ := h
    simp at e
    obtain ⟨u, h4, h5⟩ := repDs_get h3 e
    exact ⟨u, by simpa using h4, h5⟩
theorem repDs_append : ∀ {ds es : List D} {vs us : List V}, repDs G B ds vs → repDs G B es us → repDs G B (ds ++ es) (vs ++ us)
  | [], es, vs, us, h, k => by
    simp only [repDs] at h
    subst h
    simpa using k
  | d :: ds, es, vs, us, h, k => by
    simp only [repDs] at h
    obtain ⟨v, r, rfl, h2, h3⟩ := h
    show repDs G B (d :: (ds ++ es)) (v :: (r ++ us))
    simp only [repDs]
    exact ⟨v, r ++ us, rfl, h2, repDs_append h3 k⟩
theorem relWs_append : ∀ {ws xs : List W} {vs us : List V} {f g : List Addr}, relWs G B H ws vs f → relWs G B H xs us g → relWs G B H (ws ++ xs) (vs ++ us) (f ++ g)
  | [], xs, vs, us, f, g, h, k => by
    simp only [relWs] at h
    obtain ⟨rfl, rfl⟩ := h
    simpa using k
  | w :: ws, xs, vs, us, f, g, h, k => by
    simp only [relWs] at h
    obtain ⟨v, r, g1, g2, rfl, h2, h3, rfl⟩ := h
    show relWs G B H (w :: (ws ++ xs)) (v :: (r ++ us)) _
    simp only [relWs]
    exact ⟨v, r ++ us, g1, g2 ++ g, rfl, h2, relWs_append h3 k, by simp⟩
theorem relWs_sh : ∀ {ds : List D} {vs : List V}, repDs G B ds vs → relWs G B H (ds.map W.sh) vs []
  | [], vs, h => by
    simp only [repDs] at h
    simp [relWs, h]
  | d :: ds, vs, h => by
    simp only [repDs] at h
    obtain ⟨v, r, rfl, h2, h3⟩ := h
    show relWs G B H (W.sh d :: ds.map W.sh) _ _
    simp only [relWs]
    exact ⟨v, r, [], [], rfl, by simp only [relW]; exact ⟨h2, trivial⟩, relWs_sh h3, rfl⟩
/-- one of a row of trees taken out -/
theorem relWs_split : ∀ {ws : List W} {vs : List V} {f : List Addr} {i : Nat} {w : W}, relWs G B H ws vs f → ws[i]? = some w →
    ∃ w1 w2 v1 v v2 f1 g f2, ws = w1 ++ w :: w2 ∧ vs = v1 ++ v :: v2 ∧ w1.length = i ∧ v1.length = i ∧ f = f1 ++ (g ++ f2) ∧ relWs G B H w1 v1 f1 ∧ relW G B H w v g ∧ relWs G B H w2 v2 f2
  | [], _, _, i, w, _, e => by simp at e
  | w0 :: ws, vs, f, 0, w, h, e => by
    simp only [relWs] at h
    obtain ⟨v, r, g1, g2, rfl, h2, h3, rfl⟩ := h
    simp at e
    subst e
    exact ⟨[], ws, [], v, r, [], g1, g2, rfl, rfl, rfl, rfl, by simp, by simp [relWs], h2, h3⟩
  | w0 :: ws, vs, f, i + 1, w, h, e => by
    simp only [relWs] at h
    obtain ⟨v, r, g1, g2, rfl, h2, h3, rfl⟩ := h
    simp at e
    obtain ⟨w1, w2, v1, u, v2, f1, g, f2, rfl, rfl, h4, h5, rfl, h6, h7, h8⟩ := relWs_split h3 e
    exact ⟨w0 :: w1, w2, v :: v1, u, v2, g1 ++ f1, g, f2, rfl, rfl, by simp [h4], by simp [h5], by simp, by simp only [relWs]; exact ⟨v, v1, g1, f1, rfl, h2, h6, rfl⟩, h7, h8⟩
theorem relWs_join {w1 w2 : List W} {v1 v2 : List V} {w : W} {v : V} {f1 g f2 : List Addr} (h1 : relWs G B H w1 v1 f1) (h : relW G B H w v g) (h2 : relWs G B H w2 v2 f2) : relWs G B H (w1 ++ w :: w2) (v1 ++ v :: v2) (f1 ++ (g ++ f2)) :=
  relWs_append h1 (by simp only [relWs]; exact ⟨v, v2, g, f2, rfl, h, h2, rfl⟩)
end
end AM

set_option Elab.async false
set_option linter.all false
set_option maxRecDepth 100000
/-! Affine mirror, part 2: environments, steps, the simulation. -/
namespace AM
open PySem L2

abbrev Env := List (Option W)
structure XV where
  c : Str
  ds : List D
inductive Res (α : Type) where
  | ok (a : α)
  | ex (e : XV)
abbrev ME (α : Type) := Env → Option (Res α × Env)
def ME.bind {α β : Type} (m : ME α) (f : α → ME β) : ME β := fun env => match m env with
  | none => none
  | some (.ok a, e) => f a e
  | some (.ex x, e) => some (.ex x, e)
def ME.pure {α : Type} (a : α) : ME α := fun env => some (.ok a, env)
def ME.stuck {α : Type} : ME α := fun _ => none
/-- what a partial function of the data gives -/
def ME.op {α β : Type} (g : α → Option β) (a : α) : ME β := fun env => (g a).map fun b => (.ok b, env)

section
variable (G : GX)
def relS (B H : Hp) (o : Option V) (w : Option W) (f : List Addr) : Prop :=
  match w with
  | none => f = []
  | some w => ∃ v, o = some v ∧ relW G B H w v f
def relE (B H : Hp) : St → Env → List Addr → Prop
  | σ, [], f => σ = [] ∧ f = []
  | σ, w :: e, f => ∃ o τ f1 f2, σ = o :: τ ∧ relS G B H o w f1 ∧ relE B H τ e f2 ∧ f = f1 ++ f2
structure Ok (B H : Hp) (σ : St) (env : Env) (fp : List Addr) : Prop where
  sub : Same B H
  rel : relE G B H σ env fp
  nd : fp.Nodup
  out : ∀ q ∈ fp, B q = none
end
/-- what a piece of code may do to the heap: change what it owns, lay new things, let things go into the common ground -/
structure Step (B H : Hp) (fp : List Addr) (B' H' : Hp) (S : List Addr) : Prop where
  keep : ∀ a o, H a = some o → a ∉ fp → H' a = some o
  bext : Same B B'
  bold : ∀ a, H a ≠ none → a ∉ fp → B' a = B a
  new : ∀ a ∈ S, a ∈ fp ∨ H a = none
  live : ∀ a, H a ≠ none → H' a ≠ none

section
variable {G : GX} {B H B' H' B1 H1 B2 H2 : Hp} {σ : St} {env : Env} {fp S T : List Addr}
theorem Step.refl (h : ∀ a ∈ S, a ∈ fp) : Step B H fp B H S := ⟨fun _ _ h _ => h, fun _ _ h => h, fun _ _ _ => rfl, fun a ha => .inl (h a ha), fun _ h => h⟩
theorem Step.trans {f1 : List Addr} (a : Step B H fp B1 H1 (S ++ f1)) (b : Step B1 H1 f1 B2 H2 T) : Step B H fp B2 H2 (S ++ T) where
  keep := fun x o h n => b.keep x o (a.keep x o h n) fun z => by
    rcases a.new x (by simp [z]) with z | z
    · exact n z
    · rw [z] at h; cases h
  bext := fun x o h => b.bext x o (a.bext x o h)
  bold := fun x h n => (b.bold x (a.live x h) fun z => by
    rcases a.new x (by simp [z]) with z | z
    · exact n z
    · exact h z).trans (a.bold x h n)
  new := fun x hx => by
    rcases List.mem_append.mp hx with hx | hx
    · exact a.new x (by simp [hx])
    · rcases b.new x hx with z | z
      · exact a.new x (by simp [z])
      · refine .inr ?_
        cases q : H x with
        | none => rfl
        | some o => exact absurd z (a.live x (by simp [q]))
  live := fun x h => b.live x (a.live x h)
theorem Step.mono (a : Step B H fp B' H' S) (h : ∀ x ∈ T, x ∈ S) : Step B H fp B' H' T := ⟨a.keep, a.bext, a.bold, fun x hx => a.new x (h x hx), a.live⟩
theorem Step.drop {f1 : List Addr} (a : Step B H fp B' H' (S ++ f1)) : Step B H fp B' H' ([] ++ f1) := a.mono fun x hx => by
  have : x ∈ f1 := by simpa using hx
  simp [this]
theorem relS_frame {o : Option V} {w : Option W} {f : List Addr} (e : Same B B') (h : relS G B H o w f) (k : ∀ q ∈ f, H' q = H q) : relS G B' H' o w f := by
  cases w with
  | none => exact h
  | some w =>
    obtain ⟨v, h1, h2⟩ := h
    exact ⟨v, h1, relW_frame e h2 k⟩
theorem relE_frame (e : Same B B') : ∀ {env : Env} {σ : St} {f : List Addr}, relE G B H σ env f → (∀ q ∈ f, H' q = H q) → relE G B' H' σ env f
  | [], _, _, h, _ => h
  | w :: env, σ, f, h, k => by
    obtain ⟨o, τ, f1, f2, h1, h2, h3, rfl⟩ := h
    exact ⟨o, τ, f1, f2, h1, relS_frame e h2 (fun q hq => k q (by simp [hq])), relE_frame e h3 (fun q hq => k q (by simp [hq])), rfl⟩
theorem relE_live : ∀ {env : Env} {σ : St} {f : List Addr}, relE G B H σ env f → ∀ q ∈ f, H q ≠ none
  | [], _, _, h, q, hq => by
    rw [h.2] at hq
    simp at hq
  | w :: env, σ, f, h, q, hq => by
    obtain ⟨o, τ, f1, f2, h1, h2, h3, rfl⟩ := h
    rcases List.mem_append.mp hq with hq | hq
    · cases w with
      | none =>
        rw [show f1 = [] from h2] at hq
        simp at hq
      | some w =>
        obtain ⟨v, _, h2⟩ := h2
        exact relW_live h2 q hq
    · exact relE_live h3 q hq
theorem relE_length : ∀ {env : Env} {σ : St} {f : List Addr}, relE G B H σ env f → σ.length = env.length
  | [], _, _, h => by simp [h.1]
  | w :: env, σ, f, h => by
    obtain ⟨o, τ, f1, f2, rfl, h2, h3, rfl⟩ := h
    simp [relE_length h3]
theorem relE_split : ∀ {env : Env} {σ : St} {f : List Addr} {i : Nat} {w : Option W}, relE G B H σ env f → env[i]? = some w →
    ∃ e1 e2 s1 o s2 f1 g f2, env = e1 ++ w :: e2 ∧ σ = s1 ++ o :: s2 ∧ e1.length = i ∧ s1.length = i ∧ f = f1 ++ (g ++ f2) ∧ relE G B H s1 e1 f1 ∧ relS G B H o w g ∧ relE G B H s2 e2 f2
  | [], σ, f, i, w, _, e => by simp at e
  | w0 :: env, σ, f, 0, w, h, e => by
    obtain ⟨o, τ, f1, f2, rfl, h2, h3, rfl⟩ := h
    simp at e
    subst e
    exact ⟨[], env, [], o, τ, [], f1, f2, rfl, rfl, rfl, rfl, by simp, ⟨rfl, rfl⟩, h2, h3⟩
  | w0 :: env, σ, f, i + 1, w, h, e => by
    obtain ⟨o, τ, f1, f2, rfl, h2, h3, rfl⟩ := h
    simp at e
    obtain ⟨e1, e2, s1, u, s2, g1, g, g2, rfl, rfl, h4, h5, rfl, h6, h7, h8⟩ := relE_split h3 e
    exact ⟨w0 :: e1, e2, o :: s1, u, s2, f1 ++ g1, g, g2, rfl, rfl, by simp [h4], by simp [h5], by simp, ⟨o, s1, f1, g1, rfl, h2, h6, rfl⟩, h7, h8⟩
theorem relE_append : ∀ {e1 e2 : Env} {s1 s2 : St} {f1 f2 : List Addr}, relE G B H s1 e1 f1 → relE G B H s2 e2 f2 → relE G B H (s1 ++ s2) (e1 ++ e2) (f1 ++ f2)
  | [], _, _, _, _, _, h, k => by
    obtain ⟨rfl, rfl⟩ := h
    simpa using k
  | w :: e1, e2, s1, s2, f1, f2, h, k => by
    obtain ⟨o, τ, g1, g2, rfl, h2, h3, rfl⟩ := h
    exact ⟨o, τ ++ s2, g1, g2 ++ f2, rfl, h2, relE_append h3 k, by simp⟩
theorem relE_join {e1 e2 : Env} {s1 s2 : St} {w : Option W} {o : Option V} {f1 g f2 : List Addr} (h1 : relE G B H s1 e1 f1) (h : relS G B H o w g) (h2 : relE G B H s2 e2 f2) : relE G B H (s1 ++ o :: s2) (e1 ++ w :: e2) (f1 ++ (g ++ f2)) :=
  relE_append h1 ⟨o, s2, g, f2, rfl, h, h2, rfl⟩
theorem set_mid {α : Type} {a b : List α} {x y : α} {i : Nat} (h : a.length = i) : (a ++ x :: b).set i y = a ++ y :: b := by
  subst h
  simp
theorem get_mid {α : Type} {a b : List α} {x : α} {i : Nat} (h : a.length = i) : (a ++ x :: b)[i]? = some x := by
  subst h
  simp
end

/-! ### what a reading's value is to the mirror's -/
/-- the relation of a result: from the ground, the heap, the mirror's value, the machine's, the owned addresses -/
abbrev RR (α β : Type) := Hp → Hp → α → β → List Addr → Prop
structure RR.Good {α β : Type} (R : RR α β) : Prop where
  frame : ∀ {B H B' H' : Hp} {a : α} {b : β} {f : List Addr}, R B H a b f → Same B B' → (∀ q ∈ f, H' q = H q) → R B' H' a b f
  live : ∀ {B H : Hp} {a : α} {b : β} {f : List Addr}, R B H a b f → ∀ q ∈ f, H q ≠ none
def rW (G : GX) : RR W V := relW G
def rWs (G : GX) : RR (List W) (List V) := relWs G
def rEqv (α : Type) : RR α α := fun _ _ a b f => a = b ∧ f = []
def rPair {α β γ δ : Type} (R : RR α β) (T : RR γ δ) : RR (α × γ) (β × δ) := fun B H a b f => ∃ f1 f2, R B H a.1 b.1 f1 ∧ T B H a.2 b.2 f2 ∧ f = f1 ++ f2
theorem rW_good (G : GX) : (rW G).Good := ⟨fun h e k => relW_frame e h k, fun h => relW_live h⟩
theorem rWs_good (G : GX) : (rWs G).Good := ⟨fun h e k => relWs_frame e h k, fun h => relWs_live h⟩
theorem rEqv_good (α : Type) : (rEqv α).Good := ⟨fun h _ _ => h, fun h q hq => by rw [h.2] at hq; simp at hq⟩
theorem rPair_good {α β γ δ : Type} {R : RR α β} {T : RR γ δ} (g : R.Good) (g2 : T.Good) : (rPair R T).Good where
  frame := fun ⟨f1, f2, h1, h2, e⟩ s k => ⟨f1, f2, g.frame h1 s fun q hq => k q (by simp [e, hq]), g2.frame h2 s fun q hq => k q (by simp [e, hq]), e⟩
  live := fun ⟨f1, f2, h1, h2, e⟩ q hq => by
    rw [e] at hq
    rcases List.mem_append.mp hq with hq | hq
    · exact g.live h1 q hq
    · exact g2.live h2 q hq

structure Post {α β : Type} (G : GX) (k p : Bool) (R : RR α β) (B H : Hp) (σ : St) (env : Env) (fp : List Addr) (a : α) (env' : Env) (b : β) (H' B' : Hp) (f0 fp2 : List Addr) : Prop where
  ok : Ok G B' H' σ env' fp2
  rel : R B' H' a b f0
  out : ∀ q ∈ f0, B' q = none
  step : Step B H fp B' H' (f0 ++ fp2)
  own : k = true → f0.Nodup ∧ ∀ q ∈ f0, q ∉ fp2
  pure : p = true → Same H H' ∧ (∀ q, H q ≠ none → B' q = B q) ∧ env' = env ∧ fp2 = fp
/-- an exception on its way: class, own dict -/
def relX (G : GX) (H : Hp) (x : XV) (cls : Value) (d : Option Addr) : Prop :=
  ∃ C, cls = .ref C ∧ G.mg x.c = some (.ref C) ∧ ((d = none ∧ x.ds = []) ∨ ∃ dd v y, d = some dd ∧ H dd = some (.xd [(("place" : Str), v)]) ∧ x.ds = [y] ∧ repD G (fun _ => none) y v)
def Cont {α β : Type} (G : GX) (k p : Bool) (R : RR α β) (Wx : WX) (B H : Hp) (σ : St) (env : Env) (fp : List Addr) (r : Option (Res α × Env)) (Q : β → Hp → Prop) : Prop :=
  match r with
  | none => False
  | some (.ok a, env') => ∀ b H' B' f0 fp2, Post G k p R B H σ env fp a env' b H' B' f0 fp2 → Q b H'
  | some (.ex x, env') => ∀ cls d H' B' fp2, Ok G B' H' σ env' fp2 → Step B H fp B' H' fp2 → relX G H' x cls d → (∀ dd, d = some dd → B' dd = none ∧ dd ∉ fp2 ∧ H dd = none) → Wx cls d σ H'
def Sim {α β : Type} (G : GX) (k p : Bool) (Wx : WX) (R : RR α β) (t : St → Hp → (β → Hp → Prop) → Prop) (m : ME α) : Prop :=
  ∀ B H σ env fp, Ok G B H σ env fp → ∀ Q, Cont G k p R Wx B H σ env fp (m env) Q → t σ H Q

/-- a reading of values alone -/
def OpS {α β γ δ : Type} (R : RR α β) (T : RR γ δ) (r : β → Hp → (δ → Hp → Prop) → Prop) (g : α → Option γ) : Prop :=
  ∀ (B H : Hp) (a : α) (b : β) (f : List Addr) (c : γ), Same B H → R B H a b f → (∀ q ∈ f, B q = none) → g a = some c → ∀ Q : δ → Hp → Prop,
    (∀ y H' B' f', Same H H' → Same B B' → Same B' H' → (∀ q, H q ≠ none → B' q = B q) → (∀ q ∈ f', H q = none ∧ B' q = none) → f'.Nodup → T B' H' c y f' → Q y H') → r b H Q

section
variable {α β γ δ : Type} {G : GX} {k p k2 p2 : Bool} {Wx : WX} {R : RR α β} {T : RR γ δ} {t : St → Hp → (β → Hp → Prop) → Prop} {u : St → Hp → (δ → Hp → Prop) → Prop} {m : ME α} {n : ME γ}
theorem same_some {H H' : Hp} (s : Same H H') {q : Addr} (h : H q ≠ none) : H' q = H q := by
  cases e : H q with
  | none => exact absurd e h
  | some o => exact s q o e
/-- one behind the other -/
theorem Sim.pair (gR : R.Good) (h1 : Sim G k p Wx R t m) (h2 : Sim G k2 p2 Wx T u n) (hc : k = true ∨ p2 = true) :
    Sim G (k && k2) (p && p2) Wx (rPair R T) (fun σ H Q => t σ H fun x H1 => u σ H1 fun y H2 => Q (x, y) H2) (m.bind fun a => n.bind fun b => ME.pure (a, b)) := by
  intro B H σ env fp O Q c
  refine h1 B H σ env fp O _ ?_
  unfold ME.bind at c
  cases e1 : m env with
  | none => rw [e1] at c; exact c
  | some r1 =>
    obtain ⟨r1, env1⟩ := r1
    rw [e1] at c
    cases r1 with
    | ex x => exact c
    | ok a =>
      intro x H1 B1 f1 fp1 P1
      refine h2 B1 H1 σ env1 fp1 P1.ok _ ?_
      simp only at c
      cases e2 : n env1 with
      | none => rw [e2] at c; exact c
      | some r2 =>
        obtain ⟨r2, env2⟩ := r2
        rw [e2] at c
        cases r2 with
        | ex x =>
          intro cls d H2 B2 fp2 O2 S2 hx hd
          refine c cls d H2 B2 fp2 O2 (P1.step.drop.trans S2) hx fun dd e => ?_
          obtain ⟨a1, a2, a3⟩ := hd dd e
          refine ⟨a1, a2, ?_⟩
          cases q : H dd with
          | none => rfl
          | some o => exact absurd a3 (P1.step.live dd (by simp [q]))
        | ok b =>
          intro y H2 B2 f2 fp2 P2
          have live1 := gR.live P1.rel
          have kp : ∀ q ∈ f1, H2 q = H1 q := fun q hq => by
            rcases hc with hc | hc
            · have hn := (P1.own hc).2 q hq
              cases e : H1 q with
              | none => exact absurd e (live1 q hq)
              | some o => exact P2.step.keep q o e hn
            · exact same_some (P2.pure hc).1 (live1 q hq)
          refine c (x, y) H2 B2 (f1 ++ f2) fp2 ⟨P2.ok, ⟨f1, f2, gR.frame P1.rel P2.step.bext kp, P2.rel, rfl⟩, fun q hq => ?_, ?_, fun hk => ?_, fun hp => ?_⟩
          · rcases List.mem_append.mp hq with hq | hq
            · rcases hc with hc | hc
              · rw [P2.step.bold q (live1 q hq) ((P1.own hc).2 q hq)]
                exact P1.out q hq
              · rw [(P2.pure hc).2.1 q (live1 q hq)]
                exact P1.out q hq
            · exact P2.out q hq
          · have := P1.step.trans P2.step
            rw [List.append_assoc]
            exact this
          · simp only [Bool.and_eq_true] at hk
            obtain ⟨n1, d1⟩ := P1.own hk.1
            obtain ⟨n2, d2⟩ := P2.own hk.2
            have dis : ∀ q ∈ f1, q ∉ f2 ++ fp2 := fun q hq z => by
              rcases P2.step.new q z with z | z
              · exact d1 q hq z
              · exact live1 q hq z
            refine ⟨List.nodup_append.mpr ⟨n1, n2, fun q hq r hr e => ?_⟩, fun q hq z => ?_⟩
            · subst e
              exact dis q hq (by simp [hr])
            · rcases List.mem_append.mp hq with hq | hq
              · exact dis q hq (by simp [z])
              · exact d2 q hq z
          · simp only [Bool.and_eq_true] at hp
            obtain ⟨s1, b1, v1, u1⟩ := P1.pure hp.1
            obtain ⟨s2, b2, v2, u2⟩ := P2.pure hp.2
            exact ⟨fun q o h => s2 q o (s1 q o h), fun q h => (b2 q (P1.step.live q h)).trans (b1 q h), v2.trans v1, u2.trans u1⟩
/-- an operation on what a reading gives; what it gives is new -/
theorem Sim.op {r : β → Hp → (δ → Hp → Prop) → Prop} {g : α → Option γ} (h : Sim G k p Wx R t m) (ho : OpS R T r g) : Sim G true p Wx T (fun σ H Q => t σ H fun x H1 => r x H1 Q) (m.bind (ME.op g)) := by
  intro B H σ env fp O Q c
  refine h B H σ env fp O _ ?_
  unfold ME.bind at c
  cases e1 : m env with
  | none => rw [e1] at c; exact c
  | some r1 =>
    obtain ⟨r1, env1⟩ := r1
    rw [e1] at c
    cases r1 with
    | ex x => exact c
    | ok a =>
      intro x H1 B1 f1 fp1 P1
      simp only [ME.op] at c
      cases e2 : g a with
      | none => rw [e2] at c; exact c.elim
      | some b =>
        rw [e2] at c
        refine ho B1 H1 a x f1 b P1.ok.sub P1.rel P1.out e2 Q fun y H2 B2 f2 s1 s2 s3 s4 s5 s6 s7 => ?_
        have liveE := relE_live P1.ok.rel
        have fresh : ∀ q ∈ f2, q ∉ fp1 := fun q hq z => liveE q z (s5 q hq).1
        refine c y H2 B2 f2 fp1 ⟨⟨s3, relE_frame s2 P1.ok.rel fun q hq => same_some s1 (liveE q hq), P1.ok.nd, fun q hq => ?_⟩, s7, fun q hq => (s5 q hq).2, ⟨fun q o e n => ?_, fun q o e => s2 q o (P1.step.bext q o e), fun q h n => ?_, fun q hq => ?_, fun q h => ?_⟩, fun _ => ⟨s6, fresh⟩, fun hp => ?_⟩
        · rw [s4 q (liveE q hq)]
          exact P1.ok.out q hq
        · exact s1 q o (P1.step.keep q o e n)
        · rw [s4 q (P1.step.live q h)]
          exact P1.step.bold q h n
        · rcases List.mem_append.mp hq with hq | hq
          · refine .inr ?_
            cases e : H q with
            | none => rfl
            | some o => exact absurd (s5 q hq).1 (P1.step.live q (by simp [e]))
          · exact P1.step.new q (by simp [hq])
        · rw [same_some s1 (P1.step.live q h)]
          exact P1.step.live q h
        · obtain ⟨a1, a2, a3, a4⟩ := P1.pure hp
          exact ⟨fun q o e => s1 q o (a1 q o e), fun q e => (s4 q (P1.step.live q e)).trans (a2 q e), a3, a4⟩
/-- the weaker reading of a result -/
theorem Sim.own (h : Sim G true p Wx R t m) (k' : Bool) : Sim G k' p Wx R t m := by
  intro B H σ env fp O Q c
  refine h B H σ env fp O Q ?_
  cases e : m env with
  | none => rw [e] at c; exact c
  | some r =>
    obtain ⟨r, env'⟩ := r
    rw [e] at c
    cases r with
    | ex x => exact c
    | ok a => exact fun b H' B' f0 fp2 P => c b H' B' f0 fp2 ⟨P.ok, P.rel, P.out, P.step, fun _ => P.own rfl, P.pure⟩
theorem Sim.unpure (h : Sim G k true Wx R t m) (p' : Bool) : Sim G k p' Wx R t m := by
  intro B H σ env fp O Q c
  refine h B H σ env fp O Q ?_
  cases e : m env with
  | none => rw [e] at c; exact c
  | some r =>
    obtain ⟨r, env'⟩ := r
    rw [e] at c
    cases r with
    | ex x => exact c
    | ok a => exact fun b H' B' f0 fp2 P => c b H' B' f0 fp2 ⟨P.ok, P.rel, P.out, P.step, P.own, fun _ => P.pure rfl⟩
end
end AM

set_option Elab.async false
set_option linter.all false
set_option maxRecDepth 100000
/-! Affine mirror, part 3: expressions: names, constants, operators. -/
namespace AM
open PySem L2

abbrev gx (X : Cx) : GX := ⟨X.K, X.mg⟩
/-- an expression does what m does -/
def SE (X : Cx) (Wx : WX) (k p : Bool) (e : Expr) (m : ME W) : Prop := ∃ t : TE, PE X e t ∧ Sim (gx X) k p Wx (rW (gx X)) t m
def SA (X : Cx) (Wx : WX) (k p : Bool) (es : List Expr) (m : ME (List W)) : Prop := ∃ t : TA, PA X es t ∧ Sim (gx X) k p Wx (rWs (gx X)) t m
def STt (X : Cx) (Wx : WX) (p : Bool) (e : Expr) (m : ME Bool) : Prop := ∃ t : TT, PT X e t ∧ Sim (gx X) true p Wx (rEqv Bool) t m

/-! ### names -/
def mVar (i : Nat) : ME W := fun env => match env[i]? with
  | some (some w) => some (.ok w, env)
  | _ => none
def mVarS (i : Nat) : ME W := fun env => match env[i]? with
  | some (some (.sh d)) => some (.ok (.sh d), env)
  | _ => none
def mMov (i : Nat) : ME W := fun env => match env[i]? with
  | some (some w) => some (.ok w, env.set i none)
  | _ => none
def mFrz (i : Nat) : ME W := fun env => match env[i]? with
  | some (some w) => w.toD.map fun d => (.ok (.sh d), env.set i (some (.sh d)))
  | _ => none
/-- the ground grown by what stands at g -/
def grd (B H : Hp) (g : List Addr) : Hp := fun a => if a ∈ g then H a else B a
theorem grd_in {B H : Hp} {g : List Addr} {a : Addr} (h : a ∈ g) : grd B H g a = H a := if_pos h
theorem grd_out {B H : Hp} {g : List Addr} {a : Addr} (h : a ∉ g) : grd B H g a = B a := if_neg h
theorem grd_bext {B H : Hp} {g : List Addr} (h : ∀ q ∈ g, B q = none) : Same B (grd B H g) := fun a o e => by
  rw [grd_out (fun z => by rw [h a z] at e; cases e)]
  exact e
theorem grd_sub {B H : Hp} {g : List Addr} (s : Same B H) : Same (grd B H g) H := fun a o e => by
  unfold grd at e
  split at e
  · exact e
  · exact s a o e
section
variable {G : GX} {Wx : WX} {i : Nat}
theorem sim_var : Sim G false true Wx (rW G) (tVar i) (mVar i) := by
  intro B H σ env fp O Q c
  unfold mVar at c
  cases e : env[i]? with
  | none => rw [e] at c; exact c.elim
  | some w =>
    rw [e] at c
    cases w with
    | none => exact c.elim
    | some w =>
      obtain ⟨e1, e2, s1, o, s2, f1, g, f2, rfl, rfl, h1, h2, rfl, r1, ⟨v, rfl, rv⟩, r2⟩ := relE_split O.rel e
      refine ⟨v, get_mid h2, c v H B g (f1 ++ (g ++ f2)) ⟨O, rv, fun q hq => O.out q (by simp [hq]), Step.refl (fun a ha => by simp only [List.mem_append] at ha ⊢; grind), fun z => (Bool.noConfusion z), fun _ => ⟨Same.refl H, fun _ _ => rfl, rfl, rfl⟩⟩⟩
theorem sim_varS : Sim G true true Wx (rW G) (tVar i) (mVarS i) := by
  intro B H σ env fp O Q c
  unfold mVarS at c
  cases e : env[i]? with
  | none => rw [e] at c; exact c.elim
  | some w =>
    rw [e] at c
    cases w with
    | none => exact c.elim
    | some w =>
      cases w with
      | sh d =>
        obtain ⟨e1, e2, s1, o, s2, f1, g, f2, rfl, rfl, h1, h2, rfl, r1, ⟨v, rfl, rv⟩, r2⟩ := relE_split O.rel e
        refine ⟨v, get_mid h2, c v H B [] (f1 ++ (g ++ f2)) ⟨O, ?_, fun q hq => by simp at hq, Step.refl (by simp), fun z => ⟨List.nodup_nil, fun q hq => by simp at hq⟩, fun _ => ⟨Same.refl H, fun _ _ => rfl, rfl, rfl⟩⟩⟩
        simp only [relW] at rv
        show relW G B H _ _ _
        simp only [relW]
        exact ⟨rv.1, trivial⟩
      | ol _ => exact c.elim
      | ot _ => exact c.elim
      | ob _ _ _ => exact c.elim
      | dk _ _ => exact c.elim
      | dt _ _ => exact c.elim
theorem sim_mov (p : Bool) (hp : p = false) : Sim G true p Wx (rW G) (tVar i) (mMov i) := by
  intro B H σ env fp O Q c
  unfold mMov at c
  cases e : env[i]? with
  | none => rw [e] at c; exact c.elim
  | some w =>
    rw [e] at c
    cases w with
    | none => exact c.elim
    | some w =>
      obtain ⟨e1, e2, s1, o, s2, f1, g, f2, rfl, rfl, h1, h2, rfl, r1, ⟨v, rfl, rv⟩, r2⟩ := relE_split O.rel e
      have nd := O.nd
      simp only [List.nodup_append, List.mem_append] at nd
      obtain ⟨n1, ⟨n2, n3, n4⟩, n5⟩ := nd
      have O' : Ok G B H (s1 ++ some v :: s2) ((e1 ++ some w :: e2).set i none) (f1 ++ ([] ++ f2)) := by
        rw [set_mid h1]
        refine ⟨O.sub, relE_join r1 rfl r2, ?_, fun q hq => O.out q ?_⟩
        · simp only [List.nil_append, List.nodup_append]
          exact ⟨n1, n3, fun a ha b hb => n5 a ha b (.inr hb)⟩
        · simp only [List.nil_append, List.mem_append] at hq ⊢
          rcases hq with hq | hq
          · exact .inl hq
          · exact .inr (.inr hq)
      refine ⟨v, get_mid h2, c v H B g (f1 ++ ([] ++ f2)) ⟨O', rv, fun q hq => O.out q (by simp [hq]), Step.refl ?_, fun _ => ⟨n2, fun q hq z => ?_⟩, fun z => by rw [hp] at z; cases z⟩⟩
      · intro a ha
        simp only [List.nil_append, List.mem_append] at ha ⊢
        rcases ha with ha | ha | ha
        · exact .inr (.inl ha)
        · exact .inl ha
        · exact .inr (.inr ha)
      · simp only [List.nil_append, List.mem_append] at z
        rcases z with z | z
        · exact n5 q z q (.inl hq) rfl
        · exact n4 q hq q z rfl
theorem sim_frz (p : Bool) (hp : p = false) : Sim G true p Wx (rW G) (tVar i) (mFrz i) := by
  intro B H σ env fp O Q c
  unfold mFrz at c
  cases e : env[i]? with
  | none => rw [e] at c; exact c.elim
  | some w =>
    rw [e] at c
    cases w with
    | none => exact c.elim
    | some w =>
      simp only at c
      cases ed : w.toD with
      | none => rw [ed] at c; exact c.elim
      | some d =>
        rw [ed] at c
        obtain ⟨e1, e2, s1, o, s2, f1, g, f2, rfl, rfl, h1, h2, rfl, r1, ⟨v, rfl, rv⟩, r2⟩ := relE_split O.rel e
        have nd := O.nd
        simp only [List.nodup_append, List.mem_append] at nd
        obtain ⟨n1, ⟨n2, n3, n4⟩, n5⟩ := nd
        have og : ∀ q ∈ g, B q = none := fun q hq => O.out q (by simp [hq])
        have be := grd_bext (H := H) og
        have rd : repD G (grd B H g) d v := relW_toD be rv ed fun q hq => grd_in hq
        have rsh : relW G (grd B H g) H (.sh d) v [] := by simp only [relW]; exact ⟨rd, trivial⟩
        have O' : Ok G (grd B H g) H (s1 ++ some v :: s2) ((e1 ++ some w :: e2).set i (some (.sh d))) (f1 ++ ([] ++ f2)) := by
          rw [set_mid h1]
          refine ⟨grd_sub O.sub, relE_join (relE_frame be r1 fun _ _ => rfl) ⟨v, rfl, rsh⟩ (relE_frame be r2 fun _ _ => rfl), ?_, fun q hq => ?_⟩
          · simp only [List.nil_append, List.nodup_append]
            exact ⟨n1, n3, fun a ha b hb => n5 a ha b (.inr hb)⟩
          · simp only [List.nil_append, List.mem_append] at hq
            rw [grd_out fun z => ?_]
            · exact O.out q (by rcases hq with hq | hq <;> simp [hq])
            · rcases hq with hq | hq
              · exact n5 q hq q (.inl z) rfl
              · exact n4 q z q hq rfl
        refine ⟨v, get_mid h2, c v H (grd B H g) [] (f1 ++ ([] ++ f2)) ⟨O', rsh, fun q hq => by simp at hq, ⟨fun _ _ h _ => h, be, fun a _ n => grd_out fun z => n (by simp [z]), fun a ha => .inl ?_, fun _ h => h⟩, fun _ => ⟨List.nodup_nil, fun q hq => by simp at hq⟩, fun z => by rw [hp] at z; cases z⟩⟩
        simp only [List.nil_append, List.mem_append] at ha ⊢
        rcases ha with ha | ha
        · exact .inl ha
        · exact .inr (.inr ha)
/-! ### constants -/
def mC (d : D) : ME W := ME.pure (.sh d)
theorem sim_c {v : V} {d : D} (h : ∀ B : Hp, repD G B d v) : Sim G true true Wx (rW G) (tC v) (mC d) := by
  intro B H σ env fp O Q c
  refine c v H B [] fp ⟨O, ?_, fun q hq => by simp at hq, Step.refl (by simp), fun _ => ⟨List.nodup_nil, fun q hq => by simp at hq⟩, fun _ => ⟨Same.refl H, fun _ _ => rfl, rfl, rfl⟩⟩
  show relW G B H _ _ _
  simp only [relW]
  exact ⟨h B, trivial⟩
end
section
variable {X : Cx} {Wx : WX} {i : Nat} {x : Str} {pos : Pos}
theorem se_var (i : Nat) (h : PE X (.Name x pos) (tVar i)) : SE X Wx false true (.Name x pos) (mVar i) := ⟨_, h, sim_var⟩
theorem se_varS (i : Nat) (h : PE X (.Name x pos) (tVar i)) : SE X Wx true true (.Name x pos) (mVarS i) := ⟨_, h, sim_varS⟩
theorem se_mov (i : Nat) (h : PE X (.Name x pos) (tVar i)) : SE X Wx true false (.Name x pos) (mMov i) := ⟨_, h, sim_mov false rfl⟩
theorem se_frz (i : Nat) (h : PE X (.Name x pos) (tVar i)) : SE X Wx true false (.Name x pos) (mFrz i) := ⟨_, h, sim_frz false rfl⟩
theorem se_int {i : Int} {j} : SE X Wx true true (.Constant (.int i) j pos) (mC (.int i)) := ⟨_, pe_int, sim_c fun _ => by simp [repD]⟩
theorem se_bl {b : Bool} {j} : SE X Wx true true (.Constant (.bool b) j pos) (mC (.bl b)) := ⟨_, pe_bl, sim_c fun _ => by simp [repD]⟩
theorem se_non {j} : SE X Wx true true (.Constant .none j pos) (mC .non) := ⟨_, pe_non, sim_c fun _ => by simp [repD]⟩
theorem se_str {s : Str} {j} : SE X Wx true true (.Constant (.str s) j pos) (mC (.str s)) := ⟨_, pe_str, sim_c fun _ => by simp [repD]⟩
/-- a module's constant -/
theorem se_gint {i : Int} {u : Value} (hg : Gl X x) (hm : X.mg x = some u) (r : RelV (.int i) u) (hd : (x == ("__debug__" : Str)) = false := by decide) : SE X Wx true true (.Name x pos) (mC (.int i)) := ⟨_, pe_glob hg hm r hd, sim_c fun _ => by simp [repD]⟩
theorem se_gstr {s : Str} {u : Value} (hg : Gl X x) (hm : X.mg x = some u) (r : RelV (.str s) u) (hd : (x == ("__debug__" : Str)) = false := by decide) : SE X Wx true true (.Name x pos) (mC (.str s)) := ⟨_, pe_glob hg hm r hd, sim_c fun _ => by simp [repD]⟩
end

/-! ### operators -/
section
variable {G : GX} {α β : Type} {R : RR α β}
theorem OpS.or {δ γ : Type} {T : RR γ δ} {r r' : β → Hp → (δ → Hp → Prop) → Prop} {g g' : α → Option γ} (h : OpS R T r g) (h' : OpS R T r' g') : OpS R T (fun b H Q => r b H Q ∨ r' b H Q) (fun a => (g a).or (g' a)) := by
  intro B H a b f c s ra o e Q q
  have e : (g a).or (g' a) = some c := e
  cases e1 : g a with
  | some c1 =>
    rw [e1] at e
    cases e
    exact .inl (h B H a b f _ s ra o e1 Q q)
  | none =>
    rw [e1] at e
    exact .inr (h' B H a b f _ s ra o e Q q)
theorem OpR.or {X : Cx} {f : Value → Value → Sem Value} {r r' : R2} (h : OpR X f r) (h' : OpR X f r') : OpR X f (fun x y H Q => r x y H Q ∨ r' x y H Q) :=
  fun pins s σ H x y v u Q I rx ry q => q.elim (h pins s σ H x y v u Q I rx ry) (h' pins s σ H x y v u Q I rx ry)
/-- the answer does not hang on the heap -/
theorem ops_flat {r : β → Hp → VK → Prop} {g : α → Option W} (h : ∀ (B H : Hp) (a : α) (b : β) (f : List Addr) (c : W), Same B H → R B H a b f → g a = some c → ∃ d v, c = .sh d ∧ repD G B d v ∧ ∀ Q : VK, Q v H → r b H Q) : OpS R (rW G) r g := by
  intro B H a b f c s ra o e Q q
  obtain ⟨d, v, rfl, rd, k⟩ := h B H a b f c s ra e
  refine k Q (q v H B [] (Same.refl H) (Same.refl B) s (fun _ _ => rfl) (fun q hq => by simp at hq) List.nodup_nil ?_)
  show relW G B H _ _ _
  simp only [relW]
  exact ⟨rd, trivial⟩
/-- a new list of shared things -/
theorem ops_newL {r : β → Hp → VK → Prop} {g : α → Option W} (h : ∀ (B H : Hp) (a : α) (b : β) (f : List Addr) (c : W), Same B H → R B H a b f → g a = some c → ∃ ds vs, c = .ol (ds.map W.sh) ∧ repDs G B ds vs ∧ ∀ Q : VK, (∀ p, H p = none → Q (.ref p) (upd H p (.lst vs))) → r b H Q) : OpS R (rW G) r g := by
  intro B H a b f c s ra o e Q q
  obtain ⟨ds, vs, rfl, rd, k⟩ := h B H a b f c s ra e
  refine k Q fun p np => ?_
  have nB : B p = none := by
    cases z : B p with
    | none => rfl
    | some o' => rw [s p o' z] at np; cases np
  have sm : Same H (upd H p (.lst vs)) := fun a o e => by rw [upd_ne (ne_of_none e np)]; exact e
  refine q _ _ B [p] sm (Same.refl B) (s.trans sm) (fun _ _ => rfl) (fun x hx => by simp at hx; subst hx; exact ⟨np, nB⟩) (by simp) ?_
  show relW G B _ _ _ _
  simp only [relW]
  exact ⟨p, vs, [], rfl, upd_same, relWs_sh rd, rfl⟩
/-- a new tuple of shared things -/
theorem ops_newT {r : β → Hp → VK → Prop} {g : α → Option W} (h : ∀ (B H : Hp) (a : α) (b : β) (f : List Addr) (c : W), Same B H → R B H a b f → g a = some c → ∃ ds vs, c = .sh (.tup ds) ∧ repDs G B ds vs ∧ ∀ Q : VK, (∀ p, H p = none → Q (.ref p) (upd H p (.tup vs))) → r b H Q) : OpS R (rW G) r g := by
  intro B H a b f c s ra o e Q q
  obtain ⟨ds, vs, rfl, rd, k⟩ := h B H a b f c s ra e
  refine k Q fun p np => ?_
  have nB : B p = none := by
    cases z : B p with
    | none => rfl
    | some o' => rw [s p o' z] at np; cases np
  have sm : Same H (upd H p (.tup vs)) := fun a o e => by rw [upd_ne (ne_of_none e np)]; exact e
  have sB : Same B (upd B p (.tup vs)) := fun a o e => by rw [upd_ne (ne_of_none e nB)]; exact e
  refine q _ _ (upd B p (.tup vs)) [] sm sB (fun a o e => ?_) (fun a ha => ?_) (fun x hx => by simp at hx) List.nodup_nil ?_
  · by_cases ea : a = p
    · subst ea
      rw [upd_same] at e ⊢
      exact e
    · rw [upd_ne ea] at e ⊢
      exact s a o e
  · rw [upd_ne (fun z => ha (by rw [z]; exact np))]
  · show relW G _ _ _ _ _
    simp only [relW, repD]
    exact ⟨⟨p, vs, rfl, SqT.of upd_same, repDs_mono sB rd⟩, trivial⟩
end

def mOp2 (g : W × W → Option W) (ma mb : ME W) : ME W := (ma.bind fun a => mb.bind fun b => ME.pure (a, b)).bind (ME.op g)
def mOp1 (g : W → Option W) (ma : ME W) : ME W := ma.bind (ME.op g)
abbrev rWW (G : GX) : RR (W × W) (V × V) := rPair (rW G) (rW G)
section
variable {X : Cx} {Wx : WX} {k1 p1 k2 p2 : Bool} {a b : Expr} {ma mb : ME W} {pos : Pos} {r : R2} {g : W × W → Option W}
theorem se_op {op : Operator} (ho : OpR X (binaryOp op) r) (hs : OpS (rWW (gx X)) (rW (gx X)) (fun xy => r xy.1 xy.2) g) (ha : SE X Wx k1 p1 a ma) (hb : SE X Wx k2 p2 b mb) (hc : k1 = true ∨ p2 = true := by decide) : SE X Wx true (p1 && p2) (.BinOp a op b pos) (mOp2 g ma mb) := by
  obtain ⟨ta, pa, sa⟩ := ha
  obtain ⟨tb, pb, sb⟩ := hb
  exact ⟨_, pe_op ho pa pb, (Sim.pair (rW_good _) sa sb hc).op hs⟩
theorem se_cmp {op : CmpOp} (ho : OpR X (compareOp op) r) (hs : OpS (rWW (gx X)) (rW (gx X)) (fun xy => r xy.1 xy.2) g) (hm : behindInMarks op b = false) (ha : SE X Wx k1 p1 a ma) (hb : SE X Wx k2 p2 b mb) (hc : k1 = true ∨ p2 = true := by decide) : SE X Wx true (p1 && p2) (.Compare a [op] [b] pos) (mOp2 g ma mb) := by
  obtain ⟨ta, pa, sa⟩ := ha
  obtain ⟨tb, pb, sb⟩ := hb
  exact ⟨_, pe_cmpR ho pa pb hm, (Sim.pair (rW_good _) sa sb hc).op hs⟩
theorem se_un {op : UnaryOp} {r : V → Hp → VK → Prop} {g : W → Option W} (ho : UnR X (unaryOp op) r) (hs : OpS (rW (gx X)) (rW (gx X)) r g) (ha : SE X Wx k1 p1 a ma) : SE X Wx true p1 (.UnaryOp op a pos) (mOp1 g ma) := by
  obtain ⟨ta, pa, sa⟩ := ha
  exact ⟨_, pe_un ho pa, sa.op hs⟩
end
/-! the operators' data -/
def wInt : W → Option Int
  | .sh (.int i) => some i
  | _ => none
def wStr : W → Option Str
  | .sh (.str s) => some s
  | _ => none
def wBl : W → Option Bool
  | .sh (.bl b) => some b
  | _ => none
theorem wInt_eq {w : W} {i : Int} (h : wInt w = some i) : w = .sh (.int i) := by
  unfold wInt at h
  split at h
  · cases h; rfl
  · cases h
theorem wStr_eq {w : W} {i : Str} (h : wStr w = some i) : w = .sh (.str i) := by
  unfold wStr at h
  split at h
  · cases h; rfl
  · cases h
theorem wBl_eq {w : W} {i : Bool} (h : wBl w = some i) : w = .sh (.bl i) := by
  unfold wBl at h
  split at h
  · cases h; rfl
  · cases h
/-- two whole numbers -/
def gII (C : Int → Int → Bool) (f : Int → Int → D) : W × W → Option W := fun p => match wInt p.1, wInt p.2 with
  | some i, some j => if C i j then some (.sh (f i j)) else none
  | _, _ => none
def gI (f : Int → D) : W → Option W := fun w => (wInt w).map fun i => .sh (f i)
section
variable {G : GX}
theorem ops_II {C : Int → Int → Prop} {C' : Int → Int → Bool} {f : Int → Int → D} {fv : Int → Int → V} (hC : ∀ i j, C' i j = true → C i j) (hf : ∀ B i j, repD G B (f i j) (fv i j)) : OpS (rWW G) (rW G) (fun xy => rI C fv xy.1 xy.2) (gII C' f) := by
  refine ops_flat fun B H a b fp c s ra e => ?_
  obtain ⟨f1, f2, r1, r2, _⟩ := ra
  unfold gII at e
  split at e
  · rename_i i j h1 h2
    split at e
    · rename_i h3
      rw [wInt_eq h1] at r1
      rw [wInt_eq h2] at r2
      have r1 : relW _ _ _ _ _ _ := r1
      have r2 : relW _ _ _ _ _ _ := r2
      simp only [relW, repD] at r1 r2
      cases e
      exact ⟨_, fv i j, rfl, hf B i j, fun Q q => ⟨i, j, r1.1, r2.1, hC i j h3, q⟩⟩
    · cases e
  · cases e
theorem ops_II0 {f : Int → Int → D} {fv : Int → Int → V} (hf : ∀ B i j, repD G B (f i j) (fv i j)) : OpS (rWW G) (rW G) (fun xy => rI0 fv xy.1 xy.2) (gII (fun _ _ => true) f) := by
  refine ops_flat fun B H a b fp c s ra e => ?_
  obtain ⟨f1, f2, r1, r2, _⟩ := ra
  unfold gII at e
  split at e
  · rename_i i j h1 h2
    rw [wInt_eq h1] at r1
    rw [wInt_eq h2] at r2
    have r1 : relW _ _ _ _ _ _ := r1
    have r2 : relW _ _ _ _ _ _ := r2
    simp only [relW, repD] at r1 r2
    cases e
    exact ⟨_, fv i j, rfl, hf B i j, fun Q q => ⟨i, j, r1.1, r2.1, q⟩⟩
  · cases e
theorem ops_I {f : Int → D} {fv : Int → V} (hf : ∀ B i, repD G B (f i) (fv i)) : OpS (rW G) (rW G) (rU fv) (gI f) := by
  refine ops_flat fun B H a b fp c s ra e => ?_
  unfold gI at e
  simp only [Option.map_eq_some_iff] at e
  obtain ⟨i, h1, rfl⟩ := e
  rw [wInt_eq h1] at ra
  have ra : relW _ _ _ _ _ _ := ra
  simp only [relW, repD] at ra
  exact ⟨_, fv i, rfl, hf B i, fun Q q => ⟨i, ra.1, q⟩⟩
end
end AM

set_option Elab.async false
set_option linter.all false
set_option maxRecDepth 100000
/-! Affine mirror, part 4: displays, subscripts, comparisons of data. -/
namespace AM
open PySem L2

/-- an operation that hands on what it was handed -/
def OpG {α β γ δ : Type} (R : RR α β) (T : RR γ δ) (r : β → Hp → (δ → Hp → Prop) → Prop) (g : α → Option γ) : Prop :=
  ∀ (B H : Hp) (a : α) (b : β) (f : List Addr) (c : γ), Same B H → R B H a b f → (∀ q ∈ f, B q = none) → f.Nodup → g a = some c → ∀ Q : δ → Hp → Prop,
    (∀ y H' B' f', Same H H' → Same B B' → Same B' H' → (∀ q, H q ≠ none → B' q = B q) → (∀ q ∈ f', B' q = none ∧ (q ∈ f ∨ H q = none)) → f'.Nodup → T B' H' c y f' → Q y H') → r b H Q
/-- an operation that tells a part of what it was handed -/
def OpP {α β γ δ : Type} (R : RR α β) (T : RR γ δ) (r : β → Hp → (δ → Hp → Prop) → Prop) (g : α → Option γ) : Prop :=
  ∀ (B H : Hp) (a : α) (b : β) (f : List Addr) (c : γ), Same B H → R B H a b f → g a = some c → ∀ Q : δ → Hp → Prop,
    (∀ y f', (∀ q ∈ f', q ∈ f) → (f.Nodup → f'.Nodup) → T B H c y f' → Q y H) → r b H Q
section
variable {α β γ δ : Type} {G : GX} {k p : Bool} {Wx : WX} {R : RR α β} {T : RR γ δ} {t : St → Hp → (β → Hp → Prop) → Prop} {m : ME α}
theorem Sim.opG {r : β → Hp → (δ → Hp → Prop) → Prop} {g : α → Option γ} (h : Sim G true p Wx R t m) (ho : OpG R T r g) : Sim G true p Wx T (fun σ H Q => t σ H fun x H1 => r x H1 Q) (m.bind (ME.op g)) := by
  intro B H σ env fp O Q c
  refine h B H σ env fp O _ ?_
  unfold ME.bind at c
  cases e1 : m env with
  | none => rw [e1] at c; exact c
  | some r1 =>
    obtain ⟨r1, env1⟩ := r1
    rw [e1] at c
    cases r1 with
    | ex x => exact c
    | ok a =>
      intro x H1 B1 f1 fp1 P1
      simp only [ME.op] at c
      cases e2 : g a with
      | none => rw [e2] at c; exact c.elim
      | some b =>
        rw [e2] at c
        obtain ⟨nd1, ds1⟩ := P1.own rfl
        refine ho B1 H1 a x f1 b P1.ok.sub P1.rel P1.out nd1 e2 Q fun y H2 B2 f2 s1 s2 s3 s4 s5 s6 s7 => ?_
        have liveE := relE_live P1.ok.rel
        have fresh : ∀ q ∈ f2, q ∉ fp1 := fun q hq z => by
          rcases (s5 q hq).2 with y | y
          · exact ds1 q y z
          · exact liveE q z y
        refine c y H2 B2 f2 fp1 ⟨⟨s3, relE_frame s2 P1.ok.rel fun q hq => same_some s1 (liveE q hq), P1.ok.nd, fun q hq => ?_⟩, s7, fun q hq => (s5 q hq).1, ⟨fun q o e n => ?_, fun q o e => s2 q o (P1.step.bext q o e), fun q h n => ?_, fun q hq => ?_, fun q h => ?_⟩, fun _ => ⟨s6, fresh⟩, fun hp => ?_⟩
        · rw [s4 q (liveE q hq)]
          exact P1.ok.out q hq
        · exact s1 q o (P1.step.keep q o e n)
        · rw [s4 q (P1.step.live q h)]
          exact P1.step.bold q h n
        · rcases List.mem_append.mp hq with hq | hq
          · rcases (s5 q hq).2 with y | y
            · exact P1.step.new q (by simp [y])
            · refine .inr ?_
              cases e : H q with
              | none => rfl
              | some o => exact absurd y (P1.step.live q (by simp [e]))
          · exact P1.step.new q (by simp [hq])
        · rw [same_some s1 (P1.step.live q h)]
          exact P1.step.live q h
        · obtain ⟨a1, a2, a3, a4⟩ := P1.pure hp
          exact ⟨fun q o e => s1 q o (a1 q o e), fun q e => (s4 q (P1.step.live q e)).trans (a2 q e), a3, a4⟩
theorem Sim.opP {r : β → Hp → (δ → Hp → Prop) → Prop} {g : α → Option γ} (h : Sim G k p Wx R t m) (ho : OpP R T r g) : Sim G k p Wx T (fun σ H Q => t σ H fun x H1 => r x H1 Q) (m.bind (ME.op g)) := by
  intro B H σ env fp O Q c
  refine h B H σ env fp O _ ?_
  unfold ME.bind at c
  cases e1 : m env with
  | none => rw [e1] at c; exact c
  | some r1 =>
    obtain ⟨r1, env1⟩ := r1
    rw [e1] at c
    cases r1 with
    | ex x => exact c
    | ok a =>
      intro x H1 B1 f1 fp1 P1
      simp only [ME.op] at c
      cases e2 : g a with
      | none => rw [e2] at c; exact c.elim
      | some b =>
        rw [e2] at c
        refine ho B1 H1 a x f1 b P1.ok.sub P1.rel e2 Q fun y f2 s1 s2 s3 => ?_
        exact c y H1 B1 f2 fp1 ⟨P1.ok, s3, fun q hq => P1.out q (s1 q hq), P1.step.mono fun q hq => by
          rcases List.mem_append.mp hq with hq | hq
          · simp [s1 q hq]
          · simp [hq], fun z => ⟨s2 (P1.own z).1, fun q hq => (P1.own z).2 q (s1 q hq)⟩, P1.pure⟩
/-- what is shared data is nobody's -/
def wSh : W → Option W
  | .sh d => some (.sh d)
  | _ => none
def mSh (m : ME W) : ME W := m.bind (ME.op wSh)
theorem Sim.sh {t : TE} {m : ME W} (h : Sim G k p Wx (rW G) t m) : Sim G true p Wx (rW G) t (mSh m) := by
  intro B H σ env fp O Q c
  refine h B H σ env fp O _ ?_
  unfold mSh ME.bind at c
  cases e1 : m env with
  | none => rw [e1] at c; exact c
  | some r1 =>
    obtain ⟨r1, env1⟩ := r1
    rw [e1] at c
    cases r1 with
    | ex x => exact c
    | ok a =>
      intro x H1 B1 f1 fp1 P1
      cases a with
      | sh d =>
        have P1r : relW G B1 H1 (.sh d) x f1 := P1.rel
        have e0 : f1 = [] := by simp only [relW] at P1r; exact P1r.2
        subst e0
        exact c x H1 B1 [] fp1 ⟨P1.ok, P1.rel, P1.out, P1.step, fun _ => ⟨List.nodup_nil, fun q hq => by simp at hq⟩, P1.pure⟩
      | ol _ => exact c.elim
      | ot _ => exact c.elim
      | ob _ _ _ => exact c.elim
      | dk _ _ => exact c.elim
      | dt _ _ => exact c.elim
end
section
variable {X : Cx} {Wx : WX} {k p k1 p1 k2 p2 : Bool} {e a b : Expr} {es : List Expr} {m ma mb : ME W} {ms : ME (List W)} {pos : Pos}
theorem se_sh (h : SE X Wx k p e m) : SE X Wx true p e (mSh m) := by
  obtain ⟨t, pe, s⟩ := h
  exact ⟨t, pe, s.sh⟩
theorem se_k (h : SE X Wx true p e m) : SE X Wx false p e m := by
  obtain ⟨t, pe, s⟩ := h
  exact ⟨t, pe, s.own false⟩
theorem se_p (h : SE X Wx k true e m) : SE X Wx k false e m := by
  obtain ⟨t, pe, s⟩ := h
  exact ⟨t, pe, s.unpure false⟩
/-! ### argument lists -/
def mNil : ME (List W) := ME.pure []
def mCons (m : ME W) (ms : ME (List W)) : ME (List W) := (m.bind fun a => ms.bind fun b => ME.pure (a, b)).bind (ME.op fun p => some (p.1 :: p.2))
theorem sim_nil {G : GX} : Sim G true true Wx (rWs G) tNil mNil := by
  intro B H σ env fp O Q c
  refine c [] H B [] fp ⟨O, ?_, fun q hq => by simp at hq, Step.refl (by simp), fun _ => ⟨List.nodup_nil, fun q hq => by simp at hq⟩, fun _ => ⟨Same.refl H, fun _ _ => rfl, rfl, rfl⟩⟩
  show relWs G B H [] [] []
  simp [relWs]
theorem sa_nil : SA X Wx true true [] mNil := ⟨_, pa_nil, sim_nil⟩
theorem sa_cons (h : SE X Wx k1 p1 e m) (hr : SA X Wx k2 p2 es ms) (hc : k1 = true ∨ p2 = true := by decide) (hs : starEach (e :: es) X.env = (false, eval e X.env) :: starEach es X.env := by rfl) : SA X Wx (k1 && k2) (p1 && p2) (e :: es) (mCons m ms) := by
  obtain ⟨t, pe, s⟩ := h
  obtain ⟨u, pr, sr⟩ := hr
  refine ⟨_, pa_cons pe pr hs, ?_⟩
  have := (Sim.pair (rW_good _) s sr hc).opP (T := rWs (gx X)) (r := fun (xy : V × List V) H (Q : List V → Hp → Prop) => Q (xy.1 :: xy.2) H) (g := fun p => some (p.1 :: p.2)) (by
    intro B H a b f c sb ra e Q q
    obtain ⟨f1, f2, r1, r2, rfl⟩ := ra
    cases e
    refine q _ (f1 ++ f2) (fun _ h => h) (fun h => h) ?_
    show relWs _ _ _ _ _ _
    simp only [relWs]
    exact ⟨b.1, b.2, f1, f2, rfl, r1, r2, rfl⟩)
  exact this
/-! ### displays -/
def shsOf : List W → Option (List D)
  | [] => some []
  | .sh d :: ws => (shsOf ws).map fun ds => d :: ds
  | _ :: _ => none
theorem shsOf_eq : ∀ {ws : List W} {ds : List D}, shsOf ws = some ds → ws = ds.map W.sh
  | [], ds, h => by cases h; rfl
  | .sh d :: ws, ds, h => by
    simp only [shsOf, Option.map_eq_some_iff] at h
    obtain ⟨r, h1, rfl⟩ := h
    rw [shsOf_eq h1]
    rfl
  | .ol _ :: _, _, h => by simp [shsOf] at h
  | .ot _ :: _, _, h => by simp [shsOf] at h
  | .ob _ _ _ :: _, _, h => by simp [shsOf] at h
  | .dk _ _ :: _, _, h => by simp [shsOf] at h
  | .dt _ _ :: _, _, h => by simp [shsOf] at h
theorem relWs_shs {G : GX} {B H : Hp} : ∀ {ds : List D} {vs : List V} {f : List Addr}, relWs G B H (ds.map W.sh) vs f → repDs G B ds vs ∧ f = []
  | [], vs, f, h => by
    simp only [List.map_nil, relWs] at h
    simp [repDs, h]
  | d :: ds, vs, f, h => by
    simp only [List.map_cons, relWs, relW] at h
    obtain ⟨v, r, g1, g2, rfl, ⟨h1, rfl⟩, h2, rfl⟩ := h
    obtain ⟨h3, rfl⟩ := relWs_shs h2
    exact ⟨by simp only [repDs]; exact ⟨v, r, rfl, h1, h3⟩, rfl⟩
def gLst (ws : List W) : Option W := if ws.length ≤ 100000 then some (.ol ws) else none
def gTup (ws : List W) : Option W := if ws.length ≤ 100000 then some (match shsOf ws with
  | some ds => .sh (.tup ds)
  | none => .ot ws) else none
theorem sz_ok {n : Nat} (h : n ≤ 100000) : n ≤ sizeLine := Nat.le_trans h (by decide)
theorem none_of_sub {B H : Hp} (s : Same B H) {p : Addr} (h : H p = none) : B p = none := by
  cases z : B p with
  | none => rfl
  | some o' => rw [s p o' z] at h; cases h
theorem same_new {H : Hp} {p : Addr} {o : HO} (np : H p = none) : Same H (upd H p o) := fun a u e => by rw [upd_ne (ne_of_none e np)]; exact e
theorem opg_lst {G : GX} : OpG (rWs G) (rW G) (fun (xs : List V) H (Q : VK) => xs.length ≤ sizeLine ∧ ∀ p, H p = none → Q (.ref p) (upd H p (.lst xs))) gLst := by
  intro B H ws vs f c s ra o nd e Q q
  have ra : relWs _ _ _ _ _ _ := ra
  unfold gLst at e
  split at e
  · rename_i hl
    cases e
    refine ⟨by rw [← relWs_length ra]; exact sz_ok hl, fun p np => ?_⟩
    have nB := none_of_sub s np
    have sm : Same H (upd H p (.lst vs)) := same_new np
    have lv := relWs_live ra
    refine q _ _ B (p :: f) sm (Same.refl B) (s.trans sm) (fun _ _ => rfl) (fun x hx => ?_) (List.nodup_cons.mpr ⟨fun z => lv p z np, nd⟩) ?_
    · rcases List.mem_cons.mp hx with rfl | hx
      · exact ⟨nB, .inr np⟩
      · exact ⟨o x hx, .inl hx⟩
    · show relW _ _ _ _ _ _
      simp only [relW]
      exact ⟨p, vs, f, rfl, upd_same, relWs_frame (Same.refl B) ra fun x hx => by rw [upd_ne (fun z => lv x hx (by rw [z]; exact np))], rfl⟩
  · cases e
theorem opg_tup {G : GX} : OpG (rWs G) (rW G) (fun (xs : List V) H (Q : VK) => xs.length ≤ sizeLine ∧ ∀ p, H p = none → Q (.ref p) (upd H p (.tup xs))) gTup := by
  intro B H ws vs f c s ra o nd e Q q
  have ra : relWs _ _ _ _ _ _ := ra
  unfold gTup at e
  split at e
  · rename_i hl
    cases e
    refine ⟨by rw [← relWs_length ra]; exact sz_ok hl, fun p np => ?_⟩
    have nB := none_of_sub s np
    have sm : Same H (upd H p (.tup vs)) := same_new np
    have sB : Same B (upd B p (.tup vs)) := same_new nB
    have lv := relWs_live ra
    have nep : ∀ x ∈ f, x ≠ p := fun x hx z => lv x hx (by rw [z]; exact np)
    refine q _ _ (upd B p (.tup vs)) f sm sB (fun a u z => ?_) (fun a ha => by rw [upd_ne (fun z => ha (by rw [z]; exact np))]) (fun x hx => ⟨by rw [upd_ne (nep x hx)]; exact o x hx, .inl hx⟩) nd ?_
    · by_cases ea : a = p
      · subst ea
        rw [upd_same] at z ⊢
        exact z
      · rw [upd_ne ea] at z ⊢
        exact s a u z
    · have ra' := relWs_frame sB ra (H' := upd H p (.tup vs)) fun x hx => upd_ne (nep x hx)
      cases es : shsOf ws with
      | none =>
        show relW _ _ _ (.ot ws) _ _
        simp only [relW]
        exact ⟨p, vs, rfl, upd_same, ra'⟩
      | some ds =>
        rw [shsOf_eq es] at ra'
        obtain ⟨r1, rfl⟩ := relWs_shs ra'
        show relW _ _ _ (.sh (.tup ds)) _ _
        simp only [relW, repD]
        exact ⟨⟨p, vs, rfl, SqT.of upd_same, r1⟩, trivial⟩
  · cases e
def mLst (m : ME (List W)) : ME W := m.bind (ME.op gLst)
def mTup (m : ME (List W)) : ME W := m.bind (ME.op gTup)
theorem se_lst (h : SA X Wx true p es ms) : SE X Wx true p (.List es pos) (mLst ms) := by
  obtain ⟨t, pa, s⟩ := h
  exact ⟨_, pe_lst pa, s.opG opg_lst⟩
theorem se_tup {x1} (h : SA X Wx true p es ms) : SE X Wx true p (.Tuple es x1 pos) (mTup ms) := by
  obtain ⟨t, pa, s⟩ := h
  exact ⟨_, pe_tup pa, s.opG opg_tup⟩
end

/-! ### data -/
mutual
def D.pd : D → Option PyData
  | .non => some .none
  | .bl b => some (.bool b)
  | .int i => some (.int i)
  | .str s => some (.str s)
  | .lst ds => (D.pds ds).map .list
  | .tup ds => (D.pds ds).map .tuple
  | .exc _ _ => none
  | .scr _ => none
  | .obj _ _ _ => none
def D.pds : List D → Option (List PyData)
  | [] => some []
  | d :: ds => match D.pd d, D.pds ds with
    | some x, some xs => some (x :: xs)
    | _, _ => none
end
section
variable {G : GX} {B H : Hp}
mutual
theorem repD_dp : ∀ {d : D} {v : V} {x : PyData}, repD G H d v → d.pd = some x → Dp G.K H v x
  | .non, v, x, h, e => by simp only [repD] at h; simp only [D.pd] at e; cases e; subst h; exact .non
  | .bl b, v, x, h, e => by simp only [repD] at h; simp only [D.pd] at e; cases e; subst h; exact .bl b
  | .int i, v, x, h, e => by simp only [repD] at h; simp only [D.pd] at e; cases e; subst h; exact .int i
  | .str s, v, x, h, e => by simp only [repD] at h; simp only [D.pd] at e; cases e; subst h; exact .str s
  | .lst ds, v, x, h, e => by
    simp only [repD] at h
    simp only [D.pd, Option.map_eq_some_iff] at e
    obtain ⟨xs, e1, rfl⟩ := e
    obtain ⟨a, vs, rfl, h1, h2⟩ := h
    exact .lst (SqL.of h1) (repDs_dp h2 e1)
  | .tup ds, v, x, h, e => by
    simp only [repD] at h
    simp only [D.pd, Option.map_eq_some_iff] at e
    obtain ⟨xs, e1, rfl⟩ := e
    obtain ⟨a, vs, rfl, h1, h2⟩ := h
    exact .tup h1 (repDs_dp h2 e1)
  | .exc _ _, _, _, _, e => by simp [D.pd] at e
  | .scr _, _, _, _, e => by simp [D.pd] at e
  | .obj _ _ _, _, _, _, e => by simp [D.pd] at e
theorem repDs_dp : ∀ {ds : List D} {vs : List V} {xs : List PyData}, repDs G H ds vs → D.pds ds = some xs → DpAll G.K H vs xs
  | [], vs, xs, h, e => by simp only [repDs] at h; simp only [D.pds] at e; cases e; subst h; exact .nil
  | d :: ds, vs, xs, h, e => by
    simp only [repDs] at h
    obtain ⟨v, r, rfl, h1, h2⟩ := h
    simp only [D.pds] at e
    split at e
    · rename_i x xs' e1 e2
      cases e
      exact .cons (repD_dp h1 e1) (repDs_dp h2 e2)
    · cases e
end
theorem relW_D {w : W} {v : V} {f : List Addr} {d : D} (s : Same B H) (r : relW G B H w v f) (e : w.toD = some d) : repD G H d v := relW_toD s r e fun _ _ => rfl
def wPd (w : W) : Option PyData := match w.toD.bind D.pd with
  | some x => if SeqAt.shaped x then some x else none
  | none => none
theorem relW_pd {w : W} {v : V} {f : List Addr} {x : PyData} (s : Same B H) (r : relW G B H w v f) (e : wPd w = some x) : Dp G.K H v x ∧ SeqAt.shaped x = true := by
  unfold wPd at e
  split at e
  · rename_i y h
    split at e
    · rename_i h2
      cases e
      simp only [Option.bind_eq_some_iff] at h
      obtain ⟨d, e1, e2⟩ := h
      exact ⟨repD_dp (relW_D s r e1) e2, h2⟩
    · cases e
  · cases e
def gDD (f : PyData → PyData → Option Bool) : W × W → Option W := fun p => match wPd p.1, wPd p.2 with
  | some x, some y => (f x y).map fun b => .sh (.bl b)
  | _, _ => none
def fEq (x y : PyData) : Option Bool := some (PyData.eqv x y)
def fNe (x y : PyData) : Option Bool := some (!PyData.eqv x y)
def fIn (x y : PyData) : Option Bool := match y with
  | .list ds => some (ds.any fun z => PyData.eqv z x)
  | _ => none
def fNotIn (x y : PyData) : Option Bool := match y with
  | .list ds => some (!ds.any fun z => PyData.eqv z x)
  | _ => none
theorem ops_DD {r : R2} {f : PyData → PyData → Option Bool} (hr : ∀ (H : Hp) (x y : V) (d e : PyData) (b : Bool) (Q : VK), Dp G.K H x d → Dp G.K H y e → SeqAt.shaped d = true → SeqAt.shaped e = true → f d e = some b → Q (.bl b) H → r x y H Q) :
    OpS (rWW G) (rW G) (fun xy => r xy.1 xy.2) (gDD f) := by
  refine ops_flat fun B H a b fp c s ra e => ?_
  obtain ⟨f1, f2, r1, r2, _⟩ := ra
  unfold gDD at e
  split at e
  · rename_i x y h1 h2
    simp only [Option.map_eq_some_iff] at e
    obtain ⟨z, e1, rfl⟩ := e
    obtain ⟨d1, s1⟩ := relW_pd s r1 h1
    obtain ⟨d2, s2⟩ := relW_pd s r2 h2
    exact ⟨.bl z, .bl z, rfl, by simp [repD], fun Q q => hr H _ _ x y z Q d1 d2 s1 s2 e1 q⟩
  · cases e
end
section
variable {X : Cx} {Wx : WX} {k p k1 p1 k2 p2 : Bool} {e a b : Expr} {m ma mb : ME W} {pos : Pos}
def gEq : W × W → Option W := gDD fEq
def gNe : W × W → Option W := gDD fNe
theorem se_eq (hu : X.A.units + 64 < cLine) (ha : SE X Wx k1 p1 a ma) (hb : SE X Wx k2 p2 b mb) (hc : k1 = true ∨ p2 = true := by decide) : SE X Wx true (p1 && p2) (.Compare a [.Eq] [b] pos) (mOp2 gEq ma mb) :=
  se_cmp (op_eqD hu) (ops_DD (G := gx X) fun H x y d e b Q h1 h2 h3 h4 hf q => ⟨d, e, h1, h2, h3, h4, by cases hf; exact q⟩) (nomark _) ha hb hc
theorem se_ne (hu : X.A.units + 64 < cLine) (ha : SE X Wx k1 p1 a ma) (hb : SE X Wx k2 p2 b mb) (hc : k1 = true ∨ p2 = true := by decide) : SE X Wx true (p1 && p2) (.Compare a [.NotEq] [b] pos) (mOp2 gNe ma mb) :=
  se_cmp (op_neD hu) (ops_DD (G := gx X) fun H x y d e b Q h1 h2 h3 h4 hf q => ⟨d, e, h1, h2, h3, h4, by cases hf; exact q⟩) (nomark _) ha hb hc
/-- in a list of data, a part of a text -/
def gInS (neg : Bool) : W × W → Option W := fun p => match wStr p.1, wStr p.2 with
  | some x, some y => some (.sh (.bl (if neg then !(!(Builtin.Str.occurrences y x 0 y.length 1).isEmpty) else !(Builtin.Str.occurrences y x 0 y.length 1).isEmpty)))
  | _, _ => none
/-- in a tuple of flat things -/
def wFlat : W → Option V
  | .sh .non => some .non
  | .sh (.bl b) => some (.bl b)
  | .sh (.int i) => some (.int i)
  | .sh (.str s) => some (.str s)
  | _ => none
def dFlat : D → Option V
  | .non => some .non
  | .bl b => some (.bl b)
  | .int i => some (.int i)
  | .str s => some (.str s)
  | _ => none
def dFlats : List D → Option (List V)
  | [] => some []
  | d :: ds => match dFlat d, dFlats ds with
    | some x, some xs => some (x :: xs)
    | _, _ => none
theorem dFlat_eq {G : GX} {B : Hp} {d : D} {x v : V} (h : dFlat d = some x) (r : repD G B d v) : v = x ∧ flatV x = true := by
  unfold dFlat at h
  split at h <;> first | (cases h; simp only [repD] at r; exact ⟨r, rfl⟩) | cases h
theorem dFlats_eq {G : GX} {B : Hp} : ∀ {ds : List D} {xs vs : List V}, dFlats ds = some xs → repDs G B ds vs → vs = xs ∧ xs.all flatV = true
  | [], xs, vs, h, r => by simp only [dFlats] at h; cases h; simp only [repDs] at r; simp [r]
  | d :: ds, xs, vs, h, r => by
    simp only [repDs] at r
    obtain ⟨v, r', rfl, r1, r2⟩ := r
    simp only [dFlats] at h
    split at h
    · rename_i x xs' h1 h2
      cases h
      obtain ⟨rfl, f1⟩ := dFlat_eq h1 r1
      obtain ⟨rfl, f2⟩ := dFlats_eq h2 r2
      exact ⟨rfl, by simp [f1, f2]⟩
    · cases h
def gInT (neg : Bool) : W × W → Option W := fun p => match p.1, p.2 with
  | .sh d, .sh (.tup ds) => match dFlat d, dFlats ds with
    | some x, some xs => some (.sh (.bl (if neg then !inV x xs else inV x xs)))
    | _, _ => none
  | _, _ => none
theorem ops_inT {G : GX} (neg : Bool) : OpS (rWW G) (rW G) (fun xy => rIn G.K neg xy.1 xy.2) (gInT neg) := by
  refine ops_flat fun B H a b fp c s ra e => ?_
  obtain ⟨f1, f2, r1, r2, _⟩ := ra
  obtain ⟨a1, a2⟩ := a
  unfold gInT at e
  simp only at e r1 r2
  split at e
  · rename_i d ds
    have r1 : relW _ _ _ _ _ _ := r1
    have r2 : relW _ _ _ _ _ _ := r2
    simp only [relW, repD] at r1 r2
    obtain ⟨⟨p, vs, e2, h2, h3⟩, _⟩ := r2
    split at e
    · rename_i x xs h4 h5
      cases e
      obtain ⟨e1, fx⟩ := dFlat_eq h4 r1.1
      obtain ⟨e3, fs⟩ := dFlats_eq h5 h3
      subst e3
      exact ⟨.bl _, .bl (if neg then !inV x vs else inV x vs), rfl, by simp [repD], fun Q q => ⟨p, _, e2, .inr (sqT_of_same s h2), by rw [e1]; exact fx, fs, by rw [e1]; exact q⟩⟩
    · cases e
  · cases e
theorem ops_inS {G : GX} : OpS (rWW G) (rW G) (fun xy => (fun x y H (Q : VK) => ∃ i j, x = V.str i ∧ y = V.str j ∧ Q (.bl (!(Builtin.Str.occurrences j i 0 j.length 1).isEmpty)) H) xy.1 xy.2) (gInS false) := by
  refine ops_flat fun B H a b fp c s ra e => ?_
  obtain ⟨f1, f2, r1, r2, _⟩ := ra
  unfold gInS at e
  split at e
  · rename_i x y h1 h2
    cases e
    rw [wStr_eq h1] at r1
    rw [wStr_eq h2] at r2
    have r1 : relW _ _ _ _ _ _ := r1
    have r2 : relW _ _ _ _ _ _ := r2
    simp only [relW, repD] at r1 r2
    exact ⟨.bl _, .bl _, rfl, by simp [repD], fun Q q => ⟨x, y, r1.1, r2.1, q⟩⟩
  · cases e
theorem ops_notInS {G : GX} : OpS (rWW G) (rW G) (fun xy => (fun x y H (Q : VK) => ∃ i j, x = V.str i ∧ y = V.str j ∧ Q (.bl (!(!(Builtin.Str.occurrences j i 0 j.length 1).isEmpty))) H) xy.1 xy.2) (gInS true) := by
  refine ops_flat fun B H a b fp c s ra e => ?_
  obtain ⟨f1, f2, r1, r2, _⟩ := ra
  unfold gInS at e
  split at e
  · rename_i x y h1 h2
    cases e
    rw [wStr_eq h1] at r1
    rw [wStr_eq h2] at r2
    have r1 : relW _ _ _ _ _ _ := r1
    have r2 : relW _ _ _ _ _ _ := r2
    simp only [relW, repD] at r1 r2
    exact ⟨.bl _, .bl _, rfl, by simp [repD], fun Q q => ⟨x, y, r1.1, r2.1, q⟩⟩
  · cases e
def gIn : W × W → Option W := fun p => (gDD fIn p).or ((gInT false p).or (gInS false p))
def gNotIn : W × W → Option W := fun p => (gDD fNotIn p).or ((gInT true p).or (gInS true p))
theorem se_in (hu : X.A.units + 65 < cLine) (hm : behindInMarks .In b = false) (ha : SE X Wx k1 p1 a ma) (hb : SE X Wx k2 p2 b mb) (hc : k1 = true ∨ p2 = true := by decide) : SE X Wx true (p1 && p2) (.Compare a [.In] [b] pos) (mOp2 gIn ma mb) := by
  refine se_cmp (OpR.or (op_inD hu) (OpR.or op_in_seq op_in_str)) (OpS.or (ops_DD (G := gx X) fun H x y d e b Q h1 h2 h3 h4 hf q => ?_) (OpS.or (ops_inT false) ops_inS)) hm ha hb hc
  unfold fIn at hf
  split at hf
  · cases hf
    exact ⟨d, _, h1, h2, h3, h4, q⟩
  · cases hf
theorem se_notIn (hu : X.A.units + 65 < cLine) (hm : behindInMarks .NotIn b = false) (ha : SE X Wx k1 p1 a ma) (hb : SE X Wx k2 p2 b mb) (hc : k1 = true ∨ p2 = true := by decide) : SE X Wx true (p1 && p2) (.Compare a [.NotIn] [b] pos) (mOp2 gNotIn ma mb) := by
  refine se_cmp (OpR.or (op_notInD hu) (OpR.or op_notIn_seq op_notin_str)) (OpS.or (ops_DD (G := gx X) fun H x y d e b Q h1 h2 h3 h4 hf q => ?_) (OpS.or (ops_inT true) ops_notInS)) hm ha hb hc
  unfold fNotIn at hf
  split at hf
  · cases hf
    exact ⟨d, _, h1, h2, h3, h4, q⟩
  · cases hf
/-! numbers -/
def dI (i : Int) : D := .int i
def dB (b : Bool) : D := .bl b
def gLt := gII (fun _ _ => true) fun i j => .bl (decide (i < j))
def gLe := gII (fun _ _ => true) fun i j => .bl (decide (i ≤ j))
def gGt := gII (fun _ _ => true) fun i j => .bl (decide (j < i))
def gGe := gII (fun _ _ => true) fun i j => .bl (decide (j ≤ i))
theorem se_lt (ha : SE X Wx k1 p1 a ma) (hb : SE X Wx k2 p2 b mb) (hc : k1 = true ∨ p2 = true := by decide) : SE X Wx true (p1 && p2) (.Compare a [.Lt] [b] pos) (mOp2 gLt ma mb) := se_cmp op_lt (ops_II0 fun _ _ _ => by simp [repD]) (nomark _) ha hb hc
theorem se_le (ha : SE X Wx k1 p1 a ma) (hb : SE X Wx k2 p2 b mb) (hc : k1 = true ∨ p2 = true := by decide) : SE X Wx true (p1 && p2) (.Compare a [.LtE] [b] pos) (mOp2 gLe ma mb) := se_cmp op_le (ops_II0 fun _ _ _ => by simp [repD]) (nomark _) ha hb hc
theorem se_gt (ha : SE X Wx k1 p1 a ma) (hb : SE X Wx k2 p2 b mb) (hc : k1 = true ∨ p2 = true := by decide) : SE X Wx true (p1 && p2) (.Compare a [.Gt] [b] pos) (mOp2 gGt ma mb) := se_cmp op_gt (ops_II0 fun _ _ _ => by simp [repD]) (nomark _) ha hb hc
theorem se_ge (ha : SE X Wx k1 p1 a ma) (hb : SE X Wx k2 p2 b mb) (hc : k1 = true ∨ p2 = true := by decide) : SE X Wx true (p1 && p2) (.Compare a [.GtE] [b] pos) (mOp2 gGe ma mb) := se_cmp op_ge (ops_II0 fun _ _ _ => by simp [repD]) (nomark _) ha hb hc
def gSub := gII (fun _ _ => true) fun i j => .int (i - j)
def gMulI := gII (fun i j => decide (i.natAbs.log2 + j.natAbs.log2 < 1000000)) fun i j => .int (i * j)
def gDivP := gII (fun _ j => decide (0 < j) && decide (j.natAbs.log2 < 9000)) fun i j => .int (i / j)
def gDivN := gII (fun _ j => decide (j ≠ 0) && decide (j.natAbs < 1073741824)) fun i j => .int (i.fdiv j)
def gModP := gII (fun _ j => decide (0 < j)) fun i j => .int (i % j)
def gModN := gII (fun _ j => decide (j ≠ 0)) fun i j => .int (i.fmod j)
def gPow := gII (fun i j => decide (0 ≤ j) && decide (j ≤ 1000000) && decide (i.natAbs < 2 ^ 64)) fun i j => .int (i ^ j.toNat)
def gShl := gII (fun i j => decide (0 ≤ j) && decide (j ≤ 1000000) && decide (i.natAbs < 2 ^ 64)) fun i j => .int (i * 2 ^ j.toNat)
def gShr := gII (fun _ j => decide (0 ≤ j)) fun i j => .int (i / 2 ^ j.toNat)
def gAnd := gII (fun _ _ => true) fun i j => .int (Builtin.bitAnd i j)
def gDiv : W × W → Option W := fun p => (gDivP p).or (gDivN p)
def gMod : W × W → Option W := fun p => (gModP p).or (gModN p)
theorem se_sub (ha : SE X Wx k1 p1 a ma) (hb : SE X Wx k2 p2 b mb) (hc : k1 = true ∨ p2 = true := by decide) : SE X Wx true (p1 && p2) (.BinOp a .Sub b pos) (mOp2 gSub ma mb) := se_op op_sub (ops_II0 fun _ _ _ => by simp [repD]) ha hb hc
theorem se_fdiv (ha : SE X Wx k1 p1 a ma) (hb : SE X Wx k2 p2 b mb) (hc : k1 = true ∨ p2 = true := by decide) : SE X Wx true (p1 && p2) (.BinOp a .FloorDiv b pos) (mOp2 gDiv ma mb) :=
  se_op (OpR.or op_fdivW op_fdivN) (OpS.or (ops_II (fun i j h => by simpa [CDivW] using h) fun _ _ _ => by simp [repD]) (ops_II (fun i j h => by simpa [CDivN] using h) fun _ _ _ => by simp [repD])) ha hb hc
theorem se_mod (ha : SE X Wx k1 p1 a ma) (hb : SE X Wx k2 p2 b mb) (hc : k1 = true ∨ p2 = true := by decide) : SE X Wx true (p1 && p2) (.BinOp a .Mod b pos) (mOp2 gMod ma mb) :=
  se_op (OpR.or op_mod op_modN) (OpS.or (ops_II (fun i j h => by simpa using h) fun _ _ _ => by simp [repD]) (ops_II (fun i j h => by simpa using h) fun _ _ _ => by simp [repD])) ha hb hc
theorem se_pow (ha : SE X Wx k1 p1 a ma) (hb : SE X Wx k2 p2 b mb) (hc : k1 = true ∨ p2 = true := by decide) : SE X Wx true (p1 && p2) (.BinOp a .Pow b pos) (mOp2 gPow ma mb) :=
  se_op op_pow (ops_II (fun i j h => by simp only [Bool.and_eq_true, decide_eq_true_eq] at h; exact ⟨h.1.1, h.1.2, h.2⟩) fun _ _ _ => by simp [repD]) ha hb hc
theorem se_shl (ha : SE X Wx k1 p1 a ma) (hb : SE X Wx k2 p2 b mb) (hc : k1 = true ∨ p2 = true := by decide) : SE X Wx true (p1 && p2) (.BinOp a .LShift b pos) (mOp2 gShl ma mb) :=
  se_op op_shl (ops_II (fun i j h => by simp only [Bool.and_eq_true, decide_eq_true_eq] at h; exact ⟨h.1.1, h.1.2, h.2⟩) fun _ _ _ => by simp [repD]) ha hb hc
theorem se_shr (ha : SE X Wx k1 p1 a ma) (hb : SE X Wx k2 p2 b mb) (hc : k1 = true ∨ p2 = true := by decide) : SE X Wx true (p1 && p2) (.BinOp a .RShift b pos) (mOp2 gShr ma mb) := se_op op_shr (ops_II (fun i j h => by simpa using h) fun _ _ _ => by simp [repD]) ha hb hc
theorem se_and (ha : SE X Wx k1 p1 a ma) (hb : SE X Wx k2 p2 b mb) (hc : k1 = true ∨ p2 = true := by decide) : SE X Wx true (p1 && p2) (.BinOp a .BitAnd b pos) (mOp2 gAnd ma mb) := se_op op_and (ops_II0 fun _ _ _ => by simp [repD]) ha hb hc
def gNeg := gI fun i => .int (-i)
theorem se_neg (ha : SE X Wx k1 p1 a ma) : SE X Wx true p1 (.UnaryOp .USub a pos) (mOp1 gNeg ma) := se_un un_neg (ops_I fun _ _ => by simp [repD]) ha
/-! +, * of all kinds -/
def gAddI := gII (fun _ _ => true) fun i j => .int (i + j)
def gAddS : W × W → Option W := fun p => match wStr p.1, wStr p.2 with
  | some x, some y => if x.length + y.length ≤ 100000 then some (.sh (.str (x ++ y))) else none
  | _, _ => none
/-- the shared things in a list -/
def wEls : W → Option (List D)
  | .sh (.lst ds) => some ds
  | .ol ws => shsOf ws
  | _ => none
def wTEls : W → Option (List D)
  | .sh (.tup ds) => some ds
  | _ => none
theorem wEls_eq {G : GX} {B H : Hp} {w : W} {v : V} {f : List Addr} {ds : List D} (s : Same B H) (r : relW G B H w v f) (e : wEls w = some ds) : ∃ a vs, v = .ref a ∧ H a = some (.lst vs) ∧ repDs G B ds vs := by
  unfold wEls at e
  split at e
  · cases e
    simp only [relW, repD] at r
    obtain ⟨⟨a, vs, h1, h2, h3⟩, _⟩ := r
    exact ⟨a, vs, h1, s _ _ h2, h3⟩
  · rename_i ws
    simp only [relW] at r
    obtain ⟨p, vs, g, h1, h2, h3, _⟩ := r
    rw [shsOf_eq e] at h3
    exact ⟨p, vs, h1, h2, (relWs_shs h3).1⟩
  · cases e
def gCat : W × W → Option W := fun p => match wEls p.1, wEls p.2 with
  | some x, some y => if x.length + y.length ≤ 100000 then some (.ol ((x ++ y).map W.sh)) else none
  | _, _ => none
def gCatT : W × W → Option W := fun p => match wTEls p.1, wTEls p.2 with
  | some x, some y => if x.length + y.length ≤ 100000 then (if x.length ≠ 0 ∧ y.length ≠ 0 then some (.sh (.tup (x ++ y))) else none) else none
  | _, _ => none
theorem ops_addS {G : GX} : OpS (rWW G) (rW G) (fun xy => (fun x y H (Q : VK) => ∃ i j, x = V.str i ∧ y = V.str j ∧ i.length + j.length ≤ sizeLine ∧ Q (.str (i ++ j)) H) xy.1 xy.2) gAddS := by
  refine ops_flat fun B H a b fp c s ra e => ?_
  obtain ⟨f1, f2, r1, r2, _⟩ := ra
  unfold gAddS at e
  split at e
  · rename_i x y h1 h2
    split at e
    · rename_i h3
      cases e
      rw [wStr_eq h1] at r1
      rw [wStr_eq h2] at r2
      have r1 : relW _ _ _ _ _ _ := r1
      have r2 : relW _ _ _ _ _ _ := r2
      simp only [relW, repD] at r1 r2
      exact ⟨.str _, .str _, rfl, by simp [repD], fun Q q => ⟨x, y, r1.1, r2.1, sz_ok h3, q⟩⟩
    · cases e
  · cases e
theorem ops_cat {G : GX} : OpS (rWW G) (rW G) (fun xy => rCat xy.1 xy.2) gCat := by
  refine ops_newL fun B H a b fp c s ra e => ?_
  obtain ⟨f1, f2, r1, r2, _⟩ := ra
  unfold gCat at e
  split at e
  · rename_i x y h1 h2
    split at e
    · rename_i h3
      cases e
      obtain ⟨l1, v1, e1, g1, d1⟩ := wEls_eq s r1 h1
      obtain ⟨l2, v2, e2, g2, d2⟩ := wEls_eq s r2 h2
      exact ⟨x ++ y, v1 ++ v2, rfl, repDs_append d1 d2, fun Q q => ⟨l1, l2, v1, v2, e1, e2, g1, g2, by rw [← repDs_length d1, ← repDs_length d2]; exact sz_ok h3, q⟩⟩
    · cases e
  · cases e
def gAdd : W × W → Option W := fun p => (gAddI p).or ((gAddS p).or (gCat p))
theorem se_add (ha : SE X Wx k1 p1 a ma) (hb : SE X Wx k2 p2 b mb) (hc : k1 = true ∨ p2 = true := by decide) : SE X Wx true (p1 && p2) (.BinOp a .Add b pos) (mOp2 gAdd ma mb) :=
  se_op (OpR.or op_add (OpR.or op_add_str op_cat)) (OpS.or (ops_II0 fun _ _ _ => by simp [repD]) (OpS.or ops_addS ops_cat)) ha hb hc
def gRep : W × W → Option W := fun p => match wEls p.1, wInt p.2 with
  | some x, some k => if x.length * k.toNat ≤ 100000 ∧ -100000 ≤ k ∧ k ≤ 100000 then some (.ol ((List.replicate k.toNat x).flatten.map W.sh)) else none
  | _, _ => none
theorem repDs_flatten {G : GX} {B : Hp} {ds : List D} {vs : List V} (h : repDs G B ds vs) : ∀ n : Nat, repDs G B (List.replicate n ds).flatten (List.replicate n vs).flatten
  | 0 => by simp [repDs]
  | n + 1 => by
    simp only [List.replicate_succ, List.flatten_cons]
    exact repDs_append h (repDs_flatten h n)
theorem ops_rep {G : GX} : OpS (rWW G) (rW G) (fun xy => rRep xy.1 xy.2) gRep := by
  refine ops_newL fun B H a b fp c s ra e => ?_
  obtain ⟨f1, f2, r1, r2, _⟩ := ra
  unfold gRep at e
  split at e
  · rename_i x k h1 h2
    split at e
    · rename_i h3
      cases e
      obtain ⟨l1, v1, e1, g1, d1⟩ := wEls_eq s r1 h1
      rw [wInt_eq h2] at r2
      have r2 : relW _ _ _ _ _ _ := r2
      simp only [relW, repD] at r2
      exact ⟨_, _, rfl, repDs_flatten d1 k.toNat, fun Q q => ⟨l1, k, v1, e1, r2.1, g1, by omega, by omega, by rw [← repDs_length d1]; exact sz_ok h3.1, q⟩⟩
    · cases e
  · cases e
def gMul : W × W → Option W := fun p => (gMulI p).or (gRep p)
theorem se_mul (ha : SE X Wx k1 p1 a ma) (hb : SE X Wx k2 p2 b mb) (hc : k1 = true ∨ p2 = true := by decide) : SE X Wx true (p1 && p2) (.BinOp a .Mult b pos) (mOp2 gMul ma mb) :=
  se_op (OpR.or op_mulW op_rep) (OpS.or (ops_II (fun i j h => by simpa [CMulW] using h) fun _ _ _ => by simp [repD]) ops_rep) ha hb hc
end
end AM

set_option Elab.async false
set_option linter.all false
set_option maxRecDepth 100000
/-! Affine mirror, part 5: comparisons as tests, chains, and | or | not, subscripts, slices. -/
namespace AM
open PySem L2

/-- a comparison's rule -/
def CR (X : Cx) (op : CmpOp) (b : Expr) (g : W × W → Option W) : Prop := ∃ r : R2, OpR X (compareOp op) r ∧ OpS (rWW (gx X)) (rW (gx X)) (fun xy => r xy.1 xy.2) g ∧ behindInMarks op b = false
section
variable {X : Cx} {Wx : WX} {k p k1 p1 k2 p2 k3 p3 : Bool} {e a b c : Expr} {m ma mb mc : ME W} {pos : Pos}
theorem cr_lt : CR X .Lt b gLt := ⟨_, op_lt, ops_II0 fun _ _ _ => by simp [repD], nomark _⟩
theorem cr_le : CR X .LtE b gLe := ⟨_, op_le, ops_II0 fun _ _ _ => by simp [repD], nomark _⟩
theorem cr_gt : CR X .Gt b gGt := ⟨_, op_gt, ops_II0 fun _ _ _ => by simp [repD], nomark _⟩
theorem cr_ge : CR X .GtE b gGe := ⟨_, op_ge, ops_II0 fun _ _ _ => by simp [repD], nomark _⟩
theorem cr_eq (hu : X.A.units + 64 < cLine) : CR X .Eq b gEq := ⟨_, op_eqD hu, ops_DD (G := gx X) fun H x y d e b Q h1 h2 h3 h4 hf q => ⟨d, e, h1, h2, h3, h4, by cases hf; exact q⟩, nomark _⟩
theorem cr_ne (hu : X.A.units + 64 < cLine) : CR X .NotEq b gNe := ⟨_, op_neD hu, ops_DD (G := gx X) fun H x y d e b Q h1 h2 h3 h4 hf q => ⟨d, e, h1, h2, h3, h4, by cases hf; exact q⟩, nomark _⟩
theorem cr_in (hu : X.A.units + 65 < cLine) (hm : behindInMarks .In b = false) : CR X .In b gIn := by
  refine ⟨_, OpR.or (op_inD hu) (OpR.or op_in_seq op_in_str), OpS.or (ops_DD (G := gx X) fun H x y d e b Q h1 h2 h3 h4 hf q => ?_) (OpS.or (ops_inT false) ops_inS), hm⟩
  unfold fIn at hf
  split at hf
  · cases hf
    exact ⟨d, _, h1, h2, h3, h4, q⟩
  · cases hf
theorem cr_notIn (hu : X.A.units + 65 < cLine) (hm : behindInMarks .NotIn b = false) : CR X .NotIn b gNotIn := by
  refine ⟨_, OpR.or (op_notInD hu) (OpR.or op_notIn_seq op_notin_str), OpS.or (ops_DD (G := gx X) fun H x y d e b Q h1 h2 h3 h4 hf q => ?_) (OpS.or (ops_inT true) ops_notInS), hm⟩
  unfold fNotIn at hf
  split at hf
  · cases hf
    exact ⟨d, _, h1, h2, h3, h4, q⟩
  · cases hf
/-- is None, is not None: of anything -/
def wNon : W → Bool
  | .sh .non => true
  | _ => false
def gIsN : W × W → Option W := fun p => match p.2 with
  | .sh .non => some (.sh (.bl (wNon p.1)))
  | _ => none
def gNotN : W × W → Option W := fun p => match p.2 with
  | .sh .non => some (.sh (.bl (!wNon p.1)))
  | _ => none
theorem wNon_rel {G : GX} {B H : Hp} {w : W} {v : V} {f : List Addr} (r : relW G B H w v f) : decide (v = .non) = wNon w := by
  cases w with
  | sh d =>
    simp only [relW] at r
    cases d with
    | non => simp only [repD] at r; obtain ⟨rfl, _⟩ := r; rfl
    | bl b => simp only [repD] at r; obtain ⟨rfl, _⟩ := r; rfl
    | int b => simp only [repD] at r; obtain ⟨rfl, _⟩ := r; rfl
    | str b => simp only [repD] at r; obtain ⟨rfl, _⟩ := r; rfl
    | lst b => simp only [repD] at r; obtain ⟨⟨a, vs, rfl, _⟩, _⟩ := r; rfl
    | tup b => simp only [repD] at r; obtain ⟨⟨a, vs, rfl, _⟩, _⟩ := r; rfl
    | exc b c => simp only [repD] at r; obtain ⟨⟨a, C, d, rfl, _⟩, _⟩ := r; rfl
    | scr b => simp only [repD] at r; obtain ⟨⟨a, rfl, _⟩, _⟩ := r; rfl
    | obj _ _ _ => simp only [repD] at r; obtain ⟨⟨a, _, _, _, rfl, _⟩, _⟩ := r; rfl
  | ol _ => simp only [relW] at r; obtain ⟨p, _, _, rfl, _⟩ := r; rfl
  | ot _ => simp only [relW] at r; obtain ⟨p, _, rfl, _⟩ := r; rfl
  | ob _ _ _ => simp only [relW] at r; obtain ⟨p, _, _, _, _, rfl, _⟩ := r; rfl
  | dk _ _ => simp only [relW] at r; obtain ⟨p, _, _, rfl, _⟩ := r; rfl
  | dt _ _ => simp only [relW] at r; obtain ⟨p, _, _, rfl, _⟩ := r; rfl
theorem cr_isN : CR X .Is b gIsN := by
  refine ⟨_, op_isN, ops_flat fun B H a b fp c s ra e => ?_, nomark _⟩
  obtain ⟨f1, f2, r1, r2, _⟩ := ra
  obtain ⟨a1, a2⟩ := a
  unfold gIsN at e
  simp only at e r1 r2
  split at e
  · cases e
    have r2 : relW _ _ _ _ _ _ := r2
    simp only [relW, repD] at r2
    exact ⟨.bl _, .bl (wNon a1), rfl, by simp [repD], fun Q q => ⟨r2.1, by rw [wNon_rel r1]; exact q⟩⟩
  · cases e
theorem cr_notN : CR X .IsNot b gNotN := by
  refine ⟨_, op_notN, ops_flat fun B H a b fp c s ra e => ?_, nomark _⟩
  obtain ⟨f1, f2, r1, r2, _⟩ := ra
  obtain ⟨a1, a2⟩ := a
  unfold gNotN at e
  simp only at e r1 r2
  split at e
  · cases e
    have r2 : relW _ _ _ _ _ _ := r2
    simp only [relW, repD] at r2
    exact ⟨.bl _, .bl (!wNon a1), rfl, by simp [repD], fun Q q => ⟨r2.1, by rw [wNon_rel r1]; exact q⟩⟩
  · cases e
theorem se_c {op : CmpOp} {g : W × W → Option W} (hr : CR X op b g) (ha : SE X Wx k1 p1 a ma) (hb : SE X Wx k2 p2 b mb) (hc : k1 = true ∨ p2 = true := by decide) : SE X Wx true (p1 && p2) (.Compare a [op] [b] pos) (mOp2 g ma mb) := by
  obtain ⟨r, ho, hs, hm⟩ := hr
  exact se_cmp ho hs hm ha hb hc
end

/-! ### tests -/
def mB (m : ME W) : ME Bool := m.bind (ME.op wBl)
section
variable {G : GX} {k p : Bool} {Wx : WX} {t : TE} {m : ME W}
theorem ops_bl {G : GX} : OpS (rW G) (rEqv Bool) (fun (x : V) H (Q : Bool → Hp → Prop) => ∃ k, x = .bl k ∧ Q k H) wBl := by
  intro B H a b f c s ra o e Q q
  have e1 := wBl_eq e
  subst e1
  have ra : relW _ _ _ _ _ _ := ra
  simp only [relW, repD] at ra
  exact ⟨c, ra.1, q c H B [] (Same.refl H) (Same.refl B) s (fun _ _ => rfl) (fun x hx => by simp at hx) List.nodup_nil ⟨rfl, rfl⟩⟩
theorem Sim.test (h : Sim G k p Wx (rW G) t m) : Sim G true p Wx (rEqv Bool) (fun σ H Q => t σ H fun x H' => ∃ k, x = .bl k ∧ Q k H') (mB m) := h.op ops_bl
/-- by the answer of a test -/
theorem Sim.ite {α β : Type} {R : RR α β} {tt : TT} {mt : ME Bool} {u1 u2 : St → Hp → (β → Hp → Prop) → Prop} {n1 n2 : ME α} {q pq : Bool} (h : Sim G true p Wx (rEqv Bool) tt mt) (h1 : Sim G q pq Wx R u1 n1) (h2 : Sim G q pq Wx R u2 n2) :
    Sim G q (p && pq) Wx R (fun σ H Q => tt σ H fun c H1 => if c = true then u1 σ H1 Q else u2 σ H1 Q) (mt.bind fun c => if c then n1 else n2) := by
  intro B H σ env fp O Q c
  refine h B H σ env fp O _ ?_
  unfold ME.bind at c
  cases e1 : mt env with
  | none => rw [e1] at c; exact c
  | some r1 =>
    obtain ⟨r1, env1⟩ := r1
    rw [e1] at c
    cases r1 with
    | ex x => exact c
    | ok a =>
      intro x H1 B1 f1 fp1 P1
      obtain ⟨ea, ef⟩ := P1.rel
      subst ea ef
      have key : ∀ (u : St → Hp → (β → Hp → Prop) → Prop) (n : ME α), Sim G q pq Wx R u n → Cont G q (p && pq) R Wx B H σ env fp (n env1) Q → u σ H1 Q := fun u n hn cn => by
        refine hn B1 H1 σ env1 fp1 P1.ok Q ?_
        cases e2 : n env1 with
        | none => rw [e2] at cn; exact cn
        | some r2 =>
          obtain ⟨r2, env2⟩ := r2
          rw [e2] at cn
          cases r2 with
          | ex x =>
            intro cls d H2 B2 fp2 O2 S2 hx hd
            refine cn cls d H2 B2 fp2 O2 (P1.step.drop.trans S2) hx fun dd e => ?_
            obtain ⟨a1, a2, a3⟩ := hd dd e
            refine ⟨a1, a2, ?_⟩
            cases q : H dd with
            | none => rfl
            | some o => exact absurd a3 (P1.step.live dd (by simp [q]))
          | ok b =>
            intro y H2 B2 f2 fp2 P2
            refine cn y H2 B2 f2 fp2 ⟨P2.ok, P2.rel, P2.out, P1.step.trans (S := []) P2.step, P2.own, fun hp => ?_⟩
            simp only [Bool.and_eq_true] at hp
            obtain ⟨s1, b1, v1, u1⟩ := P1.pure hp.1
            obtain ⟨s2, b2, v2, u2⟩ := P2.pure hp.2
            exact ⟨fun q o h => s2 q o (s1 q o h), fun q h => (b2 q (P1.step.live q h)).trans (b1 q h), v2.trans v1, u2.trans u1⟩
      show if a = true then _ else _
      cases a with
      | true =>
        rw [if_pos rfl]
        exact key u1 n1 h1 c
      | false =>
        rw [if_neg Bool.false_ne_true]
        exact key u2 n2 h2 c
theorem sim_pureB {b : Bool} {Wx : WX} : Sim G true true Wx (rEqv Bool) (fun _ H Q => Q b H) (ME.pure b) := by
  intro B H σ env fp O Q c
  exact c b H B [] fp ⟨O, ⟨rfl, rfl⟩, fun q hq => by simp at hq, Step.refl (by simp), fun _ => ⟨List.nodup_nil, fun q hq => by simp at hq⟩, fun _ => ⟨Same.refl H, fun _ _ => rfl, rfl, rfl⟩⟩
end
def STw (X : Cx) (Wx : WX) (p : Bool) (e : Expr) (m : ME Bool) : Prop := ∃ t : TT, PW X e t ∧ Sim (gx X) true p Wx (rEqv Bool) t m
def mAnd (a b : ME Bool) : ME Bool := a.bind fun c => if c then b else ME.pure false
def mOr (a b : ME Bool) : ME Bool := a.bind fun c => if c then ME.pure true else b
def mNot (a : ME Bool) : ME Bool := a.bind (ME.op fun c => some (!c))
def mIf {α : Type} (c : ME Bool) (a b : ME α) : ME α := c.bind fun c => if c then a else b
section
variable {X : Cx} {Wx : WX} {k p k1 p1 k2 p2 k3 p3 : Bool} {e a b c : Expr} {es : List Expr} {m ma mb mc : ME W} {n na nb : ME Bool} {pos : Pos}
theorem st_c {op : CmpOp} {g : W × W → Option W} (hr : CR X op b g) (ha : SE X Wx k1 p1 a ma) (hb : SE X Wx k2 p2 b mb) (hc : k1 = true ∨ p2 = true := by decide) : STt X Wx (p1 && p2) (.Compare a [op] [b] pos) (mB (mOp2 g ma mb)) := by
  obtain ⟨r, ho, hs, hm⟩ := hr
  obtain ⟨ta, pa, sa⟩ := ha
  obtain ⟨tb, pb, sb⟩ := hb
  exact ⟨_, pt_cmpR ho pa pb hm, ((Sim.pair (rW_good _) sa sb hc).op hs).test⟩
theorem st_val (ha : SE X Wx k p a ma) (he : ∀ whole, isTrue a X.env whole = (do let v ← whole; standAt a.pos; holding [v] (truthy v)) := by intro _; rfl) : STt X Wx p a (mB ma) := by
  obtain ⟨ta, pa, sa⟩ := ha
  exact ⟨_, pt_val pa he, sa.test⟩
theorem st_p (h : STt X Wx true a na) : STt X Wx false a na := by
  obtain ⟨t, pa, s⟩ := h
  exact ⟨t, pa, s.unpure false⟩
theorem stw_p (h : STw X Wx true a na) : STw X Wx false a na := by
  obtain ⟨t, pa, s⟩ := h
  exact ⟨t, pa, s.unpure false⟩
theorem sw_and1 (ha : STt X Wx p a na) : STw X Wx p (.BoolOp .And [a] pos) na := by
  obtain ⟨t, pa, s⟩ := ha
  exact ⟨t, pw_and1 pa, s⟩
theorem sw_or1 (ha : STt X Wx p a na) : STw X Wx p (.BoolOp .Or [a] pos) na := by
  obtain ⟨t, pa, s⟩ := ha
  exact ⟨t, pw_or1 pa, s⟩
theorem sw_and (ha : STt X Wx p1 a na) (hb : STw X Wx p2 (.BoolOp .And (b :: es) pos) nb) : STw X Wx (p1 && p2) (.BoolOp .And (a :: b :: es) pos) (mAnd na nb) := by
  obtain ⟨t, pa, s⟩ := ha
  obtain ⟨u, pb, s2⟩ := hb
  refine ⟨_, pw_and pa pb, ?_⟩
  have hf : Sim (gx X) true p2 Wx (rEqv Bool) (fun _ H Q => Q false H) (ME.pure false) := by
    cases p2
    · exact sim_pureB.unpure false
    · exact sim_pureB
  exact Sim.ite s s2 hf
theorem sw_or (ha : STt X Wx p1 a na) (hb : STw X Wx p2 (.BoolOp .Or (b :: es) pos) nb) : STw X Wx (p1 && p2) (.BoolOp .Or (a :: b :: es) pos) (mOr na nb) := by
  obtain ⟨t, pa, s⟩ := ha
  obtain ⟨u, pb, s2⟩ := hb
  refine ⟨_, pw_or pa pb, ?_⟩
  have hf : Sim (gx X) true p2 Wx (rEqv Bool) (fun _ H Q => Q true H) (ME.pure true) := by
    cases p2
    · exact sim_pureB.unpure false
    · exact sim_pureB
  exact Sim.ite s hf s2
theorem st_w (h : STw X Wx p e n) : STt X Wx p e n := by
  obtain ⟨t, pa, s⟩ := h
  exact ⟨t, pa.pt, s⟩
theorem st_not (ha : STt X Wx p a na) : STt X Wx p (.UnaryOp .Not a pos) (mNot na) := by
  obtain ⟨t, pa, s⟩ := ha
  refine ⟨_, pt_not pa, ?_⟩
  refine s.op (T := rEqv Bool) (r := fun c H Q => Q (!c) H) ?_
  intro B H a b f c sb ra o e Q q
  cases e
  obtain ⟨rfl, rfl⟩ := ra
  exact q _ H B [] (Same.refl H) (Same.refl B) sb (fun _ _ => rfl) (fun x hx => by simp at hx) List.nodup_nil ⟨rfl, rfl⟩
/-! .. as values -/
theorem se_one {op} (h : SE X Wx k p a m) : SE X Wx k p (.BoolOp op [a] pos) m := by
  obtain ⟨t, pa, s⟩ := h
  exact ⟨t, pe_one pa, s⟩
def mAndV (a b : ME W) : ME W := (mB a).bind fun c => if c then b else mC (.bl false)
def mOrV (a b : ME W) : ME W := (mB a).bind fun c => if c then mC (.bl true) else b
theorem ex_bl {x : V} {A : Bool → Prop} : (∃ c, x = .bl c ∧ A c) ↔ (∃ c, x = .bl c ∧ A c) := Iff.rfl
theorem se_andV (ha : SE X Wx k1 p1 a ma) (hb : SE X Wx true p2 (.BoolOp .And (b :: es) pos) mb) : SE X Wx true (p1 && p2) (.BoolOp .And (a :: b :: es) pos) (mAndV ma mb) := by
  obtain ⟨t, pa, s⟩ := ha
  obtain ⟨u, pb, s2⟩ := hb
  refine ⟨_, pe_and pa pb, ?_⟩
  have hf : Sim (gx X) true p2 Wx (rW (gx X)) (tC (.bl false)) (mC (.bl false)) := by
    cases p2
    · exact (sim_c fun _ => by simp [repD]).unpure false
    · exact sim_c fun _ => by simp [repD]
  exact Sim.ite s.test s2 hf
theorem se_orV (ha : SE X Wx k1 p1 a ma) (hb : SE X Wx true p2 (.BoolOp .Or (b :: es) pos) mb) : SE X Wx true (p1 && p2) (.BoolOp .Or (a :: b :: es) pos) (mOrV ma mb) := by
  obtain ⟨t, pa, s⟩ := ha
  obtain ⟨u, pb, s2⟩ := hb
  refine ⟨_, pe_or pa pb, ?_⟩
  have hf : Sim (gx X) true p2 Wx (rW (gx X)) (tC (.bl true)) (mC (.bl true)) := by
    cases p2
    · exact (sim_c fun _ => by simp [repD]).unpure false
    · exact sim_c fun _ => by simp [repD]
  exact Sim.ite s.test hf s2
def gNotV : W → Option W := fun w => (wBl w).map fun b => .sh (.bl (!b))
theorem se_not (ha : SE X Wx k p a m) : SE X Wx true p (.UnaryOp .Not a pos) (mOp1 gNotV m) := by
  obtain ⟨t, pa, s⟩ := ha
  refine ⟨_, pe_not pa, s.op (r := fun x H Q => ∃ c, x = .bl c ∧ Q (.bl (!c)) H) (ops_flat fun B H a b fp c sb ra e => ?_)⟩
  unfold gNotV at e
  simp only [Option.map_eq_some_iff] at e
  obtain ⟨i, h1, rfl⟩ := e
  rw [wBl_eq h1] at ra
  have ra : relW _ _ _ _ _ _ := ra
  simp only [relW, repD] at ra
  exact ⟨.bl _, .bl _, rfl, by simp [repD], fun Q q => ⟨i, ra.1, q⟩⟩
theorem se_if (hc : STt X Wx p c n) (ha : SE X Wx k p1 a ma) (hb : SE X Wx k p1 b mb) : SE X Wx k (p && p1) (.IfExp c a b pos) (mIf n ma mb) := by
  obtain ⟨t, pc, s⟩ := hc
  obtain ⟨ta, pa, sa⟩ := ha
  obtain ⟨tb, pb, sb⟩ := hb
  exact ⟨_, pe_ifExp pc pa pb, Sim.ite s sa sb⟩
/-! ### a < b < c -/
def mChain (g g' : W × W → Option W) (ma mb mc : ME W) : ME W :=
  ma.bind fun x => mb.bind fun y => (ME.op g (x, y)).bind fun z => (ME.op wBl z).bind fun c => if c then mc.bind fun w => ME.op g' (y, w) else mC (.bl false)
/-! ### subscripts -/
/-- xs[i] -/
def atW (ws : List W) (i : Int) : Option W := atI ws i
def gIx : W × W → Option W := fun p => match wInt p.2 with
  | none => none
  | some i => match p.1 with
    | .sh (.lst ds) => (atI ds i).map W.sh
    | .sh (.tup ds) => (atI ds i).map W.sh
    | .sh (.scr ns) => (atI ns i).map fun n => .sh (.int n)
    | .sh (.str z) => if z.length ≤ 100000 then (atI z.cps.toList i).map fun c => .sh (.str ⟨#[c]⟩) else none
    | .ol ws => atI ws i
    | .ot ws => atI ws i
    | _ => none
theorem atI_rel {α β : Type} {xs : List α} {ys : List β} {i : Int} {x : α} (hl : xs.length = ys.length) (h : atI xs i = some x) : ∃ j, ixN xs.length i = some j ∧ xs[j]? = some x ∧ ∀ y, ys[j]? = some y → atI ys i = some y := by
  unfold atI at h
  simp only [Option.bind_eq_some_iff] at h
  obtain ⟨j, h1, h2⟩ := h
  refine ⟨j, h1, h2, fun y hy => ?_⟩
  unfold atI
  rw [← hl, h1]
  exact hy
theorem opp_ix {G : GX} : OpP (rWW G) (rW G) (fun xy => rIx G.K xy.1 xy.2) gIx := by
  intro B H a b f c s ra e Q q
  obtain ⟨f1, f2, r1, r2, rfl⟩ := ra
  obtain ⟨a1, a2⟩ := a
  unfold gIx at e
  simp only at e r1 r2
  split at e
  · cases e
  · rename_i i hi
    rw [wInt_eq hi] at r2
    replace r2 : relW _ _ _ _ _ _ := r2
    simp only [relW, repD] at r2
    obtain ⟨r2, rfl⟩ := r2
    replace r1 : relW _ _ _ _ _ _ := r1
    split at e
    · rename_i ds
      simp only [Option.map_eq_some_iff] at e
      obtain ⟨d, e1, rfl⟩ := e
      simp only [relW, repD] at r1
      obtain ⟨⟨p, vs, h1, h2, h3⟩, rfl⟩ := r1
      obtain ⟨j, j1, j2, j3⟩ := atI_rel (repDs_length h3) e1
      obtain ⟨v, j4, j5⟩ := repDs_get h3 j2
      refine .inl ⟨p, vs, i, v, h1, r2, SqL.of (s _ _ h2), j3 v j4, q v [] (by simp) (fun _ => List.nodup_nil) ?_⟩
      show relW _ _ _ _ _ _
      simp only [relW]
      exact ⟨j5, trivial⟩
    · rename_i ds
      simp only [Option.map_eq_some_iff] at e
      obtain ⟨d, e1, rfl⟩ := e
      simp only [relW, repD] at r1
      obtain ⟨⟨p, vs, h1, h2, h3⟩, rfl⟩ := r1
      obtain ⟨j, j1, j2, j3⟩ := atI_rel (repDs_length h3) e1
      obtain ⟨v, j4, j5⟩ := repDs_get h3 j2
      refine .inr (.inl ⟨p, vs, i, v, h1, r2, sqT_of_same s h2, j3 v j4, q v [] (by simp) (fun _ => List.nodup_nil) ?_⟩)
      show relW _ _ _ _ _ _
      simp only [relW]
      exact ⟨j5, trivial⟩
    · rename_i ns
      simp only [Option.map_eq_some_iff] at e
      obtain ⟨d, e1, rfl⟩ := e
      simp only [relW, repD] at r1
      obtain ⟨⟨p, h1, h2⟩, rfl⟩ := r1
      obtain ⟨j, j1, j2, j3⟩ := atI_rel (xs := ns) (ys := ns.map V.int) (by simp) e1
      refine .inl ⟨p, _, i, .int d, h1, r2, Same.seq s h2, j3 _ (by simp [j2]), q _ [] (by simp) (fun _ => List.nodup_nil) ?_⟩
      show relW _ _ _ _ _ _
      simp [relW, repD]
    · rename_i z
      split at e
      · rename_i hz
        simp only [Option.map_eq_some_iff] at e
        obtain ⟨d, e1, rfl⟩ := e
        simp only [relW, repD] at r1
        obtain ⟨h1, rfl⟩ := r1
        refine .inr (.inr ⟨z, i, d, h1, r2, sz_ok hz, e1, q _ [] (by simp) (fun _ => List.nodup_nil) ?_⟩)
        show relW _ _ _ _ _ _
        simp [relW, repD]
      · cases e
    · rename_i ws
      simp only [relW] at r1
      obtain ⟨p, vs, g, h1, h2, h3, rfl⟩ := r1
      obtain ⟨j, j1, j2, j3⟩ := atI_rel (relWs_length h3) e
      obtain ⟨w1, w2, v1, v, v2, g1, g0, g2, rfl, rfl, l1, l2, rfl, r3, r4, r5⟩ := relWs_split h3 j2
      refine .inl ⟨p, _, i, v, h1, r2, SqL.of h2, j3 v (get_mid l2), q v g0 (by grind) (fun nd => ?_) r4⟩
      grind
    · rename_i ws
      simp only [relW] at r1
      obtain ⟨p, vs, h1, h2, h3⟩ := r1
      obtain ⟨j, j1, j2, j3⟩ := atI_rel (relWs_length h3) e
      obtain ⟨w1, w2, v1, v, v2, g1, g0, g2, rfl, rfl, l1, l2, rfl, r3, r4, r5⟩ := relWs_split h3 j2
      refine .inr (.inl ⟨p, _, i, v, h1, r2, SqT.of (s _ _ h2), j3 v (get_mid l2), q v g0 (by grind) (fun nd => ?_) r4⟩)
      grind
    · cases e
def mIx (ma mb : ME W) : ME W := (ma.bind fun a => mb.bind fun b => ME.pure (a, b)).bind (ME.op gIx)
theorem se_ix (ha : SE X Wx k1 p1 a ma) (hb : SE X Wx k2 p2 b mb) (hs : PlainIx b) (hc : k1 = true ∨ p2 = true := by decide) : SE X Wx (k1 && k2) (p1 && p2) (.Subscript a b pos) (mIx ma mb) := by
  obtain ⟨ta, pa, sa⟩ := ha
  obtain ⟨tb, pb, sb⟩ := hb
  exact ⟨_, pe_ix ix_seq pa pb hs, (Sim.pair (rW_good _) sa sb hc).opP opp_ix⟩
end
/-! ### slices -/
def SO (X : Cx) (Wx : WX) (p : Bool) (e : Option Expr) (m : ME (Option Int)) : Prop := ∃ t : TO, PO X e t ∧ Sim (gx X) true p Wx (rEqv (Option Int)) t m
def mNoPart : ME (Option Int) := ME.pure none
def mPart (m : ME W) : ME (Option Int) := m.bind (ME.op fun w => (wInt w).map some)
def cutL {α : Type} (xs : List α) (lo hi : Option Int) : List α := (xs.drop (HT.sIx xs.length 0 lo)).take (HT.sIx xs.length xs.length hi - HT.sIx xs.length 0 lo)
def gSl : W × (Option Int × Option Int) → Option W := fun p => match p.1 with
  | .sh (.str z) => if z.length ≤ 100000 then some (.sh (.str (cutS z p.2.1 p.2.2))) else none
  | .sh (.tup ds) => some (.sh (.tup (cutL ds p.2.1 p.2.2)))
  | w => (wEls w).map fun ds => .ol ((cutL ds p.2.1 p.2.2).map W.sh)
def mSl (m : ME W) (lo hi : ME (Option Int)) : ME W := (m.bind fun a => (lo.bind fun b => hi.bind fun c => ME.pure (b, c)).bind fun d => ME.pure (a, d)).bind (ME.op gSl)
section
variable {X : Cx} {Wx : WX} {k p k1 p1 k2 p2 k3 p3 : Bool} {e a b c : Expr} {es : List Expr} {m ma mb mc : ME W} {pos p2' : Pos} {lo hi : Option Expr} {ml mh : ME (Option Int)}
theorem so_none : SO X Wx true none mNoPart := by
  refine ⟨_, po_none, ?_⟩
  intro B H σ env fp O Q c
  exact c none H B [] fp ⟨O, ⟨rfl, rfl⟩, fun q hq => by simp at hq, Step.refl (by simp), fun _ => ⟨List.nodup_nil, fun q hq => by simp at hq⟩, fun _ => ⟨Same.refl H, fun _ _ => rfl, rfl, rfl⟩⟩
theorem so_some (h : SE X Wx k p e m) : SO X Wx p (some e) (mPart m) := by
  obtain ⟨t, pe, s⟩ := h
  refine ⟨_, po_some pe, s.op (T := rEqv (Option Int)) (r := fun (x : V) H (Q : Option Int → Hp → Prop) => ∃ i, x = V.int i ∧ Q (some i) H) ?_⟩
  intro B H a b f c sb ra o e Q q
  simp only [Option.map_eq_some_iff] at e
  obtain ⟨i, e1, rfl⟩ := e
  rw [wInt_eq e1] at ra
  have ra : relW _ _ _ _ _ _ := ra
  simp only [relW, repD] at ra
  exact ⟨i, ra.1, q _ H B [] (Same.refl H) (Same.refl B) sb (fun _ _ => rfl) (fun x hx => by simp at hx) List.nodup_nil ⟨rfl, rfl⟩⟩
theorem repDs_take {G : GX} {B : Hp} : ∀ {ds : List D} {vs : List V} (n : Nat), repDs G B ds vs → repDs G B (ds.take n) (vs.take n)
  | _, _, 0, _ => by simp [repDs]
  | [], vs, n + 1, h => by simp only [repDs] at h; subst h; simp [repDs]
  | d :: ds, vs, n + 1, h => by
    simp only [repDs] at h
    obtain ⟨v, r, rfl, h1, h2⟩ := h
    simp only [List.take_succ_cons, repDs]
    exact ⟨v, r.take n, rfl, h1, repDs_take n h2⟩
theorem repDs_drop {G : GX} {B : Hp} : ∀ {ds : List D} {vs : List V} (n : Nat), repDs G B ds vs → repDs G B (ds.drop n) (vs.drop n)
  | _, _, 0, h => by simpa using h
  | [], vs, n + 1, h => by simp only [repDs] at h; subst h; simp [repDs]
  | d :: ds, vs, n + 1, h => by
    simp only [repDs] at h
    obtain ⟨v, r, rfl, h1, h2⟩ := h
    simp only [List.drop_succ_cons]
    exact repDs_drop n h2
theorem repDs_cut {G : GX} {B : Hp} {ds : List D} {vs : List V} (h : repDs G B ds vs) (lo hi : Option Int) : repDs G B (cutL ds lo hi) (cutV vs lo hi) := by
  unfold cutL cutV
  rw [repDs_length h]
  exact repDs_take _ (repDs_drop _ h)
def rSlAll (K : PySem.W.Frag) : V → Option Int → Option Int → Hp → VK → Prop := fun x lo hi H Q => rSlS x lo hi H Q ∨ (rSlA K x lo hi H Q ∨ rSlL K x lo hi H Q)
theorem opp_sl {G : GX} : OpS (rPair (rW G) (rPair (rEqv (Option Int)) (rEqv (Option Int)))) (rW G) (fun (b : V × (Option Int × Option Int)) H Q => rSlAll G.K b.1 b.2.1 b.2.2 H Q) gSl := by
  intro B H a b f c s ra o e Q q
  obtain ⟨f1, f2, r1, ⟨f3, f4, ⟨e3, rfl⟩, ⟨e4, rfl⟩, rfl⟩, rfl⟩ := ra
  obtain ⟨a1, a2, a3⟩ := a
  obtain ⟨b1, b2, b3⟩ := b
  simp only at e3 e4 r1
  subst e3 e4
  replace r1 : relW _ _ _ _ _ _ := r1
  unfold gSl at e
  simp only at e
  split at e
  · rename_i z
    split at e
    · rename_i hz
      cases e
      simp only [relW, repD] at r1
      refine .inl ⟨z, r1.1, sz_ok hz, q _ H B [] (Same.refl H) (Same.refl B) s (fun _ _ => rfl) (fun x hx => by simp at hx) List.nodup_nil ?_⟩
      show relW _ _ _ _ _ _
      simp [relW, repD]
    · cases e
  · rename_i ds
    cases e
    simp only [relW, repD] at r1
    obtain ⟨⟨p, vs, h1, h2, h3⟩, _⟩ := r1
    refine .inr (.inl ⟨p, vs, h1, sqT_of_same s h2, fun hw => ?_, fun hn p2 np => ?_⟩)
    · refine q _ H B [] (Same.refl H) (Same.refl B) s (fun _ _ => rfl) (fun x hx => by simp at hx) List.nodup_nil ?_
      show relW _ _ _ _ _ _
      simp only [relW, repD]
      refine ⟨⟨p, vs, rfl, h2, ?_⟩, trivial⟩
      have : cutL ds a2 a3 = ds := by
        unfold cutL
        rw [repDs_length h3, hw.1, hw.2]
        simp [← repDs_length h3]
      rw [this]
      exact h3
    · have nB := none_of_sub s np
      have sB : Same B (upd B p2 (.tup (cutV vs a2 a3))) := same_new nB
      refine q _ _ (upd B p2 (.tup (cutV vs a2 a3))) [] (same_new np) sB (fun a u z => ?_) (fun a ha => by rw [upd_ne (fun z => ha (by rw [z]; exact np))]) (fun x hx => by simp at hx) List.nodup_nil ?_
      · by_cases ea : a = p2
        · subst ea
          rw [upd_same] at z ⊢
          exact z
        · rw [upd_ne ea] at z ⊢
          exact s a u z
      · show relW _ _ _ _ _ _
        simp only [relW, repD]
        exact ⟨⟨p2, _, rfl, SqT.of upd_same, repDs_mono sB (repDs_cut h3 _ _)⟩, trivial⟩
  · simp only [Option.map_eq_some_iff] at e
    obtain ⟨ds, e1, rfl⟩ := e
    obtain ⟨l, vs, h1, h2, h3⟩ := wEls_eq s r1 e1
    refine .inr (.inr ⟨l, vs, h1, SqL.of h2, fun p np => ?_⟩)
    have nB := none_of_sub s np
    have sm : Same H (upd H p (.lst (cutV vs a2 a3))) := same_new np
    refine q _ _ B [p] sm (Same.refl B) (s.trans sm) (fun _ _ => rfl) (fun x hx => by simp at hx; subst hx; exact ⟨np, nB⟩) (by simp) ?_
    show relW _ _ _ _ _ _
    simp only [relW]
    exact ⟨p, _, [], rfl, upd_same, relWs_sh (repDs_cut h3 _ _), rfl⟩
theorem se_sl (ha : SE X Wx k1 p1 e m) (hl : SO X Wx p2 lo ml) (hh : SO X Wx p3 hi mh) (hc : k1 = true ∨ (p2 && p3) = true := by decide) : SE X Wx true (p1 && (p2 && p3)) (.Subscript e (.Slice lo hi none p2') pos) (mSl m ml mh) := by
  obtain ⟨ta, pa, sa⟩ := ha
  obtain ⟨tl, pl, sl⟩ := hl
  obtain ⟨th, ph, sh⟩ := hh
  exact ⟨_, pe_slice (SlR.or sl_str (SlR.or sl_tupA sl_list)) pa pl ph, (Sim.pair (rW_good _) sa (Sim.pair (rEqv_good _) sl sh (.inl rfl)) hc).op opp_sl⟩
end
end AM

set_option Elab.async false
set_option linter.all false
set_option maxRecDepth 100000
/-! Affine mirror, part 6: places within owned trees; operations in place. -/
namespace AM
open PySem L2

abbrev Path := Nat × List Nat
def kids : W → Option (List W)
  | .ol ws => some ws
  | .ot ws => some ws
  | .ob _ _ ws => some ws
  | _ => none
def setKid (w : W) (j : Nat) (x : W) : W := match w with
  | .ol ws => .ol (ws.set j x)
  | .ot ws => .ot (ws.set j x)
  | .ob c fs ws => .ob c fs (ws.set j x)
  | w => w
def getP : W → List Nat → Option W
  | w, [] => some w
  | w, j :: js => match (kids w).bind (·[j]?) with
    | some x => getP x js
    | none => none
def putP : W → List Nat → W → Option W
  | _, [], x => some x
  | w, j :: js, x => match (kids w).bind (·[j]?) with
    | some y => (putP y js x).map fun z => setKid w j z
    | none => none
def getE (env : Env) (path : Path) : Option W := match env[path.1]? with
  | some (some w) => getP w path.2
  | _ => none
def setE (env : Env) (path : Path) (x : W) : Option Env := match env[path.1]? with
  | some (some w) => (putP w path.2 x).map fun u => env.set path.1 (some u)
  | _ => none
/-- from v down the path stands u -/
def locV (H : Hp) : V → List Nat → V → Prop
  | v, [], u => u = v
  | v, j :: js, u => ∃ a x, v = .ref a ∧ ((∃ vs, H a = some (.lst vs) ∧ vs[j]? = some x) ∨ (∃ vs, H a = some (.tup vs) ∧ vs[j]? = some x) ∨ ∃ C dx fs, H a = some (.ins C dx fs) ∧ fs[j]?.map Prod.snd = some x) ∧ locV H x js u
def locE (H : Hp) (σ : St) (path : Path) (u : V) : Prop := ∃ v, σ[path.1]? = some (some v) ∧ locV H v path.2 u
section
variable {G : GX} {B H H' : Hp} {σ : St} {env : Env}
theorem locV_mono (s : Same H H') : ∀ {js : List Nat} {v u : V}, locV H v js u → locV H' v js u
  | [], _, _, h => h
  | j :: js, v, u, ⟨a, x, h1, h2, h3⟩ => by
    refine ⟨a, x, h1, ?_, locV_mono s h3⟩
    rcases h2 with ⟨vs, e, g⟩ | ⟨vs, e, g⟩ | ⟨C, dx, fs, e, g⟩
    · exact .inl ⟨vs, s _ _ e, g⟩
    · exact .inr (.inl ⟨vs, s _ _ e, g⟩)
    · exact .inr (.inr ⟨C, dx, fs, s _ _ e, g⟩)
theorem locE_mono {path : Path} {u : V} (s : Same H H') (h : locE H σ path u) : locE H' σ path u := by
  obtain ⟨v, h1, h2⟩ := h
  exact ⟨v, h1, locV_mono s h2⟩
theorem zip_get {fs : List Str} {vs : List V} {j : Nat} (h : fs.length = vs.length) : (fs.zip vs)[j]?.map Prod.snd = vs[j]? := by
  rw [← List.getElem?_map]
  congr 1
  exact List.map_snd_zip (by omega)
/-- the tree at a path, and another put in its place -/
theorem relW_zip (sub : Same B H) : ∀ {js : List Nat} {w w0 : W} {v v0 : V} {f : List Addr}, relW G B H w v f → getP w js = some w0 → locV H v js v0 →
    ∃ f1 g f2, f = f1 ++ (g ++ f2) ∧ relW G B H w0 v0 g ∧ ∀ (B' H' : Hp) (w' : W) (g' : List Addr), Same B B' → (∀ q ∈ f1, H' q = H q) → (∀ q ∈ f2, H' q = H q) → relW G B' H' w' v0 g' →
      ∃ w1, putP w js w' = some w1 ∧ relW G B' H' w1 v (f1 ++ (g' ++ f2))
  | [], w, w0, v, v0, f, r, e, l => by
    simp only [getP, Option.some.injEq] at e
    subst e
    have l' : v0 = v := l
    subst l'
    exact ⟨[], f, [], by simp, r, fun B' H' w' g' _ _ _ r' => ⟨w', rfl, by simpa using r'⟩⟩
  | j :: js, w, w0, v, v0, f, r, e, l => by
    obtain ⟨a, x, h1, h2, h3⟩ := l
    simp only [getP] at e
    split at e
    · rename_i y hy
      simp only [Option.bind_eq_some_iff] at hy
      obtain ⟨ws, k1, k2⟩ := hy
      cases w with
      | sh d => simp [kids] at k1
      | dk _ _ => simp [kids] at k1
      | dt _ _ => simp [kids] at k1
      | ol ws' =>
        simp only [kids, Option.some.injEq] at k1
        subst k1
        simp only [relW] at r
        obtain ⟨p, vs, g, hv, hp, hr, rfl⟩ := r
        rw [hv] at h1
        cases h1
        obtain ⟨w1, w2, v1, u, v2, f1, g0, f2, rfl, rfl, l1, l2, rfl, r1, r2, r3⟩ := relWs_split hr k2
        have ex : x = u := by
          rcases h2 with ⟨vs', e1, e2⟩ | ⟨vs', e1, e2⟩ | ⟨C, dx, fs, e1, e2⟩
          · rw [hp] at e1
            cases e1
            rw [get_mid l2] at e2
            exact (Option.some.inj e2).symm
          · rw [hp] at e1; cases e1
          · rw [hp] at e1; cases e1
        subst ex
        obtain ⟨a1, a0, a2, rfl, ra, k⟩ := relW_zip sub r2 e h3
        refine ⟨a :: (f1 ++ a1), a0, a2 ++ f2, by simp, ra, fun B' H' w' g' sB q1 q2 r' => ?_⟩
        obtain ⟨z, z1, z2⟩ := k B' H' w' g' sB (fun q hq => q1 q (by simp [hq])) (fun q hq => q2 q (by simp [hq])) r'
        refine ⟨.ol ((w1 ++ y :: w2).set j z), ?_, ?_⟩
        · simp only [putP]
          rw [show ((kids (W.ol (w1 ++ y :: w2))).bind (·[j]?)) = some y by simp only [kids, Option.bind_some]; exact get_mid l1]
          simp only [z1, Option.map_some, setKid]
        · rw [set_mid l1]
          simp only [relW]
          refine ⟨a, _, f1 ++ ((a1 ++ (g' ++ a2)) ++ f2), hv, (q1 a (by simp)).trans hp, relWs_join (relWs_frame sB r1 fun q hq => q1 q (by simp [hq])) z2 (relWs_frame sB r3 fun q hq => q2 q (by simp [hq])), by simp⟩
      | ot ws' =>
        simp only [kids, Option.some.injEq] at k1
        subst k1
        simp only [relW] at r
        obtain ⟨p, vs, hv, hp, hr⟩ := r
        rw [hv] at h1
        cases h1
        obtain ⟨w1, w2, v1, u, v2, f1, g0, f2, rfl, rfl, l1, l2, rfl, r1, r2, r3⟩ := relWs_split hr k2
        have ex : x = u := by
          rcases h2 with ⟨vs', e1, e2⟩ | ⟨vs', e1, e2⟩ | ⟨C, dx, fs, e1, e2⟩
          · rw [sub _ _ hp] at e1; cases e1
          · rw [sub _ _ hp] at e1
            cases e1
            rw [get_mid l2] at e2
            exact (Option.some.inj e2).symm
          · rw [sub _ _ hp] at e1; cases e1
        subst ex
        obtain ⟨a1, a0, a2, rfl, ra, k⟩ := relW_zip sub r2 e h3
        refine ⟨f1 ++ a1, a0, a2 ++ f2, by simp, ra, fun B' H' w' g' sB q1 q2 r' => ?_⟩
        obtain ⟨z, z1, z2⟩ := k B' H' w' g' sB (fun q hq => q1 q (by simp [hq])) (fun q hq => q2 q (by simp [hq])) r'
        refine ⟨.ot ((w1 ++ y :: w2).set j z), ?_, ?_⟩
        · simp only [putP]
          rw [show ((kids (W.ot (w1 ++ y :: w2))).bind (·[j]?)) = some y by simp only [kids, Option.bind_some]; exact get_mid l1]
          simp only [z1, Option.map_some, setKid]
        · rw [set_mid l1]
          simp only [relW]
          refine ⟨a, _, hv, sB _ _ hp, ?_⟩
          have := relWs_join (relWs_frame sB r1 fun q hq => q1 q (by simp [hq])) z2 (relWs_frame sB r3 fun q hq => q2 q (by simp [hq]))
          simpa using this
      | ob c fs ws' =>
        simp only [kids, Option.some.injEq] at k1
        subst k1
        simp only [relW] at r
        obtain ⟨p, dx, C, vs, g, hv, hm, hp, hd, hl, hr, rfl⟩ := r
        rw [hv] at h1
        cases h1
        obtain ⟨w1, w2, v1, u, v2, f1, g0, f2, rfl, rfl, l1, l2, rfl, r1, r2, r3⟩ := relWs_split hr k2
        have ex : x = u := by
          rcases h2 with ⟨vs', e1, e2⟩ | ⟨vs', e1, e2⟩ | ⟨C', dx', fs', e1, e2⟩
          · rw [hp] at e1; cases e1
          · rw [hp] at e1; cases e1
          · rw [hp] at e1
            cases e1
            rw [zip_get hl, get_mid l2] at e2
            exact (Option.some.inj e2).symm
        subst ex
        obtain ⟨a1, a0, a2, rfl, ra, k⟩ := relW_zip sub r2 e h3
        refine ⟨a :: dx :: (f1 ++ a1), a0, a2 ++ f2, by simp, ra, fun B' H' w' g' sB q1 q2 r' => ?_⟩
        obtain ⟨z, z1, z2⟩ := k B' H' w' g' sB (fun q hq => q1 q (by simp [hq])) (fun q hq => q2 q (by simp [hq])) r'
        refine ⟨.ob c fs ((w1 ++ y :: w2).set j z), ?_, ?_⟩
        · simp only [putP]
          rw [show ((kids (W.ob c fs (w1 ++ y :: w2))).bind (·[j]?)) = some y by simp only [kids, Option.bind_some]; exact get_mid l1]
          simp only [z1, Option.map_some, setKid]
        · rw [set_mid l1]
          simp only [relW]
          refine ⟨a, dx, C, _, f1 ++ ((a1 ++ (g' ++ a2)) ++ f2), hv, hm, (q1 a (by simp)).trans hp, (q1 dx (by simp)).trans hd, hl, relWs_join (relWs_frame sB r1 fun q hq => q1 q (by simp [hq])) z2 (relWs_frame sB r3 fun q hq => q2 q (by simp [hq])), by simp⟩
    · cases e
theorem relE_zip (sub : Same B H) {path : Path} {w0 : W} {v0 : V} {fp : List Addr} (r : relE G B H σ env fp) (e : getE env path = some w0) (l : locE H σ path v0) :
    ∃ f1 g f2, fp = f1 ++ (g ++ f2) ∧ relW G B H w0 v0 g ∧ ∀ (B' H' : Hp) (w' : W) (g' : List Addr), Same B B' → (∀ q ∈ f1, H' q = H q) → (∀ q ∈ f2, H' q = H q) → relW G B' H' w' v0 g' →
      ∃ env', setE env path w' = some env' ∧ relE G B' H' σ env' (f1 ++ (g' ++ f2)) := by
  unfold getE at e
  split at e
  · rename_i w hw
    obtain ⟨v, hv, lv⟩ := l
    obtain ⟨e1, e2, s1, o, s2, f1, g, f2, rfl, rfl, l1, l2, rfl, r1, ⟨u, rfl, r2⟩, r3⟩ := relE_split r hw
    rw [get_mid l2] at hv
    have : u = v := Option.some.inj (Option.some.inj hv)
    subst this
    obtain ⟨a1, a0, a2, rfl, ra, k⟩ := relW_zip sub r2 e lv
    refine ⟨f1 ++ a1, a0, a2 ++ f2, by simp, ra, fun B' H' w' g' sB q1 q2 r' => ?_⟩
    obtain ⟨z, z1, z2⟩ := k B' H' w' g' sB (fun q hq => q1 q (by simp [hq])) (fun q hq => q2 q (by simp [hq])) r'
    refine ⟨(e1 ++ some w :: e2).set path.1 (some z), ?_, ?_⟩
    · unfold setE
      rw [get_mid l1]
      simp only [z1, Option.map_some]
    · rw [set_mid l1]
      have := relE_join (relE_frame sB r1 fun q hq => q1 q (by simp [hq])) (show relS G B' H' (some u) (some z) _ from ⟨u, rfl, z2⟩) (relE_frame sB r3 fun q hq => q2 q (by simp [hq]))
      simpa using this
  · cases e
end
/-! ### expressions that name a place -/
def SimL (G : GX) (t : TE) (m : ME Path) : Prop := ∀ (B H : Hp) (σ : St) (env : Env) (fp : List Addr), Ok G B H σ env fp → ∀ Q : VK,
  (match m env with
  | some (.ok path, env') => ∀ v H' B', env' = env → Ok G B' H' σ env fp → Step B H fp B' H' fp → Same H H' → (∀ q, H q ≠ none → B' q = B q) → locE H' σ path v → Q v H'
  | _ => False) → t σ H Q
def SL (X : Cx) (e : Expr) (m : ME Path) : Prop := ∃ t : TE, PE X e t ∧ SimL (gx X) t m
def lIx (ml : ME Path) (mi : ME W) : ME Path := fun env => match ml env with
  | some (.ok path, env1) => match mi env1 with
    | some (.ok w, env2) => match wInt w, (getE env2 path).bind kids with
      | some i, some ws => match getE env2 path with
        | some (.ob _ _ _) => none
        | _ => (ixN ws.length i).bind fun j => if j < ws.length then some (.ok (path.1, path.2 ++ [j]), env2) else none
      | _, _ => none
    | _ => none
  | _ => none
theorem locV_snoc {H : Hp} : ∀ {js : List Nat} {v u x : V} {j : Nat}, locV H v js u → locV H u [j] x → locV H v (js ++ [j]) x
  | [], v, u, x, j, h, k => by
    have : u = v := h
    subst this
    exact k
  | i :: js, v, u, x, j, ⟨a, y, h1, h2, h3⟩, k => ⟨a, y, h1, h2, locV_snoc h3 k⟩
def lVar (i : Nat) : ME Path := fun env => match env[i]? with | some (some _) => some (.ok (i, []), env) | _ => none
section
variable {X : Cx} {Wx : WX} {x : Str} {pos : Pos} {a b : Expr} {ml : ME Path} {mb : ME W} {k : Bool} {G : GX}
theorem simL_var {i : Nat} : SimL G (tVar i) (lVar i) := by
  intro B H σ env fp O Q c
  unfold lVar at c
  cases e : env[i]? with
  | none => rw [e] at c; exact c.elim
  | some w =>
    rw [e] at c
    cases w with
    | none => exact c.elim
    | some w =>
      obtain ⟨e1, e2, s1, o, s2, f1, g, f2, rfl, rfl, l1, l2, rfl, r1, ⟨u, rfl, r2⟩, r3⟩ := relE_split O.rel e
      exact ⟨u, get_mid l2, c u H B rfl O (Step.refl fun _ h => h) (Same.refl H) (fun _ _ => rfl) ⟨u, get_mid l2, rfl⟩⟩
theorem sl_var (i : Nat) (h : PE X (.Name x pos) (tVar i)) : SL X (.Name x pos) (lVar i) := ⟨_, h, simL_var⟩
theorem simL_ix {ta tb : TE} (ha : SimL G ta ml) (hb : Sim G k true Wx (rW G) tb mb) : SimL G (tOp (rIx G.K) ta tb) (lIx ml mb) := by
  intro B H σ env fp O Q c
  refine ha B H σ env fp O _ ?_
  unfold lIx at c
  cases e1 : ml env with
  | none => rw [e1] at c; exact c
  | some r1 =>
    obtain ⟨r1, env1⟩ := r1
    rw [e1] at c
    cases r1 with
    | ex x => exact c
    | ok path =>
      intro v H1 B1 ee O1 S1 s1 b1 L1
      subst ee
      simp only at c
      refine hb B1 H1 σ env1 fp O1 _ ?_
      cases e2 : mb env1 with
      | none => rw [e2] at c; exact c
      | some r2 =>
        obtain ⟨r2, env2⟩ := r2
        rw [e2] at c
        cases r2 with
        | ex x => exact c.elim
        | ok w =>
          intro y H2 B2 f0 fp2 P
          obtain ⟨s2, b2, rfl, rfl⟩ := P.pure rfl
          simp only at c
          cases e3 : wInt w with
          | none => rw [e3] at c; exact c.elim
          | some i =>
            cases e4 : getE env2 path with
            | none => simp [e3, e4] at c
            | some u =>
              cases e5 : kids u with
              | none => simp [e3, e4, e5] at c
              | some ws =>
                have L2 := locE_mono s2 L1
                obtain ⟨f1, g, f2, ef, ru, _⟩ := relE_zip P.ok.sub P.ok.rel e4 L2
                have ry : relW G B2 H2 w y f0 := P.rel
                rw [wInt_eq e3] at ry
                simp only [relW, repD] at ry
                have stp : Step B H fp2 B2 H2 fp2 := Step.trans (S := []) S1 (P.step.mono fun q hq => by simp [hq])
                have fin : ∀ (p : Addr) (z : V) (j : Nat), v = .ref p → ((∃ vs, H2 p = some (.lst vs) ∧ vs[j]? = some z) ∨ (∃ vs, H2 p = some (.tup vs) ∧ vs[j]? = some z)) → ixN ws.length i = some j → j < ws.length → (∀ c fs xs, u ≠ .ob c fs xs) → Q z H2 := by
                  intro p z j hv hz hj hlt hno
                  simp only [e3, e4, e5, Option.bind_some, hj, if_pos hlt] at c
                  have c' : ∀ v' H' B', env2 = env2 → Ok G B' H' σ env2 fp2 → Step B H fp2 B' H' fp2 → Same H H' → (∀ q, H q ≠ none → B' q = B q) → locE H' σ (path.1, path.2 ++ [j]) v' → Q v' H' := by
                    cases u with
                    | ob c1 fs xs => exact absurd rfl (hno c1 fs xs)
                    | sh d => simp [kids] at e5
                    | dk _ _ => simp [kids] at e5
                    | dt _ _ => simp [kids] at e5
                    | ol _ => exact c
                    | ot _ => exact c
                  obtain ⟨v0, q1, q2⟩ := L2
                  refine c' z H2 B2 rfl P.ok stp (fun q o e => s2 q o (s1 q o e)) (fun q h => (b2 q (S1.live q h)).trans (b1 q h)) ⟨v0, q1, locV_snoc q2 ⟨p, z, hv, ?_, rfl⟩⟩
                  rcases hz with hz | hz
                  · exact .inl hz
                  · exact .inr (.inl hz)
                cases ej : ixN ws.length i with
                | none =>
                  cases u <;> simp [e3, e4, e5, ej] at c
                | some j =>
                  by_cases hlt : j < ws.length
                  · have ew : ws[j]? = some ws[j] := List.getElem?_eq_getElem hlt
                    cases u with
                    | sh d => simp [kids] at e5
                    | dk _ _ => simp [kids] at e5
                    | dt _ _ => simp [kids] at e5
                    | ob c1 fs xs => simp [e3, e4, e5] at c
                    | ol xs =>
                      simp only [kids, Option.some.injEq] at e5
                      subst e5
                      simp only [relW] at ru
                      obtain ⟨p, vs, gg, hv, hp, hr, _⟩ := ru
                      obtain ⟨w1, w2, v1, z, v2, g1, g0, g2, hw, rfl, l1, l2, _, _, _, _⟩ := relWs_split hr ew
                      refine .inl ⟨p, _, i, z, hv, ry.1, SqL.of hp, ?_, fin p z j hv (.inl ⟨_, hp, get_mid l2⟩) ej hlt (fun _ _ _ h => nomatch h)⟩
                      unfold atI
                      rw [← relWs_length hr, ej]
                      exact get_mid l2
                    | ot xs =>
                      simp only [kids, Option.some.injEq] at e5
                      subst e5
                      simp only [relW] at ru
                      obtain ⟨p, vs, hv, hp, hr⟩ := ru
                      obtain ⟨w1, w2, v1, z, v2, g1, g0, g2, hw, rfl, l1, l2, _, _, _, _⟩ := relWs_split hr ew
                      have hp2 := P.ok.sub _ _ hp
                      refine .inr (.inl ⟨p, _, i, z, hv, ry.1, SqT.of hp2, ?_, fin p z j hv (.inr ⟨_, hp2, get_mid l2⟩) ej hlt (fun _ _ _ h => nomatch h)⟩)
                      unfold atI
                      rw [← relWs_length hr, ej]
                      exact get_mid l2
                  · cases u <;> simp [e3, e4, e5, ej, hlt] at c
theorem sl_ix (ha : SL X a ml) (hb : SE X Wx k true b mb) (hs : PlainIx b) : SL X (.Subscript a b pos) (lIx ml mb) := by
  obtain ⟨ta, pa, sa⟩ := ha
  obtain ⟨tb, pb, sb⟩ := hb
  exact ⟨_, pe_ix ix_seq pa pb hs, simL_ix sa sb⟩
end
/-! ### operations in place: the tree at a place, what is handed in: the tree behind it, the answer -/
def OpI (G : GX) (r : V → List V → Hp → VK → Prop) (g : W → List W → Option (W × W)) : Prop :=
  ∀ (B H : Hp) (w : W) (v : V) (ga : List Addr) (ws : List W) (vs : List V) (fa : List Addr) (w' c : W), Same B H → relW G B H w v ga → relWs G B H ws vs fa → (ga ++ fa).Nodup → (∀ q ∈ ga ++ fa, B q = none) → g w ws = some (w', c) → ∀ Q : VK,
    (∀ y H' B' g' fr, (∀ a o, H a = some o → a ∉ ga → H' a = some o) → Same B B' → Same B' H' → (∀ q, H q ≠ none → B' q = B q) → (∀ q ∈ g' ++ fr, B' q = none ∧ (q ∈ ga ++ fa ∨ H q = none)) → (g' ++ fr).Nodup → (∀ a, H a ≠ none → H' a ≠ none) → relW G B' H' w' v g' → relW G B' H' c y fr → Q y H') → r v vs H Q
def mIn (g : W → List W → Option (W × W)) (ml : ME Path) (ma : ME (List W)) : ME W := fun env => match ml env with
  | some (.ok path, env1) => match ma env1 with
    | some (.ok ws, env2) => (getE env2 path).bind fun w => (g w ws).bind fun p => (setE env2 path p.1).map fun env3 => (.ok p.2, env3)
    | some (.ex x, env2) => some (.ex x, env2)
    | none => none
  | _ => none
/-- the place is a name alone -/
def Root (m : ME Path) : Prop := ∀ env path env', m env = some (.ok path, env') → path.2 = []
theorem root_var {i : Nat} : Root (lVar i) := fun env path env' h => by
  unfold lVar at h
  split at h
  · cases h; rfl
  · cases h
section
variable {G : GX} {Wx : WX} {p : Bool} {tl : TE} {ta : TA} {ml : ME Path} {ma : ME (List W)} {r : V → List V → Hp → VK → Prop} {g : W → List W → Option (W × W)}
theorem Sim.inPlace (hl : SimL G tl ml) (ha : Sim G true p Wx (rWs G) ta ma) (hc : p = true ∨ Root ml) (ho : OpI G r g) : Sim G true false Wx (rW G) (fun σ H Q => tl σ H fun x H1 => ta σ H1 fun xs H2 => r x xs H2 Q) (mIn g ml ma) := by
  intro B H σ env fp O Q c
  refine hl B H σ env fp O _ ?_
  unfold mIn at c
  cases e1 : ml env with
  | none => rw [e1] at c; exact c
  | some r1 =>
    obtain ⟨r1, env1⟩ := r1
    rw [e1] at c
    cases r1 with
    | ex x => exact c.elim
    | ok path =>
      intro v H1 B1 ee O1 S1 s1 b1 L1
      subst ee
      simp only at c
      refine ha B1 H1 σ env1 fp O1 _ ?_
      cases e2 : ma env1 with
      | none => rw [e2] at c; exact c.elim
      | some r2 =>
        obtain ⟨r2, env2⟩ := r2
        rw [e2] at c
        cases r2 with
        | ex x =>
          intro cls d H2 B2 fp2 O2 S2 hx hd
          refine c cls d H2 B2 fp2 O2 (S1.trans (S := []) S2) hx fun dd e => ?_
          obtain ⟨a1, a2, a3⟩ := hd dd e
          refine ⟨a1, a2, ?_⟩
          cases q : H dd with
          | none => rfl
          | some o => exact absurd a3 (S1.live dd (by simp [q]))
        | ok ws =>
          intro vs H2 B2 fa fp2 P
          have L2 : locE H2 σ path v := by
            rcases hc with hc | hc
            · exact locE_mono (P.pure hc).1 L1
            · obtain ⟨v0, q1, q2⟩ := L1
              have := hc _ _ _ e1
              rw [this] at q2
              exact ⟨v0, q1, by rw [this]; exact q2⟩
          simp only at c
          cases e3 : getE env2 path with
          | none => rw [e3] at c; exact c.elim
          | some w =>
            rw [e3, Option.bind_some] at c
            cases e4 : g w ws with
            | none => rw [e4] at c; exact c.elim
            | some pr =>
              obtain ⟨w', z⟩ := pr
              rw [e4, Option.bind_some] at c
              obtain ⟨f1, ga, f2, rfl, rw', back⟩ := relE_zip P.ok.sub P.ok.rel e3 L2
              obtain ⟨ndA, disA⟩ := P.own rfl
              have ndE := P.ok.nd
              simp only [List.nodup_append, List.mem_append] at ndE
              obtain ⟨n1, ⟨n2, n3, n4⟩, n5⟩ := ndE
              have liveE := relE_live P.ok.rel
              refine ho B2 H2 w v ga ws vs fa w' z P.ok.sub rw' P.rel ?_ ?_ e4 Q fun y H3 B3 g' fr k1 k2 k3 k4 k5 k6 k7 k8 k9 => ?_
              · refine List.nodup_append.mpr ⟨n2, ndA, fun a ha b hb e => ?_⟩
                subst e
                exact disA a hb (by simp [ha])
              · intro q hq
                rcases List.mem_append.mp hq with hq | hq
                · exact P.ok.out q (by simp [hq])
                · exact P.out q hq
              · have keepE : ∀ q, q ∈ f1 ∨ q ∈ f2 → H3 q = H2 q := fun q hq => by
                  have hl : H2 q ≠ none := liveE q (by rcases hq with hq | hq <;> simp [hq])
                  cases e : H2 q with
                  | none => exact absurd e hl
                  | some o =>
                    refine k1 q o e fun z => ?_
                    rcases hq with hq | hq
                    · exact n5 q hq q (.inl z) rfl
                    · exact n4 q z q hq rfl
                obtain ⟨env3, e5, rE⟩ := back B3 H3 w' g' k2 (fun q hq => keepE q (.inl hq)) (fun q hq => keepE q (.inr hq)) k8
                rw [e5] at c
                have dis : ∀ q ∈ g' ++ fr, q ∉ f1 ∧ q ∉ f2 := fun q hq => by
                  rcases (k5 q hq).2 with z | z
                  · rcases List.mem_append.mp z with z | z
                    · exact ⟨fun y => n5 q y q (.inl z) rfl, fun y => n4 q z q y rfl⟩
                    · exact ⟨fun y => disA q z (by simp [y]), fun y => disA q z (by simp [y])⟩
                  · exact ⟨fun y => liveE q (by simp [y]) z, fun y => liveE q (by simp [y]) z⟩
                simp only [List.nodup_append] at k6
                obtain ⟨m1, m2, m3⟩ := k6
                have nd3 : (f1 ++ (g' ++ f2)).Nodup := by
                  refine List.nodup_append.mpr ⟨n1, List.nodup_append.mpr ⟨m1, n3, fun a ha b hb e => ?_⟩, fun a ha b hb e => ?_⟩
                  · subst e
                    exact (dis a (by simp [ha])).2 hb
                  · subst e
                    rcases List.mem_append.mp hb with hb | hb
                    · exact (dis a (by simp [hb])).1 ha
                    · exact n5 a ha a (.inr hb) rfl
                have outE : ∀ q ∈ f1 ++ (g' ++ f2), B3 q = none := fun q hq => by
                  simp only [List.mem_append] at hq
                  rcases hq with hq | hq | hq
                  · rw [k4 q (liveE q (by simp [hq]))]
                    exact P.ok.out q (by simp [hq])
                  · exact (k5 q (by simp [hq])).1
                  · rw [k4 q (liveE q (by simp [hq]))]
                    exact P.ok.out q (by simp [hq])
                have S12 : Step B H fp B2 H2 (fa ++ (f1 ++ (ga ++ f2))) := S1.trans (S := []) P.step
                refine c y H3 B3 fr (f1 ++ (g' ++ f2)) ⟨⟨k3, rE, nd3, outE⟩, k9, fun q hq => (k5 q (by simp [hq])).1, ⟨fun q o e n => ?_, fun q o e => k2 q o (S12.bext q o e), fun q h n => ?_, fun q hq => ?_, fun q h => k7 q (S12.live q h)⟩, fun _ => ⟨m2, fun q hq z => ?_⟩, fun z => Bool.noConfusion z⟩
                · refine k1 q o (S12.keep q o e n) fun z => ?_
                  rcases S12.new q (by simp [z]) with y | y
                  · exact n y
                  · rw [e] at y; cases y
                · rw [k4 q (S12.live q h)]
                  exact S12.bold q h n
                · have key : ∀ q, q ∈ ga ++ fa ∨ H2 q = none → q ∈ fp ∨ H q = none := fun q z => by
                    rcases z with z | z
                    · exact S12.new q (by simp only [List.mem_append] at z ⊢; grind)
                    · refine .inr ?_
                      cases e : H q with
                      | none => rfl
                      | some o => exact absurd z (S12.live q (by simp [e]))
                  simp only [List.mem_append] at hq
                  rcases hq with hq | hq | hq | hq
                  · exact key q (k5 q (by simp [hq])).2
                  · exact S12.new q (by simp [hq])
                  · exact key q (k5 q (by simp [hq])).2
                  · exact S12.new q (by simp [hq])
                · simp only [List.mem_append] at z
                  rcases z with z | z | z
                  · exact (dis q (by simp [hq])).1 z
                  · exact m3 q z q hq rfl
                  · exact (dis q (by simp [hq])).2 z
end
end AM

set_option Elab.async false
set_option linter.all false
set_option maxRecDepth 100000
/-! Affine mirror, part 7: methods of lists in place, methods of texts, built-in calls. -/
namespace AM
open PySem L2

def isOl : W → Bool
  | .ol _ => true
  | _ => false
def lChk (ck : W → Bool) (ml : ME Path) : ME Path := fun env => match ml env with
  | some (.ok path, env1) => if ((getE env1 path).map ck) = some true then some (.ok path, env1) else none
  | _ => none
theorem root_chk {ck : W → Bool} {ml : ME Path} (h : Root ml) : Root (lChk ck ml) := fun env path env' q => by
  unfold lChk at q
  split at q
  · rename_i e2 pa2 e3 h2
    split at q
    · cases q
      exact h _ _ _ h2
    · cases q
  · cases q
theorem simL_list {G : GX} {tl : TE} {ml : ME Path} (hl : SimL G tl ml) : SimL G (fun σ H Q => tl σ H fun x H1 => tyV G.K "list" x H1 ∧ Q x H1) (lChk isOl ml) := by
  intro B H σ env fp O Q c
  refine hl B H σ env fp O _ ?_
  unfold lChk at c
  cases e : ml env with
  | none => rw [e] at c; exact c.elim
  | some r =>
    obtain ⟨r, e1⟩ := r
    rw [e] at c
    cases r with
    | ex x => exact c.elim
    | ok pa =>
      simp only at c
      by_cases hk : ((getE e1 pa).map isOl) = some true
      · rw [if_pos hk] at c
        intro v H' B' ee O' S' s' b' L'
        subst ee
        refine ⟨?_, c v H' B' rfl O' S' s' b' L'⟩
        simp only [Option.map_eq_some_iff] at hk
        obtain ⟨w, w1, w2⟩ := hk
        obtain ⟨f1, ga, f2, _, rw', _⟩ := relE_zip O'.sub O'.rel w1 L'
        cases w with
        | ol ws =>
          simp only [relW] at rw'
          obtain ⟨q, vs, gg, rfl, hq, _⟩ := rw'
          exact .inl ⟨rfl, vs, SqL.of hq⟩
        | sh _ => cases w2
        | ot _ => cases w2
        | ob _ _ _ => cases w2
        | dk _ _ => cases w2
        | dt _ _ => cases w2
      · rw [if_neg hk] at c
        exact c.elim
section
variable {X : Cx} {Wx : WX} {p : Bool} {o e : Expr} {es : List Expr} {ml : ME Path} {ma : ME (List W)} {name : Str} {id : String} {apos cpos : Pos} {r : V → List V → Hp → VK → Prop} {g : W → List W → Option (W × W)}
theorem se_meth (slot : Slot "list" name id) (hty : typeOf (.builtin id) = pure (.type "method_descriptor")) (hm : MtR X id r) (ho : OpI (gx X) r g) (hl : SL X o ml) (ha : SA X Wx true p (e :: es) ma) (hc : p = true ∨ Root ml)
    (hbase : attributeBase o name X.env (eval o X.env) = eval o X.env := by rfl)
    (hfew : ((backTo cpos (starEach (e :: es) X.env)).all (fun x => !x.1) && (backToKw cpos (keywordEach [] X.env)).all (fun x => x.1.isSome)
      && decide ((e :: es).length + ([] : List Keyword).length + (if ([] : List Keyword).isEmpty then 0 else 1) < 30)) = true := by rfl)
    (hline : (apos.endLine == cpos.line) = true := by rfl) (hs : starEach (e :: es) X.env = (false, eval e X.env) :: starEach es X.env := by rfl) (hplain : (backTo cpos (starEach es X.env)).any (·.1) = false := by rfl) :
    SE X Wx true false (.Call (.Attribute o name apos) (e :: es) [] cpos) (mIn g (lChk isOl ml) ma) := by
  obtain ⟨tl, pl, sl⟩ := hl
  obtain ⟨ta, pa, sa⟩ := ha
  exact ⟨_, pe_bm PySem.F.plainAttrs_list slot hty hm pl pa hbase hfew hline hs hplain, Sim.inPlace (simL_list sl) sa (hc.imp (fun h => h) root_chk) ho⟩
theorem se_meth0 (slot : Slot "list" name id) (hty : typeOf (.builtin id) = pure (.type "method_descriptor")) (hm : MtR X id r) (ho : OpI (gx X) r g) (hl : SL X o ml)
    (hbase : attributeBase o name X.env (eval o X.env) = eval o X.env := by rfl) (hline : (apos.endLine == cpos.line) = true := by rfl) :
    SE X Wx true false (.Call (.Attribute o name apos) [] [] cpos) (mIn g (lChk isOl ml) mNil) := by
  obtain ⟨tl, pl, sl⟩ := hl
  refine ⟨_, pe_bm0 PySem.F.plainAttrs_list slot hty hm pl hbase hline, ?_⟩
  exact Sim.inPlace (p := true) (simL_list sl) sim_nil (.inl rfl) ho
end
/-! the list methods -/
theorem opi_list {G : GX} {r : V → List V → Hp → VK → Prop} {g : List W → List W → Option (List W × W)}
    (h : ∀ (B H : Hp) (p : Addr) (ws : List W) (vs : List V) (f : List Addr) (as : List W) (avs : List V) (fa : List Addr) (ws' : List W) (c : W), Same B H → H p = some (.lst vs) → relWs G B H ws vs f → relWs G B H as avs fa → g ws as = some (ws', c) →
      ∃ vs' y f' fr, relWs G B H ws' vs' f' ∧ relW G B H c y fr ∧ (∀ q ∈ f' ++ fr, q ∈ f ++ fa) ∧ ((f ++ fa).Nodup → (f' ++ fr).Nodup) ∧ ∀ Q : VK, Q y (upd H p (.lst vs')) → r (.ref p) avs H Q) :
    OpI G r (fun w as => match w with | .ol ws => (g ws as).map fun p => (.ol p.1, p.2) | _ => none) := by
  intro B H w v ga as avs fa w' c s rw' ra nd out e Q q
  cases w with
  | ol ws =>
    simp only [Option.map_eq_some_iff] at e
    obtain ⟨⟨ws', c'⟩, e1, e2⟩ := e
    cases e2
    simp only [relW] at rw'
    obtain ⟨p, vs, f, rfl, hp, rs, rfl⟩ := rw'
    obtain ⟨vs', y, f', fr, k1, k2, k3, k4, k5⟩ := h B H p ws vs f as avs fa ws' c' s hp rs ra e1
    have ndp : p ∉ f ++ fa := by
      simp only [List.cons_append, List.nodup_cons] at nd
      exact nd.1
    have ndr : (f ++ fa).Nodup := by
      simp only [List.cons_append, List.nodup_cons] at nd
      exact nd.2
    have nep : ∀ x ∈ f' ++ fr, x ≠ p := fun x hx z => ndp (by rw [← z]; exact k3 x hx)
    refine k5 Q (q y _ B (p :: f') fr (fun a o ha hn => by rw [upd_ne (fun z => hn (by simp [z]))]; exact ha) (Same.refl B) (fun a o ha => ?_) (fun _ _ => rfl) (fun x hx => ?_) ?_ (fun a ha => ?_) ?_ ?_)
    · rw [upd_ne (fun z => ?_)]
      · exact s a o ha
      · rw [z, out p (by simp)] at ha
        cases ha
    · simp only [List.cons_append, List.mem_cons] at hx
      rcases hx with rfl | hx
      · exact ⟨out x (by simp), .inl (by simp)⟩
      · have := k3 x hx
        exact ⟨out x (by simp only [List.cons_append, List.mem_cons]; exact .inr this), .inl (by simp only [List.cons_append, List.mem_cons]; exact .inr this)⟩
    · simp only [List.cons_append, List.nodup_cons]
      exact ⟨fun z => nep p z rfl, k4 ndr⟩
    · by_cases z : a = p
      · rw [z, upd_same]; simp
      · rw [upd_ne z]; exact ha
    · simp only [relW]
      exact ⟨p, vs', f', rfl, upd_same, relWs_frame (Same.refl B) k1 fun x hx => upd_ne (nep x (by simp [hx])), rfl⟩
    · exact relW_frame (Same.refl B) k2 fun x hx => upd_ne (nep x (by simp [hx]))
  | sh _ => cases e
  | ot _ => cases e
  | ob _ _ _ => cases e
  | dk _ _ => cases e
  | dt _ _ => cases e
def onL (g : List W → List W → Option (List W × W)) : W → List W → Option (W × W) := fun w as => match w with | .ol ws => (g ws as).map fun p => (.ol p.1, p.2) | _ => none
def gApp (ws as : List W) : Option (List W × W) := match as with
  | [x] => if ws.length < 100000 then some (ws ++ [x], .sh .non) else none
  | _ => none
theorem relW_non {G : GX} {B H : Hp} : relW G B H (.sh .non) .non [] := by simp [relW, repD]
theorem opi_app {G : GX} : OpI G rAppend (onL gApp) := by
  refine opi_list fun B H p ws vs f as avs fa ws' c s hp rs ra e => ?_
  unfold gApp at e
  split at e
  · rename_i x
    split at e
    · rename_i hl
      cases e
      simp only [relWs] at ra
      obtain ⟨y, rr, g1, g2, rfl, ry, ⟨rfl, rfl⟩, rfl⟩ := ra
      refine ⟨vs ++ [y], .non, f ++ g1, [], relWs_append rs (by simp only [relWs]; exact ⟨y, [], g1, [], rfl, ry, ⟨rfl, rfl⟩, by simp⟩), relW_non, by simp, by simp, fun Q q => ⟨p, vs, y, rfl, rfl, hp, ?_, q⟩⟩
      rw [← relWs_length rs]
      exact Nat.lt_of_lt_of_le hl (by decide)
    · cases e
  · cases e
/-- the things of a list that is let go -/
def wTake : W → Option (List W)
  | .ol ws => some ws
  | .sh (.lst ds) => some (ds.map .sh)
  | _ => none
theorem wTake_rel {G : GX} {B H : Hp} {w : W} {v : V} {f : List Addr} {ws : List W} (s : Same B H) (r : relW G B H w v f) (e : wTake w = some ws) : ∃ a vs g, v = .ref a ∧ H a = some (.lst vs) ∧ relWs G B H ws vs g ∧ (∀ q ∈ g, q ∈ f) ∧ (f.Nodup → g.Nodup) := by
  unfold wTake at e
  split at e
  · cases e
    simp only [relW] at r
    obtain ⟨p, vs, g, h1, h2, h3, rfl⟩ := r
    exact ⟨p, vs, g, h1, h2, h3, by simp; grind, by simp⟩
  · cases e
    simp only [relW, repD] at r
    obtain ⟨⟨a, vs, h1, h2, h3⟩, rfl⟩ := r
    exact ⟨a, vs, [], h1, s _ _ h2, relWs_sh h3, by simp, fun _ => List.nodup_nil⟩
  · cases e
def gExt (ws as : List W) : Option (List W × W) := match as with
  | [x] => (wTake x).bind fun xs => if ws.length + xs.length ≤ 100000 then some (ws ++ xs, .sh .non) else none
  | _ => none
theorem opi_ext {G : GX} : OpI G rExtend (onL gExt) := by
  refine opi_list fun B H p ws vs f as avs fa ws' c s hp rs ra e => ?_
  unfold gExt at e
  split at e
  · rename_i x
    simp only [Option.bind_eq_some_iff] at e
    obtain ⟨xs, e1, e⟩ := e
    split at e
    · rename_i hl
      cases e
      simp only [relWs] at ra
      obtain ⟨y, rr, g1, g2, rfl, ry, ⟨rfl, rfl⟩, rfl⟩ := ra
      obtain ⟨b, zs, g, rfl, hb, rz, sub, nd⟩ := wTake_rel s ry e1
      refine ⟨vs ++ zs, .non, f ++ g, [], relWs_append rs rz, relW_non, fun q hq => ?_, fun n => ?_, fun Q q => ⟨p, b, vs, zs, rfl, rfl, hp, hb, ?_, q⟩⟩
      · simp only [List.append_nil, List.mem_append] at hq ⊢
        exact hq.imp id (sub q)
      · simp only [List.append_nil, List.nodup_append] at n ⊢
        exact ⟨n.1, nd n.2.1, fun a ha b hb => n.2.2 a ha b (sub b hb)⟩
      · rw [← relWs_length rs, ← relWs_length rz]
        exact sz_ok hl
    · cases e
  · cases e
def gPop (ws as : List W) : Option (List W × W) := match as with
  | [] => (ws[ws.length - 1]?).map fun x => (ws.dropLast, x)
  | _ => none
theorem relWs_erase {G : GX} {B H : Hp} {ws : List W} {vs : List V} {f : List Addr} {j : Nat} {w : W} (r : relWs G B H ws vs f) (e : ws[j]? = some w) : ∃ v g fr, vs[j]? = some v ∧ relW G B H w v fr ∧ relWs G B H (ws.eraseIdx j) (vs.eraseIdx j) g ∧ (∀ q ∈ g ++ fr, q ∈ f) ∧ (f.Nodup → (g ++ fr).Nodup) := by
  obtain ⟨w1, w2, v1, v, v2, f1, g, f2, rfl, rfl, l1, l2, rfl, r1, r2, r3⟩ := relWs_split r e
  refine ⟨v, f1 ++ f2, g, get_mid l2, r2, ?_, fun q hq => ?_, fun n => ?_⟩
  · subst l1
    rw [List.eraseIdx_append_of_length_le (Nat.le_refl _), List.eraseIdx_append_of_length_le (by omega), l2]
    simp only [Nat.sub_self, List.eraseIdx_cons_zero]
    exact relWs_append r1 r3
  · simp only [List.mem_append] at hq ⊢
    grind
  · simp only [List.nodup_append, List.mem_append] at n ⊢
    grind
theorem opi_pop {G : GX} : OpI G rPop (onL gPop) := by
  refine opi_list fun B H p ws vs f as avs fa ws' c s hp rs ra e => ?_
  unfold gPop at e
  split at e
  · simp only [Option.map_eq_some_iff] at e
    obtain ⟨x, e1, e2⟩ := e
    cases e2
    simp only [relWs] at ra
    obtain ⟨rfl, rfl⟩ := ra
    obtain ⟨v, g, fr, h1, h2, h3, h4, h5⟩ := relWs_erase rs e1
    have hlen := relWs_length rs
    have hne : ws ≠ [] := fun z => by subst z; simp at e1
    have d1 : ws.eraseIdx (ws.length - 1) = ws.dropLast := by
      have := List.length_pos_iff.mpr hne
      exact List.eraseIdx_eq_dropLast (by omega)
    have d2 : vs.eraseIdx (ws.length - 1) = vs.dropLast := by
      have := List.length_pos_iff.mpr hne
      exact List.eraseIdx_eq_dropLast (by omega)
    rw [d1, d2] at h3
    exact ⟨vs.dropLast, v, g, fr, h3, h2, fun q hq => by simp [h4 q hq], fun n => h5 (by simpa using n), fun Q q => ⟨p, vs, v, rfl, rfl, hp, by rw [← hlen]; exact h1, q⟩⟩
  · cases e
def gPopAt (ws as : List W) : Option (List W × W) := match as with
  | [a] => (wInt a).bind fun i => if -100000 ≤ i ∧ i ≤ 100000 then (ixN ws.length i).bind fun j => (ws[j]?).map fun x => (ws.eraseIdx j, x) else none
  | _ => none
theorem opi_popAt {G : GX} : OpI G rPopAt (onL gPopAt) := by
  refine opi_list fun B H p ws vs f as avs fa ws' c s hp rs ra e => ?_
  unfold gPopAt at e
  split at e
  · rename_i a
    simp only [Option.bind_eq_some_iff] at e
    obtain ⟨i, e0, e⟩ := e
    split at e
    · rename_i hb
      simp only [Option.bind_eq_some_iff, Option.map_eq_some_iff] at e
      obtain ⟨j, e1, x, e2, e3⟩ := e
      cases e3
      rw [wInt_eq e0] at ra
      simp only [relWs, relW, repD] at ra
      obtain ⟨y, rr, g1, g2, rfl, ⟨rfl, rfl⟩, ⟨rfl, rfl⟩, rfl⟩ := ra
      obtain ⟨v, g, fr, h1, h2, h3, h4, h5⟩ := relWs_erase rs e2
      have hlen := relWs_length rs
      obtain ⟨k1, _, _, _⟩ := ixN_seq e1
      exact ⟨_, v, g, fr, h3, h2, fun q hq => by simp [h4 q hq], fun n => h5 (by simpa using n), fun Q q => ⟨p, vs, i, j, v, rfl, rfl, hp, by omega, by omega, by rw [← hlen]; exact k1, h1, q⟩⟩
    · cases e
  · cases e
def gIns (ws as : List W) : Option (List W × W) := match as with
  | [a, x] => (wInt a).bind fun i => if 0 ≤ i ∧ i ≤ 100000 ∧ ws.length < 100000 then some (ws.take i.toNat ++ [x] ++ ws.drop i.toNat, .sh .non) else none
  | _ => none
def gRev (ws as : List W) : Option (List W × W) := match as with
  | [] => some (ws.reverse, .sh .non)
  | _ => none
theorem relWs_rev {G : GX} {B H : Hp} : ∀ {ws : List W} {vs : List V} {f : List Addr}, relWs G B H ws vs f → ∃ g, relWs G B H ws.reverse vs.reverse g ∧ (∀ q ∈ g, q ∈ f) ∧ (f.Nodup → g.Nodup)
  | [], vs, f, h => by
    simp only [relWs] at h
    obtain ⟨rfl, rfl⟩ := h
    exact ⟨[], by simp [relWs], by simp, fun _ => List.nodup_nil⟩
  | w :: ws, vs, f, h => by
    simp only [relWs] at h
    obtain ⟨v, r, g1, g2, rfl, h1, h2, rfl⟩ := h
    obtain ⟨g, h3, h4, h5⟩ := relWs_rev h2
    refine ⟨g ++ g1, ?_, fun q hq => ?_, fun n => ?_⟩
    · simp only [List.reverse_cons]
      exact relWs_append h3 (by simp only [relWs]; exact ⟨v, [], g1, [], rfl, h1, ⟨rfl, rfl⟩, by simp⟩)
    · simp only [List.mem_append] at hq ⊢
      rcases hq with hq | hq
      · exact .inr (h4 q hq)
      · exact .inl hq
    · simp only [List.nodup_append] at n ⊢
      exact ⟨h5 n.2.1, n.1, fun a ha b hb e => n.2.2 b hb a (h4 a ha) e.symm⟩
theorem opi_rev {G : GX} : OpI G rReverse (onL gRev) := by
  refine opi_list fun B H p ws vs f as avs fa ws' c s hp rs ra e => ?_
  unfold gRev at e
  split at e
  · cases e
    simp only [relWs] at ra
    obtain ⟨rfl, rfl⟩ := ra
    obtain ⟨g, h1, h2, h3⟩ := relWs_rev rs
    exact ⟨vs.reverse, .non, g, [], h1, relW_non, fun q hq => by simp at hq ⊢; exact h2 q hq, fun n => by simpa using h3 (by simpa using n), fun Q q => ⟨p, vs, rfl, rfl, hp, q⟩⟩
  · cases e
def gClr (ws as : List W) : Option (List W × W) := match as with
  | [] => some ([], .sh .non)
  | _ => none
theorem opi_clr {G : GX} : OpI G rClear (onL gClr) := by
  refine opi_list fun B H p ws vs f as avs fa ws' c s hp rs ra e => ?_
  unfold gClr at e
  split at e
  · cases e
    simp only [relWs] at ra
    obtain ⟨rfl, rfl⟩ := ra
    exact ⟨[], .non, [], [], by simp [relWs], relW_non, by simp, by simp, fun Q q => ⟨p, vs, rfl, rfl, hp, q⟩⟩
  · cases e
end AM

set_option Elab.async false
set_option linter.all false
set_option maxRecDepth 100000
/-! Affine mirror, part 8: built-in calls, methods of texts. -/
namespace AM
open PySem L2

def mBi (g : List W → Option W) (ma : ME (List W)) : ME W := ma.bind (ME.op g)
section
variable {X : Cx} {Wx : WX} {k p : Bool} {e : Expr} {es : List Expr} {ma : ME (List W)} {g : List W → Option W} {r : List V → Hp → VK → Prop} {x : Str} {id T : String} {pp pos : Pos}
theorem se_bi (hc : CallR X (.builtin id) r) (ho : OpS (rWs (gx X)) (rW (gx X)) r g) (hg : Gl X x) (hm : X.mg x = none) (hv : bootBuiltins x = some (.builtin id)) (ha : SA X Wx k p (e :: es) ma) (hn : x ≠ "__name__" := by decide) (hdb : (x == ("__debug__" : Str)) = false := by decide)
    (he : starEach (e :: es) X.env = (false, eval e X.env) :: starEach es X.env := by rfl) (hpl : (backTo pos (starEach es X.env)).any (·.1) = false := by rfl) : SE X Wx true p (.Call (.Name x pp) (e :: es) [] pos) (mBi g ma) := by
  obtain ⟨ta, pa, sa⟩ := ha
  exact ⟨_, pe_callB hc hg hm hv pa hn hdb he hpl, sa.op ho⟩
theorem se_ty (hc : CallR X (.type T) r) (ho : OpS (rWs (gx X)) (rW (gx X)) r g) (hg : Gl X x) (hm : X.mg x = none) (hv : bootBuiltins x = some (.type T)) (ha : SA X Wx k p (e :: es) ma) (hn : x ≠ "__name__" := by decide) (hdb : (x == ("__debug__" : Str)) = false := by decide)
    (he : starEach (e :: es) X.env = (false, eval e X.env) :: starEach es X.env := by rfl) (hpl : (backTo pos (starEach es X.env)).any (·.1) = false := by rfl) : SE X Wx true p (.Call (.Name x pp) (e :: es) [] pos) (mBi g ma) := by
  obtain ⟨ta, pa, sa⟩ := ha
  exact ⟨_, pe_callTy hc hg hm hv pa hn hdb he hpl, sa.op ho⟩
end
section
variable {G : GX} {X : Cx}
theorem rel1 {B H : Hp} {w : W} {vs : List V} {f : List Addr} (h : rWs G B H [w] vs f) : ∃ v, vs = [v] ∧ relW G B H w v f := by
  have h : relWs _ _ _ _ _ _ := h
  simp only [relWs] at h
  obtain ⟨v, r, g1, g2, rfl, h1, ⟨rfl, rfl⟩, rfl⟩ := h
  exact ⟨v, rfl, by simpa using h1⟩
theorem rel2 {B H : Hp} {w u : W} {vs : List V} {f : List Addr} (h : rWs G B H [w, u] vs f) : ∃ v z f1 f2, vs = [v, z] ∧ relW G B H w v f1 ∧ relW G B H u z f2 ∧ f = f1 ++ f2 := by
  have h : relWs _ _ _ _ _ _ := h
  simp only [relWs] at h
  obtain ⟨v, r, g1, g2, rfl, h1, ⟨v2, r2, g3, g4, rfl, h2, ⟨rfl, rfl⟩, rfl⟩, rfl⟩ := h
  exact ⟨v, v2, g1, g3, rfl, h1, h2, by simp⟩
theorem relI {B H : Hp} {i : Int} {v : V} {f : List Addr} (h : relW G B H (.sh (.int i)) v f) : v = .int i := by simp only [relW, repD] at h; exact h.1
theorem relSt {B H : Hp} {i : Str} {v : V} {f : List Addr} (h : relW G B H (.sh (.str i)) v f) : v = .str i := by simp only [relW, repD] at h; exact h.1
theorem relBl {B H : Hp} {i : Bool} {v : V} {f : List Addr} (h : relW G B H (.sh (.bl i)) v f) : v = .bl i := by simp only [relW, repD] at h; exact h.1
def gInt (n : Int) : Option W := some (.sh (.int n))
def gLen (as : List W) : Option W := match as with
  | [.sh (.str z)] => if z.length ≤ 100000 then some (.sh (.int z.length)) else none
  | [.sh (.lst ds)] => some (.sh (.int ds.length))
  | [.sh (.tup ds)] => some (.sh (.int ds.length))
  | [.sh (.scr ns)] => some (.sh (.int ns.length))
  | [.ol ws] => some (.sh (.int ws.length))
  | [.ot ws] => some (.sh (.int ws.length))
  | _ => none
theorem ops_len : OpS (rWs G) (rW G) (fun xs H (Q : VK) => ∃ x n, xs = [x] ∧ LenV G.K x H n ∧ Q (.int n) H) gLen := by
  refine ops_flat fun B H a b fp c s ra e => ?_
  unfold gLen at e
  split at e
  · rename_i z
    split at e
    · rename_i hz
      cases e
      obtain ⟨v, rfl, r⟩ := rel1 ra
      exact ⟨_, .int z.length, rfl, by simp [repD], fun Q q => ⟨v, z.length, rfl, by rw [relSt r]; exact ⟨sz_ok hz, rfl⟩, q⟩⟩
    · cases e
  · rename_i ds
    cases e
    obtain ⟨v, rfl, r⟩ := rel1 ra
    simp only [relW, repD] at r
    obtain ⟨⟨a, vs, rfl, h1, h2⟩, _⟩ := r
    exact ⟨_, .int ds.length, rfl, by simp [repD], fun Q q => ⟨_, ds.length, rfl, .inl ⟨vs, SqL.of (s _ _ h1), repDs_length h2⟩, q⟩⟩
  · rename_i ds
    cases e
    obtain ⟨v, rfl, r⟩ := rel1 ra
    simp only [relW, repD] at r
    obtain ⟨⟨a, vs, rfl, h1, h2⟩, _⟩ := r
    exact ⟨_, .int ds.length, rfl, by simp [repD], fun Q q => ⟨_, ds.length, rfl, .inr ⟨vs, sqT_of_same s h1, repDs_length h2⟩, q⟩⟩
  · rename_i ns
    cases e
    obtain ⟨v, rfl, r⟩ := rel1 ra
    simp only [relW, repD] at r
    obtain ⟨⟨a, rfl, h1⟩, _⟩ := r
    exact ⟨_, .int ns.length, rfl, by simp [repD], fun Q q => ⟨_, ns.length, rfl, .inl ⟨_, Same.seq s h1, by simp⟩, q⟩⟩
  · rename_i ws
    cases e
    obtain ⟨v, rfl, r⟩ := rel1 ra
    simp only [relW] at r
    obtain ⟨a, vs, g, rfl, h1, h2, _⟩ := r
    exact ⟨_, .int ws.length, rfl, by simp [repD], fun Q q => ⟨_, ws.length, rfl, .inl ⟨vs, SqL.of h1, relWs_length h2⟩, q⟩⟩
  · rename_i ws
    cases e
    obtain ⟨v, rfl, r⟩ := rel1 ra
    simp only [relW] at r
    obtain ⟨a, vs, rfl, h1, h2⟩ := r
    exact ⟨_, .int ws.length, rfl, by simp [repD], fun Q q => ⟨_, ws.length, rfl, .inr ⟨vs, SqT.of (s _ _ h1), relWs_length h2⟩, q⟩⟩
  · cases e
/-! lists of numbers -/
def dInts : List D → Option (List Int)
  | [] => some []
  | .int i :: ds => (dInts ds).map (i :: ·)
  | _ => none
theorem dInts_eq : ∀ {ds : List D} {ns : List Int}, dInts ds = some ns → ds = ns.map .int
  | [], ns, h => by simp only [dInts] at h; cases h; rfl
  | .int i :: ds, ns, h => by
    simp only [dInts, Option.map_eq_some_iff] at h
    obtain ⟨r, h1, rfl⟩ := h
    rw [dInts_eq h1]
    rfl
  | .non :: _, _, h => by simp [dInts] at h
  | .bl _ :: _, _, h => by simp [dInts] at h
  | .str _ :: _, _, h => by simp [dInts] at h
  | .lst _ :: _, _, h => by simp [dInts] at h
  | .tup _ :: _, _, h => by simp [dInts] at h
  | .exc _ _ :: _, _, h => by simp [dInts] at h
  | .scr _ :: _, _, h => by simp [dInts] at h
theorem repDs_ints {B : Hp} : ∀ {ns : List Int} {vs : List V}, repDs G B (ns.map .int) vs → vs = ns.map V.int
  | [], vs, h => by simpa [repDs] using h
  | n :: ns, vs, h => by
    simp only [List.map_cons, repDs, repD] at h
    obtain ⟨v, r, rfl, rfl, h2⟩ := h
    rw [repDs_ints h2]
    rfl
def wInts (w : W) : Option (List Int) := match w with
  | .sh (.scr ns) => some ns
  | w => (wEls w).bind dInts
theorem wInts_rel {B H : Hp} {w : W} {v : V} {f : List Addr} {ns : List Int} (s : Same B H) (r : relW G B H w v f) (e : wInts w = some ns) : ∃ a, v = .ref a ∧ SqL G.K H a (ns.map V.int) := by
  unfold wInts at e
  split at e
  · cases e
    simp only [relW, repD] at r
    obtain ⟨⟨a, h1, h2⟩, _⟩ := r
    exact ⟨a, h1, Same.seq s h2⟩
  · simp only [Option.bind_eq_some_iff] at e
    obtain ⟨ds, e1, e2⟩ := e
    obtain ⟨a, vs, h1, h2, h3⟩ := wEls_eq s r e1
    rw [dInts_eq e2] at h3
    rw [repDs_ints h3] at h2
    exact ⟨a, h1, SqL.of h2⟩
def gSum (as : List W) : Option W := match as with
  | [w] => (wInts w).map fun ns => .sh (.int ns.sum)
  | _ => none
theorem ops_sum : OpS (rWs G) (rW G) (rSum G.K) gSum := by
  refine ops_flat fun B H a b fp c s ra e => ?_
  unfold gSum at e
  split at e
  · rename_i w
    simp only [Option.map_eq_some_iff] at e
    obtain ⟨ns, e1, rfl⟩ := e
    obtain ⟨v, rfl, r⟩ := rel1 ra
    obtain ⟨p, rfl, h⟩ := wInts_rel s r e1
    exact ⟨_, .int ns.sum, rfl, by simp [repD], fun Q q => ⟨p, ns, rfl, h, q⟩⟩
  · cases e
def minI : List Int → Int
  | [] => 0
  | [a] => a
  | a :: r => min a (minI r)
def maxI : List Int → Int
  | [] => 0
  | [a] => a
  | a :: r => max a (maxI r)
theorem minI_spec : ∀ {ns : List Int}, ns ≠ [] → minI ns ∈ ns ∧ ∀ y ∈ ns, minI ns ≤ y
  | [], h => absurd rfl h
  | [a], _ => by simp [minI]
  | a :: b :: r, _ => by
    obtain ⟨h1, h2⟩ := minI_spec (ns := b :: r) (by simp)
    have e : minI (a :: b :: r) = min a (minI (b :: r)) := rfl
    rw [e]
    refine ⟨?_, fun y hy => ?_⟩
    · rcases Int.le_total a (minI (b :: r)) with h | h
      · rw [Int.min_eq_left h]; simp
      · rw [Int.min_eq_right h]; exact List.mem_cons_of_mem _ h1
    · rcases List.mem_cons.mp hy with rfl | hy
      · exact Int.min_le_left _ _
      · exact Int.le_trans (Int.min_le_right _ _) (h2 y hy)
theorem maxI_spec : ∀ {ns : List Int}, ns ≠ [] → maxI ns ∈ ns ∧ ∀ y ∈ ns, y ≤ maxI ns
  | [], h => absurd rfl h
  | [a], _ => by simp [maxI]
  | a :: b :: r, _ => by
    obtain ⟨h1, h2⟩ := maxI_spec (ns := b :: r) (by simp)
    have e : maxI (a :: b :: r) = max a (maxI (b :: r)) := rfl
    rw [e]
    refine ⟨?_, fun y hy => ?_⟩
    · rcases Int.le_total a (maxI (b :: r)) with h | h
      · rw [Int.max_eq_right h]; exact List.mem_cons_of_mem _ h1
      · rw [Int.max_eq_left h]; simp
    · rcases List.mem_cons.mp hy with rfl | hy
      · exact Int.le_max_left _ _
      · exact Int.le_trans (h2 y hy) (Int.le_max_right _ _)
def gMin (as : List W) : Option W := match as with
  | [w] => (wInts w).bind fun ns => if ns.length = 0 then none else some (.sh (.int (minI ns)))
  | [a, b] => match wInt a, wInt b with
    | some i, some j => some (.sh (.int (if j < i then j else i)))
    | _, _ => none
  | _ => none
def gMax (as : List W) : Option W := match as with
  | [w] => (wInts w).bind fun ns => if ns.length = 0 then none else some (.sh (.int (maxI ns)))
  | [a, b] => match wInt a, wInt b with
    | some i, some j => some (.sh (.int (if j > i then j else i)))
    | _, _ => none
  | _ => none
theorem CallR.or {f : Value} {r r' : List V → Hp → VK → Prop} (h : CallR X f r) (h' : CallR X f r') : CallR X f (fun xs H Q => r xs H Q ∨ r' xs H Q) :=
  fun pins s σ H xs us Q I rx q => q.elim (h pins s σ H xs us Q I rx) (h' pins s σ H xs us Q I rx)
theorem ops_min : OpS (rWs G) (rW G) (fun xs H Q => rMin G.K xs H Q ∨ ∃ i j, xs = [.int i, .int j] ∧ Q (.int (if j < i then j else i)) H) gMin := by
  refine ops_flat fun B H a b fp c s ra e => ?_
  unfold gMin at e
  split at e
  · rename_i w
    simp only [Option.bind_eq_some_iff] at e
    obtain ⟨ns, e1, e⟩ := e
    split at e
    · cases e
    · rename_i hl
      cases e
      obtain ⟨v, rfl, r⟩ := rel1 ra
      obtain ⟨p, rfl, h⟩ := wInts_rel s r e1
      obtain ⟨m1, m2⟩ := minI_spec (ns := ns) (fun z => hl (by rw [z]; rfl))
      refine ⟨_, .int (minI ns), rfl, by simp [repD], fun Q q => .inl ⟨p, ns, rfl, h, by omega, fun m hm hle => ?_⟩⟩
      have : m = minI ns := Int.le_antisymm (hle _ m1) (m2 _ hm)
      rw [this]
      exact q
  · rename_i x y
    split at e
    · rename_i i j h1 h2
      cases e
      obtain ⟨v, z, f1, f2, rfl, r1, r2, _⟩ := rel2 ra
      rw [wInt_eq h1] at r1
      rw [wInt_eq h2] at r2
      exact ⟨_, .int (if j < i then j else i), rfl, by simp [repD], fun Q q => .inr ⟨i, j, by rw [relI r1, relI r2], q⟩⟩
    · cases e
  · cases e
theorem ops_max : OpS (rWs G) (rW G) (fun xs H Q => rMax G.K xs H Q ∨ ∃ i j, xs = [.int i, .int j] ∧ Q (.int (if j > i then j else i)) H) gMax := by
  refine ops_flat fun B H a b fp c s ra e => ?_
  unfold gMax at e
  split at e
  · rename_i w
    simp only [Option.bind_eq_some_iff] at e
    obtain ⟨ns, e1, e⟩ := e
    split at e
    · cases e
    · rename_i hl
      cases e
      obtain ⟨v, rfl, r⟩ := rel1 ra
      obtain ⟨p, rfl, h⟩ := wInts_rel s r e1
      obtain ⟨m1, m2⟩ := maxI_spec (ns := ns) (fun z => hl (by rw [z]; rfl))
      refine ⟨_, .int (maxI ns), rfl, by simp [repD], fun Q q => .inl ⟨p, ns, rfl, h, by omega, fun m hm hle => ?_⟩⟩
      have : m = maxI ns := Int.le_antisymm (m2 _ hm) (hle _ m1)
      rw [this]
      exact q
  · rename_i x y
    split at e
    · rename_i i j h1 h2
      cases e
      obtain ⟨v, z, f1, f2, rfl, r1, r2, _⟩ := rel2 ra
      rw [wInt_eq h1] at r1
      rw [wInt_eq h2] at r2
      exact ⟨_, .int (if j > i then j else i), rfl, by simp [repD], fun Q q => .inr ⟨i, j, by rw [relI r1, relI r2], q⟩⟩
    · cases e
  · cases e
def gAbs (as : List W) : Option W := match as with
  | [w] => (wInt w).map fun i => .sh (.int (if i < 0 then -i else i))
  | _ => none
theorem ops_abs : OpS (rWs G) (rW G) (fun xs H (Q : VK) => ∃ i, xs = [.int i] ∧ Q (.int (if i < 0 then -i else i)) H) gAbs := by
  refine ops_flat fun B H a b fp c s ra e => ?_
  unfold gAbs at e
  split at e
  · rename_i w
    simp only [Option.map_eq_some_iff] at e
    obtain ⟨i, e1, rfl⟩ := e
    obtain ⟨v, rfl, r⟩ := rel1 ra
    rw [wInt_eq e1] at r
    exact ⟨_, .int (if i < 0 then -i else i), rfl, by simp [repD], fun Q q => ⟨i, by rw [relI r], q⟩⟩
  · cases e
/-- int of a number, a truth, a text -/
def gToInt (as : List W) : Option W := match as with
  | [.sh (.int i)] => some (.sh (.int i))
  | [.sh (.bl k)] => some (.sh (.int (if k then 1 else 0)))
  | [.sh (.str a)] => if a.length ≤ 640 then (PySem.intText? a).map fun n => .sh (.int n) else none
  | _ => none
theorem ops_int : OpS (rWs G) (rW G) (fun xs H (Q : VK) => ((∃ i, xs = [.int i] ∧ Q (.int i) H) ∨ ∃ k, xs = [.bl k] ∧ Q (.int (if k then 1 else 0)) H) ∨ ∃ a n, xs = [.str a] ∧ PySem.intText? a = some n ∧ a.length ≤ 640 ∧ Q (.int n) H) gToInt := by
  refine ops_flat fun B H a b fp c s ra e => ?_
  unfold gToInt at e
  split at e
  · rename_i i
    cases e
    obtain ⟨v, rfl, r⟩ := rel1 ra
    exact ⟨_, .int i, rfl, by simp [repD], fun Q q => .inl (.inl ⟨i, by rw [relI r], q⟩)⟩
  · rename_i k
    cases e
    obtain ⟨v, rfl, r⟩ := rel1 ra
    exact ⟨_, .int (if k then 1 else 0), rfl, by simp [repD], fun Q q => .inl (.inr ⟨k, by rw [relBl r], q⟩)⟩
  · rename_i z
    split at e
    · rename_i hz
      simp only [Option.map_eq_some_iff] at e
      obtain ⟨n, e1, rfl⟩ := e
      obtain ⟨v, rfl, r⟩ := rel1 ra
      exact ⟨_, .int n, rfl, by simp [repD], fun Q q => .inr ⟨z, n, by rw [relSt r], e1, hz, q⟩⟩
    · cases e
  · cases e
def gStr (as : List W) : Option W := match as with
  | [w] => (wInt w).bind fun i => if i.natAbs.log2 < 1920 then some (.sh (.str (toString i))) else none
  | _ => none
theorem ops_str : OpS (rWs G) (rW G) (fun xs H (Q : VK) => ∃ i, xs = [.int i] ∧ i.natAbs.log2 < 1920 ∧ Q (.str (toString i)) H) gStr := by
  refine ops_flat fun B H a b fp c s ra e => ?_
  unfold gStr at e
  split at e
  · rename_i w
    simp only [Option.bind_eq_some_iff] at e
    obtain ⟨i, e1, e⟩ := e
    split at e
    · rename_i hz
      cases e
      obtain ⟨v, rfl, r⟩ := rel1 ra
      rw [wInt_eq e1] at r
      exact ⟨_, .str (toString i), rfl, by simp [repD], fun Q q => ⟨i, by rw [relI r], hz, q⟩⟩
    · cases e
  · cases e
/-- the shared things in a list or tuple, also the script's -/
def wSeq (w : W) : Option (List D) := match w with
  | .sh (.tup ds) => some ds
  | .sh (.scr ns) => some (ns.map .int)
  | w => wEls w
theorem repDs_of_ints {B : Hp} : ∀ ns : List Int, repDs G B (ns.map .int) (ns.map V.int)
  | [] => by simp [repDs]
  | n :: ns => by
    simp only [List.map_cons, repDs, repD]
    exact ⟨_, _, rfl, rfl, repDs_of_ints ns⟩
theorem wSeq_rel {B H : Hp} {w : W} {v : V} {f : List Addr} {ds : List D} (s : Same B H) (r : relW G B H w v f) (e : wSeq w = some ds) : ∃ a vs, v = .ref a ∧ (SqL G.K H a vs ∨ SqT G.K H a vs) ∧ repDs G B ds vs := by
  unfold wSeq at e
  split at e
  · cases e
    simp only [relW, repD] at r
    obtain ⟨⟨a, vs, h1, h2, h3⟩, _⟩ := r
    exact ⟨a, vs, h1, .inr (sqT_of_same s h2), h3⟩
  · cases e
    simp only [relW, repD] at r
    obtain ⟨⟨a, h1, h2⟩, _⟩ := r
    exact ⟨a, _, h1, .inl (Same.seq s h2), repDs_of_ints _⟩
  · obtain ⟨a, vs, h1, h2, h3⟩ := wEls_eq s r e
    exact ⟨a, vs, h1, .inl (SqL.of h2), h3⟩
def gList (as : List W) : Option W := match as with
  | [w] => (wSeq w).map fun ds => .ol (ds.map .sh)
  | _ => none
theorem ops_list : OpS (rWs G) (rW G) (fun xs H (Q : VK) => ∃ p ys, xs = [.ref p] ∧ (SqL G.K H p ys ∨ SqT G.K H p ys) ∧ ∀ l, H l = none → Q (.ref l) (upd H l (.lst ys))) gList := by
  refine ops_newL fun B H a b fp c s ra e => ?_
  unfold gList at e
  split at e
  · rename_i w
    simp only [Option.map_eq_some_iff] at e
    obtain ⟨ds, e1, rfl⟩ := e
    obtain ⟨v, rfl, r⟩ := rel1 ra
    obtain ⟨p, vs, rfl, h1, h2⟩ := wSeq_rel s r e1
    exact ⟨ds, vs, rfl, h2, fun Q q => ⟨p, vs, rfl, h1, q⟩⟩
  · cases e
/-- tuple of a list -/
def gTuple (as : List W) : Option W := match as with
  | [w] => (wEls w).map fun ds => .sh (.tup ds)
  | _ => none
theorem ops_tuple : OpS (rWs G) (rW G) (fun xs H (Q : VK) => ∃ p ys, xs = [.ref p] ∧ ((SqL G.K H p ys ∧ ∀ l, H l = none → Q (.ref l) (upd H l (.tup ys))) ∨ (SqT G.K H p ys ∧ Q (.ref p) H))) gTuple := by
  refine ops_newT fun B H a b fp c s ra e => ?_
  unfold gTuple at e
  split at e
  · rename_i w
    simp only [Option.map_eq_some_iff] at e
    obtain ⟨ds, e1, rfl⟩ := e
    obtain ⟨v, rfl, r⟩ := rel1 ra
    obtain ⟨p, vs, rfl, h1, h2⟩ := wEls_eq s r e1
    exact ⟨ds, vs, rfl, h2, fun Q q => ⟨p, vs, rfl, .inl ⟨SqL.of h1, q⟩⟩⟩
  · cases e
/-! any, all, sorted -/
def dBls : List D → Option (List Bool)
  | [] => some []
  | .bl i :: ds => (dBls ds).map (i :: ·)
  | _ => none
theorem dBls_rel {B : Hp} : ∀ {ds : List D} {bs : List Bool} {vs : List V}, dBls ds = some bs → repDs G B ds vs → vs = bs.map V.bl
  | [], ns, vs, h, r => by simp only [dBls] at h; cases h; simpa [repDs] using r
  | .bl i :: ds, ns, vs, h, r => by
    simp only [dBls, Option.map_eq_some_iff] at h
    obtain ⟨q, h1, rfl⟩ := h
    simp only [repDs, repD] at r
    obtain ⟨v, r', rfl, rfl, h2⟩ := r
    rw [dBls_rel h1 h2]
    rfl
  | .non :: _, _, _, h, _ => by simp [dBls] at h
  | .int _ :: _, _, _, h, _ => by simp [dBls] at h
  | .str _ :: _, _, _, h, _ => by simp [dBls] at h
  | .lst _ :: _, _, _, h, _ => by simp [dBls] at h
  | .tup _ :: _, _, _, h, _ => by simp [dBls] at h
  | .exc _ _ :: _, _, _, h, _ => by simp [dBls] at h
  | .scr _ :: _, _, _, h, _ => by simp [dBls] at h
def gAny (as : List W) : Option W := match as with
  | [w] => ((wEls w).bind dBls).map fun bs => .sh (.bl (bs.any id))
  | _ => none
def gAll (as : List W) : Option W := match as with
  | [w] => ((wEls w).bind dBls).map fun bs => .sh (.bl (bs.all id))
  | _ => none
theorem ops_any : OpS (rWs G) (rW G) (rAny G.K) gAny := by
  refine ops_flat fun B H a b fp c s ra e => ?_
  unfold gAny at e
  split at e
  · rename_i w
    simp only [Option.map_eq_some_iff, Option.bind_eq_some_iff] at e
    obtain ⟨bs, ⟨ds, e1, e2⟩, rfl⟩ := e
    obtain ⟨v, rfl, r⟩ := rel1 ra
    obtain ⟨p, vs, rfl, h1, h2⟩ := wEls_eq s r e1
    rw [dBls_rel e2 h2] at h1
    exact ⟨_, .bl (bs.any id), rfl, by simp [repD], fun Q q => ⟨p, bs, rfl, SqL.of h1, q⟩⟩
  · cases e
theorem ops_all : OpS (rWs G) (rW G) (rAll G.K) gAll := by
  refine ops_flat fun B H a b fp c s ra e => ?_
  unfold gAll at e
  split at e
  · rename_i w
    simp only [Option.map_eq_some_iff, Option.bind_eq_some_iff] at e
    obtain ⟨bs, ⟨ds, e1, e2⟩, rfl⟩ := e
    obtain ⟨v, rfl, r⟩ := rel1 ra
    obtain ⟨p, vs, rfl, h1, h2⟩ := wEls_eq s r e1
    rw [dBls_rel e2 h2] at h1
    exact ⟨_, .bl (bs.all id), rfl, by simp [repD], fun Q q => ⟨p, bs, rfl, SqL.of h1, q⟩⟩
  · cases e
def sortI (ns : List Int) : List Int := ns.mergeSort (fun a b => decide (a ≤ b))
theorem sortI_perm (ns : List Int) : (sortI ns).Perm ns := List.mergeSort_perm ns _
theorem sortI_sorted (ns : List Int) : (sortI ns).Pairwise (· ≤ ·) := by
  have := List.pairwise_mergeSort (le := fun a b : Int => decide (a ≤ b)) (fun a b c h1 h2 => by simp at *; omega) (fun a b => by simp; omega) ns
  simpa [sortI] using this
theorem sorted_one {a b : List Int} (p : a.Perm b) (h1 : a.Pairwise (· ≤ ·)) (h2 : b.Pairwise (· ≤ ·)) : a = b :=
  List.Perm.eq_of_pairwise (fun x y _ _ h1 h2 => Int.le_antisymm h1 h2) h1 h2 p
def gSorted (as : List W) : Option W := match as with
  | [w] => (wInts w).map fun ns => .ol ((sortI ns).map fun n => .sh (.int n))
  | _ => none
theorem ops_sorted : OpS (rWs G) (rW G) (rSortedI G.K) gSorted := by
  refine ops_newL fun B H a b fp c s ra e => ?_
  unfold gSorted at e
  split at e
  · rename_i w
    simp only [Option.map_eq_some_iff] at e
    obtain ⟨ns, e1, rfl⟩ := e
    obtain ⟨v, rfl, r⟩ := rel1 ra
    obtain ⟨p, rfl, h⟩ := wInts_rel s r e1
    refine ⟨(sortI ns).map .int, (sortI ns).map V.int, by simp, repDs_of_ints _, fun Q q => ⟨p, ns, rfl, h, fun ns' p2 pm pw np => ?_⟩⟩
    have : ns' = sortI ns := sorted_one (pm.trans (sortI_perm ns).symm) pw (sortI_sorted ns)
    rw [this]
    exact q p2 np
  · cases e
end
/-! ### methods of texts -/
def mMs (g : W × List W → Option W) (m : ME W) (ma : ME (List W)) : ME W := ((m.bind (ME.op fun w => (wStr w).map fun s => W.sh (.str s))).bind fun a => ma.bind fun b => ME.pure (a, b)).bind (ME.op g)
section
variable {X : Cx} {Wx : WX} {k p k2 p2 : Bool} {o e : Expr} {es : List Expr} {m : ME W} {ma : ME (List W)} {name : Str} {id : String} {apos cpos : Pos} {r : V → List V → Hp → VK → Prop} {g : W × List W → Option W}
theorem se_ms (slot : Slot "str" name id) (hty : typeOf (.builtin id) = pure (.type "method_descriptor")) (hm : MtR X id r) (ho : OpS (rPair (rW (gx X)) (rWs (gx X))) (rW (gx X)) (fun (xy : V × List V) H Q => r xy.1 xy.2 H Q) g) (hl : SE X Wx k p o m) (ha : SA X Wx k2 p2 (e :: es) ma)
    (hbase : attributeBase o name X.env (eval o X.env) = eval o X.env := by rfl)
    (hfew : ((backTo cpos (starEach (e :: es) X.env)).all (fun x => !x.1) && (backToKw cpos (keywordEach [] X.env)).all (fun x => x.1.isSome)
      && decide ((e :: es).length + ([] : List Keyword).length + (if ([] : List Keyword).isEmpty then 0 else 1) < 30)) = true := by rfl)
    (hline : (apos.endLine == cpos.line) = true := by rfl) (hs : starEach (e :: es) X.env = (false, eval e X.env) :: starEach es X.env := by rfl) (hplain : (backTo cpos (starEach es X.env)).any (·.1) = false := by rfl) :
    SE X Wx true (p && p2) (.Call (.Attribute o name apos) (e :: es) [] cpos) (mMs g m ma) := by
  obtain ⟨tl, pl, sl⟩ := hl
  obtain ⟨ta, pa, sa⟩ := ha
  refine ⟨_, pe_bm PySem.F.plainAttrs_str slot hty hm pl pa hbase hfew hline hs hplain, ?_⟩
  have s1 : Sim (gx X) true p Wx (rW (gx X)) (fun σ H Q => tl σ H fun x H1 => tyV X.K "str" x H1 ∧ Q x H1) (m.bind (ME.op fun w => (wStr w).map fun s => W.sh (.str s))) := by
    refine sl.op (r := fun x H Q => tyV X.K "str" x H ∧ Q x H) (ops_flat fun B H a b fp c s ra e => ?_)
    simp only [Option.map_eq_some_iff] at e
    obtain ⟨z, e1, rfl⟩ := e
    rw [wStr_eq e1] at ra
    have := relSt ra
    subst this
    exact ⟨.str z, .str z, rfl, by simp [repD], fun Q q => ⟨rfl, q⟩⟩
  exact (Sim.pair (rW_good _) s1 sa (.inl rfl)).op ho
def dStrs : List D → Option (List Str)
  | [] => some []
  | .str i :: ds => (dStrs ds).map (i :: ·)
  | _ => none
theorem dStrs_rel {G : GX} {B : Hp} : ∀ {ds : List D} {bs : List Str} {vs : List V}, dStrs ds = some bs → repDs G B ds vs → vs = bs.map V.str
  | [], ns, vs, h, r => by simp only [dStrs] at h; cases h; simpa [repDs] using r
  | .str i :: ds, ns, vs, h, r => by
    simp only [dStrs, Option.map_eq_some_iff] at h
    obtain ⟨q, h1, rfl⟩ := h
    simp only [repDs, repD] at r
    obtain ⟨v, r', rfl, rfl, h2⟩ := r
    rw [dStrs_rel h1 h2]
    rfl
  | .non :: _, _, _, h, _ => by simp [dStrs] at h
  | .int _ :: _, _, _, h, _ => by simp [dStrs] at h
  | .bl _ :: _, _, _, h, _ => by simp [dStrs] at h
  | .lst _ :: _, _, _, h, _ => by simp [dStrs] at h
  | .tup _ :: _, _, _, h, _ => by simp [dStrs] at h
  | .exc _ _ :: _, _, _, h, _ => by simp [dStrs] at h
  | .scr _ :: _, _, _, h, _ => by simp [dStrs] at h
def gJoin : W × List W → Option W := fun p => match p.2 with
  | [w] => match wStr p.1, (wSeq w).bind dStrs with
    | some a, some ys => if (ys.map (·.length)).sum + ys.length * a.length ≤ 100000 then some (.sh (.str (Txt.join a ys))) else none
    | _, _ => none
  | _ => none
theorem ops_join {G : GX} : OpS (rPair (rW G) (rWs G)) (rW G) (fun (xy : V × List V) H (Q : VK) => ∃ a p, ∃ ys : List Str, xy.1 = .str a ∧ xy.2 = [.ref p] ∧ (SqL G.K H p (ys.map V.str) ∨ SqT G.K H p (ys.map V.str)) ∧
    (ys.map (·.length)).sum + ys.length * a.length ≤ 16777216 ∧ Q (.str (Txt.join a ys)) H) gJoin := by
  refine ops_flat fun B H a b fp c s ra e => ?_
  obtain ⟨f1, f2, r1, r2, _⟩ := ra
  obtain ⟨a1, a2⟩ := a
  unfold gJoin at e
  simp only at e r1 r2
  split at e
  · rename_i w
    split at e
    · rename_i z ys h1 h2
      split at e
      · rename_i hz
        cases e
        simp only [Option.bind_eq_some_iff] at h2
        obtain ⟨ds, h2, h3⟩ := h2
        rw [wStr_eq h1] at r1
        obtain ⟨v, ev, r⟩ := rel1 r2
        obtain ⟨p, vs, rfl, h4, h5⟩ := wSeq_rel s r h2
        rw [dStrs_rel h3 h5] at h4
        exact ⟨_, .str (Txt.join z ys), rfl, by simp [repD], fun Q q => ⟨z, p, ys, relSt r1, ev, h4, by omega, q⟩⟩
      · cases e
    · cases e
  · cases e
def gSplit : W × List W → Option W := fun p => match p.2 with
  | [w] => match wStr p.1, wStr w with
    | some a, some b => if (b.length == 0) = false ∧ a.length ≤ 90000 then some (.ol ((Txt.split a b).map fun z => .sh (.str z))) else none
    | _, _ => none
  | _ => none
theorem repDs_of_strs {G : GX} {B : Hp} : ∀ ns : List Str, repDs G B (ns.map .str) (ns.map V.str)
  | [] => by simp [repDs]
  | n :: ns => by
    simp only [List.map_cons, repDs, repD]
    exact ⟨_, _, rfl, rfl, repDs_of_strs ns⟩
theorem ops_split {G : GX} : OpS (rPair (rW G) (rWs G)) (rW G) (fun (xy : V × List V) H (Q : VK) => ∃ a b, xy.1 = .str a ∧ xy.2 = [.str b] ∧ (b.length == 0) = false ∧ a.length + 2 ≤ sizeLine ∧ rNewStrs (Txt.split a b) H Q) gSplit := by
  refine ops_newL fun B H a b fp c s ra e => ?_
  obtain ⟨f1, f2, r1, r2, _⟩ := ra
  obtain ⟨a1, a2⟩ := a
  unfold gSplit at e
  simp only at e r1 r2
  split at e
  · rename_i w
    split at e
    · rename_i z y h1 h2
      split at e
      · rename_i hz
        cases e
        rw [wStr_eq h1] at r1
        obtain ⟨v, ev, r⟩ := rel1 r2
        rw [wStr_eq h2] at r
        refine ⟨(Txt.split z y).map .str, (Txt.split z y).map V.str, by simp, repDs_of_strs _, fun Q q => ⟨z, y, relSt r1, by rw [ev, relSt r], hz.1, ?_, q⟩⟩
        have : (90002 : Nat) ≤ sizeLine := by decide
        omega
      · cases e
    · cases e
  · cases e
def gPart : W × List W → Option W := fun p => match p.2 with
  | [w] => match wStr p.1, wStr w with
    | some a, some b => if (b.length == 0) = false ∧ a.length ≤ 90000 then some (.sh (.tup [.str (Txt.partition a b).1, .str (Txt.partition a b).2.1, .str (Txt.partition a b).2.2])) else none
    | _, _ => none
  | _ => none
theorem ops_part {G : GX} : OpS (rPair (rW G) (rWs G)) (rW G) (fun (xy : V × List V) H (Q : VK) => ∃ a b, xy.1 = .str a ∧ xy.2 = [.str b] ∧ (b.length == 0) = false ∧ a.length ≤ sizeLine ∧
    ∀ p, H p = none → Q (.ref p) (upd H p (.tup [.str (Txt.partition a b).1, .str (Txt.partition a b).2.1, .str (Txt.partition a b).2.2]))) gPart := by
  refine ops_newT fun B H a b fp c s ra e => ?_
  obtain ⟨f1, f2, r1, r2, _⟩ := ra
  obtain ⟨a1, a2⟩ := a
  unfold gPart at e
  simp only at e r1 r2
  split at e
  · rename_i w
    split at e
    · rename_i z y h1 h2
      split at e
      · rename_i hz
        cases e
        rw [wStr_eq h1] at r1
        obtain ⟨v, ev, r⟩ := rel1 r2
        rw [wStr_eq h2] at r
        refine ⟨_, _, rfl, ?_, fun Q q => ⟨z, y, relSt r1, by rw [ev, relSt r], hz.1, sz_ok (by omega), q⟩⟩
        simp only [repDs, repD]
        exact ⟨_, _, rfl, rfl, _, _, rfl, rfl, _, _, rfl, rfl, rfl⟩
      · cases e
    · cases e
  · cases e
end
end AM

set_option Elab.async false
set_option linter.all false
set_option maxRecDepth 100000
/-! Affine mirror, part 9: statements. -/
namespace AM
open PySem L2

inductive Fl where
  | nx | bk | ct
  | rt (w : W)
abbrev MS := ME Fl
section
variable (G : GX)
structure PostS (pn : Nat → Bool) (B H : Hp) (σ : St) (fp : List Addr) (env' : Env) (σ' : St) (H' B' : Hp) (f0 fp2 : List Addr) : Prop where
  ok : Ok G B' H' σ' env' fp2
  step : Step B H fp B' H' (f0 ++ fp2)
  pin : ∀ i, pn i = true → σ'[i]? = σ[i]?
def ContS (pn : Nat → Bool) (Wx : WX) (B H : Hp) (σ : St) (fp : List Addr) (r : Option (Res Fl × Env)) (D : Ends) : Prop :=
  match r with
  | none => False
  | some (.ok .nx, e) => ∀ σ' H' B' fp2, PostS G pn B H σ fp e σ' H' B' [] fp2 → D.nx σ' H'
  | some (.ok .bk, e) => ∀ σ' H' B' fp2, PostS G pn B H σ fp e σ' H' B' [] fp2 → D.bk σ' H'
  | some (.ok .ct, e) => ∀ σ' H' B' fp2, PostS G pn B H σ fp e σ' H' B' [] fp2 → D.ct σ' H'
  | some (.ok (.rt w), e) => ∀ v σ' H' B' f0 fp2, PostS G pn B H σ fp e σ' H' B' f0 fp2 → relW G B' H' w v f0 → (∀ q ∈ f0, B' q = none) → f0.Nodup → (∀ q ∈ f0, q ∉ fp2) → D.rt v H'
  | some (.ex x, e) => ∀ cls d σ' H' B' fp2, PostS G pn B H σ fp e σ' H' B' [] fp2 → relX G H' x cls d → (∀ dd, d = some dd → B' dd = none ∧ dd ∉ fp2 ∧ H dd = none) → Wx cls d σ' H'
def SimS (pn : Nat → Bool) (Wx : WX) (t : TS) (m : MS) : Prop := ∀ B H σ env fp, Ok G B H σ env fp → ∀ D, ContS G pn Wx B H σ fp (m env) D → t D σ H
end
def SS (X : Cx) (pn : Nat → Bool) (Wx : WX) (st : Stmt) (m : MS) : Prop := ∃ t : TS, PS X st t ∧ SimS (gx X) pn Wx t m
def SSs (X : Cx) (pn : Nat → Bool) (Wx : WX) (sts : List Stmt) (m : MS) : Prop := ∃ t : TS, PSs X sts t ∧ SimS (gx X) pn Wx t m

section
variable {G : GX} {pn : Nat → Bool} {Wx : WX} {B H B1 H1 : Hp} {σ σ1 : St} {fp fp1 : List Addr} {env1 : Env}
/-- what comes first, then the rest -/
theorem ContS.after (P : PostS G pn B H σ fp env1 σ1 H1 B1 [] fp1) {r : Option (Res Fl × Env)} {D : Ends} (c : ContS G pn Wx B H σ fp r D) : ContS G pn Wx B1 H1 σ1 fp1 r D := by
  have tr : ∀ {e : Env} {σ' : St} {H' B' : Hp} {f0 fp2 : List Addr}, PostS G pn B1 H1 σ1 fp1 e σ' H' B' f0 fp2 → PostS G pn B H σ fp e σ' H' B' f0 fp2 := fun Q =>
    ⟨Q.ok, Step.trans (S := []) P.step Q.step, fun i hi => (Q.pin i hi).trans (P.pin i hi)⟩
  unfold ContS at c ⊢
  split at c
  · exact c
  · exact fun σ' H' B' fp2 Q => c σ' H' B' fp2 (tr Q)
  · exact fun σ' H' B' fp2 Q => c σ' H' B' fp2 (tr Q)
  · exact fun σ' H' B' fp2 Q => c σ' H' B' fp2 (tr Q)
  · exact fun v σ' H' B' f0 fp2 Q => c v σ' H' B' f0 fp2 (tr Q)
  · refine fun cls d σ' H' B' fp2 Q hx hd => c cls d σ' H' B' fp2 (tr Q) hx fun dd e => ?_
    obtain ⟨a1, a2, a3⟩ := hd dd e
    refine ⟨a1, a2, ?_⟩
    cases q : H dd with
    | none => rfl
    | some o => exact absurd a3 (P.step.live dd (by simp [q]))
end
/-! ### blocks -/
def mNx : MS := ME.pure .nx
def mSeq (a b : MS) : MS := fun env => match a env with
  | some (.ok .nx, e) => b e
  | r => r
section
variable {X : Cx} {pn : Nat → Bool} {Wx : WX} {k p : Bool} {st : Stmt} {sts : List Stmt} {a b : MS} {e : Expr} {m : ME W} {pos : Pos} {G : GX} {i : Nat}
theorem simS_nx : SimS G pn Wx tNext mNx := fun B H σ env fp O D c => c σ H B fp ⟨O, Step.refl (by simp), fun _ _ => rfl⟩
theorem sss_nil : SSs X pn Wx [] mNx := ⟨_, pss_nil, simS_nx⟩
theorem simS_seq {t u : TS} (h1 : SimS G pn Wx t a) (h2 : SimS G pn Wx u b) : SimS G pn Wx (tSeq t u) (mSeq a b) := by
  intro B H σ env fp O D c
  refine h1 B H σ env fp O _ ?_
  unfold mSeq at c
  cases e1 : a env with
  | none => rw [e1] at c; exact c
  | some r =>
    obtain ⟨r, env1⟩ := r
    rw [e1] at c
    cases r with
    | ex x => exact c
    | ok f =>
      cases f with
      | nx =>
        intro σ1 H1 B1 fp1 P
        exact h2 B1 H1 σ1 env1 fp1 P.ok D (c.after P)
      | bk => exact c
      | ct => exact c
      | rt w => exact c
theorem sss_cons (h1 : SS X pn Wx st a) (h2 : SSs X pn Wx sts b) : SSs X pn Wx (st :: sts) (mSeq a b) := by
  obtain ⟨t, p1, s1⟩ := h1
  obtain ⟨u, p2, s2⟩ := h2
  exact ⟨_, pss_cons p1 p2, simS_seq s1 s2⟩
theorem sss_one (h1 : SS X pn Wx st a) : SSs X pn Wx [st] a := by
  obtain ⟨t, p1, s1⟩ := h1
  exact ⟨_, pss_one p1, s1⟩
theorem ss_pass : SS X pn Wx (.Pass pos) mNx := ⟨_, ps_pass, simS_nx⟩
theorem ss_break : SS X pn Wx (.Break pos) (ME.pure .bk) := ⟨_, ps_break, fun B H σ env fp O D c => c σ H B fp ⟨O, Step.refl (by simp), fun _ _ => rfl⟩⟩
theorem ss_continue : SS X pn Wx (.Continue pos) (ME.pure .ct) := ⟨_, ps_continue, fun B H σ env fp O D c => c σ H B fp ⟨O, Step.refl (by simp), fun _ _ => rfl⟩⟩
theorem ss_doc {x j pos'} : SS X pn Wx (.Expr (.Constant (.str x) j pos) pos') mNx := ⟨_, ps_doc, simS_nx⟩
/-- a statement that is never reached -/
theorem ss_never : SS X pn Wx st ME.stuck := ⟨_, ps_never, fun B H σ env fp O D c => c⟩
/-! ### from expressions to statements -/
/-- what follows an expression's value -/
def MS.after (m : ME W) (f : W → MS) : MS := fun env => match m env with
  | none => none
  | some (.ok w, e) => f w e
  | some (.ex x, e) => some (.ex x, e)
def mDrop (m : ME W) : MS := m.bind fun _ => mNx
theorem ContS.ofEx {B H : Hp} {σ : St} {env : Env} {fp : List Addr} {x : XV} {e : Env} {D : Ends} (c : ContS G pn Wx B H σ fp (some (.ex x, e)) D) : ∀ cls d H' B' fp2, Ok G B' H' σ e fp2 → Step B H fp B' H' fp2 → relX G H' x cls d → (∀ dd, d = some dd → B' dd = none ∧ dd ∉ fp2 ∧ H dd = none) → Wx cls d σ H' :=
  fun cls d H' B' fp2 O S hx hd => c cls d σ H' B' fp2 ⟨O, by simpa using S, fun _ _ => rfl⟩ hx hd
theorem ss_expr (he : SE X Wx k p e m) (hs : swapsWith e none pos.line X.env = pure false := by rfl) : SS X pn Wx (.Expr e pos) (mDrop m) := by
  obtain ⟨t, pe, s⟩ := he
  refine ⟨_, ps_expr pe hs, fun B H σ env fp O D c => ?_⟩
  refine s B H σ env fp O _ ?_
  unfold mDrop ME.bind at c
  cases e1 : m env with
  | none => rw [e1] at c; exact c
  | some r =>
    obtain ⟨r, env1⟩ := r
    rw [e1] at c
    cases r with
    | ex x => exact c.ofEx (env := env)
    | ok w => exact fun v H1 B1 f0 fp1 P => c σ H1 B1 fp1 ⟨P.ok, P.step.mono fun q hq => by simp at hq; simp [hq], fun _ _ => rfl⟩
def mRet (m : ME W) : MS := m.bind fun w => ME.pure (.rt w)
theorem ss_ret (he : SE X Wx true p e m) : SS X pn Wx (.Return (some e) pos) (mRet m) := by
  obtain ⟨t, pe, s⟩ := he
  refine ⟨_, ps_ret pe, fun B H σ env fp O D c => ?_⟩
  refine s B H σ env fp O _ ?_
  unfold mRet ME.bind at c
  cases e1 : m env with
  | none => rw [e1] at c; exact c
  | some r =>
    obtain ⟨r, env1⟩ := r
    rw [e1] at c
    cases r with
    | ex x => exact c.ofEx (env := env)
    | ok w => exact fun v H1 B1 f0 fp1 P => c v σ H1 B1 f0 fp1 ⟨P.ok, P.step, fun _ _ => rfl⟩ P.rel P.out (P.own rfl).1 (P.own rfl).2
theorem ss_retN : SS X pn Wx (.Return none pos) (ME.pure (.rt (.sh .non))) :=
  ⟨_, ps_retN, fun B H σ env fp O D c => c .non σ H B [] fp ⟨O, Step.refl (by simp), fun _ _ => rfl⟩ (by simp [relW, repD]) (by simp) List.nodup_nil (by simp)⟩
/-- if -/
def mIfS (c : ME Bool) (a b : MS) : MS := c.bind fun c => if c then a else b
theorem ss_if {c : Expr} {n : ME Bool} {sa sb : List Stmt} (hc : STt X Wx p c n) (ha : SSs X pn Wx sa a) (hb : SSs X pn Wx sb b) : SS X pn Wx (.If c sa sb pos) (mIfS n a b) := by
  obtain ⟨t, pc, s⟩ := hc
  obtain ⟨ta, pa, s1⟩ := ha
  obtain ⟨tb, pb, s2⟩ := hb
  refine ⟨_, ps_if pc pa pb, fun B H σ env fp O D c => ?_⟩
  refine s B H σ env fp O _ ?_
  unfold mIfS ME.bind at c
  cases e1 : n env with
  | none => rw [e1] at c; exact c
  | some r =>
    obtain ⟨r, env1⟩ := r
    rw [e1] at c
    cases r with
    | ex x => exact c.ofEx (env := env)
    | ok w =>
      intro v H1 B1 f0 fp1 P
      obtain ⟨rfl, rfl⟩ := P.rel
      have PS1 : PostS (gx X) pn B H σ fp env1 σ H1 B1 [] fp1 := ⟨P.ok, P.step, fun _ _ => rfl⟩
      have c' := ContS.after PS1 c
      cases w with
      | true =>
        show if true = true then _ else _
        rw [if_pos rfl]
        exact s1 B1 H1 σ env1 fp1 P.ok D c'
      | false =>
        show if false = true then _ else _
        rw [if_neg Bool.false_ne_true]
        exact s2 B1 H1 σ env1 fp1 P.ok D c'
end
/-! ### targets -/
abbrev MG := W → ME Unit
def SimG (G : GX) (pn : Nat → Bool) (qq : Bool) (g : TG) (m : MG) : Prop := ∀ (B H : Hp) (σ : St) (env : Env) (fp : List Addr) (w : W) (v : V) (f0 : List Addr), Ok G B H σ env fp → relW G B H w v f0 → (∀ q ∈ f0, B q = none) → f0.Nodup → (∀ q ∈ f0, q ∉ fp) →
  ∀ Q : St → Hp → Prop, (match m w env with
  | some (.ok _, e) => ∀ σ' H' B' fp2, Ok G B' H' σ' e fp2 → Step B H (f0 ++ fp) B' H' fp2 → σ'.length = σ.length → (∀ i, pn i = true → σ'[i]? = σ[i]?) → (qq = true → Same H H' ∧ ∀ a, H a ≠ none → B' a = B a) → Q σ' H'
  | _ => False) → g v σ H Q
def SimGs (G : GX) (pn : Nat → Bool) (qq : Bool) (g : TGs) (m : List W → ME Unit) : Prop := ∀ (B H : Hp) (σ : St) (env : Env) (fp : List Addr) (ws : List W) (vs : List V) (f0 : List Addr), Ok G B H σ env fp → relWs G B H ws vs f0 → (∀ q ∈ f0, B q = none) → f0.Nodup → (∀ q ∈ f0, q ∉ fp) →
  ∀ Q : St → Hp → Prop, (match m ws env with
  | some (.ok _, e) => ∀ σ' H' B' fp2, Ok G B' H' σ' e fp2 → Step B H (f0 ++ fp) B' H' fp2 → σ'.length = σ.length → (∀ i, pn i = true → σ'[i]? = σ[i]?) → (qq = true → Same H H' ∧ ∀ a, H a ≠ none → B' a = B a) → Q σ' H'
  | _ => False) → g vs σ H Q
def SG (X : Cx) (pn : Nat → Bool) (qq : Bool) (e : Expr) (m : MG) : Prop := ∃ t : TG, PG X e t ∧ SimG (gx X) pn qq t m
def SGs (X : Cx) (pn : Nat → Bool) (qq : Bool) (es : List Expr) (m : List W → ME Unit) : Prop := ∃ t : TGs, PGs X es t ∧ SimGs (gx X) pn qq t m
def gSet (i : Nat) : MG := fun w env => if i < env.length then some (.ok (), env.set i (some w)) else none
section
variable {X : Cx} {pn : Nat → Bool} {Wx : WX} {k p : Bool} {G : GX} {i : Nat} {x : Str} {pos : Pos} {e : Expr} {es : List Expr} {m : ME W} {mg : MG} {ms : List W → ME Unit} {qq : Bool}
/-- a slot gets a new tree -/
theorem Ok.set {B H : Hp} {σ : St} {env : Env} {fp : List Addr} {w : W} {v : V} {f0 : List Addr} (O : Ok G B H σ env fp) (r : relW G B H w v f0) (out : ∀ q ∈ f0, B q = none) (nd : f0.Nodup) (dis : ∀ q ∈ f0, q ∉ fp) (hi : i < env.length) :
    ∃ fp2, Ok G B H (σ.set i (some v)) (env.set i (some w)) fp2 ∧ ∀ q ∈ fp2, q ∈ f0 ++ fp := by
  have hx := List.getElem?_eq_getElem hi
  generalize env[i] = w0 at hx
  obtain ⟨e1, e2, s1, o, s2, f1, g, f2, rfl, rfl, l1, l2, rfl, r1, r2, r3⟩ := relE_split O.rel hx
  have n := O.nd
  simp only [List.nodup_append, List.mem_append] at n dis
  refine ⟨f1 ++ (f0 ++ f2), ⟨O.sub, ?_, ?_, fun q hq => ?_⟩, fun q hq => ?_⟩
  · rw [set_mid l1, set_mid l2]
    exact relE_join r1 ⟨v, rfl, r⟩ r3
  · simp only [List.nodup_append, List.mem_append]
    grind
  · simp only [List.mem_append] at hq
    rcases hq with hq | hq | hq
    · exact O.out q (by simp [hq])
    · exact out q hq
    · exact O.out q (by simp [hq])
  · simp only [List.mem_append] at hq ⊢
    grind
theorem simG_name (hp : pn i = false) : SimG G pn qq (gName i) (gSet i) := by
  intro B H σ env fp w v f0 O r out nd dis Q c
  unfold gSet at c
  by_cases hi : i < env.length
  · rw [if_pos hi] at c
    obtain ⟨fp2, O2, sub⟩ := O.set r out nd dis hi
    refine c (σ.set i (some v)) H B fp2 O2 (Step.refl sub) (by simp) (fun j hj => ?_) fun _ => ⟨Same.refl H, fun _ _ => rfl⟩
    rw [List.getElem?_set_ne (fun z => by rw [z, hj] at hp; cases hp)]
  · rw [if_neg hi] at c
    exact c.elim
theorem sg_name (hN : X.N.Nodup) (hi : X.N[i]? = some x) (hx : Loc X.env.scope x) (hp : pn i = false) (hf : X.fn x = true ∨ X.env.scope.names.lookup x = some .local := by first | exact .inl rfl | exact .inr rfl | assumption) : SG X pn qq (.Name x pos) (gSet i) :=
  ⟨_, pg_name hN hi hx hf, simG_name hp⟩
def gsNil : List W → ME Unit := fun ws => match ws with
  | [] => ME.pure ()
  | _ => ME.stuck
def gsCons (a : MG) (b : List W → ME Unit) : List W → ME Unit := fun ws => match ws with
  | w :: r => (a w).bind fun _ => b r
  | [] => ME.stuck
theorem sgs_nil : SGs X pn qq [] gsNil := by
  refine ⟨_, pgs_nil, fun B H σ env fp ws vs f0 O r out nd dis Q c => ?_⟩
  cases ws with
  | nil =>
    simp only [relWs] at r
    obtain ⟨rfl, rfl⟩ := r
    exact ⟨rfl, c σ H B fp O (Step.refl (by simp)) rfl (fun _ _ => rfl) fun _ => ⟨Same.refl H, fun _ _ => rfl⟩⟩
  | cons w r => exact c.elim
theorem sgs_cons (h1 : SG X pn qq e mg) (h2 : SGs X pn qq es ms) (hs : (assignEach (e :: es) X.env).map (·.2) = assign e X.env :: (assignEach es X.env).map (·.2) := by rfl) : SGs X pn qq (e :: es) (gsCons mg ms) := by
  obtain ⟨t, p1, s1⟩ := h1
  obtain ⟨u, p2, s2⟩ := h2
  refine ⟨_, pgs_cons p1 p2 hs, fun B H σ env fp ws vs f0 O r out nd dis Q c => ?_⟩
  cases ws with
  | nil => exact c.elim
  | cons w r' =>
    simp only [relWs] at r
    obtain ⟨v, vr, g1, g2, rfl, r1, r2, rfl⟩ := r
    simp only [List.nodup_append] at nd
    refine ⟨v, vr, rfl, s1 B H σ env fp w v g1 O r1 (fun q hq => out q (by simp [hq])) nd.1 (fun q hq => dis q (by simp [hq])) _ ?_⟩
    simp only [gsCons, ME.bind] at c
    cases e1 : mg w env with
    | none => rw [e1] at c; exact c
    | some rr =>
      obtain ⟨rr, env1⟩ := rr
      rw [e1] at c
      cases rr with
      | ex x => exact c
      | ok _ =>
        intro σ1 H1 B1 fp1 O1 S1 ln1 pin1 pu1
        have lv := relWs_live r2
        have dis1 : ∀ q ∈ g2, q ∉ g1 ++ fp := fun q hq z => by
          rcases List.mem_append.mp z with z | z
          · exact nd.2.2 q z q hq rfl
          · exact dis q (by simp [hq]) z
        have keep1 : ∀ q ∈ g2, H1 q = H q := fun q hq => by
          cases e : H q with
          | none => exact absurd e (lv q hq)
          | some o => exact S1.keep q o e (dis1 q hq)
        refine s2 B1 H1 σ1 env1 fp1 r' vr g2 O1 (relWs_frame S1.bext r2 keep1) (fun q hq => ?_) nd.2.1 (fun q hq z => ?_) Q ?_
        · rw [S1.bold q (lv q hq) (dis1 q hq)]
          exact out q (by simp [hq])
        · rcases S1.new q z with y | y
          · exact dis1 q hq y
          · exact lv q hq y
        · simp only at c
          cases e2 : ms r' env1 with
          | none => rw [e2] at c; exact c
          | some r2' =>
            obtain ⟨r2', env2⟩ := r2'
            rw [e2] at c
            cases r2' with
            | ex x => exact c
            | ok _ =>
              intro σ2 H2 B2 fp2 O2 S2 ln2 pin2 pu2
              refine c σ2 H2 B2 fp2 O2 ⟨fun a o h n => S2.keep a o (S1.keep a o h (by simp at n ⊢; grind)) ?_, fun a o h => S2.bext a o (S1.bext a o h), fun a h n => ?_, fun a ha => ?_, fun a h => S2.live a (S1.live a h)⟩ (ln2.trans ln1) (fun i hi => (pin2 i hi).trans (pin1 i hi)) fun hq => ⟨fun a o h => (pu2 hq).1 a o ((pu1 hq).1 a o h), fun a h => ((pu2 hq).2 a (S1.live a h)).trans ((pu1 hq).2 a h)⟩
              · intro z
                rcases List.mem_append.mp z with z | z
                · exact n (by simp [z])
                · rcases S1.new a z with y | y
                  · exact n (by simp at y ⊢; grind)
                  · rw [h] at y; cases y
              · refine (S2.bold a (S1.live a h) fun z => ?_).trans (S1.bold a h (by simp at n ⊢; grind))
                rcases List.mem_append.mp z with z | z
                · exact n (by simp [z])
                · rcases S1.new a z with y | y
                  · exact n (by simp at y ⊢; grind)
                  · exact h y
              · have key : ∀ a, a ∈ fp1 → a ∈ g1 ++ g2 ++ fp ∨ H a = none := fun a z => by
                  rcases S1.new a z with y | y
                  · exact .inl (by simp at y ⊢; grind)
                  · exact .inr y
                rcases S2.new a ha with z | z
                · rcases List.mem_append.mp z with z | z
                  · exact .inl (by simp [z])
                  · exact key a z
                · refine .inr ?_
                  cases q : H a with
                  | none => rfl
                  | some o => exact absurd z (S1.live a (by simp [q]))
def wUn : W → Option (List W)
  | .sh (.tup ds) => some (ds.map .sh)
  | .ot ws => some ws
  | _ => none
def gUn (n : Nat) (ms : List W → ME Unit) : MG := fun w env => match wUn w with
  | some ws => if ws.length = n then ms ws env else none
  | none => none
theorem sg_tup {kk : Nat} {n : Nat} (hc : X.calm = true) (h : SGs X pn qq es ms) (hn : (assignEach es X.env).length = n := by rfl) (hst : (assignEach es X.env).findIdx? (·.1) = none := by rfl) : SG X pn qq (.Tuple es kk pos) (gUn n ms) := by
  obtain ⟨t, p1, s1⟩ := h
  refine ⟨_, pg_tup hc p1 hn hst, fun B H σ env fp w v f0 O r out nd dis Q c => ?_⟩
  unfold gUn at c
  cases e1 : wUn w with
  | none => rw [e1] at c; exact c.elim
  | some ws =>
    rw [e1] at c
    simp only at c
    by_cases hl : ws.length = n
    · rw [if_pos hl] at c
      have key : ∃ a vs, v = .ref a ∧ SqT X.K H a vs ∧ relWs (gx X) B H ws vs f0 := by
        unfold wUn at e1
        split at e1
        · cases e1
          simp only [relW, repD] at r
          obtain ⟨⟨a, vs, h1, h2, h3⟩, rfl⟩ := r
          exact ⟨a, vs, h1, sqT_of_same O.sub h2, relWs_sh h3⟩
        · cases e1
          simp only [relW] at r
          obtain ⟨a, vs, h1, h2, h3⟩ := r
          exact ⟨a, vs, h1, SqT.of (O.sub _ _ h2), h3⟩
        · cases e1
      obtain ⟨a, vs, rfl, h1, h2⟩ := key
      exact ⟨a, vs, rfl, h1, by rw [← relWs_length h2]; exact hl, s1 B H σ env fp ws vs f0 O h2 out nd dis Q c⟩
    · rw [if_neg hl] at c
      exact c.elim
/-- target = value -/
def mAsg (m : ME W) (g : MG) : MS := m.bind fun w => fun env => match g w env with
  | some (.ok _, e) => some (.ok .nx, e)
  | _ => none
theorem simS_asg {te : TE} {g : TG} (h : Sim G true p Wx (rW G) te m) (hg : SimG G pn qq g mg) : SimS G pn Wx (tAsg te g) (mAsg m mg) := by
  intro B H σ env fp O D c
  refine h B H σ env fp O _ ?_
  unfold mAsg ME.bind at c
  cases e1 : m env with
  | none => rw [e1] at c; exact c
  | some r =>
    obtain ⟨r, env1⟩ := r
    rw [e1] at c
    cases r with
    | ex x => exact c.ofEx (env := env)
    | ok w =>
      intro v H1 B1 f0 fp1 P
      obtain ⟨nd, dis⟩ := P.own rfl
      refine hg B1 H1 σ env1 fp1 w v f0 P.ok P.rel P.out nd dis _ ?_
      simp only at c
      cases e2 : mg w env1 with
      | none => rw [e2] at c; exact c
      | some r2 =>
        obtain ⟨r2, env2⟩ := r2
        rw [e2] at c
        cases r2 with
        | ex x => exact c.elim
        | ok _ =>
          intro σ' H' B' fp2 O2 S2 ln pin pu
          refine c σ' H' B' fp2 ⟨O2, ⟨fun a o h n => S2.keep a o (P.step.keep a o h n) fun z => ?_, fun a o h => S2.bext a o (P.step.bext a o h), fun a h n => (S2.bold a (P.step.live a h) fun z => ?_).trans (P.step.bold a h n), fun a ha => ?_, fun a h => S2.live a (P.step.live a h)⟩, pin⟩
          · rcases P.step.new a z with y | y
            · exact n y
            · rw [h] at y; cases y
          · rcases P.step.new a z with y | y
            · exact n y
            · exact h y
          · rcases S2.new a ha with z | z
            · exact P.step.new a z
            · refine .inr ?_
              cases q : H a with
              | none => rfl
              | some o => exact absurd z (P.step.live a (by simp [q]))
theorem ss_asg {tg : Expr} (he : SE X Wx true p e m) (hg : SG X pn qq tg mg) (hs : swapsWithSole [tg] e pos.line X.env = pure false := by rfl) (hw : swappedStores [tg] e X.env = pure none := by rfl)
    (h1 : (assignEach [tg] X.env).map (·.2) = [assign tg X.env] := by rfl) : SS X pn Wx (.Assign [tg] e pos) (mAsg m mg) := by
  obtain ⟨t, pe, s⟩ := he
  obtain ⟨u, pg, sg⟩ := hg
  exact ⟨_, ps_asg pe pg hs hw h1, simS_asg s sg⟩
theorem ss_set {pos' : Pos} (hN : X.N.Nodup) (hi : X.N[i]? = some x) (hx : Loc X.env.scope x) (hp : pn i = false) (he : SE X Wx true p e m) (hs : swapsWith e (some (.Name x pos')) pos.line X.env = pure false := by rfl) (hf : X.fn x = true ∨ X.env.scope.names.lookup x = some .local := by first | exact .inl rfl | exact .inr rfl | assumption) :
    SS X pn Wx (.Assign [.Name x pos'] e pos) (mAsg m (gSet i)) := by
  obtain ⟨t, pe, s⟩ := he
  exact ⟨_, L2.ps_set hN hi hx pe hs hf, simS_asg (qq := true) s (simG_name hp)⟩
end
end AM

set_option Elab.async false
set_option linter.all false
set_option maxRecDepth 100000
/-! Affine mirror, part 10: what is walked; for, while. -/
namespace AM
open PySem L2

/-- what a turn yields: the i-th of ds -/
def YD (G : GX) (B1 : Hp) (ds : List D) (i : Nat) (H2 : Hp) (x : V) (H3 : Hp) : Prop :=
  ∃ d, ds[i]? = some d ∧ ((H3 = H2 ∧ repD G B1 d x) ∨ ∃ T xs es, x = .ref T ∧ H2 T = none ∧ H3 = upd H2 T (.tup xs) ∧ d = .tup es ∧ repDs G B1 es xs)
structure PostI (G : GX) (p : Bool) (B H : Hp) (σ : St) (env : Env) (fp : List Addr) (ds : List D) (env' : Env) (J : It) (H1 B1 : Hp) (fp1 : List Addr) : Prop where
  ok : Ok G B1 H1 σ env' fp1
  step : Step B H fp B1 H1 fp1
  pure : p = true → Same H H1 ∧ (∀ q, H q ≠ none → B1 q = B q) ∧ env' = env ∧ fp1 = fp
  walk : ∃ (Gd : Hp → Prop) (Y : Nat → Hp → V → Hp → Prop), Walk J ds.length Gd Y ∧ (∀ H2, Same B1 H2 → Gd H2) ∧ ∀ i H2 x H3, i < ds.length → Gd H2 → Y i H2 x H3 → YD G B1 ds i H2 x H3
def SimI (G : GX) (p : Bool) (Wx : WX) (t : TI) (m : ME (List D)) : Prop := ∀ B H σ env fp, Ok G B H σ env fp → ∀ R : It → Hp → Prop,
  (match m env with
  | none => False
  | some (.ok ds, env') => ∀ J H1 B1 fp1, PostI G p B H σ env fp ds env' J H1 B1 fp1 → R J H1
  | some (.ex x, env') => ∀ cls d H' B' fp2, Ok G B' H' σ env' fp2 → Step B H fp B' H' fp2 → relX G H' x cls d → (∀ dd, d = some dd → B' dd = none ∧ dd ∉ fp2 ∧ H dd = none) → Wx cls d σ H') → t σ H R
def SI (X : Cx) (Wx : WX) (p : Bool) (tg iter : Expr) (m : ME (List D)) : Prop := ∃ t : TI, PI X tg iter t ∧ SimI (gx X) p Wx t m
/-! ### for -/
def mLoop (g : MG) (body : MS) : List D → MS
  | [] => mNx
  | d :: ds => fun env => match g (.sh d) env with
    | some (.ok _, e1) => match body e1 with
      | some (.ok .nx, e2) => mLoop g body ds e2
      | some (.ok .ct, e2) => mLoop g body ds e2
      | some (.ok .bk, e2) => some (.ok .nx, e2)
      | some (.ok (.rt w), e2) => some (.ok (.rt w), e2)
      | some (.ex x, e2) => some (.ex x, e2)
      | none => none
    | _ => none
def mFor (mi : ME (List D)) (g : MG) (body : MS) : MS := mi.bind fun ds => mLoop g body ds
section
variable {G : GX} {pn : Nat → Bool} {Wx : WX} {p : Bool} {wi : TI} {g : TG} {tb : TS} {mi : ME (List D)} {mg : MG} {mb : MS} {qq : Bool}
/-- the ground grown by a new tuple -/
theorem Ok.newT {B H : Hp} {σ : St} {env : Env} {fp : List Addr} {T : Addr} {xs : List V} (O : Ok G B H σ env fp) (nT : H T = none) : Ok G (upd B T (.tup xs)) (upd H T (.tup xs)) σ env fp := by
  have nB := none_of_sub O.sub nT
  have lv := relE_live O.rel
  have ne : ∀ q ∈ fp, q ≠ T := fun q hq z => lv q hq (by rw [z]; exact nT)
  refine ⟨fun a o h => ?_, relE_frame (same_new nB) O.rel fun q hq => upd_ne (ne q hq), O.nd, fun q hq => by rw [upd_ne (ne q hq)]; exact O.out q hq⟩
  by_cases ea : a = T
  · subst ea
    rw [upd_same] at h ⊢
    exact h
  · rw [upd_ne ea] at h ⊢
    exact O.sub a o h
theorem step_newT {B H : Hp} {fp : List Addr} {T : Addr} {xs : List V} (s : Same B H) (nT : H T = none) : Step B H fp (upd B T (.tup xs)) (upd H T (.tup xs)) fp := by
  have nB := none_of_sub s nT
  exact ⟨fun a o h _ => same_new nT a o h, same_new nB, fun a h _ => upd_ne fun z => h (by rw [z]; exact nT), fun a h => .inl h, fun a h => by
    rw [upd_ne fun z => h (by rw [z]; exact nT)]
    exact h⟩
/-- a yielded thing in hand -/
theorem yd_hand {B B1 H : Hp} {σ : St} {env : Env} {fp : List Addr} {ds : List D} {i : Nat} {x : V} {H3 : Hp} (sB : Same B1 B) (O : Ok G B H σ env fp) (y : YD G B1 ds i H x H3) :
    ∃ d B3, ds[i]? = some d ∧ Ok G B3 H3 σ env fp ∧ Step B H fp B3 H3 fp ∧ repD G B3 d x ∧ Same B B3 ∧ Same H H3 ∧ ∀ q, H q ≠ none → B3 q = B q := by
  obtain ⟨d, hd, ⟨rfl, r⟩ | ⟨T, xs, es, rfl, nT, rfl, rfl, r⟩⟩ := y
  · exact ⟨d, B, hd, O, Step.refl fun _ h => h, repD_mono sB r, Same.refl B, Same.refl _, fun _ _ => rfl⟩
  · have nB := none_of_sub O.sub nT
    refine ⟨_, upd B T (.tup xs), hd, O.newT nT, step_newT O.sub nT, ?_, same_new nB, same_new nT, fun q hq => upd_ne fun z => hq (by rw [z]; exact nT)⟩
    simp only [repD]
    exact ⟨T, xs, rfl, SqT.of upd_same, repDs_mono (fun a o h => same_new nB a o (sB a o h)) r⟩
theorem simS_for (hi : SimI G p Wx wi mi) (hg : SimG G pn qq g mg) (hb : SimS G pn Wx tb mb) : SimS G pn Wx (tFor wi g tb) (mFor mi mg mb) := by
  intro B H σ env fp O D c
  refine hi B H σ env fp O _ ?_
  unfold mFor ME.bind at c
  cases e1 : mi env with
  | none => rw [e1] at c; exact c
  | some r =>
    obtain ⟨r, env1⟩ := r
    rw [e1] at c
    cases r with
    | ex x => exact c.ofEx (env := env)
    | ok ds =>
      intro J H1 B1 fp1 PI
      simp only at c
      obtain ⟨Gd, Y, wk, gd, yd⟩ := PI.walk
      refine for_it wk (fun i σ' H' => ∃ env' B' fp', PostS G pn B H σ fp env' σ' H' B' [] fp' ∧ Same B1 B' ∧ ContS G pn Wx B H σ fp (mLoop mg mb (ds.drop i) env') D) ?_ ?_ ?_ ?_
      · exact ⟨env1, B1, fp1, ⟨PI.ok, PI.step, fun _ _ => rfl⟩, Same.refl B1, c⟩
      · rintro i σ' H' _ ⟨env', B', fp', P, sB, _⟩
        exact gd H' fun a o h => P.ok.sub a o (sB a o h)
      · rintro i x σ' H' H'' hi' ⟨env', B', fp', P, sB, ct⟩ y
        have hG : Gd H' := gd H' fun a o h => P.ok.sub a o (sB a o h)
        obtain ⟨d, B3, hd, O3, S3, r3, sB3, _, _⟩ := yd_hand sB P.ok (yd i H' x H'' hi' hG y)
        have P3 : PostS G pn B H σ fp env' σ' H'' B3 [] fp' := ⟨O3, Step.trans (S := []) P.step S3, P.pin⟩
        have ed : ds.drop i = d :: ds.drop (i + 1) := by
          rw [List.drop_eq_getElem_cons hi']
          congr 1
          rw [List.getElem?_eq_getElem hi'] at hd
          exact Option.some.inj hd
        rw [ed] at ct
        refine hg B3 H'' σ' env' fp' (.sh d) x [] O3 (by simp only [relW]; exact ⟨r3, trivial⟩) (by simp) List.nodup_nil (by simp) _ ?_
        simp only [mLoop] at ct
        cases e2 : mg (.sh d) env' with
        | none => rw [e2] at ct; exact ct
        | some r2 =>
          obtain ⟨r2, env2⟩ := r2
          rw [e2] at ct
          cases r2 with
          | ex x => exact ct.elim
          | ok u =>
            intro σ2 H2 B2 fp2 O2 S2 ln2 pin2 pu2
            have P2 : PostS G pn B H σ fp env2 σ2 H2 B2 [] fp2 := ⟨O2, Step.trans (S := []) P3.step S2, fun j hj => (pin2 j hj).trans (P3.pin j hj)⟩
            have sB2 : Same B1 B2 := fun a o h => S2.bext a o (sB3 a o (sB a o h))
            refine hb B2 H2 σ2 env2 fp2 O2 _ ?_
            simp only at ct
            cases e3 : mb env2 with
            | none => rw [e3] at ct; exact ct
            | some r3 =>
              obtain ⟨r3, env3⟩ := r3
              rw [e3] at ct
              have tr : ∀ {σ' : St} {H' B' : Hp} {f0 fp' : List Addr}, PostS G pn B2 H2 σ2 fp2 env3 σ' H' B' f0 fp' → PostS G pn B H σ fp env3 σ' H' B' f0 fp' := fun Q =>
                ⟨Q.ok, Step.trans (S := []) P2.step Q.step, fun i hi => (Q.pin i hi).trans (P2.pin i hi)⟩
              cases r3 with
              | ex x =>
                intro cls dd σ' H' B' fp' Q hx hd
                refine ct cls dd σ' H' B' fp' (tr Q) hx fun z e => ?_
                obtain ⟨a1, a2, a3⟩ := hd z e
                refine ⟨a1, a2, ?_⟩
                cases q : H z with
                | none => rfl
                | some o => exact absurd a3 (P2.step.live z (by simp [q]))
              | ok f =>
                cases f with
                | nx => exact fun σ' H' B' fp' Q => ⟨env3, B', fp', tr Q, fun a o h => Q.step.bext a o (sB2 a o h), ct⟩
                | ct => exact fun σ' H' B' fp' Q => ⟨env3, B', fp', tr Q, fun a o h => Q.step.bext a o (sB2 a o h), ct⟩
                | bk => exact fun σ' H' B' fp' Q => ct σ' H' B' fp' (tr Q)
                | rt w => exact fun v σ' H' B' f0 fp' Q r o n dj => ct v σ' H' B' f0 fp' (tr Q) r o n dj
      · rintro σ' H' ⟨env', B', fp', P, sB, ct⟩
        rw [List.drop_length] at ct
        exact ct σ' H' B' fp' P
/-! ### while -/
def mWhile (c : ME Bool) (body : MS) : Nat → MS
  | 0 => ME.stuck
  | n + 1 => fun env => match c env with
    | some (.ok true, e1) => match body e1 with
      | some (.ok .nx, e2) => mWhile c body n e2
      | some (.ok .ct, e2) => mWhile c body n e2
      | some (.ok .bk, e2) => some (.ok .nx, e2)
      | some (.ok (.rt w), e2) => some (.ok (.rt w), e2)
      | some (.ex x, e2) => some (.ex x, e2)
      | none => none
    | some (.ok false, e1) => some (.ok .nx, e1)
    | some (.ex x, e1) => some (.ex x, e1)
    | none => none
theorem simS_while {tc : TT} {mc : ME Bool} (n : Nat) (hc : Sim G true p Wx (rEqv Bool) tc mc) (hb : SimS G pn Wx tb mb) : SimS G pn Wx (tWhile tc tb) (mWhile mc mb n) := by
  intro B H σ env fp O D c
  refine ⟨fun m σ' H' => ∃ env' B' fp', PostS G pn B H σ fp env' σ' H' B' [] fp' ∧ ContS G pn Wx B H σ fp (mWhile mc mb m env') D, ⟨n, env, B, fp, ⟨O, Step.refl (by simp), fun _ _ => rfl⟩, c⟩, ?_⟩
  rintro m σ' H' ⟨env', B', fp', P, ct⟩
  cases m with
  | zero => exact ct.elim
  | succ m =>
    have Q0 : Sim G true p Wx (rEqv Bool) tc mc := hc
    refine hc B' H' σ' env' fp' P.ok _ ?_
    simp only [mWhile] at ct
    cases e1 : mc env' with
    | none => rw [e1] at ct; exact ct
    | some r1 =>
      obtain ⟨r1, env1⟩ := r1
      rw [e1] at ct
      cases r1 with
      | ex x =>
        intro cls d H2 B2 fp2 O2 S2 hx hd
        refine ct cls d σ' H2 B2 fp2 ⟨O2, Step.trans (S := []) P.step S2, P.pin⟩ hx fun z e => ?_
        obtain ⟨a1, a2, a3⟩ := hd z e
        refine ⟨a1, a2, ?_⟩
        cases q : H z with
        | none => rfl
        | some o => exact absurd a3 (P.step.live z (by simp [q]))
      | ok b =>
        intro b' H1 B1 f1 fp1 P1
        obtain ⟨rfl, rfl⟩ := P1.rel
        have P2 : PostS G pn B H σ fp env1 σ' H1 B1 [] fp1 := ⟨P1.ok, Step.trans (S := []) P.step P1.step, P.pin⟩
        cases b with
        | false =>
          show if false = true then _ else _
          rw [if_neg Bool.false_ne_true]
          exact ct σ' H1 B1 fp1 P2
        | true =>
          show if true = true then _ else _
          rw [if_pos rfl]
          refine ⟨fun σ3 H3 => ∃ env3 B3 fp3, PostS G pn B H σ fp env3 σ3 H3 B3 [] fp3 ∧ ContS G pn Wx B H σ fp (mWhile mc mb m env3) D, fun σ3 H3 h => ⟨m, Nat.lt_succ_self m, h⟩, ?_⟩
          refine hb B1 H1 σ' env1 fp1 P1.ok _ ?_
          simp only at ct
          cases e3 : mb env1 with
          | none => rw [e3] at ct; exact ct
          | some r3 =>
            obtain ⟨r3, env3⟩ := r3
            rw [e3] at ct
            have tr : ∀ {σ'' : St} {H' B' : Hp} {f0 fp' : List Addr}, PostS G pn B1 H1 σ' fp1 env3 σ'' H' B' f0 fp' → PostS G pn B H σ fp env3 σ'' H' B' f0 fp' := fun Q =>
              ⟨Q.ok, Step.trans (S := []) P2.step Q.step, fun i hi => (Q.pin i hi).trans (P2.pin i hi)⟩
            cases r3 with
            | ex x =>
              intro cls dd σ' H' B' fp' Q hx hd
              refine ct cls dd σ' H' B' fp' (tr Q) hx fun z e => ?_
              obtain ⟨a1, a2, a3⟩ := hd z e
              refine ⟨a1, a2, ?_⟩
              cases q : H z with
              | none => rfl
              | some o => exact absurd a3 (P2.step.live z (by simp [q]))
            | ok f =>
              cases f with
              | nx => exact fun σ' H' B' fp' Q => ⟨env3, B', fp', tr Q, ct⟩
              | ct => exact fun σ' H' B' fp' Q => ⟨env3, B', fp', tr Q, ct⟩
              | bk => exact fun σ' H' B' fp' Q => ct σ' H' B' fp' (tr Q)
              | rt w => exact fun v σ' H' B' f0 fp' Q r o n dj => ct v σ' H' B' f0 fp' (tr Q) r o n dj
end
section
variable {X : Cx} {pn : Nat → Bool} {Wx : WX} {k p : Bool} {pos : Pos} {c tg iter e : Expr} {body : List Stmt} {mi : ME (List D)} {mg : MG} {mb : MS} {qq : Bool} {mc : ME Bool} {m : ME W}
theorem ss_for (hp : PassesOwn (model X.prog X.w) X.A X.env X.xe) (hc : X.calm = true) (hi : SI X Wx p tg iter mi) (hg : SG X pn qq tg mg) (hb : SSs X pn Wx body mb) (hs : ∀ x, foldedSetIterable iter X.env x = pure x := by intro _; rfl) : SS X pn Wx (.For tg iter body [] pos) (mFor mi mg mb) := by
  obtain ⟨t1, p1, s1⟩ := hi
  obtain ⟨t2, p2, s2⟩ := hg
  obtain ⟨t3, p3, s3⟩ := hb
  exact ⟨_, ps_for hp hc p1 p2 p3 hs, simS_for s1 s2 s3⟩
theorem ss_while (n : Nat) (hp : PassesOwn (model X.prog X.w) X.A X.env X.xe) (hc : STt X Wx p c mc) (hb : SSs X pn Wx body mb) : SS X pn Wx (.While c body [] pos) (mWhile mc mb n) := by
  obtain ⟨t1, p1, s1⟩ := hc
  obtain ⟨t3, p3, s3⟩ := hb
  exact ⟨_, ps_while hp p1 p3, simS_while n s1 s3⟩
/-! ### what is walked -/
/-- a list of shared things (it is let go), a tuple -/
def mItL (m : ME W) : ME (List D) := m.bind (ME.op wEls)
def mItT (m : ME W) : ME (List D) := m.bind (ME.op wTEls)
theorem repDs_yd {G : GX} {B1 : Hp} {ds : List D} {vs : List V} (r : repDs G B1 ds vs) {i : Nat} {x : V} (h : vs[i]? = some x) : ∃ d, ds[i]? = some d ∧ repD G B1 d x := by
  have hl : i < ds.length := by
    rw [repDs_length r]
    exact (List.getElem?_eq_some_iff.mp h).1
  obtain ⟨v, h1, h2⟩ := repDs_get r (List.getElem?_eq_getElem hl)
  rw [h] at h1
  cases h1
  exact ⟨_, List.getElem?_eq_getElem hl, h2⟩
theorem si_list (h : SE X Wx true p e m) : SI X Wx p tg e (mItL m) := by
  obtain ⟨t, pe, s⟩ := h
  refine ⟨_, pi_list pe, fun B H σ env fp O R c => ?_⟩
  refine s B H σ env fp O _ ?_
  unfold mItL ME.bind at c
  cases e1 : m env with
  | none => rw [e1] at c; exact c
  | some r =>
    obtain ⟨r, env1⟩ := r
    rw [e1] at c
    cases r with
    | ex x => exact c
    | ok w =>
      intro v H1 B1 f0 fp1 P
      simp only [ME.op] at c
      cases e2 : wEls w with
      | none => rw [e2] at c; exact c.elim
      | some ds =>
        rw [e2] at c
        -- the list goes into the ground
        have rw' : relW (gx X) B1 H1 w v f0 := P.rel
        obtain ⟨nd, dis⟩ := P.own rfl
        have be := grd_bext (H := H1) P.out
        obtain ⟨a, vs, rfl, h1, h2⟩ := wEls_eq P.ok.sub rw' e2
        have ha : grd B1 H1 f0 a = some (.lst vs) := by
          unfold wEls at e2
          split at e2
          · cases e2
            simp only [relW, repD] at rw'
            obtain ⟨⟨a', vs', q1, q2, q3⟩, rfl⟩ := rw'
            cases q1
            have := P.ok.sub _ _ q2
            rw [h1] at this
            cases this
            exact be _ _ q2
          · rename_i ws
            simp only [relW] at rw'
            obtain ⟨p', vs', g, q1, q2, q3, rfl⟩ := rw'
            cases q1
            rw [grd_in (by simp)]
            exact h1
          · cases e2
        have O2 : Ok (gx X) (grd B1 H1 f0) H1 σ env1 fp1 := ⟨grd_sub P.ok.sub, relE_frame be P.ok.rel fun _ _ => rfl, P.ok.nd, fun q hq => by
          rw [grd_out fun z => dis q z hq]
          exact P.ok.out q hq⟩
        refine ⟨a, rfl, ⟨vs, SqL.of h1⟩, c _ H1 (grd B1 H1 f0) fp1 ⟨O2, ⟨P.step.keep, fun a o h => be a o (P.step.bext a o h), fun q h n => ?_, fun q hq => P.step.new q (by simp [hq]), P.step.live⟩, fun hp => ?_, _, _, by rw [repDs_length h2]; exact walk_list (xs := vs), fun H2 s2 => SqL.of (s2 _ _ ha), fun i H2 x H3 hi _ y => ?_⟩⟩
        · rw [grd_out fun z => ?_]
          · exact P.step.bold q h n
          · rcases P.step.new q (by simp [z]) with y | y
            · exact n y
            · exact h y
        · obtain ⟨s1, s2, s3, s4⟩ := P.pure hp
          refine ⟨s1, fun q hq => ?_, s3, s4⟩
          rw [grd_out fun z => ?_]
          · exact s2 q hq
          · rcases P.step.new q (by simp [z]) with y | y
            · exact dis q z (by rw [s4]; exact y)
            · exact hq y
        · obtain ⟨d, hd, rd⟩ := repDs_yd h2 y.2
          exact ⟨d, hd, .inl ⟨y.1, repD_mono be rd⟩⟩
theorem si_tup (h : SE X Wx k p e m) : SI X Wx p tg e (mItT m) := by
  obtain ⟨t, pe, s⟩ := h
  refine ⟨_, pi_tup pe, fun B H σ env fp O R c => ?_⟩
  refine s B H σ env fp O _ ?_
  unfold mItT ME.bind at c
  cases e1 : m env with
  | none => rw [e1] at c; exact c
  | some r =>
    obtain ⟨r, env1⟩ := r
    rw [e1] at c
    cases r with
    | ex x => exact c
    | ok w =>
      intro v H1 B1 f0 fp1 P
      simp only [ME.op] at c
      cases e2 : wTEls w with
      | none => rw [e2] at c; exact c.elim
      | some ds =>
        rw [e2] at c
        have rw' : relW (gx X) B1 H1 w v f0 := P.rel
        unfold wTEls at e2
        split at e2
        · cases e2
          simp only [relW, repD] at rw'
          obtain ⟨⟨a, vs, rfl, h1, h2⟩, rfl⟩ := rw'
          refine ⟨a, rfl, ⟨vs, sqT_of_same P.ok.sub h1⟩, c _ H1 B1 fp1 ⟨P.ok, P.step, P.pure, _, _, by rw [repDs_length h2]; exact walk_tup (xs := vs), fun H2 s2 => sqT_of_same s2 h1, fun i H2 x H3 hi _ y => ?_⟩⟩
          obtain ⟨d, hd, rd⟩ := repDs_yd h2 y.2
          exact ⟨d, hd, .inl ⟨y.1, rd⟩⟩
        · cases e2
end
end AM

set_option Elab.async false
set_option linter.all false
set_option maxRecDepth 100000
/-! Affine mirror, part 11: range, enumerate, zip; comprehensions. -/
namespace AM
open PySem L2

def rgL (lo c : Int) (n : Nat) : List D := (List.range n).map fun k => .int (lo + (k : Nat) * c)
def mItR (g : List W → Option (List D)) (ma : ME (List W)) : ME (List D) := ma.bind (ME.op g)
def inR (i : Int) : Bool := decide (-(2 ^ 62) ≤ i) && decide (i < 2 ^ 62)
def gRg1 (as : List W) : Option (List D) := match as with
  | [a] => (wInt a).bind fun j => if inR j = true then some (rgL 0 1 j.toNat) else none
  | _ => none
def gRg2 (as : List W) : Option (List D) := match as with
  | [a, b] => match wInt a, wInt b with
    | some i, some j => if (inR i && inR j) = true then some (rgL i 1 (j - i).toNat) else none
    | _, _ => none
  | _ => none
def gRg3 (as : List W) : Option (List D) := match as with
  | [a, b, c] => match wInt a, wInt b, wInt c with
    | some i, some j, some c => if c ≠ 0 ∧ c.natAbs < 1073741824 ∧ Builtin.Range.small i j c = true ∧ Builtin.Range.rangeSize i j c = ((Builtin.Range.rangeSize i j c).toNat : Int) then some (rgL i c (Builtin.Range.rangeSize i j c).toNat) else none
    | _, _, _ => none
  | _ => none
theorem rgL_get {lo c : Int} {n i : Nat} (h : i < n) : (rgL lo c n)[i]? = some (.int (lo + (i : Nat) * c)) := by
  unfold rgL
  rw [List.getElem?_map, List.getElem?_range h]
  rfl
theorem rgL_len {lo c : Int} {n : Nat} : (rgL lo c n).length = n := by simp [rgL]
theorem relW_int {G : GX} {B H : Hp} {w : W} {v : V} {f : List Addr} {i : Int} (r : relW G B H w v f) (e : wInt w = some i) : v = .int i := by
  rw [wInt_eq e] at r
  exact relI r
section
variable {G : GX} {Wx : WX} {k p : Bool} {ta : TA} {ma : ME (List W)}
/-- numbers alone are asked of the arguments -/
theorem simI_num {g : List W → Option (List D)} {R : Hp → List V → (It → Hp → Prop) → Prop} (h : Sim G k p Wx (rWs G) ta ma)
    (hg : ∀ (B H : Hp) (ws : List W) (vs : List V) (f : List Addr) (ds : List D), relWs G B H ws vs f → g ws = some ds → ∃ J, (∃ (Gd : Hp → Prop) (Y : Nat → Hp → V → Hp → Prop), Walk J ds.length Gd Y ∧ (∀ H2, Same B H2 → Gd H2) ∧ ∀ i H2 x H3, i < ds.length → Gd H2 → Y i H2 x H3 → YD G B ds i H2 x H3) ∧ ∀ Q : It → Hp → Prop, Q J H → R H vs Q) :
    SimI G p Wx (fun σ H Q => ta σ H fun vs H1 => R H1 vs Q) (mItR g ma) := by
  intro B H σ env fp O Q c
  refine h B H σ env fp O _ ?_
  unfold mItR ME.bind at c
  cases e1 : ma env with
  | none => rw [e1] at c; exact c
  | some r =>
    obtain ⟨r, env1⟩ := r
    rw [e1] at c
    cases r with
    | ex x => exact c
    | ok ws =>
      intro vs H1 B1 f0 fp1 P
      simp only [ME.op] at c
      cases e2 : g ws with
      | none => rw [e2] at c; exact c.elim
      | some ds =>
        rw [e2] at c
        obtain ⟨J, hw, hQ⟩ := hg B1 H1 ws vs f0 ds P.rel e2
        exact hQ Q (c J H1 B1 fp1 ⟨P.ok, P.step.mono fun q hq => by simp [hq], P.pure, hw⟩)
theorem walk_rgL {B : Hp} {lo : Int} {n : Nat} : ∃ (Gd : Hp → Prop) (Y : Nat → Hp → V → Hp → Prop), Walk (Itr lo n) (rgL lo 1 n).length Gd Y ∧ (∀ H2, Same B H2 → Gd H2) ∧ ∀ i H2 x H3, i < (rgL lo 1 n).length → Gd H2 → Y i H2 x H3 → YD G B (rgL lo 1 n) i H2 x H3 := by
  refine ⟨_, _, by rw [rgL_len]; exact walk_range, fun _ _ => trivial, fun i H2 x H3 hi _ y => ?_⟩
  rw [rgL_len] at hi
  obtain ⟨rfl, rfl⟩ := y
  exact ⟨_, rgL_get hi, .inl ⟨rfl, by simp [repD]⟩⟩
theorem walk_rgC {B : Hp} {lo c : Int} {n : Nat} : ∃ (Gd : Hp → Prop) (Y : Nat → Hp → V → Hp → Prop), Walk (Itc lo c n) (rgL lo c n).length Gd Y ∧ (∀ H2, Same B H2 → Gd H2) ∧ ∀ i H2 x H3, i < (rgL lo c n).length → Gd H2 → Y i H2 x H3 → YD G B (rgL lo c n) i H2 x H3 := by
  refine ⟨_, _, by rw [rgL_len]; exact walk_rangeC, fun _ _ => trivial, fun i H2 x H3 hi _ y => ?_⟩
  rw [rgL_len] at hi
  obtain ⟨rfl, rfl⟩ := y
  exact ⟨_, rgL_get hi, .inl ⟨rfl, by simp [repD]⟩⟩
theorem inR_iff {i : Int} (h : inR i = true) : -(2 ^ 62) ≤ i ∧ i < 2 ^ 62 := by
  unfold inR at h
  simpa using h
theorem simI_rg1 (h : Sim G k p Wx (rWs G) ta ma) : SimI G p Wx (iRng1 ta) (mItR gRg1 ma) := by
  refine simI_num (R := fun H vs Q => ∃ j : Int, vs = [.int j] ∧ -(2 ^ 62) ≤ j ∧ j < 2 ^ 62 ∧ Q (Itr 0 j.toNat) H) h fun B H ws vs f ds r e => ?_
  unfold gRg1 at e
  split at e
  · rename_i a
    simp only [Option.bind_eq_some_iff] at e
    obtain ⟨j, e1, e⟩ := e
    split at e
    · rename_i hj
      cases e
      obtain ⟨v, rfl, r1⟩ := rel1 r
      obtain ⟨b1, b2⟩ := inR_iff hj
      exact ⟨_, walk_rgL, fun Q q => ⟨j, by rw [relW_int r1 e1], b1, b2, q⟩⟩
    · cases e
  · cases e
theorem simI_rg2 (h : Sim G k p Wx (rWs G) ta ma) : SimI G p Wx (iRng2 ta) (mItR gRg2 ma) := by
  refine simI_num (R := fun H vs Q => ∃ i j : Int, vs = [.int i, .int j] ∧ (-(2 ^ 62) ≤ i ∧ i < 2 ^ 62 ∧ -(2 ^ 62) ≤ j ∧ j < 2 ^ 62) ∧ Q (Itr i (j - i).toNat) H) h fun B H ws vs f ds r e => ?_
  unfold gRg2 at e
  split at e
  · rename_i a b
    split at e
    · rename_i i j e1 e2
      split at e
      · rename_i hj
        cases e
        obtain ⟨v, z, f1, f2, rfl, r1, r2, _⟩ := rel2 r
        simp only [Bool.and_eq_true] at hj
        obtain ⟨b1, b2⟩ := inR_iff hj.1
        obtain ⟨b3, b4⟩ := inR_iff hj.2
        exact ⟨_, walk_rgL, fun Q q => ⟨i, j, by rw [relW_int r1 e1, relW_int r2 e2], ⟨b1, b2, b3, b4⟩, q⟩⟩
      · cases e
    · cases e
  · cases e
theorem simI_rg3 (h : Sim G k p Wx (rWs G) ta ma) : SimI G p Wx (iRng3 ta) (mItR gRg3 ma) := by
  refine simI_num (R := fun H vs Q => ∃ (i j c : Int) (n : Nat), vs = [.int i, .int j, .int c] ∧ RgC i j c n ∧ Q (Itc i c n) H) h fun B H ws vs f ds r e => ?_
  unfold gRg3 at e
  split at e
  · rename_i a b d
    split at e
    · rename_i i j c e1 e2 e3
      split at e
      · rename_i hj
        cases e
        simp only [relWs] at r
        obtain ⟨v1, q1, g1, g2, rfl, r1, ⟨v2, q2, g3, g4, rfl, r2, ⟨v3, q3, g5, g6, rfl, r3, ⟨rfl, rfl⟩, rfl⟩, rfl⟩, rfl⟩ := r
        exact ⟨_, walk_rgC, fun Q q => ⟨i, j, c, _, by rw [relW_int r1 e1, relW_int r2 e2, relW_int r3 e3], ⟨hj.1, hj.2.1, hj.2.2.1, hj.2.2.2⟩, q⟩⟩
      · cases e
    · cases e
  · cases e
/-! lists that are walked: they go into the ground -/
theorem repDs_at {B : Hp} {ds : List D} {vs : List V} (r : repDs G B ds vs) {i : Nat} {x : V} (h : vs[i]? = some x) : ∃ d, ds[i]? = some d ∧ repD G B d x := repDs_yd r h
theorem wEls_grd {B H : Hp} {w : W} {v : V} {f : List Addr} {ds : List D} (s : Same B H) (o : ∀ q ∈ f, B q = none) (r : relW G B H w v f) (e : wEls w = some ds) : ∃ a vs, v = .ref a ∧ (∀ g : List Addr, (∀ q ∈ f, q ∈ g) → (∀ q ∈ g, B q = none) → grd B H g a = some (.lst vs)) ∧ repDs G B ds vs := by
  unfold wEls at e
  split at e
  · cases e
    simp only [relW, repD] at r
    obtain ⟨⟨a, vs, h1, h2, h3⟩, rfl⟩ := r
    exact ⟨a, vs, h1, fun g _ hg => grd_bext hg _ _ h2, h3⟩
  · rename_i ws
    simp only [relW] at r
    obtain ⟨p, vs, g, h1, h2, h3, rfl⟩ := r
    rw [shsOf_eq e] at h3
    exact ⟨p, vs, h1, fun g hg _ => (grd_in (hg p (by simp))).trans h2, (relWs_shs h3).1⟩
  · cases e
theorem simI_lst {g : List W → Option (List D)} {R : Hp → List V → (It → Hp → Prop) → Prop} (h : Sim G true p Wx (rWs G) ta ma)
    (hg : ∀ (B H : Hp) (ws : List W) (vs : List V) (f : List Addr) (ds : List D), Same B H → (∀ q ∈ f, B q = none) → relWs G B H ws vs f → g ws = some ds → ∃ J, (∃ (Gd : Hp → Prop) (Y : Nat → Hp → V → Hp → Prop), Walk J ds.length Gd Y ∧ (∀ H2, Same (grd B H f) H2 → Gd H2) ∧ ∀ i H2 x H3, i < ds.length → Gd H2 → Y i H2 x H3 → YD G (grd B H f) ds i H2 x H3) ∧ ∀ Q : It → Hp → Prop, Q J H → R H vs Q) :
    SimI G p Wx (fun σ H Q => ta σ H fun vs H1 => R H1 vs Q) (mItR g ma) := by
  intro B H σ env fp O Q c
  refine h B H σ env fp O _ ?_
  unfold mItR ME.bind at c
  cases e1 : ma env with
  | none => rw [e1] at c; exact c
  | some r =>
    obtain ⟨r, env1⟩ := r
    rw [e1] at c
    cases r with
    | ex x => exact c
    | ok ws =>
      intro vs H1 B1 f0 fp1 P
      simp only [ME.op] at c
      cases e2 : g ws with
      | none => rw [e2] at c; exact c.elim
      | some ds =>
        rw [e2] at c
        obtain ⟨nd, dis⟩ := P.own rfl
        have be := grd_bext (H := H1) P.out
        obtain ⟨J, hw, hQ⟩ := hg B1 H1 ws vs f0 ds P.ok.sub P.out P.rel e2
        have O2 : Ok G (grd B1 H1 f0) H1 σ env1 fp1 := ⟨grd_sub P.ok.sub, relE_frame be P.ok.rel fun _ _ => rfl, P.ok.nd, fun q hq => by
          rw [grd_out fun z => dis q z hq]
          exact P.ok.out q hq⟩
        refine hQ Q (c J H1 (grd B1 H1 f0) fp1 ⟨O2, ⟨P.step.keep, fun a o h => be a o (P.step.bext a o h), fun q h n => ?_, fun q hq => P.step.new q (by simp [hq]), P.step.live⟩, fun hp => ?_, hw⟩)
        · rw [grd_out fun z => ?_]
          · exact P.step.bold q h n
          · rcases P.step.new q (by simp [z]) with y | y
            · exact n y
            · exact h y
        · obtain ⟨s1, s2, s3, s4⟩ := P.pure hp
          refine ⟨s1, fun q hq => ?_, s3, s4⟩
          rw [grd_out fun z => ?_]
          · exact s2 q hq
          · rcases P.step.new q (by simp [z]) with y | y
            · exact dis q z (by rw [s4]; exact y)
            · exact hq y
def gEnum (as : List W) : Option (List D) := match as with
  | [w] => (wEls w).map fun ds => ds.zipIdx.map fun p => .tup [.int (p.2 : Nat), p.1]
  | _ => none
def gZip (as : List W) : Option (List D) := match as with
  | [a, b] => match wEls a, wEls b with
    | some xs, some ys => some ((xs.zip ys).map fun p => .tup [p.1, p.2])
    | _, _ => none
  | _ => none
theorem simI_enum (h : Sim G true p Wx (rWs G) ta ma) : SimI G p Wx (iEnum G.K ta) (mItR gEnum ma) := by
  refine simI_lst (R := fun H vs Q => ∃ a xs, vs = [.ref a] ∧ SqL G.K H a xs ∧ Q (Ite G.K a) H) h fun B H ws vs f ds s o r e => ?_
  unfold gEnum at e
  split at e
  · rename_i w
    simp only [Option.map_eq_some_iff] at e
    obtain ⟨es, e1, rfl⟩ := e
    obtain ⟨v, rfl, r1⟩ := rel1 r
    obtain ⟨a, xs, rfl, ha, hr⟩ := wEls_grd s o r1 e1
    have hg := ha f (fun _ h => h) o
    refine ⟨Ite G.K a, ⟨_, _, by rw [List.length_map, List.length_zipIdx, repDs_length hr]; exact walk_enum (xs := xs), fun H2 s2 => SqL.of (s2 _ _ hg), fun i H2 x H3 hi _ y => ?_⟩, fun Q q => ⟨a, xs, rfl, SqL.of (grd_sub s _ _ hg), q⟩⟩
    obtain ⟨T, x1, x2, rfl, nT, rfl, h1, h2⟩ := y
    obtain ⟨d, hd, rd⟩ := repDs_yd hr h2
    refine ⟨.tup [.int (i : Nat), d], ?_, .inr ⟨T, _, _, rfl, nT, rfl, rfl, ?_⟩⟩
    · rw [List.getElem?_map, List.getElem?_zipIdx, hd]
      simp
    · cases h1
      simp only [repDs]
      exact ⟨_, _, rfl, by simp [repD], _, _, rfl, repD_mono (grd_bext o) rd, rfl⟩
  · cases e
theorem simI_zip (h : Sim G true p Wx (rWs G) ta ma) : SimI G p Wx (iZip G.K ta) (mItR gZip ma) := by
  refine simI_lst (R := fun H vs Q => ∃ a b xs ys, vs = [.ref a, .ref b] ∧ SqL G.K H a xs ∧ SqL G.K H b ys ∧ Q (Itz G.K a b) H) h fun B H ws vs f ds s o r e => ?_
  unfold gZip at e
  split at e
  · rename_i w1 w2
    split at e
    · rename_i es1 es2 e1 e2
      cases e
      obtain ⟨v, z, f1, f2, rfl, r1, r2, rfl⟩ := rel2 r
      obtain ⟨a, xs, rfl, ha, hr1⟩ := wEls_grd s (fun q hq => o q (by simp [hq])) r1 e1
      obtain ⟨b, ys, rfl, hb, hr2⟩ := wEls_grd s (fun q hq => o q (by simp [hq])) r2 e2
      have hg1 := ha (f1 ++ f2) (fun _ h => by simp [h]) o
      have hg2 := hb (f1 ++ f2) (fun _ h => by simp [h]) o
      refine ⟨Itz G.K a b, ⟨_, _, walk_zip (xs := xs) (ys := ys) (by rw [List.length_map, List.length_zip, repDs_length hr1, repDs_length hr2]), fun H2 s2 => ⟨SqL.of (s2 _ _ hg1), SqL.of (s2 _ _ hg2)⟩, fun i H2 x H3 hi _ y => ?_⟩, fun Q q => ⟨a, b, xs, ys, rfl, SqL.of (grd_sub s _ _ hg1), SqL.of (grd_sub s _ _ hg2), q⟩⟩
      obtain ⟨T, x1, x2, rfl, nT, rfl, h1, h2⟩ := y
      obtain ⟨d1, hd1, rd1⟩ := repDs_yd hr1 h1
      obtain ⟨d2, hd2, rd2⟩ := repDs_yd hr2 h2
      refine ⟨.tup [d1, d2], ?_, .inr ⟨T, _, _, rfl, nT, rfl, rfl, ?_⟩⟩
      · rw [List.getElem?_map, (List.getElem?_zip_eq_some (z := (d1, d2))).mpr ⟨hd1, hd2⟩]
        rfl
      · simp only [repDs]
        exact ⟨_, _, rfl, repD_mono (grd_bext o) rd1, _, _, rfl, repD_mono (grd_bext o) rd2, rfl⟩
    · cases e
  · cases e
end
section
variable {X : Cx} {Wx : WX} {k p : Bool} {tg a b c : Expr} {ma : ME (List W)} {pp pos tpos : Pos} {elts : List Expr} {kk : Nat}
theorem si_rg1 (hg : Gl X "range") (hm : X.mg "range" = none) (ha : SA X Wx k p [a] ma) (hs : starEach [a] X.env = [(false, eval a X.env)] := by rfl) : SI X Wx p tg (.Call (.Name "range" pp) [a] [] pos) (mItR gRg1 ma) := by
  obtain ⟨t, pa, s⟩ := ha
  exact ⟨_, pi_range1 hg hm pa hs, simI_rg1 s⟩
theorem si_rg2 (hg : Gl X "range") (hm : X.mg "range" = none) (ha : SA X Wx k p [a, b] ma) (hs : starEach [a, b] X.env = [(false, eval a X.env), (false, eval b X.env)] := by rfl) (hs2 : starEach [b] X.env = [(false, eval b X.env)] := by rfl) : SI X Wx p tg (.Call (.Name "range" pp) [a, b] [] pos) (mItR gRg2 ma) := by
  obtain ⟨t, pa, s⟩ := ha
  exact ⟨_, pi_range2 hg hm pa hs hs2, simI_rg2 s⟩
theorem si_rg3 (hg : Gl X "range") (hm : X.mg "range" = none) (ha : SA X Wx k p [a, b, c] ma) (hs : starEach [a, b, c] X.env = (false, eval a X.env) :: starEach [b, c] X.env := by rfl) (hpl : (backTo pos (starEach [b, c] X.env)).any (·.1) = false := by rfl) : SI X Wx p tg (.Call (.Name "range" pp) [a, b, c] [] pos) (mItR gRg3 ma) := by
  obtain ⟨t, pa, s⟩ := ha
  exact ⟨_, pi_range3 hg hm pa hs hpl, simI_rg3 s⟩
theorem si_enum (hg : Gl X "enumerate") (hm : X.mg "enumerate" = none) (ha : SA X Wx true p [a] ma) (hs : starEach [a] X.env = [(false, eval a X.env)] := by rfl) : SI X Wx p (.Tuple elts kk tpos) (.Call (.Name "enumerate" pp) [a] [] pos) (mItR gEnum ma) := by
  obtain ⟨t, pa, s⟩ := ha
  exact ⟨_, pi_enum hg hm pa hs, simI_enum s⟩
theorem si_zip (hg : Gl X "zip") (hm : X.mg "zip" = none) (ha : SA X Wx true p [a, b] ma) (hs : starEach [a, b] X.env = (false, eval a X.env) :: starEach [b] X.env := by rfl) (hpl : (backTo pos (starEach [b] X.env)).any (·.1) = false := by rfl) : SI X Wx p (.Tuple elts kk tpos) (.Call (.Name "zip" pp) [a, b] [] pos) (mItR gZip ma) := by
  obtain ⟨t, pa, s⟩ := ha
  exact ⟨_, pi_zip hg hm pa hs hpl, simI_zip s⟩
end
end AM

set_option Elab.async false
set_option linter.all false
set_option maxRecDepth 100000
/-! Affine mirror, part 12: list comprehensions. -/
namespace AM
open PySem L2

def wipeE (env : Env) : List Nat → Env
  | [] => env
  | v :: vs => (wipeE env vs).set v none
/-- all slots but these stand still -/
def offs (vs : List Nat) : Nat → Bool := fun i => !vs.contains i
section
variable {G : GX}
theorem relE_none {B H : Hp} {σ : St} {env : Env} {f : List Addr} (v : Nat) (r : relE G B H σ env f) : ∃ f', relE G B H σ (env.set v none) f' ∧ (∀ q ∈ f', q ∈ f) ∧ (f.Nodup → f'.Nodup) := by
  by_cases h : v < env.length
  · have hx := List.getElem?_eq_getElem h
    generalize env[v] = w0 at hx
    obtain ⟨e1, e2, s1, o, s2, f1, g, f2, rfl, rfl, l1, l2, rfl, r1, r2, r3⟩ := relE_split r hx
    refine ⟨f1 ++ ([] ++ f2), ?_, fun q hq => ?_, fun n => ?_⟩
    · rw [set_mid l1]
      exact relE_join r1 rfl r3
    · simp only [List.nil_append, List.mem_append] at hq ⊢
      grind
    · simp only [List.nil_append, List.nodup_append, List.mem_append] at n ⊢
      grind
  · rw [List.set_eq_of_length_le (by omega)]
    exact ⟨f, r, fun _ h => h, fun h => h⟩
theorem relE_wipe {B H : Hp} {σ : St} {env : Env} {f : List Addr} (r : relE G B H σ env f) : ∀ vs : List Nat, ∃ f', relE G B H σ (wipeE env vs) f' ∧ (∀ q ∈ f', q ∈ f) ∧ (f.Nodup → f'.Nodup)
  | [] => ⟨f, r, fun _ h => h, fun h => h⟩
  | v :: vs => by
    obtain ⟨f1, r1, s1, n1⟩ := relE_wipe r vs
    obtain ⟨f2, r2, s2, n2⟩ := relE_none v r1
    exact ⟨f2, r2, fun q hq => s1 q (s2 q hq), fun n => n2 (n1 n)⟩
theorem wipeE_in {env : Env} {i : Nat} : ∀ {vs : List Nat}, i ∈ vs → (wipeE env vs)[i]? = some none ∨ (wipeE env vs)[i]? = none
  | v :: vs, h => by
    by_cases e : v = i
    · subst e
      show ((wipeE env vs).set v none)[v]? = some none ∨ ((wipeE env vs).set v none)[v]? = none
      by_cases hl : v < (wipeE env vs).length
      · left
        rw [List.getElem?_set_self hl]
      · right
        rw [List.getElem?_eq_none_iff, List.length_set]
        omega
    · rcases List.mem_cons.mp h with h | h
      · exact absurd h.symm e
      · show ((wipeE env vs).set v none)[i]? = some none ∨ ((wipeE env vs).set v none)[i]? = none
        rw [List.getElem?_set_ne e]
        exact wipeE_in h
/-- the machine's other slots do not matter where the mirror knows nothing -/
theorem relE_congr {B H : Hp} : ∀ {env : Env} {σ τ : St} {f : List Addr}, relE G B H σ env f → τ.length = σ.length → (∀ (i : Nat) (w : W), (env[i]? : Option (Option W)) = some (some w) → (τ[i]? : Option (Option V)) = σ[i]?) → relE G B H τ env f
  | [], σ, τ, f, h, hl, _ => by
    obtain ⟨rfl, rfl⟩ := h
    exact ⟨List.length_eq_zero_iff.mp (by simpa using hl), rfl⟩
  | w :: env, σ, τ, f, h, hl, k => by
    obtain ⟨o, σ', f1, f2, rfl, h2, h3, rfl⟩ := h
    cases τ with
    | nil => simp at hl
    | cons t τ' =>
      refine ⟨t, τ', f1, f2, rfl, ?_, relE_congr h3 (by simpa using hl) fun i w e => by simpa using k (i + 1) w (by simpa using e), rfl⟩
      cases w with
      | none => exact h2
      | some w =>
        have := k 0 w (by simp)
        simp at this
        subst this
        exact h2
/-- the slots at vs forgotten, on both sides -/
theorem Ok.wipe {B H : Hp} {σ : St} {env : Env} {fp : List Addr} (O : Ok G B H σ env fp) (vs : List Nat) : ∃ fp', Ok G B H (L2.wipe σ vs) (wipeE env vs) fp' ∧ ∀ q ∈ fp', q ∈ fp := by
  obtain ⟨f', r, s, n⟩ := relE_wipe O.rel vs
  refine ⟨f', ⟨O.sub, relE_congr r (wipe_length σ vs) fun i w e => ?_, n O.nd, fun q hq => O.out q (s q hq)⟩, s⟩
  refine wipe_out fun h => ?_
  rcases wipeE_in (env := env) h with z | z <;> rw [e] at z <;> cases z
/-- back in the outer frame -/
theorem Ok.unwipe {B H : Hp} {σ τ : St} {env : Env} {fp : List Addr} (O : Ok G B H τ env fp) (vs : List Nat) (h : L2.wipe τ vs = L2.wipe σ vs) : ∃ fp', Ok G B H σ (wipeE env vs) fp' ∧ ∀ q ∈ fp', q ∈ fp := by
  obtain ⟨f', r, s, n⟩ := relE_wipe O.rel vs
  have hl : σ.length = τ.length := by rw [← wipe_length σ vs, ← h, wipe_length]
  refine ⟨f', ⟨O.sub, relE_congr r hl fun i w e => ?_, n O.nd, fun q hq => O.out q (s q hq)⟩, s⟩
  have hi : i ∉ vs := fun h => by
    rcases wipeE_in (env := env) h with z | z <;> rw [e] at z <;> cases z
  rw [← wipe_out (σ := σ) hi, ← h, wipe_out hi]
theorem wipe_eq {σ τ : St} {vs : List Nat} (hl : τ.length = σ.length) (h : ∀ i, i ∉ vs → τ[i]? = σ[i]?) : L2.wipe τ vs = L2.wipe σ vs := by
  have key : ∀ (us : List Nat) (i : Nat), (∀ j, j ∉ vs → τ[j]? = σ[j]?) → i ∉ vs → i ∉ us → (L2.wipe τ us)[i]? = (L2.wipe σ us)[i]? := fun us i k h1 h2 => by rw [wipe_out h2, wipe_out h2, k i h1]
  have inn : ∀ (us : List Nat) (ρ : St) (i : Nat), i ∈ us → i < ρ.length → (L2.wipe ρ us)[i]? = some none := by
    intro us
    induction us with
    | nil => intro ρ i h; simp at h
    | cons u us ih =>
      intro ρ i h hlt
      show ((L2.wipe ρ us).set u none)[i]? = some none
      by_cases e : u = i
      · subst e
        rw [List.getElem?_set_self (by rw [wipe_length]; exact hlt)]
      · rw [List.getElem?_set_ne e]
        rcases List.mem_cons.mp h with h | h
        · exact absurd h.symm e
        · exact ih ρ i h hlt
  refine List.ext_getElem? fun i => ?_
  by_cases hi : i ∈ vs
  · by_cases hlt : i < σ.length
    · rw [inn vs τ i hi (by omega), inn vs σ i hi hlt]
    · rw [List.getElem?_eq_none_iff.mpr (by rw [wipe_length]; omega), List.getElem?_eq_none_iff.mpr (by rw [wipe_length]; omega)]
  · rw [wipe_out hi, wipe_out hi]
    exact h i hi
end
def mCL (g : MG) (c : ME Bool) (e : ME W) (vs : List Nat) : List D → List W → ME (List W)
  | [], acc => ME.pure acc
  | d :: ds, acc => fun env => match g (.sh d) env with
    | some (.ok _, e1) => match c e1 with
      | some (.ok true, e2) => match e e2 with
        | some (.ok w, e3) => if acc.length < 100000 then mCL g c e vs ds (acc ++ [w]) (wipeE e3 vs) else none
        | _ => none
      | some (.ok false, e2) => mCL g c e vs ds acc (wipeE e2 vs)
      | _ => none
    | _ => none
/-- .. whose turns change nothing -/
def mCLP (g : MG) (c : ME Bool) (e : ME W) (env0 : Env) : List D → List W → Option (List W)
  | [], acc => some acc
  | d :: ds, acc => match g (.sh d) env0 with
    | some (.ok _, e1) => match c e1 with
      | some (.ok true, e2) => match e e2 with
        | some (.ok w, _) => if acc.length < 100000 then mCLP g c e env0 ds (acc ++ [w]) else none
        | _ => none
      | some (.ok false, _) => mCLP g c e env0 ds acc
      | _ => none
    | _ => none
def mComp (mi : ME (List D)) (g : MG) (c : ME Bool) (e : ME W) (vs : List Nat) : ME W := fun env => match mi env with
  | some (.ok ds, e1) => match mCL g c e vs ds [] (wipeE e1 vs) with
    | some (.ok ws, e2) => some (.ok (.ol ws), e2)
    | _ => none
  | some (.ex x, e1) => some (.ex x, e1)
  | none => none
def mCompP (mi : ME (List D)) (g : MG) (c : ME Bool) (e : ME W) (vs : List Nat) : ME W := fun env => match mi env with
  | some (.ok ds, e1) => (mCLP g c e (wipeE e1 vs) ds []).map fun ws => (.ok (.ol ws), e1)
  | some (.ex x, e1) => some (.ex x, e1)
  | none => none
section
variable {G : GX} {Wx Wx0 : WX} {p : Bool} {wi : TI} {g : TG} {tt : TT} {te : TE} {mi : ME (List D)} {mg : MG} {mc : ME Bool} {me : ME W} {vs : List Nat} {qq : Bool}
theorem not_off {vs : List Nat} {i : Nat} (h : i ∉ vs) : offs vs i = true := by
  unfold offs
  simp [h]
/-- what a comprehension has made so far -/
structure Made (G : GX) (B H : Hp) (fp : List Addr) (σ : St) (env : Env) (B' H' : Hp) (fp' : List Addr) (D : Addr) (ws : List W) (acc : List V) (fA : List Addr) : Prop where
  ok : Ok G B' H' σ env fp'
  step : Step B H fp B' H' (D :: fA ++ fp')
  here : H' D = some (.lst acc)
  rel : relWs G B' H' ws acc fA
  nd : (D :: fA).Nodup
  dis : ∀ q ∈ D :: fA, q ∉ fp'
  out : ∀ q ∈ D :: fA, B' q = none
theorem Made.live {B H B' H' : Hp} {fp fp' : List Addr} {σ : St} {env : Env} {D : Addr} {ws : List W} {acc : List V} {fA : List Addr} (M : Made G B H fp σ env B' H' fp' D ws acc fA) : ∀ q ∈ D :: fA, H' q ≠ none := fun q hq => by
  rcases List.mem_cons.mp hq with rfl | hq
  · rw [M.here]; simp
  · exact relWs_live M.rel q hq
/-- something runs beside what is made -/
theorem Made.beside {B H B1 H1 B2 H2 : Hp} {fp fp1 fp2 : List Addr} {σ σ2 : St} {env env2 : Env} {D : Addr} {ws : List W} {acc : List V} {fA : List Addr} {f0 : List Addr} (M : Made G B H fp σ env B1 H1 fp1 D ws acc fA)
    (S : Step B1 H1 fp1 B2 H2 (f0 ++ fp2)) (O : Ok G B2 H2 σ2 env2 fp2) : Made G B H fp σ2 env2 B2 H2 fp2 D ws acc fA ∧ Step B H fp B2 H2 (D :: fA ++ (f0 ++ fp2)) ∧ ∀ q ∈ f0, q ∉ D :: fA := by
  have lv := M.live
  have nf : ∀ q ∈ D :: fA, q ∉ f0 ++ fp2 := fun q hq z => by
    rcases S.new q z with y | y
    · exact M.dis q hq y
    · exact lv q hq y
  have kp : ∀ q ∈ D :: fA, H2 q = H1 q := fun q hq => by
    cases e : H1 q with
    | none => exact absurd e (lv q hq)
    | some o => exact S.keep q o e (M.dis q hq)
  have S2 : Step B H fp B2 H2 (D :: fA ++ (f0 ++ fp2)) := Step.trans M.step S
  refine ⟨⟨O, S2.mono fun q hq => by simp only [List.mem_append] at hq ⊢; grind, (kp D (by simp)).trans M.here, relWs_frame S.bext M.rel fun q hq => kp q (by simp [hq]), M.nd, fun q hq z => nf q hq (by simp [z]), fun q hq => ?_⟩, S2, fun q hq z => nf q z (by simp [hq])⟩
  rw [S.bold q (lv q hq) (M.dis q hq)]
  exact M.out q hq
theorem Made.thin {B H B1 H1 : Hp} {fp fp1 fp2 : List Addr} {σ σ2 : St} {env env2 : Env} {D : Addr} {ws : List W} {acc : List V} {fA : List Addr} (M : Made G B H fp σ env B1 H1 fp1 D ws acc fA) (O : Ok G B1 H1 σ2 env2 fp2) (h : ∀ q ∈ fp2, q ∈ fp1) : Made G B H fp σ2 env2 B1 H1 fp2 D ws acc fA :=
  ⟨O, M.step.mono fun q hq => by simp only [List.mem_append] at hq ⊢; grind, M.here, M.rel, M.nd, fun q hq z => M.dis q hq (h q z), M.out⟩
/-- one more item -/
theorem Made.more {B H B1 H1 : Hp} {fp fp1 : List Addr} {σ : St} {env : Env} {D : Addr} {ws : List W} {acc : List V} {fA f0 : List Addr} {w : W} {v : V} (M : Made G B H fp σ env B1 H1 fp1 D ws acc fA) (r : relW G B1 H1 w v f0) (nd : f0.Nodup) (dis : ∀ q ∈ f0, q ∉ fp1 ∧ q ∉ D :: fA) (out : ∀ q ∈ f0, B1 q = none)
    (S : Step B H fp B1 H1 (D :: fA ++ (f0 ++ fp1))) : Made G B H fp σ env B1 (upd H1 D (.lst (acc ++ [v]))) fp1 D (ws ++ [w]) (acc ++ [v]) (fA ++ f0) := by
  have nDA : D ∉ fA := (List.nodup_cons.mp M.nd).1
  have nA := (List.nodup_cons.mp M.nd).2
  have nD0 : D ∉ f0 := fun z => (dis D z).2 (by simp)
  have nDfp : D ∉ fp1 := M.dis D (by simp)
  have kA : ∀ q ∈ fA, upd H1 D (.lst (acc ++ [v])) q = H1 q := fun q hq => upd_ne fun z => nDA (by rw [← z]; exact hq)
  have k0 : ∀ q ∈ f0, upd H1 D (.lst (acc ++ [v])) q = H1 q := fun q hq => upd_ne fun z => nD0 (by rw [← z]; exact hq)
  have kE : ∀ q ∈ fp1, upd H1 D (.lst (acc ++ [v])) q = H1 q := fun q hq => upd_ne fun z => nDfp (by rw [← z]; exact hq)
  have BD : B1 D = none := M.out D (by simp)
  refine ⟨⟨fun a o h => ?_, relE_frame (Same.refl B1) M.ok.rel kE, M.ok.nd, M.ok.out⟩, ⟨fun a o h n => ?_, S.bext, S.bold, fun a ha => S.new a (by simp only [List.cons_append, List.mem_cons, List.mem_append] at ha ⊢; grind), fun a h => ?_⟩, upd_same, ?_, ?_, fun q hq => ?_, fun q hq => ?_⟩
  · rw [upd_ne fun z => by rw [z, BD] at h; cases h]
    exact M.ok.sub a o h
  · by_cases ea : a = D
    · subst ea
      rcases S.new a (by simp) with y | y
      · exact absurd y n
      · rw [h] at y; cases y
    · rw [upd_ne ea]
      exact S.keep a o h n
  · by_cases ea : a = D
    · rw [ea, upd_same]; simp
    · rw [upd_ne ea]; exact S.live a h
  · refine relWs_append (relWs_frame (Same.refl B1) M.rel kA) ?_
    simp only [relWs]
    exact ⟨v, [], f0, [], rfl, relW_frame (Same.refl B1) r k0, ⟨rfl, rfl⟩, by simp⟩
  · refine List.nodup_cons.mpr ⟨fun z => ?_, List.nodup_append.mpr ⟨nA, nd, fun a ha b hb e => ?_⟩⟩
    · rcases List.mem_append.mp z with z | z
      · exact nDA z
      · exact nD0 z
    · subst e
      exact (dis a hb).2 (by simp [ha])
  · rcases List.mem_cons.mp hq with rfl | hq
    · exact nDfp
    · rcases List.mem_append.mp hq with hq | hq
      · exact M.dis q (by simp [hq])
      · exact (dis q hq).1
  · rcases List.mem_cons.mp hq with rfl | hq
    · exact BD
    · rcases List.mem_append.mp hq with hq | hq
      · exact M.out q (by simp [hq])
      · exact out q hq
theorem sim_comp (hi : SimI G p Wx wi mi) (hg : SimG G (offs vs) qq g mg) (hc : Sim G true p Wx0 (rEqv Bool) tt mc) (he : Sim G true p Wx0 (rW G) te me) : Sim G true false Wx (rW G) (tLc wi g tt te vs) (mComp mi mg mc me vs) := by
  intro B H σ env fp O Q c
  refine hi B H σ env fp O _ ?_
  unfold mComp at c
  cases e1 : mi env with
  | none => rw [e1] at c; exact c
  | some r =>
    obtain ⟨r, env1⟩ := r
    rw [e1] at c
    cases r with
    | ex x => exact c
    | ok ds =>
      intro J H1 B1 fp1 PI D nD
      simp only at c
      obtain ⟨Gd, Y, wk, gd, yd⟩ := PI.walk
      obtain ⟨fpW, OW, subW⟩ := PI.ok.wipe vs
      -- the outer frame's view: σ with the slots forgotten in the mirror
      obtain ⟨fp0, O0, sub0⟩ := PI.ok.unwipe (σ := σ) vs rfl
      have BD := none_of_sub PI.ok.sub nD
      have ok0 : Ok G B1 (upd H1 D (.lst [])) σ (wipeE env1 vs) fp0 := by
        have lv := relE_live O0.rel
        exact ⟨fun a o h => by rw [upd_ne fun z => by rw [z, BD] at h; cases h]; exact O0.sub a o h, relE_frame (Same.refl B1) O0.rel fun q hq => upd_ne fun z => lv q hq (by rw [z]; exact nD), O0.nd, O0.out⟩
      have M0 : Made G B H fp σ (wipeE env1 vs) B1 (upd H1 D (.lst [])) fp0 D [] [] [] := by
        refine ⟨ok0, ⟨fun a o h n => ?_, PI.step.bext, PI.step.bold, fun a ha => ?_, fun a h => ?_⟩, upd_same, by simp [relWs], by simp, fun q hq z => ?_, fun q hq => ?_⟩
        · have := PI.step.keep a o h n
          rw [upd_ne fun z => by rw [z, nD] at this; cases this]
          exact this
        · simp only [List.append_nil, List.cons_append, List.nil_append, List.mem_cons] at ha
          rcases ha with rfl | ha
          · refine .inr ?_
            cases e : H a with
            | none => rfl
            | some o => exact absurd nD (PI.step.live a (by simp [e]))
          · exact PI.step.new a (sub0 a ha)
        · have := PI.step.live a h
          by_cases ea : a = D
          · rw [ea, upd_same]; simp
          · rw [upd_ne ea]; exact this
        · simp at hq
          subst hq
          exact relE_live O0.rel q z nD
        · simp at hq
          subst hq
          exact BD
      refine lc_it wk (fun i H' => ∃ env' B' fp' ws acc fA, Made G B H fp σ env' B' H' fp' D ws acc fA ∧ Same B1 B' ∧ (∀ v, v ∈ vs → env'[v]? = some none ∨ env'[v]? = none) ∧ (match mCL mg mc me vs (ds.drop i) ws env' with
        | some (.ok ws, e2) => ∀ H' B' fp' acc fA, Made G B H fp σ e2 B' H' fp' D ws acc fA → Q (.ref D) H'
        | _ => False)) ?_ ?_ ?_ ?_
      · refine ⟨_, B1, fp0, [], [], [], M0, Same.refl B1, fun v hv => wipeE_in hv, ?_⟩
        show match mCL mg mc me vs ds [] (wipeE env1 vs) with | some (.ok ws, e2) => _ | _ => False
        cases e2 : mCL mg mc me vs ds [] (wipeE env1 vs) with
        | none => rw [e2] at c; exact c.elim
        | some r2 =>
          obtain ⟨r2, env2⟩ := r2
          rw [e2] at c
          cases r2 with
          | ex x => exact c.elim
          | ok ws =>
            intro H' B' fp' acc fA M
            refine c (.ref D) H' B' (D :: fA) fp' ⟨M.ok, ?_, M.out, M.step, fun _ => ⟨M.nd, M.dis⟩, fun z => Bool.noConfusion z⟩
            show relW _ _ _ _ _ _
            simp only [relW]
            exact ⟨D, acc, fA, rfl, M.here, M.rel, rfl⟩
      · rintro i H' _ ⟨env', B', fp', ws, acc, fA, M, sB, _, _⟩
        exact gd H' fun a o h => M.ok.sub a o (sB a o h)
      · rintro i x H' H'' hi' ⟨env', B', fp', ws, acc, fA, M, sB, wz, ct⟩ y
        have hG : Gd H' := gd H' fun a o h => M.ok.sub a o (sB a o h)
        obtain ⟨d, B3, hd, O3, S3, r3, sB3, _, _⟩ := yd_hand sB M.ok (yd i H' x H'' hi' hG y)
        obtain ⟨M3, _, _⟩ := M.beside (f0 := []) S3 O3
        have ed : ds.drop i = d :: ds.drop (i + 1) := by
          rw [List.drop_eq_getElem_cons hi']
          congr 1
          rw [List.getElem?_eq_getElem hi'] at hd
          exact Option.some.inj hd
        rw [ed] at ct
        -- into the block's frame
        have OW3 : Ok G B3 H'' (L2.wipe σ vs) env' fp' := ⟨O3.sub, relE_congr O3.rel (wipe_length σ vs) (fun j w e => wipe_out (fun h => by
          rcases wz j h with z | z <;> rw [e] at z <;> cases z)), O3.nd, O3.out⟩
        refine hg B3 H'' (L2.wipe σ vs) env' fp' (.sh d) x [] OW3 (by simp only [relW]; exact ⟨r3, trivial⟩) (by simp) List.nodup_nil (by simp) _ ?_
        simp only [mCL] at ct
        cases e2 : mg (.sh d) env' with
        | none => rw [e2] at ct; exact ct
        | some r2 =>
          obtain ⟨r2, env2⟩ := r2
          rw [e2] at ct
          cases r2 with
          | ex x => exact ct.elim
          | ok u =>
            intro σ2 H2 B2 fp2 O2 S2 ln2 pin2 pu2
            have hw : L2.wipe σ2 vs = L2.wipe σ vs := by
              rw [← show L2.wipe (L2.wipe σ vs) vs = L2.wipe σ vs from wipe_eq (wipe_length σ vs) fun i hi => wipe_out hi]
              exact wipe_eq ln2 fun j hj => pin2 j (not_off hj)
            obtain ⟨M2, _, _⟩ := M3.beside (f0 := []) S2 O2
            have sB2 : Same B1 B2 := fun a o h => S2.bext a o (sB3 a o (sB a o h))
            refine ⟨hw, hc B2 H2 σ2 env2 fp2 O2 _ ?_⟩
            simp only at ct
            cases e3 : mc env2 with
            | none => rw [e3] at ct; exact ct
            | some r3 =>
              obtain ⟨r3, env3⟩ := r3
              rw [e3] at ct
              cases r3 with
              | ex x => exact ct.elim
              | ok b =>
                intro b' H4 B4 f4 fp4 P4
                obtain ⟨rfl, rfl⟩ := P4.rel
                obtain ⟨M4, _, _⟩ := M2.beside (f0 := []) P4.step P4.ok
                have sB4 : Same B1 B4 := fun a o h => P4.step.bext a o (sB2 a o h)
                -- back in the outer frame, all that is made kept
                have back : ∀ {env5 : Env} {B5 H5 : Hp} {fp5 : List Addr} {ws5 : List W} {acc5 : List V} {fA5 : List Addr}, Made G B H fp σ2 env5 B5 H5 fp5 D ws5 acc5 fA5 → ∃ fp6, Made G B H fp σ (wipeE env5 vs) B5 H5 fp6 D ws5 acc5 fA5 := fun M5 => by
                  obtain ⟨fp6, O6, s6⟩ := M5.ok.unwipe (σ := σ) vs hw
                  exact ⟨fp6, M5.thin O6 s6⟩
                cases b with
                | false =>
                  show if false = true then _ else _
                  rw [if_neg Bool.false_ne_true]
                  obtain ⟨fp6, M6⟩ := back M4
                  exact ⟨_, B4, fp6, ws, acc, fA, M6, sB4, fun v hv => wipeE_in hv, ct⟩
                | true =>
                  show if true = true then _ else _
                  rw [if_pos rfl]
                  refine he B4 H4 σ2 env3 fp4 P4.ok _ ?_
                  simp only at ct
                  cases e4 : me env3 with
                  | none => rw [e4] at ct; exact ct
                  | some r4 =>
                    obtain ⟨r4, env4⟩ := r4
                    rw [e4] at ct
                    cases r4 with
                    | ex x => exact ct.elim
                    | ok w =>
                      simp only at ct
                      intro v H5 B5 f5 fp5 P5
                      obtain ⟨M5, S5, ne5⟩ := M4.beside P5.step P5.ok
                      by_cases hlen : ws.length < 100000
                      · rw [if_pos hlen] at ct
                        obtain ⟨nd5, dis5⟩ := P5.own rfl
                        have M6 := M5.more P5.rel nd5 (fun q hq => ⟨dis5 q hq, ne5 q hq⟩) P5.out S5
                        obtain ⟨fp7, M7⟩ := back M6
                        refine ⟨acc, M5.here, ?_, _, B5, fp7, _, _, _, M7, fun a o h => P5.step.bext a o (sB4 a o h), fun v hv => wipeE_in hv, ct⟩
                        rw [← relWs_length M5.rel]
                        exact Nat.lt_of_lt_of_le hlen (by decide)
                      · rw [if_neg hlen] at ct
                        exact ct.elim
      · rintro H' ⟨env', B', fp', ws, acc, fA, M, sB, _, ct⟩
        rw [List.drop_length] at ct
        exact ct H' B' fp' acc fA M
theorem sim_compP (hi : SimI G p Wx wi mi) (hg : SimG G (offs vs) true g mg) (hc : Sim G true true Wx0 (rEqv Bool) tt mc) (he : Sim G true true Wx0 (rW G) te me) : Sim G true p Wx (rW G) (tLc wi g tt te vs) (mCompP mi mg mc me vs) := by
  intro B H σ env fp O Q c
  refine hi B H σ env fp O _ ?_
  unfold mCompP at c
  cases e1 : mi env with
  | none => rw [e1] at c; exact c
  | some r =>
    obtain ⟨r, env1⟩ := r
    rw [e1] at c
    cases r with
    | ex x => exact c
    | ok ds =>
      intro J H1 B1 fp1 PI D nD
      simp only at c
      obtain ⟨Gd, Y, wk, gd, yd⟩ := PI.walk
      have BD := none_of_sub PI.ok.sub nD
      have lv1 := relE_live PI.ok.rel
      have ok0 : Ok G B1 (upd H1 D (.lst [])) σ env1 fp1 :=
        ⟨fun a o h => by rw [upd_ne fun z => by rw [z, BD] at h; cases h]; exact PI.ok.sub a o h, relE_frame (Same.refl B1) PI.ok.rel fun q hq => upd_ne fun z => lv1 q hq (by rw [z]; exact nD), PI.ok.nd, PI.ok.out⟩
      have M0 : Made G B H fp σ env1 B1 (upd H1 D (.lst [])) fp1 D [] [] [] := by
        refine ⟨ok0, ⟨fun a o h n => ?_, PI.step.bext, PI.step.bold, fun a ha => ?_, fun a h => ?_⟩, upd_same, by simp [relWs], by simp, fun q hq z => ?_, fun q hq => ?_⟩
        · have := PI.step.keep a o h n
          rw [upd_ne fun z => by rw [z, nD] at this; cases this]
          exact this
        · simp only [List.append_nil, List.cons_append, List.nil_append, List.mem_cons] at ha
          rcases ha with rfl | ha
          · refine .inr ?_
            cases e : H a with
            | none => rfl
            | some o => exact absurd nD (PI.step.live a (by simp [e]))
          · exact PI.step.new a ha
        · have := PI.step.live a h
          by_cases ea : a = D
          · rw [ea, upd_same]; simp
          · rw [upd_ne ea]; exact this
        · simp at hq
          subst hq
          exact lv1 q z nD
        · simp at hq
          subst hq
          exact BD
      have s0 : Same H1 (upd H1 D (.lst [])) := same_new nD
      refine lc_it wk (fun i H' => ∃ B' ws acc fA, Made G B H fp σ env1 B' H' fp1 D ws acc fA ∧ Same B1 B' ∧ Same H1 H' ∧ (∀ q, H1 q ≠ none → B' q = B1 q) ∧ (match mCLP mg mc me (wipeE env1 vs) (ds.drop i) ws with
        | some ws => ∀ H' B' acc fA, Made G B H fp σ env1 B' H' fp1 D ws acc fA → Same H1 H' → (∀ q, H1 q ≠ none → B' q = B1 q) → Q (.ref D) H'
        | none => False)) ?_ ?_ ?_ ?_
      · refine ⟨B1, [], [], [], M0, Same.refl B1, s0, fun _ _ => rfl, ?_⟩
        show match mCLP mg mc me (wipeE env1 vs) ds [] with | some ws => _ | none => False
        cases e2 : mCLP mg mc me (wipeE env1 vs) ds [] with
        | none => rw [e2] at c; exact c.elim
        | some ws =>
          rw [e2] at c
          intro H' B' acc fA M sH sB
          refine c (.ref D) H' B' (D :: fA) fp1 ⟨M.ok, ?_, M.out, M.step, fun _ => ⟨M.nd, M.dis⟩, fun hp => ?_⟩
          · show relW _ _ _ _ _ _
            simp only [relW]
            exact ⟨D, acc, fA, rfl, M.here, M.rel, rfl⟩
          · obtain ⟨a1, a2, a3, a4⟩ := PI.pure hp
            exact ⟨fun a o h => sH a o (a1 a o h), fun q h => (sB q (PI.step.live q h)).trans (a2 q h), a3, a4⟩
      · rintro i H' _ ⟨B', ws, acc, fA, M, sB, _, _, _⟩
        exact gd H' fun a o h => M.ok.sub a o (sB a o h)
      · rintro i x H' H'' hi' ⟨B', ws, acc, fA, M, sB, sH, bB, ct⟩ y
        have hG : Gd H' := gd H' fun a o h => M.ok.sub a o (sB a o h)
        obtain ⟨d, B3, hd, O3, S3, r3, sB3, sH3, bB3⟩ := yd_hand sB M.ok (yd i H' x H'' hi' hG y)
        obtain ⟨M3, _, _⟩ := M.beside (f0 := []) S3 O3
        have ed : ds.drop i = d :: ds.drop (i + 1) := by
          rw [List.drop_eq_getElem_cons hi']
          congr 1
          rw [List.getElem?_eq_getElem hi'] at hd
          exact Option.some.inj hd
        rw [ed] at ct
        obtain ⟨fpW, OW3, subW⟩ := O3.wipe vs
        refine hg B3 H'' (L2.wipe σ vs) (wipeE env1 vs) fpW (.sh d) x [] OW3 (by simp only [relW]; exact ⟨r3, trivial⟩) (by simp) List.nodup_nil (by simp) _ ?_
        simp only [mCLP] at ct
        cases e2 : mg (.sh d) (wipeE env1 vs) with
        | none => rw [e2] at ct; exact ct
        | some r2 =>
          obtain ⟨r2, env2⟩ := r2
          rw [e2] at ct
          cases r2 with
          | ex x => exact ct.elim
          | ok u =>
            intro σ2 H2 B2 fp2 O2 S2 ln2 pin2 pu2
            obtain ⟨sH2, bB2⟩ := pu2 rfl
            have hw : L2.wipe σ2 vs = L2.wipe σ vs := by
              rw [← show L2.wipe (L2.wipe σ vs) vs = L2.wipe σ vs from wipe_eq (wipe_length σ vs) fun i hi => wipe_out hi]
              exact wipe_eq ln2 fun j hj => pin2 j (not_off hj)
            -- the outer frame beside what the turn does
            have outer : ∀ {B5 H5 : Hp} {f5 fp5 : List Addr}, Step B3 H'' fpW B5 H5 (f5 ++ fp5) → Same B5 H5 → Same H'' H5 → (∀ q, H'' q ≠ none → B5 q = B3 q) → (∀ q ∈ f5, H'' q = none) →
                Made G B H fp σ env1 B5 H5 fp1 D ws acc fA ∧ Step B H fp B5 H5 (D :: fA ++ (f5 ++ fp1)) ∧ ∀ q ∈ f5, q ∉ D :: fA := fun S sb sh bb fr => by
              have lv3 := relE_live M3.ok.rel
              exact M3.beside ⟨fun a o h _ => sh a o h, S.bext, fun a h _ => bb a h, fun a ha => by
                rcases List.mem_append.mp ha with ha | ha
                · exact .inr (fr a ha)
                · exact .inl ha, S.live⟩ ⟨sb, relE_frame S.bext M3.ok.rel fun q hq => same_some sh (lv3 q hq), M3.ok.nd, fun q hq => by
                rw [bb q (lv3 q hq)]
                exact M3.ok.out q hq⟩
            refine ⟨hw, hc B2 H2 σ2 env2 fp2 O2 _ ?_⟩
            simp only at ct
            cases e3 : mc env2 with
            | none => rw [e3] at ct; exact ct
            | some r3 =>
              obtain ⟨r3, env3⟩ := r3
              rw [e3] at ct
              cases r3 with
              | ex x => exact ct.elim
              | ok b =>
                intro b' H4 B4 f4 fp4 P4
                obtain ⟨rfl, rfl⟩ := P4.rel
                obtain ⟨sH4, bB4, rfl, rfl⟩ := P4.pure rfl
                have S4 : Step B3 H'' fpW B4 H4 ([] ++ fp4) := Step.trans (S := []) S2 P4.step
                have sHH4 : Same H'' H4 := fun a o h => sH4 a o (sH2 a o h)
                have bBB4 : ∀ q, H'' q ≠ none → B4 q = B3 q := fun q h => (bB4 q (S2.live q h)).trans (bB2 q h)
                cases b with
                | false =>
                  show if false = true then _ else _
                  rw [if_neg Bool.false_ne_true]
                  obtain ⟨M4, _, _⟩ := outer S4 P4.ok.sub sHH4 bBB4 (by simp)
                  exact ⟨B4, ws, acc, fA, M4, fun a o h => S4.bext a o (sB3 a o (sB a o h)), fun a o h => sHH4 a o (sH3 a o (sH a o h)), fun q h => (bBB4 q (by rw [same_some sH3 (by rw [same_some sH h]; exact h), same_some sH h]; exact h)).trans ((bB3 q (by rw [same_some sH h]; exact h)).trans (bB q h)), ct⟩
                | true =>
                  show if true = true then _ else _
                  rw [if_pos rfl]
                  refine he B4 H4 σ2 env3 fp4 P4.ok _ ?_
                  simp only at ct
                  cases e4 : me env3 with
                  | none => rw [e4] at ct; exact ct
                  | some r4 =>
                    obtain ⟨r4, env4⟩ := r4
                    rw [e4] at ct
                    cases r4 with
                    | ex x => exact ct.elim
                    | ok w =>
                      simp only at ct
                      intro v H5 B5 f5 fp5 P5
                      obtain ⟨sH5, bB5, rfl, rfl⟩ := P5.pure rfl
                      obtain ⟨nd5, dis5⟩ := P5.own rfl
                      have S5 : Step B3 H'' fpW B5 H5 (f5 ++ fp5) := Step.trans (S := []) S4 P5.step
                      have sHH5 : Same H'' H5 := fun a o h => sH5 a o (sHH4 a o h)
                      have bBB5 : ∀ q, H'' q ≠ none → B5 q = B3 q := fun q h => (bB5 q (S4.live q h)).trans (bBB4 q h)
                      have fr5 : ∀ q ∈ f5, H4 q = none := fun q hq => by
                        rcases P5.step.new q (by simp [hq]) with z | z
                        · exact absurd z (dis5 q hq)
                        · exact z
                      have fr : ∀ q ∈ f5, H'' q = none := fun q hq => by
                        cases e : H'' q with
                        | none => rfl
                        | some o => exact absurd (fr5 q hq) (S4.live q (by simp [e]))
                      obtain ⟨M5, S5', ne5⟩ := outer S5 P5.ok.sub sHH5 bBB5 fr
                      by_cases hlen : ws.length < 100000
                      · rw [if_pos hlen] at ct
                        have lvO := relE_live M5.ok.rel
                        have M6 := M5.more P5.rel nd5 (fun q hq => ⟨fun z => relE_live M3.ok.rel q z (fr q hq), ne5 q hq⟩) P5.out S5'
                        refine ⟨acc, M5.here, ?_, B5, _, _, _, M6, fun a o h => S5.bext a o (sB3 a o (sB a o h)), fun a o h => ?_, fun q h => (bBB5 q (by rw [same_some sH3 (by rw [same_some sH h]; exact h), same_some sH h]; exact h)).trans ((bB3 q (by rw [same_some sH h]; exact h)).trans (bB q h)), ct⟩
                        · rw [← relWs_length M5.rel]
                          exact Nat.lt_of_lt_of_le hlen (by decide)
                        · rw [upd_ne fun z => by rw [z, nD] at h; cases h]
                          exact sHH5 a o (sH3 a o (sH a o h))
                      · rw [if_neg hlen] at ct
                        exact ct.elim
      · rintro H' ⟨B', ws, acc, fA, M, sB, sH, bB, ct⟩
        rw [List.drop_length] at ct
        exact ct H' B' acc fA M sH bB
end
end AM

set_option Elab.async false
set_option linter.all false
set_option maxRecDepth 100000
/-! Affine mirror, part 13: calls of defs. -/
namespace AM
open PySem L2

/-- a def as a function of its arguments: the answer, and what its in-out arguments are behind it -/
abbrev MF := List W → Option (Res W × List (Option W))
def ContF (G : GX) (B H : Hp) (vs : List V) (fp : List Addr) (r : Option (Res W × List (Option W))) (Q : VK) (E : XK) : Prop :=
  match r with
  | none => False
  | some (.ok w, outs) => ∀ v H' B' f0 f2, Same B' H' → relW G B' H' w v f0 → relE G B' H' (vs.map some) outs f2 → (f0 ++ f2).Nodup → (∀ q ∈ f0 ++ f2, B' q = none) → Step B H fp B' H' (f0 ++ f2) → Q v H'
  | some (.ex x, outs) => ∀ cls d H' B' f2, Same B' H' → relE G B' H' (vs.map some) outs f2 → f2.Nodup → (∀ q ∈ f2, B' q = none) → Step B H fp B' H' f2 → relX G H' x cls d → (∀ dd, d = some dd → B' dd = none ∧ dd ∉ f2 ∧ H dd = none) → E cls d H'
def spOf (G : GX) (n : Nat) (m : MF) : Sp := fun vs H Q E => vs.length = n ∧ ∃ B ws fp, Same B H ∧ relWs G B H ws vs fp ∧ fp.Nodup ∧ (∀ q ∈ fp, B q = none) ∧ ContF G B H vs fp (m ws) Q E

/-- what can stand at an owned address -/
def ownKind : HO → Bool
  | .lst _ => true
  | .ins _ _ _ => true
  | .own _ => true
  | .dK _ => true
  | .dT _ => true
  | _ => false
section
variable {G : GX} {B H : Hp}
mutual
theorem relW_kind : ∀ {w : W} {v : V} {f : List Addr}, relW G B H w v f → ∀ q ∈ f, ∃ o, H q = some o ∧ ownKind o = true
  | .sh d, v, f, h, q, hq => by
    simp only [relW] at h
    rw [h.2] at hq
    simp at hq
  | .ol ws, v, f, h, q, hq => by
    simp only [relW] at h
    obtain ⟨p, vs, g, h1, h2, h3, rfl⟩ := h
    rcases List.mem_cons.mp hq with rfl | hq
    · exact ⟨_, h2, rfl⟩
    · exact relWs_kind h3 q hq
  | .ot ws, v, f, h, q, hq => by
    simp only [relW] at h
    obtain ⟨p, vs, h1, h2, h3⟩ := h
    exact relWs_kind h3 q hq
  | .ob c fs ws, v, f, h, q, hq => by
    simp only [relW] at h
    obtain ⟨p, dx, C, vs, g, h1, h2, h3, h4, h5, h6, rfl⟩ := h
    rcases List.mem_cons.mp hq with rfl | hq
    · exact ⟨_, h3, rfl⟩
    · rcases List.mem_cons.mp hq with rfl | hq
      · exact ⟨_, h4, rfl⟩
      · exact relWs_kind h6 q hq
  | .dk ks ws, v, f, h, q, hq => by
    simp only [relW] at h
    obtain ⟨p, vs, g, h1, h2, h3, h4, rfl⟩ := h
    rcases List.mem_cons.mp hq with rfl | hq
    · exact ⟨_, h2, rfl⟩
    · exact relWs_kind h4 q hq
  | .dt ks ws, v, f, h, q, hq => by
    simp only [relW] at h
    obtain ⟨p, vs, g, h1, h2, h3, h4, rfl⟩ := h
    rcases List.mem_cons.mp hq with rfl | hq
    · exact ⟨_, h2, rfl⟩
    · exact relWs_kind h4 q hq
theorem relWs_kind : ∀ {ws : List W} {vs : List V} {f : List Addr}, relWs G B H ws vs f → ∀ q ∈ f, ∃ o, H q = some o ∧ ownKind o = true
  | [], _, _, h, q, hq => by
    simp only [relWs] at h
    rw [h.2] at hq
    simp at hq
  | w :: ws, vs, f, h, q, hq => by
    simp only [relWs] at h
    obtain ⟨v, r, g1, g2, h1, h2, h3, rfl⟩ := h
    rcases List.mem_append.mp hq with hq | hq
    · exact relW_kind h2 q hq
    · exact relWs_kind h3 q hq
end
theorem relE_kind : ∀ {env : Env} {σ : St} {f : List Addr}, relE G B H σ env f → ∀ q ∈ f, ∃ o, H q = some o ∧ ownKind o = true
  | [], _, _, h, q, hq => by
    rw [h.2] at hq
    simp at hq
  | w :: env, σ, f, h, q, hq => by
    obtain ⟨o, τ, f1, f2, h1, h2, h3, rfl⟩ := h
    rcases List.mem_append.mp hq with hq | hq
    · cases w with
      | none =>
        rw [show f1 = [] from h2] at hq
        simp at hq
      | some w =>
        obtain ⟨v, _, h2⟩ := h2
        exact relW_kind h2 q hq
    · exact relE_kind h3 q hq
end
mutual
def D.imm : D → Bool
  | .non => true
  | .bl _ => true
  | .int _ => true
  | .str _ => true
  | .lst _ => false
  | .tup ds => D.imms ds
  | .exc _ ds => D.imms ds
  | .scr _ => false
  | .obj _ _ _ => false
def D.imms : List D → Bool
  | [] => true
  | d :: ds => D.imm d && D.imms ds
end
mutual
def W.closed : W → Bool
  | .sh d => d.imm
  | .ol ws => W.closeds ws
  | .ot ws => W.closeds ws
  | .ob _ _ ws => W.closeds ws
  | .dk _ ws => W.closeds ws
  | .dt _ ws => W.closeds ws
def W.closeds : List W → Bool
  | [] => true
  | w :: ws => W.closed w && W.closeds ws
end
def outsClosed : List (Option W) → Bool
  | [] => true
  | none :: r => outsClosed r
  | some w :: r => w.closed && outsClosed r
/-- the ground without what was lent -/
def ung (B : Hp) (F : List Addr) : Hp := fun a => if a ∈ F then none else B a
section
variable {G : GX} {B H : Hp} {F : List Addr}
theorem ung_out {a : Addr} (h : a ∉ F) : ung B F a = B a := if_neg h
theorem ung_in {a : Addr} (h : a ∈ F) : ung B F a = none := if_pos h
theorem ung_sub : Same (ung B F) B := fun a o h => by
  unfold ung at h
  split at h
  · cases h
  · exact h
mutual
theorem repD_ung (hF : ∀ a ∈ F, ∀ o, B a = some o → ownKind o = true) : ∀ {d : D} {v : V}, d.imm = true → repD G B d v → repD G (ung B F) d v
  | .non, _, _, h => by simpa [repD] using h
  | .bl _, _, _, h => by simpa [repD] using h
  | .int _, _, _, h => by simpa [repD] using h
  | .str _, _, _, h => by simpa [repD] using h
  | .lst ds, v, i, h => by simp [D.imm] at i
  | .scr ds, v, i, h => by simp [D.imm] at i
  | .tup ds, v, i, h => by
    simp only [repD] at h ⊢
    simp only [D.imm] at i
    obtain ⟨a, vs, h1, h2, h3⟩ := h
    refine ⟨a, vs, h1, ?_, repDs_ung hF i h3⟩
    rcases h2 with (h2 | ⟨o, h2⟩) | h2
    · refine .inl (.inl ?_)
      rw [ung_out fun z => by have := hF a z _ h2; cases this]
      exact h2
    · refine .inl (.inr ⟨o, ?_⟩)
      rw [ung_out fun z => by have := hF a z _ h2; cases this]
      exact h2
    · exact .inr h2
  | .exc c ds, v, i, h => by
    simp only [repD] at h ⊢
    simp only [D.imm] at i
    obtain ⟨a, C, d, h1, h2, h3, h4⟩ := h
    refine ⟨a, C, d, h1, h2, ?_, ?_⟩
    · rw [ung_out fun z => by have := hF a z _ h3; cases this]
      exact h3
    · rcases h4 with h4 | ⟨dd, x, h5, h6, h7⟩
      · exact .inl h4
      · refine .inr ⟨dd, x, h5, ?_, repDs_ung hF i h7⟩
        rw [ung_out fun z => by have := hF dd z _ h6; cases this]
        exact h6
theorem repDs_ung (hF : ∀ a ∈ F, ∀ o, B a = some o → ownKind o = true) : ∀ {ds : List D} {vs : List V}, D.imms ds = true → repDs G B ds vs → repDs G (ung B F) ds vs
  | [], _, _, h => by simpa [repDs] using h
  | d :: ds, vs, i, h => by
    simp only [repDs] at h ⊢
    simp only [D.imms, Bool.and_eq_true] at i
    obtain ⟨v, r, h1, h2, h3⟩ := h
    exact ⟨v, r, h1, repD_ung hF i.1 h2, repDs_ung hF i.2 h3⟩
end
mutual
theorem relW_ung (hF : ∀ a ∈ F, ∀ o, B a = some o → ownKind o = true) : ∀ {w : W} {v : V} {f : List Addr}, w.closed = true → relW G B H w v f → relW G (ung B F) H w v f
  | .sh d, v, f, i, h => by
    simp only [relW] at h ⊢
    simp only [W.closed] at i
    exact ⟨repD_ung hF i h.1, h.2⟩
  | .ol ws, v, f, i, h => by
    simp only [relW] at h ⊢
    simp only [W.closed] at i
    obtain ⟨p, vs, g, h1, h2, h3, h4⟩ := h
    exact ⟨p, vs, g, h1, h2, relWs_ung hF i h3, h4⟩
  | .ot ws, v, f, i, h => by
    simp only [relW] at h ⊢
    simp only [W.closed] at i
    obtain ⟨p, vs, h1, h2, h3⟩ := h
    refine ⟨p, vs, h1, ?_, relWs_ung hF i h3⟩
    rw [ung_out fun z => by have := hF p z _ h2; cases this]
    exact h2
  | .ob c fs ws, v, f, i, h => by
    simp only [relW] at h ⊢
    simp only [W.closed] at i
    obtain ⟨p, dx, C, vs, g, h1, h2, h3, h4, h5, h6, h7⟩ := h
    exact ⟨p, dx, C, vs, g, h1, h2, h3, h4, h5, relWs_ung hF i h6, h7⟩
  | .dk ks ws, v, f, i, h => by
    simp only [relW] at h ⊢
    simp only [W.closed] at i
    obtain ⟨p, vs, g, h1, h2, h3, h4, h5⟩ := h
    exact ⟨p, vs, g, h1, h2, h3, relWs_ung hF i h4, h5⟩
  | .dt ks ws, v, f, i, h => by
    simp only [relW] at h ⊢
    simp only [W.closed] at i
    obtain ⟨p, vs, g, h1, h2, h3, h4, h5⟩ := h
    exact ⟨p, vs, g, h1, h2, h3, relWs_ung hF i h4, h5⟩
theorem relWs_ung (hF : ∀ a ∈ F, ∀ o, B a = some o → ownKind o = true) : ∀ {ws : List W} {vs : List V} {f : List Addr}, W.closeds ws = true → relWs G B H ws vs f → relWs G (ung B F) H ws vs f
  | [], _, _, _, h => by simpa [relWs] using h
  | w :: ws, vs, f, i, h => by
    simp only [relWs] at h ⊢
    simp only [W.closeds, Bool.and_eq_true] at i
    obtain ⟨v, r, g1, g2, h1, h2, h3, h4⟩ := h
    exact ⟨v, r, g1, g2, h1, relW_ung hF i.1 h2, relWs_ung hF i.2 h3, h4⟩
end
theorem relE_ung (hF : ∀ a ∈ F, ∀ o, B a = some o → ownKind o = true) : ∀ {env : Env} {σ : St} {f : List Addr}, outsClosed env = true → relE G B H σ env f → relE G (ung B F) H σ env f
  | [], _, _, _, h => h
  | w :: env, σ, f, i, h => by
    obtain ⟨o, τ, f1, f2, h1, h2, h3, h4⟩ := h
    cases w with
    | none => exact ⟨o, τ, f1, f2, h1, h2, relE_ung hF i h3, h4⟩
    | some w =>
      simp only [outsClosed, Bool.and_eq_true] at i
      obtain ⟨v, h5, h6⟩ := h2
      exact ⟨o, τ, f1, f2, h1, ⟨v, h5, relW_ung hF i.1 h6⟩, relE_ung hF i.2 h3, h4⟩
end
/-! ### arguments: handed over, lent to be read, lent to be changed -/
inductive AW where
  | own (w : W)
  | bor (p : Path)
  | io (p : Path)
section
variable (G : GX)
def relA (B H : Hp) (σ : St) : AW → V → List Addr → Prop
  | .own w, v, f => relW G B H w v f
  | .bor p, v, f => locE H σ p v ∧ f = []
  | .io p, v, f => locE H σ p v ∧ f = []
def relAs (B H : Hp) (σ : St) : List AW → List V → List Addr → Prop
  | [], vs, f => vs = [] ∧ f = []
  | a :: as, vs, f => ∃ v r f1 f2, vs = v :: r ∧ relA G B H σ a v f1 ∧ relAs B H σ as r f2 ∧ f = f1 ++ f2
structure PostA (p : Bool) (B H : Hp) (σ : St) (env : Env) (fp : List Addr) (as : List AW) (env' : Env) (vs : List V) (H' B' : Hp) (f0 fp2 : List Addr) : Prop where
  ok : Ok G B' H' σ env' fp2
  rel : relAs G B' H' σ as vs f0
  out : ∀ q ∈ f0, B' q = none
  step : Step B H fp B' H' (f0 ++ fp2)
  own : f0.Nodup ∧ ∀ q ∈ f0, q ∉ fp2
  pure : p = true → Same H H' ∧ (∀ q, H q ≠ none → B' q = B q) ∧ env' = env ∧ fp2 = fp
def SimA (p : Bool) (Wx : WX) (t : TA) (m : ME (List AW)) : Prop := ∀ B H σ env fp, Ok G B H σ env fp → ∀ Q : List V → Hp → Prop,
  (match m env with
  | none => False
  | some (.ok as, env') => ∀ vs H' B' f0 fp2, PostA G p B H σ env fp as env' vs H' B' f0 fp2 → Q vs H'
  | some (.ex x, env') => ∀ cls d H' B' fp2, Ok G B' H' σ env' fp2 → Step B H fp B' H' fp2 → relX G H' x cls d → (∀ dd, d = some dd → B' dd = none ∧ dd ∉ fp2 ∧ H dd = none) → Wx cls d σ H') → t σ H Q
end
def SAw (X : Cx) (Wx : WX) (p : Bool) (es : List Expr) (m : ME (List AW)) : Prop := ∃ t : TA, PA X es t ∧ SimA (gx X) p Wx t m
def wNil : ME (List AW) := ME.pure []
def wOwn (m : ME W) (r : ME (List AW)) : ME (List AW) := m.bind fun w => r.bind fun as => ME.pure (.own w :: as)
def wLoc (mk : Path → AW) (m : ME Path) (r : ME (List AW)) : ME (List AW) := fun env => match m env with
  | some (.ok pa, e) => (r.bind fun as => ME.pure (mk pa :: as)) e
  | _ => none
def wBor := wLoc AW.bor
def wIo := wLoc AW.io
section
variable {G : GX} {Wx : WX} {p p1 p2 : Bool} {t : TE} {u : TA} {m : ME W} {ml : ME Path} {r : ME (List AW)}
theorem relAs_live {B H : Hp} {σ : St} : ∀ {as : List AW} {vs : List V} {f : List Addr}, relAs G B H σ as vs f → ∀ q ∈ f, H q ≠ none
  | [], _, _, h, q, hq => by
    rw [h.2] at hq
    simp at hq
  | a :: as, vs, f, h, q, hq => by
    obtain ⟨v, r, f1, f2, _, h2, h3, rfl⟩ := h
    rcases List.mem_append.mp hq with hq | hq
    · cases a with
      | own w => exact relW_live h2 q hq
      | bor p => rw [h2.2] at hq; simp at hq
      | io p => rw [h2.2] at hq; simp at hq
    · exact relAs_live h3 q hq
theorem simA_nil : SimA G true Wx tNil wNil := fun B H σ env fp O Q c => c [] H B [] fp ⟨O, ⟨rfl, rfl⟩, by simp, Step.refl (by simp), ⟨List.nodup_nil, by simp⟩, fun _ => ⟨Same.refl H, fun _ _ => rfl, rfl, rfl⟩⟩
theorem simA_own (h1 : Sim G true p1 Wx (rW G) t m) (h2 : SimA G p2 Wx u r) : SimA G (p1 && p2) Wx (tCons t u) (wOwn m r) := by
  intro B H σ env fp O Q c
  refine h1 B H σ env fp O _ ?_
  unfold wOwn ME.bind at c
  cases e1 : m env with
  | none => rw [e1] at c; exact c
  | some r1 =>
    obtain ⟨r1, env1⟩ := r1
    rw [e1] at c
    cases r1 with
    | ex x => exact c
    | ok w =>
      intro v H1 B1 f1 fp1 P1
      refine h2 B1 H1 σ env1 fp1 P1.ok _ ?_
      simp only at c
      cases e2 : r env1 with
      | none => rw [e2] at c; exact c
      | some r2 =>
        obtain ⟨r2, env2⟩ := r2
        rw [e2] at c
        cases r2 with
        | ex x =>
          intro cls d H2 B2 fp2 O2 S2 hx hd
          refine c cls d H2 B2 fp2 O2 (P1.step.drop.trans S2) hx fun dd e => ?_
          obtain ⟨a1, a2, a3⟩ := hd dd e
          refine ⟨a1, a2, ?_⟩
          cases q : H dd with
          | none => rfl
          | some o => exact absurd a3 (P1.step.live dd (by simp [q]))
        | ok as =>
          intro vs H2 B2 f2 fp2 P2
          have r1 : relW G B1 H1 w v f1 := P1.rel
          have live1 := relW_live r1
          obtain ⟨n1, d1⟩ := P1.own rfl
          obtain ⟨n2, d2⟩ := P2.own
          have kp : ∀ q ∈ f1, H2 q = H1 q := fun q hq => by
            cases e : H1 q with
            | none => exact absurd e (live1 q hq)
            | some o => exact P2.step.keep q o e (d1 q hq)
          have dis : ∀ q ∈ f1, q ∉ f2 ++ fp2 := fun q hq z => by
            rcases P2.step.new q z with z | z
            · exact d1 q hq z
            · exact live1 q hq z
          refine c (v :: vs) H2 B2 (f1 ++ f2) fp2 ⟨P2.ok, ⟨v, vs, f1, f2, rfl, relW_frame P2.step.bext r1 kp, P2.rel, rfl⟩, fun q hq => ?_, ?_, ⟨?_, fun q hq z => ?_⟩, fun hp => ?_⟩
          · rcases List.mem_append.mp hq with hq | hq
            · rw [P2.step.bold q (live1 q hq) (d1 q hq)]
              exact P1.out q hq
            · exact P2.out q hq
          · rw [List.append_assoc]
            exact P1.step.trans P2.step
          · exact List.nodup_append.mpr ⟨n1, n2, fun a ha b hb e => by subst e; exact dis a ha (by simp [hb])⟩
          · rcases List.mem_append.mp hq with hq | hq
            · exact dis q hq (by simp [z])
            · exact d2 q hq z
          · simp only [Bool.and_eq_true] at hp
            obtain ⟨s1, b1, v1, u1⟩ := P1.pure hp.1
            obtain ⟨s2, b2, v2, u2⟩ := P2.pure hp.2
            exact ⟨fun q o h => s2 q o (s1 q o h), fun q h => (b2 q (P1.step.live q h)).trans (b1 q h), v2.trans v1, u2.trans u1⟩
theorem simA_loc {mk : Path → AW} (hmk : ∀ B H σ pa v, locE H σ pa v → relA G B H σ (mk pa) v []) (h1 : SimL G t ml) (h2 : SimA G p2 Wx u r) (hc : p2 = true ∨ Root ml) : SimA G p2 Wx (tCons t u) (wLoc mk ml r) := by
  intro B H σ env fp O Q c
  refine h1 B H σ env fp O _ ?_
  unfold wLoc at c
  cases e1 : ml env with
  | none => rw [e1] at c; exact c
  | some r1 =>
    obtain ⟨r1, env1⟩ := r1
    rw [e1] at c
    cases r1 with
    | ex x => exact c.elim
    | ok pa =>
      intro v H1 B1 ee O1 S1 s1 b1 L1
      subst ee
      simp only [ME.bind] at c
      refine h2 B1 H1 σ env1 fp O1 _ ?_
      cases e2 : r env1 with
      | none => rw [e2] at c; exact c
      | some r2 =>
        obtain ⟨r2, env2⟩ := r2
        rw [e2] at c
        cases r2 with
        | ex x =>
          intro cls d H2 B2 fp2 O2 S2 hx hd
          refine c cls d H2 B2 fp2 O2 (S1.trans (S := []) S2) hx fun dd e => ?_
          obtain ⟨a1, a2, a3⟩ := hd dd e
          refine ⟨a1, a2, ?_⟩
          cases q : H dd with
          | none => rfl
          | some o => exact absurd a3 (S1.live dd (by simp [q]))
        | ok as =>
          intro vs H2 B2 f2 fp2 P2
          have L2 : locE H2 σ pa v := by
            rcases hc with hc | hc
            · exact locE_mono (P2.pure hc).1 L1
            · obtain ⟨v0, q1, q2⟩ := L1
              have := hc _ _ _ e1
              rw [this] at q2
              exact ⟨v0, q1, by rw [this]; exact q2⟩
          refine c (v :: vs) H2 B2 f2 fp2 ⟨P2.ok, ⟨v, vs, [], f2, rfl, hmk _ _ _ _ _ L2, P2.rel, rfl⟩, P2.out, Step.trans (S := []) S1 P2.step, P2.own, fun hp => ?_⟩
          obtain ⟨s2, b2, v2, u2⟩ := P2.pure hp
          exact ⟨fun q o h => s2 q o (s1 q o h), fun q h => (b2 q (S1.live q h)).trans (b1 q h), v2, u2⟩
end
section
variable {X : Cx} {Wx : WX} {p p1 p2 : Bool} {e : Expr} {es : List Expr} {m : ME W} {ml : ME Path} {r : ME (List AW)}
theorem sw_nil : SAw X Wx true [] wNil := ⟨_, pa_nil, simA_nil⟩
theorem sw_own (h : SE X Wx true p1 e m) (hr : SAw X Wx p2 es r) (hs : starEach (e :: es) X.env = (false, eval e X.env) :: starEach es X.env := by rfl) : SAw X Wx (p1 && p2) (e :: es) (wOwn m r) := by
  obtain ⟨t, pe, s⟩ := h
  obtain ⟨u, pr, sr⟩ := hr
  exact ⟨_, pa_cons pe pr hs, simA_own s sr⟩
theorem sw_bor (h : SL X e ml) (hr : SAw X Wx p2 es r) (hc : p2 = true ∨ Root ml) (hs : starEach (e :: es) X.env = (false, eval e X.env) :: starEach es X.env := by rfl) : SAw X Wx p2 (e :: es) (wBor ml r) := by
  obtain ⟨t, pe, s⟩ := h
  obtain ⟨u, pr, sr⟩ := hr
  exact ⟨_, pa_cons pe pr hs, simA_loc (fun _ _ _ _ _ h => ⟨h, rfl⟩) s sr hc⟩
theorem sw_io (h : SL X e ml) (hr : SAw X Wx p2 es r) (hc : p2 = true ∨ Root ml) (hs : starEach (e :: es) X.env = (false, eval e X.env) :: starEach es X.env := by rfl) : SAw X Wx p2 (e :: es) (wIo ml r) := by
  obtain ⟨t, pe, s⟩ := h
  obtain ⟨u, pr, sr⟩ := hr
  exact ⟨_, pa_cons pe pr hs, simA_loc (fun _ _ _ _ _ h => ⟨h, rfl⟩) s sr hc⟩
end
/-! ### the call -/
def ioOf : List AW → Option (Nat × Path)
  | [] => none
  | .io p :: _ => some (0, p)
  | _ :: as => (ioOf as).map fun q => (q.1 + 1, q.2)
def ioCount : List AW → Nat
  | [] => 0
  | .io _ :: as => ioCount as + 1
  | _ :: as => ioCount as
def hasBor : List AW → Bool
  | [] => false
  | .bor _ :: _ => true
  | _ :: as => hasBor as
/-- the arguments' trees: what is lent to be read is data -/
def argWs (env : Env) (wio : Option W) : List AW → Option (List W)
  | [] => some []
  | .own w :: as => (argWs env wio as).map (w :: ·)
  | .bor p :: as => match (getE env p).bind W.toD, argWs env wio as with
    | some d, some ws => some (.sh d :: ws)
    | _, _ => none
  | .io _ :: as => match wio, argWs env wio as with
    | some w, some ws => some (w :: ws)
    | _, _ => none
def resClosed : Res W → Bool
  | .ok w => w.closed
  | .ex _ => true
/-- without in-out arguments -/
def callK0 (mf : MF) (as : List AW) : ME W := fun env => match ioOf as with
  | some _ => none
  | none => match argWs env none as with
    | none => none
    | some ws => match mf ws with
      | none => none
      | some (r, _) => if hasBor as && !resClosed r then none else some (r, env)
def callK1 (mf : MF) (as : List AW) (i : Nat) (p : Path) : ME W := fun env => match getE env p with
  | none => none
  | some w => match argWs (env.set p.1 none) (some w) as with
    | none => none
    | some ws => match mf ws with
      | none => none
      | some (r, outs) => if hasBor as && !(resClosed r && outsClosed outs) then none else match outs[i]? with
        | some (some w') => (setE env p w').map fun e => (r, e)
        | _ => none
def mCall (mf : MF) (ma : ME (List AW)) : ME W := ma.bind fun as => match ioOf as with
  | none => callK0 mf as
  | some (i, p) => if ioCount as = 1 then callK1 mf as i p else ME.stuck
section
variable {G : GX}
theorem no_io : ∀ {as : List AW}, ioCount as = 0 → ioOf as = none
  | [], _ => rfl
  | .own w :: as, h => by simp only [ioCount] at h; simp [ioOf, no_io h]
  | .bor w :: as, h => by simp only [ioCount] at h; simp [ioOf, no_io h]
  | .io w :: as, h => by simp [ioCount] at h
theorem argWs_no {env : Env} : ∀ {as : List AW}, ioOf as = none → ∀ o : Option W, argWs env o as = argWs env none as
  | [], _, _ => rfl
  | .own w :: as, h, o => by
    simp only [argWs]
    rw [argWs_no (by simpa [ioOf] using h) o]
  | .bor w :: as, h, o => by
    simp only [argWs]
    rw [argWs_no (by simpa [ioOf] using h) o]
  | .io w :: as, h, o => by simp [ioOf] at h
/-- the arguments' trees, seen by the callee -/
theorem argWs_rel {B H B2 : Hp} {σ : St} {env : Env} {fp : List Addr} {wio : Option W} {vio : V} {gio : List Addr} (sub : Same B H) (rE : relE G B H σ env fp) (sB : Same B B2)
    (hio : ∀ w, wio = some w → relW G B2 H w vio gio) : ∀ {as : List AW} {vs : List V} {f : List Addr} {ws : List W}, (hasBor as = true → ∀ q ∈ fp, B2 q = H q) → relAs G B H σ as vs f → argWs env wio as = some ws → (∀ i p, ioOf as = some (i, p) → ioCount as = 1 ∧ vs[i]? = some vio) → (ioOf as = none → gio = []) →
      ∃ fa, relWs G B2 H ws vs fa ∧ (∀ q, q ∈ fa ↔ q ∈ f ∨ q ∈ gio) ∧ (f.Nodup → gio.Nodup → (∀ q ∈ f, q ∉ gio) → fa.Nodup)
  | [], vs, f, ws, _, r, e, _, hn => by
    obtain ⟨rfl, rfl⟩ := r
    simp only [argWs, Option.some.injEq] at e
    subst e
    exact ⟨[], by simp [relWs], by simp [hn rfl], by simp⟩
  | .own w :: as, vs, f, ws, hF, r, e, hi, hn => by
    obtain ⟨v, rr, f1, f2, rfl, r1, r2, rfl⟩ := r
    simp only [argWs, Option.map_eq_some_iff] at e
    obtain ⟨ws', e1, rfl⟩ := e
    obtain ⟨fa, k1, k2, k3⟩ := argWs_rel (as := as) sub rE sB hio (fun h => hF h) r2 e1 (fun i p h => by
      have := hi (i + 1) p (by simp [ioOf, h])
      exact ⟨by simpa [ioCount] using this.1, by simpa using this.2⟩) (fun h => hn (by simp [ioOf, h]))
    refine ⟨f1 ++ fa, ?_, fun q => ?_, fun n1 n2 n3 => ?_⟩
    · simp only [relWs]
      exact ⟨v, rr, f1, fa, rfl, relW_frame sB r1 (fun _ _ => rfl), k1, rfl⟩
    · simp only [List.mem_append, k2]
      grind
    · simp only [List.nodup_append, List.mem_append] at n1 n3 ⊢
      refine ⟨n1.1, k3 n1.2.1 n2 fun q hq => n3 q (.inr hq), fun a ha b hb => ?_⟩
      rcases (k2 b).mp hb with z | z
      · exact n1.2.2 a ha b z
      · intro e
        subst e
        exact n3 a (.inl ha) z
  | .bor p :: as, vs, f, ws, hF, r, e, hi, hn => by
    obtain ⟨v, rr, f1, f2, rfl, r1, r2, rfl⟩ := r
    obtain ⟨r1, rfl⟩ := r1
    simp only [argWs] at e
    split at e
    · rename_i d ws' h1 h2
      cases e
      simp only [Option.bind_eq_some_iff] at h1
      obtain ⟨w, h3, h4⟩ := h1
      obtain ⟨a1, g, a2, rfl, rw', _⟩ := relE_zip sub rE h3 r1
      obtain ⟨fa, k1, k2, k3⟩ := argWs_rel (as := as) sub rE sB hio (fun _ => hF rfl) r2 h2 (fun i p h => by
        have := hi (i + 1) p (by simp [ioOf, h])
        exact ⟨by simpa [ioCount] using this.1, by simpa using this.2⟩) (fun h => hn (by simp [ioOf, h]))
      refine ⟨fa, ?_, fun q => by simp [k2], fun n1 n2 n3 => k3 (by simpa using n1) n2 (by simpa using n3)⟩
      simp only [relWs]
      exact ⟨v, rr, [], fa, rfl, by simp only [relW]; exact ⟨relW_toD sB rw' h4 fun q hq => hF rfl q (by simp [hq]), trivial⟩, k1, rfl⟩
    · cases e
  | .io p :: as, vs, f, ws, hF, r, e, hi, hn => by
    obtain ⟨v, rr, f1, f2, rfl, r1, r2, rfl⟩ := r
    obtain ⟨r1, rfl⟩ := r1
    simp only [argWs] at e
    cases wio with
    | none => simp at e
    | some w =>
      cases h2 : argWs env (some w) as with
      | none => rw [h2] at e; simp at e
      | some ws' =>
        rw [h2] at e
        simp only [Option.some.injEq] at e
        subst e
        have hi0 := hi 0 p rfl
        have hv : v = vio := by simpa using hi0.2
        subst hv
        have hc : ioCount as = 0 := by simpa [ioCount] using hi0.1
        have hno := no_io hc
        have h2' : argWs env none as = some ws' := by rw [← argWs_no hno (some w)]; exact h2
        obtain ⟨fa, k1, k2, k3⟩ := argWs_rel (as := as) (wio := none) (vio := .non) (gio := []) sub rE sB (fun _ h => by cases h) (fun h => hF h) r2 h2' (fun i p h => by rw [hno] at h; cases h) (fun _ => rfl)
        refine ⟨gio ++ fa, ?_, fun q => ?_, fun n1 n2 n3 => ?_⟩
        · simp only [relWs]
          exact ⟨v, rr, gio, fa, rfl, hio w rfl, k1, rfl⟩
        · simp only [List.mem_append, k2]
          grind
        · simp only [List.nil_append] at n1 n3 ⊢
          refine List.nodup_append.mpr ⟨n2, k3 n1 List.nodup_nil (by simp), fun a ha b hb e => ?_⟩
          subst e
          rcases (k2 a).mp hb with z | z
          · exact n3 a z ha
          · simp at z
end
end AM

set_option Elab.async false
set_option linter.all false
set_option maxRecDepth 100000
/-! Affine mirror, part 14: calls of defs, the defs themselves. -/
namespace AM
open PySem L2

section
variable {G : GX} {Wx : WX} {p : Bool} {ta : TA} {ma : ME (List AW)} {mf : MF} {n : Nat}
theorem relE_zip2 {B H : Hp} {σ : St} {env : Env} (sub : Same B H) {path : Path} {w0 : W} {v0 : V} {fp : List Addr} (r : relE G B H σ env fp) (e : getE env path = some w0) (l : locE H σ path v0) :
    ∃ f1 g f2 F, fp = f1 ++ (g ++ f2) ∧ relW G B H w0 v0 g ∧ relE G B H σ (env.set path.1 none) F ∧ (∀ q ∈ F, q ∈ f1 ∨ q ∈ f2) ∧ ∀ (B' H' : Hp) (w' : W) (g' : List Addr), Same B B' → (∀ q ∈ f1, H' q = H q) → (∀ q ∈ f2, H' q = H q) → relW G B' H' w' v0 g' →
      ∃ env', setE env path w' = some env' ∧ relE G B' H' σ env' (f1 ++ (g' ++ f2)) := by
  unfold getE at e
  split at e
  · rename_i w hw
    obtain ⟨v, hv, lv⟩ := l
    obtain ⟨e1, e2, s1, o, s2, f1, g, f2, rfl, rfl, l1, l2, rfl, r1, ⟨u, rfl, r2⟩, r3⟩ := relE_split r hw
    rw [get_mid l2] at hv
    have : u = v := Option.some.inj (Option.some.inj hv)
    subst this
    obtain ⟨a1, a0, a2, rfl, ra, k⟩ := relW_zip sub r2 e lv
    refine ⟨f1 ++ a1, a0, a2 ++ f2, f1 ++ ([] ++ f2), by simp, ra, ?_, ?_, fun B' H' w' g' sB q1 q2 r' => ?_⟩
    · rw [set_mid l1]
      exact relE_join r1 rfl r3
    · intro q hq
      simp only [List.nil_append, List.mem_append] at hq ⊢
      grind
    · obtain ⟨z, z1, z2⟩ := k B' H' w' g' sB (fun q hq => q1 q (by simp [hq])) (fun q hq => q2 q (by simp [hq])) r'
      refine ⟨(e1 ++ some w :: e2).set path.1 (some z), ?_, ?_⟩
      · unfold setE
        rw [get_mid l1]
        simp only [z1, Option.map_some]
      · rw [set_mid l1]
        have := relE_join (relE_frame sB r1 fun q hq => q1 q (by simp [hq])) (show relS G B' H' (some u) (some z) _ from ⟨u, rfl, z2⟩) (relE_frame sB r3 fun q hq => q2 q (by simp [hq]))
        simpa using this
  · cases e
theorem none_back {H H' : Hp} (h : ∀ a, H a ≠ none → H' a ≠ none) {a : Addr} (n : H' a = none) : H a = none := by
  cases e : H a with
  | none => rfl
  | some o => exact absurd n (h a (by simp [e]))
def lend (b : Bool) (B H : Hp) (F : List Addr) : Hp := if b then grd B H F else B
def unlend (b : Bool) (B : Hp) (F : List Addr) : Hp := if b then ung B F else B
theorem lend_ext {b : Bool} {B H : Hp} {F : List Addr} (h : ∀ q ∈ F, B q = none) : Same B (lend b B H F) := by
  cases b
  · exact Same.refl B
  · exact grd_bext h
theorem lend_sub {b : Bool} {B H : Hp} {F : List Addr} (h : Same B H) : Same (lend b B H F) H := by
  cases b
  · exact h
  · exact grd_sub h
theorem lend_out {b : Bool} {B H : Hp} {F : List Addr} {a : Addr} (h : a ∉ F) : lend b B H F a = B a := by
  cases b
  · rfl
  · exact grd_out h
theorem unlend_out {b : Bool} {B : Hp} {F : List Addr} {a : Addr} (h : a ∉ F) : unlend b B F a = B a := by
  cases b
  · rfl
  · exact ung_out h
theorem unlend_sub {b : Bool} {B : Hp} {F : List Addr} : Same (unlend b B F) B := by
  cases b
  · exact Same.refl B
  · exact ung_sub
/-- what a callee leaves, seen by its caller: fp the caller's owned addresses, F those lent, g those lent to be changed, f0 those handed over -/
structure Left (b : Bool) (B H : Hp) (F f0 g : List Addr) (B' H' : Hp) (S : List Addr) : Prop where
  bext : Same B (unlend b B' F)
  sub : Same (unlend b B' F) H'
  keep : ∀ q, H q ≠ none → q ∉ f0 → q ∉ g → H' q = H q
  bold : ∀ q, H q ≠ none → q ∉ f0 → q ∉ g → q ∉ F → unlend b B' F q = B q
  lent : ∀ q ∈ F, unlend b B' F q = none
  kind : b = true → ∀ a ∈ F, ∀ o, B' a = some o → ownKind o = true
theorem left_of {b : Bool} {B H B' H' : Hp} {F f0 g fa S : List Addr} (s : Same B H) (oF : ∀ q ∈ F, B q = none) (lF : ∀ q ∈ F, ∃ o, H q = some o ∧ ownKind o = true) (d0 : ∀ q ∈ F, q ∉ f0 ∧ q ∉ g) (hfa : ∀ q, q ∈ fa ↔ q ∈ f0 ∨ q ∈ g) (s' : Same B' H') (st : Step (lend b B H F) H fa B' H' S)
    : Left b B H F f0 g B' H' S := by
  have nf : ∀ q ∈ F, q ∉ fa := fun q hq z => ((hfa q).mp z).elim (d0 q hq).1 (d0 q hq).2
  have lv : ∀ q ∈ F, H q ≠ none := fun q hq => by
    obtain ⟨o, h, _⟩ := lF q hq
    simp [h]
  refine ⟨fun a o h => ?_, fun a o h => s' a o (unlend_sub a o h), fun q h n1 n2 => ?_, fun q h n1 n2 n3 => ?_, fun q hq => ?_, fun hb a ha o h => ?_⟩
  · have hF : a ∉ F := fun z => by rw [oF a z] at h; cases h
    rw [unlend_out hF]
    exact st.bext a o (by rw [lend_out hF]; exact h)
  · cases e : H q with
    | none => exact absurd e h
    | some o => exact st.keep q o e fun z => ((hfa q).mp z).elim n1 n2
  · rw [unlend_out n3, st.bold q h fun z => ((hfa q).mp z).elim n1 n2, lend_out n3]
  · cases b with
    | true => exact ung_in hq
    | false =>
      show B' q = none
      rw [st.bold q (lv q hq) (nf q hq)]
      exact oF q hq
  · subst hb
    rw [st.bold a (lv a ha) (nf a ha)] at h
    obtain ⟨o', h1, h2⟩ := lF a ha
    have : lend true B H F a = H a := grd_in ha
    rw [this, h1] at h
    cases h
    exact h2
theorem relW_back {b : Bool} {B' H' : Hp} {F : List Addr} {w : W} {v : V} {f : List Addr} (hk : b = true → ∀ a ∈ F, ∀ o, B' a = some o → ownKind o = true) (hc : b = true → w.closed = true) (r : relW G B' H' w v f) : relW G (unlend b B' F) H' w v f := by
  cases b with
  | false => exact r
  | true => exact relW_ung (hk rfl) (hc rfl) r
theorem relE_back {b : Bool} {B' H' : Hp} {F : List Addr} {env : Env} {σ : St} {f : List Addr} (hk : b = true → ∀ a ∈ F, ∀ o, B' a = some o → ownKind o = true) (hc : b = true → outsClosed env = true) (r : relE G B' H' σ env f) : relE G (unlend b B' F) H' σ env f := by
  cases b with
  | false => exact r
  | true => exact relE_ung (hk rfl) (hc rfl) r
theorem bor_hF {B H : Hp} {F : List Addr} {as : List AW} : hasBor as = true → ∀ q ∈ F, lend (hasBor as) B H F q = H q := fun h q hq => by
  rw [h]
  exact grd_in hq
theorem sim_call0 (hn : ∀ ws r, mf ws = some r → ws.length = n) (ha : SimA G p Wx ta ma) : Sim G true p Wx (rW G) (fun σ H Q => ta σ H fun vs H1 => spOf G n mf vs H1 Q (WE Wx σ)) (ma.bind fun as => callK0 mf as) := by
  intro B H σ env fp O Q c
  refine ha B H σ env fp O _ ?_
  unfold ME.bind at c
  cases e1 : ma env with
  | none => rw [e1] at c; exact c
  | some r1 =>
    obtain ⟨r1, env1⟩ := r1
    rw [e1] at c
    cases r1 with
    | ex x => exact c
    | ok as =>
      intro vs H1 B1 f0 fp1 P
      simp only [callK0] at c
      cases hno : ioOf as with
      | some q => rw [hno] at c; exact c.elim
      | none =>
        rw [hno] at c
        simp only at c
        cases e2 : argWs env1 none as with
        | none => rw [e2] at c; exact c.elim
        | some ws =>
          rw [e2] at c
          simp only at c
          cases e3 : mf ws with
          | none => rw [e3] at c; exact c.elim
          | some ro =>
            obtain ⟨r, outs⟩ := ro
            rw [e3] at c
            simp only at c
            obtain ⟨nd0, dis0⟩ := P.own
            have liveE := relE_live P.ok.rel
            have live0 := relAs_live P.rel
            have oE := P.ok.out
            obtain ⟨fa, ra, hfa, nda⟩ := argWs_rel (B2 := lend (hasBor as) B1 H1 fp1) (vio := .non) (gio := []) P.ok.sub P.ok.rel (lend_ext oE) (fun _ h => by cases h) bor_hF P.rel e2 (fun i p h => by rw [hno] at h; cases h) fun _ => rfl
            have hfa0 : ∀ q, q ∈ fa ↔ q ∈ f0 ∨ q ∈ ([] : List Addr) := hfa
            have clr : hasBor as = true → resClosed r = true := fun hb => by
              rw [hb] at c
              cases e : resClosed r with
              | true => rfl
              | false => rw [e] at c; exact c.elim
            have c : Cont G true p (rW G) Wx B H σ env fp (some (r, env1)) Q := by
              split at c
              · exact c.elim
              · exact c
            refine ⟨by rw [← relWs_length ra]; exact hn ws _ e3, lend (hasBor as) B1 H1 fp1, ws, fa, lend_sub P.ok.sub, ra, nda nd0 List.nodup_nil (by simp), fun q hq => ?_, ?_⟩
            · have hq0 : q ∈ f0 := by simpa using (hfa q).mp hq
              rw [lend_out (dis0 q hq0)]
              exact P.out q hq0
            · rw [e3]
              have key : ∀ {H' B' : Hp} {S : List Addr}, Same B' H' → Step (lend (hasBor as) B1 H1 fp1) H1 fa B' H' S → Left (hasBor as) B1 H1 fp1 f0 [] B' H' S ∧ Ok G (unlend (hasBor as) B' fp1) H' σ env1 fp1 ∧ Step B H fp (unlend (hasBor as) B' fp1) H' (S ++ fp1) := fun {H' B' S} s' st => by
                have L := left_of P.ok.sub oE (relE_kind P.ok.rel) (fun q hq => ⟨fun z => dis0 q z hq, by simp⟩) hfa0 s' st
                have kE : ∀ q ∈ fp1, H' q = H1 q := fun q hq => L.keep q (liveE q hq) (fun z => dis0 q z hq) (by simp)
                refine ⟨L, ⟨L.sub, relE_frame L.bext P.ok.rel kE, P.ok.nd, L.lent⟩, ⟨fun a o h nf => ?_, fun a o h => L.bext a o (P.step.bext a o h), fun a h nf => ?_, fun a ha => ?_, fun a h => st.live a (P.step.live a h)⟩⟩
                · have h1 := P.step.keep a o h nf
                  have n0 : a ∉ f0 := fun z => by
                    rcases P.step.new a (by simp [z]) with y | y
                    · exact nf y
                    · rw [h] at y; cases y
                  rw [L.keep a (by simp [h1]) n0 (by simp)]
                  exact h1
                · have n0 : a ∉ f0 ++ fp1 := fun z => by
                    rcases P.step.new a z with y | y
                    · exact nf y
                    · exact h y
                  simp only [List.mem_append, not_or] at n0
                  rw [L.bold a (P.step.live a h) n0.1 (by simp) n0.2]
                  exact P.step.bold a h nf
                · rcases List.mem_append.mp ha with ha | ha
                  · rcases st.new a ha with z | z
                    · exact P.step.new a (by have := (hfa a).mp z; simp at this; simp [this])
                    · exact .inr (none_back P.step.live z)
                  · exact P.step.new a (by simp [ha])
              cases r with
              | ok w =>
                intro v H' B' fr f2 s' rw' ro nd out st
                obtain ⟨L, O3, S3⟩ := key s' (st.mono (T := fr) fun q hq => by simp [hq])
                refine c v H' (unlend (hasBor as) B' fp1) fr fp1 ⟨O3, relW_back L.kind (fun hb => clr hb) rw', fun q hq => ?_, S3, fun _ => ⟨(List.nodup_append.mp nd).1, fun q hq z => ?_⟩, fun hp => ?_⟩
                · have := out q (by simp [hq])
                  cases e : unlend (hasBor as) B' fp1 q with
                  | none => rfl
                  | some o => rw [unlend_sub q o e] at this; cases this
                · rcases st.new q (by simp [hq]) with y | y
                  · exact dis0 q (by simpa using (hfa q).mp y) z
                  · exact liveE q z y
                · obtain ⟨a1, a2, a3, a4⟩ := P.pure hp
                  have nf0 : ∀ q, H q ≠ none → q ∉ f0 := fun q h z => by
                    rcases P.step.new q (by simp [z]) with y | y
                    · exact dis0 q z (by rw [a4]; exact y)
                    · exact h y
                  refine ⟨fun q o h => ?_, fun q h => ?_, a3, a4⟩
                  · have h1 := a1 q o h
                    rw [L.keep q (by simp [h1]) (nf0 q (by simp [h])) (by simp)]
                    exact h1
                  · by_cases hq : q ∈ fp1
                    · rw [L.lent q hq]
                      exact (O.out q (by rw [← a4]; exact hq)).symm
                    · rw [L.bold q (P.step.live q h) (nf0 q h) (by simp) hq]
                      exact a2 q h
              | ex x =>
                intro cls d H' B' f2 s' ro nd out st hx hd
                obtain ⟨L, O3, S3⟩ := key s' (st.mono (T := []) fun q hq => by simp at hq)
                refine c cls d H' (unlend (hasBor as) B' fp1) fp1 O3 S3 hx fun dd e => ?_
                obtain ⟨b1, b2, b3⟩ := hd dd e
                refine ⟨?_, fun z => liveE dd z b3, none_back P.step.live b3⟩
                cases e : unlend (hasBor as) B' fp1 dd with
                | none => rfl
                | some o => rw [unlend_sub dd o e] at b1; cases b1
theorem ioOf_at {B H : Hp} {σ : St} : ∀ {as : List AW} {vs : List V} {f : List Addr} {i : Nat} {pa : Path}, relAs G B H σ as vs f → ioOf as = some (i, pa) → ∃ v, vs[i]? = some v ∧ locE H σ pa v
  | [], _, _, _, _, _, e => by cases e
  | .own w :: as, vs, f, i, pa, r, e => by
    obtain ⟨v, rr, f1, f2, rfl, r1, r2, rfl⟩ := r
    simp only [ioOf, Option.map_eq_some_iff] at e
    obtain ⟨⟨j, q⟩, e1, e2⟩ := e
    cases e2
    obtain ⟨v', h1, h2⟩ := ioOf_at r2 e1
    exact ⟨v', by simpa using h1, h2⟩
  | .bor w :: as, vs, f, i, pa, r, e => by
    obtain ⟨v, rr, f1, f2, rfl, r1, r2, rfl⟩ := r
    simp only [ioOf, Option.map_eq_some_iff] at e
    obtain ⟨⟨j, q⟩, e1, e2⟩ := e
    cases e2
    obtain ⟨v', h1, h2⟩ := ioOf_at r2 e1
    exact ⟨v', by simpa using h1, h2⟩
  | .io w :: as, vs, f, i, pa, r, e => by
    obtain ⟨v, rr, f1, f2, rfl, r1, r2, rfl⟩ := r
    simp only [ioOf, Option.some.injEq, Prod.mk.injEq] at e
    obtain ⟨rfl, rfl⟩ := e
    exact ⟨v, rfl, r1.1⟩
/-- a relation of arguments where one place is not known any more -/
theorem relAs_env {B H : Hp} {σ : St} {as : List AW} {vs : List V} {f : List Addr} (r : relAs G B H σ as vs f) : relAs G B H σ as vs f := r
theorem sim_call1 (hn : ∀ ws r, mf ws = some r → ws.length = n) (ha : SimA G p Wx ta ma) : Sim G true false Wx (rW G) (fun σ H Q => ta σ H fun vs H1 => spOf G n mf vs H1 Q (WE Wx σ)) (ma.bind fun as => match ioOf as with
    | none => ME.stuck
    | some (i, pa) => if ioCount as = 1 then callK1 mf as i pa else ME.stuck) := by
  intro B H σ env fp O Q c
  refine ha B H σ env fp O _ ?_
  unfold ME.bind at c
  cases e1 : ma env with
  | none => rw [e1] at c; exact c
  | some r1 =>
    obtain ⟨r1, env1⟩ := r1
    rw [e1] at c
    cases r1 with
    | ex x => exact c
    | ok as =>
      intro vs H1 B1 f0 fp1 P
      simp only at c
      cases hio : ioOf as with
      | none => rw [hio] at c; exact c.elim
      | some q =>
        obtain ⟨i, pa⟩ := q
        rw [hio] at c
        simp only at c
        by_cases hcount : ioCount as = 1
        · rw [if_pos hcount] at c
          obtain ⟨vio, hvio, lio⟩ := ioOf_at P.rel hio
          simp only [callK1] at c
          cases eg : getE env1 pa with
          | none => rw [eg] at c; exact c.elim
          | some wio =>
            rw [eg] at c
            simp only at c
            cases e2 : argWs (env1.set pa.1 none) (some wio) as with
            | none => rw [e2] at c; exact c.elim
            | some ws =>
              rw [e2] at c
              simp only at c
              cases e3 : mf ws with
              | none => rw [e3] at c; exact c.elim
              | some ro =>
                obtain ⟨r, outs⟩ := ro
                rw [e3] at c
                simp only at c
                obtain ⟨g1, g, g2, F, rfl, rg, rF, subF, back⟩ := relE_zip2 P.ok.sub P.ok.rel eg lio
                obtain ⟨nd0, dis0⟩ := P.own
                have ndE := P.ok.nd
                simp only [List.nodup_append, List.mem_append] at ndE
                obtain ⟨n1, ⟨n2, n3, n4⟩, n5⟩ := ndE
                have liveE := relE_live P.ok.rel
                have live0 := relAs_live P.rel
                have oE := P.ok.out
                have Fsub : ∀ q ∈ F, q ∈ g1 ++ (g ++ g2) := fun q hq => by
                  rcases subF q hq with z | z <;> simp [z]
                have Fg : ∀ q ∈ F, q ∉ g := fun q hq z => by
                  rcases subF q hq with y | y
                  · exact n5 q y q (.inl z) rfl
                  · exact n4 q z q y rfl
                have oF : ∀ q ∈ F, B1 q = none := fun q hq => oE q (Fsub q hq)
                have dF : ∀ q ∈ F, q ∉ f0 ∧ q ∉ g := fun q hq => ⟨fun z => dis0 q z (Fsub q hq), Fg q hq⟩
                obtain ⟨fa, ra, hfa, nda⟩ := argWs_rel (B2 := lend (hasBor as) B1 H1 F) (vio := vio) (gio := g) P.ok.sub rF (lend_ext oF) (fun w h => by cases h; exact relW_frame (lend_ext oF) rg fun _ _ => rfl) bor_hF P.rel e2 (fun j p h => by
                  rw [hio] at h
                  cases h
                  exact ⟨hcount, hvio⟩) fun h => by rw [hio] at h; cases h
                have clr : hasBor as = true → resClosed r = true ∧ outsClosed outs = true := fun hb => by
                  rw [hb] at c
                  cases e : (resClosed r && outsClosed outs) with
                  | true => simpa using e
                  | false => rw [e] at c; exact c.elim
                have c : Cont G true false (rW G) Wx B H σ env fp (match outs[i]? with
                    | some (some w') => (setE env1 pa w').map fun e => (r, e)
                    | _ => none) Q := by
                  split at c
                  · exact c.elim
                  · exact c
                refine ⟨by rw [← relWs_length ra]; exact hn ws _ e3, lend (hasBor as) B1 H1 F, ws, fa, lend_sub P.ok.sub, ra, nda nd0 n2 (fun q hq z => dis0 q hq (by simp [z])), fun q hq => ?_, ?_⟩
                · rcases (hfa q).mp hq with z | z
                  · rw [lend_out fun y => (dF q y).1 z]
                    exact P.out q z
                  · rw [lend_out fun y => (dF q y).2 z]
                    exact oE q (by simp [z])
                · rw [e3]
                  cases eo : outs[i]? with
                  | none => rw [eo] at c; exact c.elim
                  | some o =>
                    cases o with
                    | none => rw [eo] at c; exact c.elim
                    | some w' =>
                      rw [eo] at c
                      simp only at c
                      have key : ∀ {H' B' : Hp} {S f2 : List Addr}, Same B' H' → Step (lend (hasBor as) B1 H1 F) H1 fa B' H' (S ++ f2) → relE G B' H' (vs.map some) outs f2 → (S ++ f2).Nodup → (∀ q ∈ S ++ f2, B' q = none) →
                          Left (hasBor as) B1 H1 F f0 g B' H' (S ++ f2) ∧ ∃ env3 fp3, setE env1 pa w' = some env3 ∧ Ok G (unlend (hasBor as) B' F) H' σ env3 fp3 ∧ Step B H fp (unlend (hasBor as) B' F) H' (S ++ fp3) ∧ (∀ q ∈ S, q ∉ fp3) ∧ ∀ q ∈ fp3, q ∈ f2 ∨ H1 q ≠ none := fun {H' B' S f2} s' st ro nd out => by
                        have L := left_of P.ok.sub oF (fun q hq => relE_kind P.ok.rel q (Fsub q hq)) dF hfa s' st
                        have ro' := relE_back L.kind (fun hb => (clr hb).2) ro
                        obtain ⟨o1, o2, s1, oo, s2, h1, g', h2, eouts, evs, l1, l2, rfl, _, ⟨vv, ev, rv⟩, _⟩ := relE_split ro' eo
                        have evv : vv = vio := by
                          have hx : (vs.map some)[i]? = some oo := by rw [evs]; exact get_mid l2
                          rw [List.getElem?_map, hvio, ev] at hx
                          exact (Option.some.inj (Option.some.inj hx)).symm
                        subst evv
                        have kE : ∀ q, q ∈ g1 ∨ q ∈ g2 → H' q = H1 q := fun q hq => L.keep q (liveE q (by rcases hq with z | z <;> simp [z])) (fun z => dis0 q z (by rcases hq with y | y <;> simp [y])) (fun z => by
                          rcases hq with y | y
                          · exact n5 q y q (.inl z) rfl
                          · exact n4 q z q y rfl)
                        obtain ⟨env3, e5, rE⟩ := back (unlend (hasBor as) B' F) H' w' g' L.bext (fun q hq => kE q (.inl hq)) (fun q hq => kE q (.inr hq)) rv
                        have outB : ∀ q ∈ S ++ (h1 ++ (g' ++ h2)), unlend (hasBor as) B' F q = none := fun q hq => by
                          have := out q hq
                          cases e : unlend (hasBor as) B' F q with
                          | none => rfl
                          | some o => rw [unlend_sub q o e] at this; cases this
                        simp only [List.nodup_append, List.mem_append] at nd
                        obtain ⟨m1, ⟨m2, ⟨m3, m4, m5⟩, m6⟩, m7⟩ := nd
                        -- what the callee tells is not the caller's else
                        have fresh : ∀ q, q ∈ S ∨ q ∈ h1 ∨ q ∈ g' ∨ q ∈ h2 → q ∉ g1 ∧ q ∉ g2 := fun q hq => by
                          rcases st.new q (by simp only [List.mem_append]; grind) with y | y
                          · rcases (hfa q).mp y with z | z
                            · exact ⟨fun y => dis0 q z (by simp [y]), fun y => dis0 q z (by simp [y])⟩
                            · exact ⟨fun y => n5 q y q (.inl z) rfl, fun y => n4 q z q y rfl⟩
                          · exact ⟨fun z => liveE q (by simp [z]) y, fun z => liveE q (by simp [z]) y⟩
                        have newS : ∀ q, q ∈ S ∨ q ∈ h1 ∨ q ∈ g' ∨ q ∈ h2 → q ∈ fp ∨ H q = none := fun q hq => by
                          rcases st.new q (by simp only [List.mem_append]; grind) with y | y
                          · rcases (hfa q).mp y with z | z
                            · exact P.step.new q (by simp [z])
                            · exact P.step.new q (by simp [z])
                          · exact .inr (none_back P.step.live y)
                        refine ⟨L, env3, g1 ++ (g' ++ g2), e5, ⟨L.sub, rE, ?_, fun q hq => ?_⟩, ⟨fun a o h nf => ?_, fun a o h => L.bext a o (P.step.bext a o h), fun a h nf => ?_, fun a ha => ?_, fun a h => st.live a (P.step.live a h)⟩, fun q hq z => ?_, fun q hq => ?_⟩
                        · refine List.nodup_append.mpr ⟨n1, List.nodup_append.mpr ⟨m3, n3, fun a ha b hb e => ?_⟩, fun a ha b hb e => ?_⟩
                          · subst e
                            exact (fresh a (.inr (.inr (.inl ha)))).2 hb
                          · subst e
                            rcases List.mem_append.mp hb with hb | hb
                            · exact (fresh a (.inr (.inr (.inl hb)))).1 ha
                            · exact n5 a ha a (.inr hb) rfl
                        · simp only [List.mem_append] at hq
                          have old : ∀ q, q ∈ g1 ∨ q ∈ g2 → unlend (hasBor as) B' F q = none := fun q hq => by
                            have lq : q ∈ g1 ++ (g ++ g2) := by rcases hq with z | z <;> simp [z]
                            by_cases hF : q ∈ F
                            · exact L.lent q hF
                            · rw [L.bold q (liveE q lq) (fun z => dis0 q z lq) (fun z => by
                                rcases hq with y | y
                                · exact n5 q y q (.inl z) rfl
                                · exact n4 q z q y rfl) hF]
                              exact oE q lq
                          rcases hq with hq | hq | hq
                          · exact old q (.inl hq)
                          · exact outB q (by simp [hq])
                          · exact old q (.inr hq)
                        · have h1 := P.step.keep a o h nf
                          have na : a ∉ f0 ++ (g1 ++ (g ++ g2)) := fun z => by
                            rcases P.step.new a z with y | y
                            · exact nf y
                            · rw [h] at y; cases y
                          simp only [List.mem_append, not_or] at na
                          rw [L.keep a (by simp [h1]) na.1 na.2.2.1]
                          exact h1
                        · have na : a ∉ f0 ++ (g1 ++ (g ++ g2)) := fun z => by
                            rcases P.step.new a z with y | y
                            · exact nf y
                            · exact h y
                          have nF : a ∉ F := fun z => na (List.mem_append_right _ (Fsub a z))
                          simp only [List.mem_append, not_or] at na
                          rw [L.bold a (P.step.live a h) na.1 na.2.2.1 nF]
                          exact P.step.bold a h nf
                        · simp only [List.mem_append] at ha
                          rcases ha with ha | ha | ha | ha
                          · exact newS a (.inl ha)
                          · exact P.step.new a (by simp [ha])
                          · exact newS a (.inr (.inr (.inl ha)))
                          · exact P.step.new a (by simp [ha])
                        · simp only [List.mem_append] at z
                          have fr := fresh q (.inl hq)
                          rcases z with z | z | z
                          · exact fr.1 z
                          · exact m7 q hq q (.inr (.inl z)) rfl
                          · exact fr.2 z
                        · simp only [List.mem_append] at hq
                          rcases hq with hq | hq | hq
                          · exact .inr (liveE q (by simp [hq]))
                          · exact .inl (by simp [hq])
                          · exact .inr (liveE q (by simp [hq]))
                      cases r with
                      | ok w =>
                        intro v H' B' fr f2 s' rw' ro nd out st
                        obtain ⟨L, env3, fp3, e5, O3, S3, dis3, _⟩ := key s' st ro nd out
                        rw [e5] at c
                        refine c v H' (unlend (hasBor as) B' F) fr fp3 ⟨O3, relW_back L.kind (fun hb => (clr hb).1) rw', fun q hq => ?_, S3, fun _ => ⟨(List.nodup_append.mp nd).1, dis3⟩, fun hp => Bool.noConfusion hp⟩
                        have := out q (by simp [hq])
                        cases e : unlend (hasBor as) B' F q with
                        | none => rfl
                        | some o => rw [unlend_sub q o e] at this; cases this
                      | ex x =>
                        intro cls d H' B' f2 s' ro nd out st hx hd
                        obtain ⟨L, env3, fp3, e5, O3, S3, dis3, sub3⟩ := key (S := []) s' (by simpa using st) ro (by simpa using nd) (by simpa using out)
                        rw [e5] at c
                        refine c cls d H' (unlend (hasBor as) B' F) fp3 O3 (by simpa using S3) hx fun dd e => ?_
                        obtain ⟨b1, b2, b3⟩ := hd dd e
                        refine ⟨?_, fun z => ?_, none_back P.step.live b3⟩
                        · cases e : unlend (hasBor as) B' F dd with
                          | none => rfl
                          | some o => rw [unlend_sub dd o e] at b1; cases b1
                        · rcases sub3 dd z with y | y
                          · exact b2 y
                          · exact y b3
        · rw [if_neg hcount] at c
          exact c.elim
end
end AM

set_option Elab.async false
set_option linter.all false
set_option maxRecDepth 100000
/-! Affine mirror, part 15: a def from its body; the rules of a call. -/
namespace AM
open PySem L2 PyProof.Rows

/-- which slots are never stored to: the in-out arguments -/
def pinOf (n : Nat) (nio : List Nat) : Nat → Bool := fun i => decide (i < n) && !(nio.contains i)
def fnM (n total : Nat) (nio : List Nat) (body : MS) : MF := fun ws => if ws.length = n then
    match body (ws.map some ++ List.replicate (total - n) none) with
    | some (.ok (.rt w), e) => if e.length = total then some (.ok w, (wipeE e nio).take n) else none
    | some (.ok .nx, e) => if e.length = total then some (.ok (.sh .non), (wipeE e nio).take n) else none
    | some (.ex x, e) => if e.length = total then some (.ex x, (wipeE e nio).take n) else none
    | _ => none
  else none
theorem fnM_len {n total : Nat} {nio : List Nat} {body : MS} : ∀ ws r, fnM n total nio body ws = some r → ws.length = n := fun ws r h => by
  unfold fnM at h
  split at h
  · assumption
  · cases h
section
variable {G : GX} {B H : Hp}
theorem relE_start : ∀ {ws : List W} {vs : List V} {fp : List Addr} (m : Nat), relWs G B H ws vs fp → relE G B H (vs.map some ++ List.replicate m none) (ws.map some ++ List.replicate m none) fp
  | [], vs, fp, m, h => by
    simp only [relWs] at h
    obtain ⟨rfl, rfl⟩ := h
    simp only [List.map_nil, List.nil_append]
    induction m with
    | zero => exact ⟨rfl, rfl⟩
    | succ m ih =>
      rw [List.replicate_succ]
      exact ⟨none, _, [], [], rfl, rfl, ih, rfl⟩
  | w :: ws, vs, fp, m, h => by
    simp only [relWs] at h
    obtain ⟨v, r, g1, g2, rfl, h1, h2, rfl⟩ := h
    exact ⟨some v, _, g1, g2, rfl, ⟨v, rfl, h1⟩, relE_start m h2, rfl⟩
theorem relE_take : ∀ {env : Env} {σ : L2.St} {f : List Addr} (n : Nat), relE G B H σ env f → ∃ f', relE G B H (σ.take n) (env.take n) f' ∧ (∀ q ∈ f', q ∈ f) ∧ (f.Nodup → f'.Nodup)
  | env, σ, f, 0, _ => ⟨[], by simp [relE], by simp, fun _ => List.nodup_nil⟩
  | [], σ, f, n + 1, h => by
    obtain ⟨rfl, rfl⟩ := h
    exact ⟨[], by simp [relE], by simp, fun _ => List.nodup_nil⟩
  | w :: env, σ, f, n + 1, h => by
    obtain ⟨o, τ, f1, f2, rfl, h2, h3, rfl⟩ := h
    obtain ⟨f', h4, h5, h6⟩ := relE_take n h3
    refine ⟨f1 ++ f', ⟨o, τ.take n, f1, f', by simp, h2, h4, rfl⟩, fun q hq => ?_, fun hn => ?_⟩
    · simp only [List.mem_append] at hq ⊢
      exact hq.imp id (h5 q)
    · simp only [List.nodup_append] at hn ⊢
      exact ⟨hn.1, h6 hn.2.1, fun a ha b hb => hn.2.2 a ha b (h5 b hb)⟩
/-- what the in-out arguments are behind a body -/
theorem outs_rel {σ : L2.St} {env : Env} {f : List Addr} {vs : List V} {n : Nat} {nio : List Nat} (r : relE G B H σ env f) (hl : vs.length = n) (hs : n ≤ σ.length) (pin : ∀ i, pinOf n nio i = true → σ[i]? = (vs.map some)[i]?) :
    ∃ f', relE G B H (vs.map some) ((wipeE env nio).take n) f' ∧ (∀ q ∈ f', q ∈ f) ∧ (f.Nodup → f'.Nodup) := by
  obtain ⟨f1, r1, s1, n1⟩ := relE_wipe r nio
  obtain ⟨f2, r2, s2, n2⟩ := relE_take n r1
  refine ⟨f2, relE_congr r2 (by simp [hl]; omega) fun i w e => ?_, fun q hq => s1 q (s2 q hq), fun h => n2 (n1 h)⟩
  have hi : i < n := by
    have := (List.getElem?_eq_some_iff.mp e).1
    rw [List.length_take] at this
    omega
  rw [List.getElem?_take_of_lt hi] at e ⊢
  have hni : i ∉ nio := fun h => by
    rcases wipeE_in (env := env) h with z | z <;> rw [e] at z <;> cases z
  exact (pin i (by simp [pinOf, hi, hni])).symm
end
section
variable {P : Program} {w : World} {K : PySem.W.Frag} {mg : Str → Option Value} {base : Heap}
theorem fn_ok {x qual : Str} {st : Stmt} {f : Addr} {fd : FuncData} {N ps : List Str} {k n : Nat} {nio : List Nat} {body : MS} (F : Fun K x qual st f fd) (S : FnScope N ps (defScope st)) (hn : ps.length = n) (hN : n ≤ N.length)
    (hbody : ∀ (cdv : Value) (A : Around) (outer : List PySem.Env) (s : Shared) (H : Hp) (E : XK), Room k (A.deeper (envOfC qual (defScope st) s.heap.objs.size f cdv)) →
      SSs (cxOf (L2.CX P w) P w K mg base N qual (defScope st) f cdv A outer s H E) (pinOf n nio) (fun cls d _ H' => E cls d H') (defBody st) body) :
    FnOk P w K mg base (L2.CX P w) (k + 1) f fd ps (spOf ⟨K, mg⟩ n (fnM n N.length nio body)) := by
  refine F.okX S (fun vs H Q E h => h.1.trans hn.symm) fun cdv A outer s H vs Q E hr h => ?_
  obtain ⟨t, pt, sim⟩ := hbody cdv A outer s H E hr
  refine ⟨t, pt, ?_⟩
  obtain ⟨hl, B, ws, fp, sub, rw', nd, out, c⟩ := h
  have hlw : ws.length = n := by rw [relWs_length rw', hl]
  unfold fnM at c
  rw [if_pos hlw] at c
  have rE : relE ⟨K, mg⟩ B H (start N vs) (ws.map some ++ List.replicate (N.length - n) none) fp := by
    unfold L2.start
    rw [hl]
    exact relE_start _ rw'
  refine sim B H (start N vs) _ fp ⟨sub, rE, nd, out⟩ _ ?_
  have hst : (start N vs).length = N.length := by
    unfold L2.start
    simp [hl]
    omega
  have pin0 : ∀ i, pinOf n nio i = true → (start N vs)[i]? = (vs.map some)[i]? := fun i hi => by
    have : i < n := by
      simp [pinOf] at hi
      exact hi.1
    unfold L2.start
    rw [List.getElem?_append_left (by simp [hl]; exact this)]
  cases e : body (ws.map some ++ List.replicate (N.length - n) none) with
  | none => rw [e] at c; exact c
  | some r =>
    obtain ⟨r, env'⟩ := r
    rw [e] at c
    have outs : ∀ {σ' : L2.St} {H' B' : Hp} {f0 fp2 : List Addr}, PostS ⟨K, mg⟩ (pinOf n nio) B H (start N vs) fp env' σ' H' B' f0 fp2 → env'.length = N.length → ∃ f', relE ⟨K, mg⟩ B' H' (vs.map some) ((wipeE env' nio).take n) f' ∧ (∀ q ∈ f', q ∈ fp2) ∧ (fp2.Nodup → f'.Nodup) := fun Pq hlen =>
      outs_rel Pq.ok.rel hl (by rw [relE_length Pq.ok.rel]; omega) fun i hi => (Pq.pin i hi).trans (pin0 i hi)
    have fin : ∀ {σ' : L2.St} {H' B' : Hp} {f0 fp2 : List Addr} {w : W} {v : V}, PostS ⟨K, mg⟩ (pinOf n nio) B H (start N vs) fp env' σ' H' B' f0 fp2 → env'.length = N.length → relW ⟨K, mg⟩ B' H' w v f0 → (∀ q ∈ f0, B' q = none) → f0.Nodup → (∀ q ∈ f0, q ∉ fp2) →
        (∀ v H' B' f0 f2, Same B' H' → relW ⟨K, mg⟩ B' H' w v f0 → relE ⟨K, mg⟩ B' H' (vs.map some) ((wipeE env' nio).take n) f2 → (f0 ++ f2).Nodup → (∀ q ∈ f0 ++ f2, B' q = none) → Step B H fp B' H' (f0 ++ f2) → Q v H') → Q v H' := fun {σ' H' B' f0 fp2 w v} Pq hlen rv ov nv dv c => by
      obtain ⟨f', r1, s1, n1⟩ := outs Pq hlen
      refine c v H' B' f0 f' Pq.ok.sub rv r1 (List.nodup_append.mpr ⟨nv, n1 Pq.ok.nd, fun a ha b hb e => ?_⟩) (fun q hq => ?_) (Pq.step.mono fun q hq => ?_)
      · subst e
        exact dv a ha (s1 a hb)
      · rcases List.mem_append.mp hq with hq | hq
        · exact ov q hq
        · exact Pq.ok.out q (s1 q hq)
      · simp only [List.mem_append] at hq ⊢
        exact hq.imp id (s1 q)
    cases r with
    | ex x =>
      simp only at c
      by_cases hlen : env'.length = N.length
      · rw [if_pos hlen] at c
        intro cls d σ' H' B' fp2 Pq hx hd
        obtain ⟨f', r1, s1, n1⟩ := outs Pq hlen
        refine c cls d H' B' f' Pq.ok.sub r1 (n1 Pq.ok.nd) (fun q hq => Pq.ok.out q (s1 q hq)) (Pq.step.mono fun q hq => by simpa using s1 q hq) hx fun dd e => ?_
        obtain ⟨a1, a2, a3⟩ := hd dd e
        exact ⟨a1, fun z => a2 (s1 dd z), a3⟩
      · rw [if_neg hlen] at c
        exact c.elim
    | ok fl =>
      cases fl with
      | nx =>
        simp only at c
        by_cases hlen : env'.length = N.length
        · rw [if_pos hlen] at c
          intro σ' H' B' fp2 Pq
          exact fin (v := .non) Pq hlen (by simp [relW, repD]) (by simp) List.nodup_nil (by simp) c
        · rw [if_neg hlen] at c
          exact c.elim
      | bk => exact c.elim
      | ct => exact c.elim
      | rt w =>
        simp only at c
        by_cases hlen : env'.length = N.length
        · rw [if_pos hlen] at c
          intro v σ' H' B' f0 fp2 Pq rv ov nv dv
          exact fin Pq hlen rv ov nv dv c
        · rw [if_neg hlen] at c
          exact c.elim
/-- a def that stands at a name, by what it does -/
structure Df (P : Program) (w : World) (K : PySem.W.Frag) (mg : Str → Option Value) (base : Heap) (x : Str) (n : Nat) (mf : MF) (j : Nat) : Prop where
  ex : ∃ (f : Addr) (fd : FuncData) (ps : List Str), FnOk P w K mg base (L2.CX P w) j f fd ps (spOf ⟨K, mg⟩ n mf) ∧ mg x = some (.ref f) ∧ PySem.W.keepIn K (.ref f) = true ∧ Binds K fd ps []
  len : ∀ ws r, mf ws = some r → ws.length = n
end
section
variable {X : Cx} {Wx : WX} {p : Bool} {x : Str} {n j k : Nat} {mf : MF} {e : Expr} {es : List Expr} {ma : ME (List AW)} {pp pos : Pos}
theorem se_call0 (tk : Takes X Wx) (D : Df X.prog X.w X.K X.mg X.base x n mf j) (hr : Room j X.A) (hg : Gl X x) (ha : SAw X Wx p (e :: es) ma) (hdb : (x == ("__debug__" : Str)) = false := by decide)
    (he : starEach (e :: es) X.env = (false, eval e X.env) :: starEach es X.env := by rfl) (hpl : (backTo pos (starEach es X.env)).any (·.1) = false := by rfl) : SE X Wx true p (.Call (.Name x pp) (e :: es) [] pos) (ma.bind fun as => callK0 mf as) := by
  obtain ⟨f, fd, ps, F, hm, hk, hb⟩ := D.ex
  obtain ⟨ta, pa, sa⟩ := ha
  exact ⟨_, pe_callS F hr hg hm hk hb (fun σ => passAt tk σ) pa hdb he hpl, sim_call0 D.len sa⟩
theorem se_call1 (tk : Takes X Wx) (D : Df X.prog X.w X.K X.mg X.base x n mf j) (hr : Room j X.A) (hg : Gl X x) (ha : SAw X Wx p (e :: es) ma) (hdb : (x == ("__debug__" : Str)) = false := by decide)
    (he : starEach (e :: es) X.env = (false, eval e X.env) :: starEach es X.env := by rfl) (hpl : (backTo pos (starEach es X.env)).any (·.1) = false := by rfl) : SE X Wx true false (.Call (.Name x pp) (e :: es) [] pos) (ma.bind fun as => match ioOf as with
    | none => ME.stuck
    | some (i, pa) => if ioCount as = 1 then callK1 mf as i pa else ME.stuck) := by
  obtain ⟨f, fd, ps, F, hm, hk, hb⟩ := D.ex
  obtain ⟨ta, pa, sa⟩ := ha
  exact ⟨_, pe_callS F hr hg hm hk hb (fun σ => passAt tk σ) pa hdb he hpl, sim_call1 D.len sa⟩
end
end AM

set_option Elab.async false
set_option linter.all false
set_option maxRecDepth 100000
/-! Affine mirror, part 16: comprehensions as expressions; stores to items; isinstance. -/
namespace AM
open PySem L2 PyProof.Rows

/-! ### one reading for all frames of a block -/
theorem uni {γ : Type} {C : γ → TE → Prop} {S : TE → Prop} (h : ∀ c, ∃ t, C c t ∧ S t) (hS : S (fun σ H Q => ∀ c t, C c t → S t → t σ H Q)) (hC : ∀ c t t', C c t → (∀ σ H Q, t' σ H Q → t σ H Q) → C c t') : ∃ t, (∀ c, C c t) ∧ S t :=
  ⟨_, fun c => by
    obtain ⟨t, h1, h2⟩ := h c
    exact hC c t _ h1 fun σ H Q q => q c t h1 h2, hS⟩
theorem PE.weak {X : Cx} {e : Expr} {t t' : TE} (h : PE X e t) (k : ∀ σ H Q, t' σ H Q → t σ H Q) : PE X e t' := ⟨fun pins s σ H Q I q => h.run pins s σ H Q I (k σ H Q q)⟩
theorem PTs.weak {X : Cx} {es : List Expr} {t t' : TT} (h : PTs X es t) (k : ∀ σ H Q, t' σ H Q → t σ H Q) : PTs X es t' := ⟨fun pins s σ H Q I q => h.run pins s σ H Q I (k σ H Q q)⟩
theorem PG.weak {X : Cx} {e : Expr} {t t' : TG} (h : PG X e t) (k : ∀ v σ H Q, t' v σ H Q → t v σ H Q) : PG X e t' := ⟨fun pins s σ H v u Q I r q => h.run pins s σ H v u Q I r (k v σ H Q q)⟩
/-- the frames of a comprehension's block -/
structure BF where
  s : Shared
  H : Hp
  C : Addr
  cl : List (Str × Addr)
  fp : List Addr
abbrev BF.cx (b : BF) (X : Cx) (scope : Scope) : Cx := X.blk b.s b.H scope (compEnvC scope b.cl b.C X.env) b.fp
abbrev W0 : WX := fun _ _ _ _ => False
def STts (X : Cx) (Wx : WX) (p : Bool) (es : List Expr) (m : ME Bool) : Prop := ∃ t : TT, PTs X es t ∧ Sim (gx X) true p Wx (rEqv Bool) t m
section
variable {X : Cx} {Wx : WX} {k p q : Bool} {e elt tg iter c : Expr} {ifs : List Expr} {m me : ME W} {n mc : ME Bool} {mg : MG} {mi : ME (List D)} {vs : List Nat} {scope : Scope}
theorem sts_nil : STts X Wx true [] (ME.pure true) := ⟨_, pts_nil, sim_pureB⟩
theorem sts_one (h : STt X Wx p c n) : STts X Wx p [c] n := by
  obtain ⟨t, p1, s⟩ := h
  exact ⟨t, pts_one p1, s⟩
theorem uni_e (h : ∀ b : BF, SE (b.cx X scope) W0 k p e m) : ∃ t : TE, (∀ b : BF, PE (b.cx X scope) e t) ∧ Sim (gx X) k p W0 (rW (gx X)) t m := by
  refine ⟨fun σ H Q => ∀ (b : BF) (t : TE), PE (b.cx X scope) e t → Sim (gx X) k p W0 (rW (gx X)) t m → t σ H Q, fun b => ?_, fun B H σ env fp O Q c b t _ s => s B H σ env fp O Q c⟩
  obtain ⟨t, h1, h2⟩ := h b
  exact PE.weak h1 fun σ H Q q => q b t h1 h2
theorem uni_t (h : ∀ b : BF, STts (b.cx X scope) W0 p ifs n) : ∃ t : TT, (∀ b : BF, PTs (b.cx X scope) ifs t) ∧ Sim (gx X) true p W0 (rEqv Bool) t n := by
  refine ⟨fun σ H Q => ∀ (b : BF) (t : TT), PTs (b.cx X scope) ifs t → Sim (gx X) true p W0 (rEqv Bool) t n → t σ H Q, fun b => ?_, fun B H σ env fp O Q c b t _ s => s B H σ env fp O Q c⟩
  obtain ⟨t, h1, h2⟩ := h b
  exact PTs.weak h1 fun σ H Q q => q b t h1 h2
theorem uni_g {pn : Nat → Bool} (h : ∀ b : BF, SG (b.cx X scope) pn q tg mg) : ∃ t : TG, (∀ b : BF, PG (b.cx X scope) tg t) ∧ SimG (gx X) pn q t mg := by
  refine ⟨fun v σ H Q => ∀ (b : BF) (t : TG), PG (b.cx X scope) tg t → SimG (gx X) pn q t mg → t v σ H Q, fun b => ?_, fun B H σ env fp w v f0 O r o nd d Q c b t _ s => s B H σ env fp w v f0 O r o nd d Q c⟩
  obtain ⟨t, h1, h2⟩ := h b
  exact PG.weak h1 fun v σ H Q q => q b t h1 h2
variable {own : List (Str × Nat)} {pos spos py : Pos} {i : Nat} {y : Str} {pn : Nat → Bool}
theorem se_lc (hc : X.calm = true) (hN : X.N.Nodup) (hi : SI X Wx p tg iter mi) (ok : BlkOk X.N X.env.scope scope own) (hg : ∀ b : BF, SG (b.cx X scope) (offs (own.map (·.2))) q tg mg) (ht : ∀ b : BF, STts (b.cx X scope) W0 p ifs mc) (he : ∀ b : BF, SE (b.cx X scope) W0 true p elt me) (hs : ∀ x, foldedSetIterable iter X.env x = pure x := by intro _; rfl) :
    SE X Wx true false (.ListComp elt [⟨tg, iter, ifs, 0⟩] scope pos) (mComp mi mg mc me (own.map (·.2))) := by
  obtain ⟨ti, pi, si⟩ := hi
  obtain ⟨t1, p1, s1⟩ := uni_g hg
  obtain ⟨t2, p2, s2⟩ := uni_t ht
  obtain ⟨t3, p3, s3⟩ := uni_e he
  exact ⟨_, pe_lc hc hN pi ok (fun s H C cl fp => p1 ⟨s, H, C, cl, fp⟩) (fun s H C cl fp => p2 ⟨s, H, C, cl, fp⟩) (fun s H C cl fp => p3 ⟨s, H, C, cl, fp⟩) hs, sim_comp si s1 s2 s3⟩
theorem se_lcP (hc : X.calm = true) (hN : X.N.Nodup) (hi : SI X Wx p tg iter mi) (ok : BlkOk X.N X.env.scope scope own) (hg : ∀ b : BF, SG (b.cx X scope) (offs (own.map (·.2))) true tg mg) (ht : ∀ b : BF, STts (b.cx X scope) W0 true ifs mc) (he : ∀ b : BF, SE (b.cx X scope) W0 true true elt me) (hs : ∀ x, foldedSetIterable iter X.env x = pure x := by intro _; rfl) :
    SE X Wx true p (.ListComp elt [⟨tg, iter, ifs, 0⟩] scope pos) (mCompP mi mg mc me (own.map (·.2))) := by
  obtain ⟨ti, pi, si⟩ := hi
  obtain ⟨t1, p1, s1⟩ := uni_g hg
  obtain ⟨t2, p2, s2⟩ := uni_t ht
  obtain ⟨t3, p3, s3⟩ := uni_e he
  exact ⟨_, pe_lc hc hN pi ok (fun s H C cl fp => p1 ⟨s, H, C, cl, fp⟩) (fun s H C cl fp => p2 ⟨s, H, C, cl, fp⟩) (fun s H C cl fp => p3 ⟨s, H, C, cl, fp⟩) hs, sim_compP si s1 s2 s3⟩
/-- name = [.. for ..] -/
theorem ss_lc (hp : pn i = false) (hc : X.calm = true) (hN : X.N.Nodup) (hy : X.N[i]? = some y) (hyl : X.env.scope.names.lookup y = some .local)
    (hsw : swapsWith (.ListComp elt [⟨tg, iter, ifs, 0⟩] scope pos) (some (.Name y py)) spos.line X.env = pure true) (hi : SI X Wx p tg iter mi) (ok : BlkOk X.N X.env.scope scope own) (hg : ∀ b : BF, SG (b.cx X scope) (offs (own.map (·.2))) q tg mg) (ht : ∀ b : BF, STts (b.cx X scope) W0 p ifs mc) (he : ∀ b : BF, SE (b.cx X scope) W0 true p elt me) (hs : ∀ x, foldedSetIterable iter X.env x = pure x := by intro _; rfl) :
    SS X pn Wx (.Assign [.Name y py] (.ListComp elt [⟨tg, iter, ifs, 0⟩] scope pos) spos) (mAsg (mComp mi mg mc me (own.map (·.2))) (gSet i)) := by
  obtain ⟨ti, pi, si⟩ := hi
  obtain ⟨t1, p1, s1⟩ := uni_g hg
  obtain ⟨t2, p2, s2⟩ := uni_t ht
  obtain ⟨t3, p3, s3⟩ := uni_e he
  exact ⟨_, ps_setLc hc hN hy hyl hsw pi ok (fun s H C cl fp => p1 ⟨s, H, C, cl, fp⟩) (fun s H C cl fp => p2 ⟨s, H, C, cl, fp⟩) (fun s H C cl fp => p3 ⟨s, H, C, cl, fp⟩) hs, simS_asg (sim_comp si s1 s2 s3) (simG_name (qq := true) hp)⟩
theorem ss_lcP (hp : pn i = false) (hc : X.calm = true) (hN : X.N.Nodup) (hy : X.N[i]? = some y) (hyl : X.env.scope.names.lookup y = some .local)
    (hsw : swapsWith (.ListComp elt [⟨tg, iter, ifs, 0⟩] scope pos) (some (.Name y py)) spos.line X.env = pure true) (hi : SI X Wx p tg iter mi) (ok : BlkOk X.N X.env.scope scope own) (hg : ∀ b : BF, SG (b.cx X scope) (offs (own.map (·.2))) true tg mg) (ht : ∀ b : BF, STts (b.cx X scope) W0 true ifs mc) (he : ∀ b : BF, SE (b.cx X scope) W0 true true elt me) (hs : ∀ x, foldedSetIterable iter X.env x = pure x := by intro _; rfl) :
    SS X pn Wx (.Assign [.Name y py] (.ListComp elt [⟨tg, iter, ifs, 0⟩] scope pos) spos) (mAsg (mCompP mi mg mc me (own.map (·.2))) (gSet i)) := by
  obtain ⟨ti, pi, si⟩ := hi
  obtain ⟨t1, p1, s1⟩ := uni_g hg
  obtain ⟨t2, p2, s2⟩ := uni_t ht
  obtain ⟨t3, p3, s3⟩ := uni_e he
  exact ⟨_, ps_setLc hc hN hy hyl hsw pi ok (fun s H C cl fp => p1 ⟨s, H, C, cl, fp⟩) (fun s H C cl fp => p2 ⟨s, H, C, cl, fp⟩) (fun s H C cl fp => p3 ⟨s, H, C, cl, fp⟩) hs, simS_asg (sim_compP si s1 s2 s3) (simG_name (qq := true) hp)⟩
end
/-! ### x[i] = e -/
theorem relWs_set {G : GX} {B H : Hp} {ws : List W} {vs : List V} {f f0 : List Addr} {j : Nat} {w : W} {v : V} (r : relWs G B H ws vs f) (hj : j < ws.length) (r0 : relW G B H w v f0) : ∃ g', relWs G B H (ws.set j w) (vs.set j v) g' ∧ (∀ q ∈ g', q ∈ f ∨ q ∈ f0) ∧ (f.Nodup → f0.Nodup → (∀ q ∈ f0, q ∉ f) → g'.Nodup) := by
  have hx := List.getElem?_eq_getElem hj
  generalize ws[j] = w0 at hx
  obtain ⟨w1, w2, v1, u, v2, f1, g, f2, rfl, rfl, l1, l2, rfl, r1, r2, r3⟩ := relWs_split r hx
  refine ⟨f1 ++ (f0 ++ f2), ?_, fun q hq => ?_, fun n1 n2 n3 => ?_⟩
  · rw [set_mid l1, set_mid l2]
    exact relWs_join r1 r0 r3
  · simp only [List.mem_append] at hq ⊢
    grind
  · simp only [List.nodup_append, List.mem_append] at n1 n3 ⊢
    grind
def gSetI (ml : ME Path) (mi : ME W) : MG := fun w env => match ml env with
  | some (.ok path, env1) => match mi env1 with
    | some (.ok iw, env2) => match wInt iw, getE env2 path with
      | some i, some (.ol ws) => match ixN ws.length i with
        | some j => if j < ws.length then (setE env2 path (.ol (ws.set j w))).map fun e => (.ok (), e) else none
        | none => none
      | _, _ => none
    | _ => none
  | _ => none
section
variable {X : Cx} {Wx : WX} {k : Bool} {pn : Nat → Bool} {o ix : Expr} {ml : ME Path} {mi : ME W} {pos : Pos}
theorem sg_ix (hl : SL X o ml) (hi : SE X Wx k true ix mi) (ha : ∀ v, assign (.Subscript o ix pos) X.env v = (do
      let ov ← holding [v] (eval o X.env)
      let iv ← holding [v, ov] (eval ix X.env)
      standAt pos
      holding [v, ov, iv] (setItem ov iv v)
      release [v, ov, iv] []) := by intro _; rfl) : SG X pn false (.Subscript o ix pos) (gSetI ml mi) := by
  obtain ⟨tl, pl, sl⟩ := hl
  obtain ⟨ti, pi, si⟩ := hi
  refine ⟨_, pg_sub pl pi set_list ha, fun B H σ env fp w v f0 O r out nd dis Q c => ?_⟩
  refine sl B H σ env fp O _ ?_
  unfold gSetI at c
  cases e1 : ml env with
  | none => rw [e1] at c; exact c
  | some r1 =>
    obtain ⟨r1, env1⟩ := r1
    rw [e1] at c
    cases r1 with
    | ex x => exact c.elim
    | ok path =>
      intro v1 H1 B1 ee O1 S1 s1 b1 L1
      subst ee
      simp only at c
      refine si B1 H1 σ env1 fp O1 _ ?_
      cases e2 : mi env1 with
      | none => rw [e2] at c; exact c
      | some r2 =>
        obtain ⟨r2, env2⟩ := r2
        rw [e2] at c
        cases r2 with
        | ex x => exact c.elim
        | ok iw =>
          intro y H2 B2 f2 fp2 P
          obtain ⟨s2, b2, rfl, rfl⟩ := P.pure rfl
          simp only at c
          cases e3 : wInt iw with
          | none => rw [e3] at c; exact c.elim
          | some i =>
            cases e4 : getE env2 path with
            | none => rw [e3, e4] at c; exact c.elim
            | some u =>
              cases u with
              | ol ws =>
                rw [e3, e4] at c
                simp only at c
                cases e5 : ixN ws.length i with
                | none => rw [e5] at c; exact c.elim
                | some j =>
                  rw [e5] at c
                  simp only at c
                  by_cases hj : j < ws.length
                  · rw [if_pos hj] at c
                    have L2 := locE_mono s2 L1
                    obtain ⟨g1, g, g2, rfl, rg, back⟩ := relE_zip P.ok.sub P.ok.rel e4 L2
                    simp only [relW] at rg
                    obtain ⟨pa, vs, gk, rfl, hp, rk, rfl⟩ := rg
                    have s12 : Same H H2 := fun a o h => s2 a o (s1 a o h)
                    have lv0 := relW_live r
                    have b12 : ∀ q, H q ≠ none → B2 q = B q := fun q h => (b2 q (S1.live q h)).trans (b1 q h)
                    have r2 : relW (gx X) B2 H2 w v f0 := relW_frame (fun a o h => P.step.bext a o (S1.bext a o h)) r fun q hq => same_some s12 (lv0 q hq)
                    have yi : y = .int i := relW_int P.rel e3
                    obtain ⟨g', rk', sub', nd'⟩ := relWs_set rk hj r2
                    have ndE := P.ok.nd
                    simp only [List.nodup_append, List.mem_append, List.nodup_cons, List.mem_cons, List.cons_append] at ndE dis
                    have liveE := relE_live P.ok.rel
                    have npa0 : pa ∉ f0 := fun z => dis pa z (by simp)
                    have npk : pa ∉ gk := by grind
                    have npg' : pa ∉ g' := fun z => (sub' pa z).elim npk npa0
                    refine ⟨pa, vs, i, j, rfl, yi, hp, by rw [← relWs_length rk]; exact e5, ?_⟩
                    have kp : ∀ q, q ≠ pa → upd H2 pa (.lst (vs.set j v)) q = H2 q := fun q h => upd_ne h
                    have Bpa : B2 pa = none := P.ok.out pa (by simp)
                    have rnew : relW (gx X) B2 (upd H2 pa (.lst (vs.set j v))) (.ol (ws.set j w)) (.ref pa) (pa :: g') := by
                      simp only [relW]
                      exact ⟨pa, _, g', rfl, upd_same, relWs_frame (Same.refl B2) rk' fun q hq => kp q fun z => npg' (by rw [← z]; exact hq), rfl⟩
                    obtain ⟨env3, e6, rE⟩ := back B2 (upd H2 pa (.lst (vs.set j v))) (.ol (ws.set j w)) (pa :: g') (Same.refl B2) (fun q hq => kp q (by grind)) (fun q hq => kp q (by grind)) rnew
                    rw [e6] at c
                    refine c σ (upd H2 pa (.lst (vs.set j v))) B2 (g1 ++ (pa :: g' ++ g2)) ⟨fun a o h => ?_, rE, ?_, fun q hq => ?_⟩ ⟨fun a o h n => ?_, fun a o h => P.step.bext a o (S1.bext a o h), fun a h n => b12 a h, fun a ha => ?_, fun a h => ?_⟩ rfl (fun _ _ => rfl) fun z => Bool.noConfusion z
                    · rw [kp a fun z => by rw [z, Bpa] at h; cases h]
                      exact P.ok.sub a o h
                    · have ndg := nd' (by grind) nd (fun q hq z => dis q hq (by simp [z]))
                      simp only [List.nodup_append, List.mem_append, List.nodup_cons, List.mem_cons, List.cons_append]
                      grind
                    · simp only [List.mem_append, List.mem_cons, List.cons_append] at hq
                      rcases hq with hq | rfl | hq | hq
                      · exact P.ok.out q (by simp [hq])
                      · exact Bpa
                      · rcases sub' q hq with z | z
                        · exact P.ok.out q (by simp [z])
                        · rw [b12 q (lv0 q z)]
                          exact out q z
                      · exact P.ok.out q (by simp [hq])
                    · rw [kp a fun z => n (by rw [z]; simp)]
                      exact s12 a o h
                    · simp only [List.mem_append, List.mem_cons, List.cons_append] at ha ⊢
                      rcases ha with ha | rfl | ha | ha
                      · simp [ha]
                      · simp
                      · rcases sub' a ha with z | z <;> simp [z]
                      · simp [ha]
                    · by_cases z : a = pa
                      · rw [z, upd_same]; simp
                      · rw [kp a z]; rw [same_some s12 h]; exact h
                  · rw [if_neg hj] at c
                    exact c.elim
              | sh _ => rw [e3, e4] at c; exact c.elim
              | ot _ => rw [e3, e4] at c; exact c.elim
              | ob _ _ _ => rw [e3, e4] at c; exact c.elim
              | dk _ _ => rw [e3, e4] at c; exact c.elim
              | dt _ _ => rw [e3, e4] at c; exact c.elim
end
/-! ### isinstance of a built-in class -/
def wTyp : W → Option String
  | .sh .non => some "NoneType"
  | .sh (.bl _) => some "bool"
  | .sh (.int _) => some "int"
  | .sh (.str _) => some "str"
  | .sh (.lst _) => some "list"
  | .sh (.tup _) => some "tuple"
  | .ol _ => some "list"
  | .ot _ => some "tuple"
  | _ => none
def isT (t T : String) : Bool := t == T || (t == "bool" && T == "int")
def tyNames : List String := ["NoneType", "bool", "int", "str", "list", "tuple"]
def gIs (T : String) : W → Option W := fun w => (wTyp w).map fun t => .sh (.bl (isT t T))
theorem kit_int : ∀ t ∈ tyNames, kitB t "int" = some (isT t "int") := by decide +kernel
theorem kit_bool : ∀ t ∈ tyNames, kitB t "bool" = some (isT t "bool") := by decide +kernel
theorem kit_str : ∀ t ∈ tyNames, kitB t "str" = some (isT t "str") := by decide +kernel
theorem kit_list : ∀ t ∈ tyNames, kitB t "list" = some (isT t "list") := by decide +kernel
theorem kit_tuple : ∀ t ∈ tyNames, kitB t "tuple" = some (isT t "tuple") := by decide +kernel
theorem wTyp_rel {G : GX} {B H : Hp} {w : W} {v : V} {f : List Addr} {t : String} (s : Same B H) (r : relW G B H w v f) (e : wTyp w = some t) : TyX G.K H v (.type t) ∧ t ∈ tyNames := by
  unfold wTyp at e
  split at e
  · cases e; simp only [relW, repD] at r; obtain ⟨rfl, _⟩ := r; exact ⟨.base .non, by decide⟩
  · cases e; simp only [relW, repD] at r; obtain ⟨rfl, _⟩ := r; exact ⟨.base (.bl _), by decide⟩
  · cases e; simp only [relW, repD] at r; obtain ⟨rfl, _⟩ := r; exact ⟨.base (.int _), by decide⟩
  · cases e; simp only [relW, repD] at r; obtain ⟨rfl, _⟩ := r; exact ⟨.base (.str _), by decide⟩
  · cases e; simp only [relW, repD] at r; obtain ⟨⟨a, vs, rfl, h, _⟩, _⟩ := r; exact ⟨.base (.lst (s _ _ h)), by decide⟩
  · cases e
    simp only [relW, repD] at r
    obtain ⟨⟨a, vs, rfl, h, _⟩, _⟩ := r
    refine ⟨?_, by decide⟩
    rcases sqT_of_same s h with (h | ⟨o, h⟩) | ⟨o, its, n, h1, h2, _⟩
    · exact .base (.tup h)
    · exact .fTuple h
    · exact .kTuple h1 h2
  · cases e; simp only [relW] at r; obtain ⟨p, vs, g, rfl, h, _⟩ := r; exact ⟨.base (.lst h), by decide⟩
  · cases e; simp only [relW] at r; obtain ⟨p, vs, rfl, h, _⟩ := r; exact ⟨.base (.tup (s _ _ h)), by decide⟩
  · cases e
section
variable {X : Cx} {Wx : WX} {k p : Bool} {a : Expr} {m : ME W} {x : Str} {T : String} {pp px pos : Pos}
theorem se_isi (hT : ∀ t ∈ tyNames, kitB t T = some (isT t T)) (hg : Gl X "isinstance") (hm : X.mg "isinstance" = none) (hgT : Gl X x) (hmT : X.mg x = none) (hvT : bootBuiltins x = some (.type T)) (ha : SE X Wx k p a m) (hnT : x ≠ "__name__" := by decide) (hdT : (x == ("__debug__" : Str)) = false := by decide)
    (hs : starEach [a, .Name x px] X.env = (false, eval a X.env) :: starEach [.Name x px] X.env := by rfl) (hs2 : starEach [.Name x px] X.env = (false, eval (.Name x px) X.env) :: starEach [] X.env := by rfl) (hpl : (backTo pos (starEach [.Name x px] X.env)).any (·.1) = false := by rfl) : SE X Wx true p (.Call (.Name "isinstance" pp) [a, .Name x px] [] pos) (mOp1 (gIs T) m) := by
  obtain ⟨t, pa, s⟩ := ha
  have pT : PE X (.Name x px) (tC (.ty T)) := pe_bltn hgT hmT hvT rfl hnT hdT
  refine ⟨_, pe_callB call_isi hg hm (by decide +kernel) (pa_cons pa (pa_cons pT pa_nil hs2) hs) (he := hs) (hpl := hpl), ?_⟩
  refine s.op (r := fun v H Q => rIsi X.K [v, .ty T] H Q) (ops_flat fun B H w v f c sb ra e => ?_)
  unfold gIs at e
  simp only [Option.map_eq_some_iff] at e
  obtain ⟨t, e1, rfl⟩ := e
  obtain ⟨h1, h2⟩ := wTyp_rel sb ra e1
  exact ⟨.bl _, .bl (isT t T), rfl, by simp [repD], fun Q q => ⟨v, .ty T, .type t, .type T, isT t T, rfl, .ty T, h1, kit_ty (hT t h2), q⟩⟩
end
end AM

set_option Elab.async false
set_option linter.all false
set_option maxRecDepth 100000
/-! Affine mirror, part 17: raise, op= at names and items. -/
namespace AM
open PySem L2 PyProof.Rows

/-- what the written part says of an own error class without fields -/
structure ExC (K : PySem.W.Frag) (mg : Str → Option Value) (c : Str) : Prop where
  ex : ∃ C : Addr, mg c = some (.ref C) ∧ PySem.W.excIn K C [.type "ValueError", .type "Exception", .type "BaseException", .type "object"] "ValueError.__new__" = true ∧ PySem.W.keepIn K (.ref C) = true ∧
    PySem.W.subIn K (.ref C) (.type "BaseException") = some true ∧ PySem.W.typeIn K (.ref C) = some (.type "type")
def mRaise (c : Str) : MS := fun env => some (.ex ⟨c, []⟩, env)
section
variable {X : Cx} {Wx : WX} {pn : Nat → Bool} {c m : Str} {j : Nat} {p p2 pos pos2 : Pos}
theorem ss_raise (hc : X.calm = true) (tk : Takes X Wx) (E : ExC X.K X.mg c) (hg : Gl X c) (hdb : (c == ("__debug__" : Str)) = false := by decide) : SS X pn Wx (.Raise (some (.Call (.Name c p) [.Constant (.str m) j p2] [] pos)) none pos2) (mRaise c) := by
  obtain ⟨C, hm, hx, hk, hs, ht⟩ := E.ex
  refine ⟨_, L2.ps_raise hc tk (pmk_own PySem.F.excBase_ValueError hx hm hk (raises_own hs ht) hg hdb), fun B H σ env fp O D c => ?_⟩
  exact c (.ref C) none σ H B fp ⟨O, Step.refl (by simp), fun _ _ => rfl⟩ ⟨C, rfl, hm, .inl ⟨rfl, rfl⟩⟩ (fun _ h => by cases h)
end
/-! ### op= -/
def mAug (i : Nat) (f : Int → Int → Int) (m : ME W) : MS := fun env => match env[i]? with
  | some (some w) => match wInt w with
    | some x => match m env with
      | some (.ok y, e) => match wInt y with
        | some y => if i < e.length then some (.ok .nx, e.set i (some (.sh (.int (f x y))))) else none
        | none => none
      | some (.ex x, e) => some (.ex x, e)
      | none => none
    | none => none
  | _ => none
section
variable {X : Cx} {Wx : WX} {k p : Bool} {pn : Nat → Bool} {i : Nat} {x : Str} {e o ix : Expr} {m mi : ME W} {ml : ME Path} {op : Operator} {f : Int → Int → Int} {pos pos' tpos : Pos}
theorem ss_aug (hN : X.N.Nodup) (hi : X.N[i]? = some x) (hx : Loc X.env.scope x) (hp : pn i = false) (ho : PIp X op (ipI f)) (he : SE X Wx k p e m) (hf : X.fn x = true ∨ X.env.scope.names.lookup x = some .local := by first | exact .inl rfl | exact .inr rfl | assumption) : SS X pn Wx (.AugAssign (.Name x pos') op e pos) (mAug i f m) := by
  obtain ⟨t, pe, s⟩ := he
  refine ⟨_, ps_aug hN hi hx pe ho hf, fun B H σ env fp O D c => ?_⟩
  unfold mAug at c
  cases e0 : env[i]? with
  | none => rw [e0] at c; exact c.elim
  | some w =>
    cases w with
    | none => rw [e0] at c; exact c.elim
    | some w =>
      rw [e0] at c
      simp only at c
      cases e1 : wInt w with
      | none => rw [e1] at c; exact c.elim
      | some x0 =>
        rw [e1] at c
        simp only at c
        obtain ⟨a1, a2, s1, o1, s2, f1, g, f2, rfl, rfl, l1, l2, rfl, r1, ⟨u, rfl, r2⟩, r3⟩ := relE_split O.rel e0
        have eu := relW_int r2 e1
        subst eu
        refine ⟨.int x0, get_mid l2, s B H _ _ _ O _ ?_⟩
        cases e2 : m (a1 ++ some w :: a2) with
        | none => rw [e2] at c; exact c.elim
        | some r =>
          obtain ⟨r, env1⟩ := r
          rw [e2] at c
          cases r with
          | ex y => exact c.ofEx (env := a1 ++ some w :: a2)
          | ok y =>
            simp only at c
            intro v H1 B1 f0 fp1 P
            cases e3 : wInt y with
            | none => rw [e3] at c; exact c.elim
            | some y0 =>
              rw [e3] at c
              simp only at c
              by_cases hl : i < env1.length
              · rw [if_pos hl] at c
                have ev := relW_int P.rel e3
                obtain ⟨fp2, O2, sub⟩ := P.ok.set (w := .sh (.int (f x0 y0))) (v := .int (f x0 y0)) (f0 := []) (by simp [relW, repD]) (by simp) List.nodup_nil (by simp) hl
                refine ⟨x0, y0, rfl, ev, c _ H1 B1 fp2 ⟨O2, P.step.mono fun q hq => by simp at hq; simp [show q ∈ fp1 by simpa using sub q hq], fun j hj => ?_⟩⟩
                rw [List.getElem?_set_ne (fun z => by rw [z, hj] at hp; cases hp)]
              · rw [if_neg hl] at c
                exact c.elim
/-- xs[i], by values -/
theorem pget_list : PGet X (fun o i H Q => rIxL X.K o i H Q) := by
  intro pins s σ H o i ov iv Q I r1 r2 h
  obtain ⟨p, xs, k, z, rfl, rfl, hq, he, q⟩ := h
  cases r1
  obtain ⟨t, rfl⟩ := r2
  obtain ⟨its, r, pl, hz⟩ := I.list hq
  obtain ⟨j, h1, h2, h3, h4, h5⟩ := atI_get he
  obtain ⟨w, ew, rw'⟩ := r.get h2
  have hl := r.length
  have hn := line63
  have fin : EP X pins σ Q w s := ⟨z, H, I, rw', q⟩
  by_cases h0 : 0 ≤ k
  · have hj : k.toNat = j := by
      rw [seqIndex_of h0 h5] at h1
      exact Option.some.inj h1
    exact wpAny_getItem_list pl.isList h0 (by omega) (by rw [hj]; simpa using ew) fin
  · have hj : (k + (its.toArray.size : Int)).toNat = j := by
      rw [seqIndex_neg (by omega) h4] at h1
      rw [List.size_toArray, ← hl]
      exact Option.some.inj h1
    exact wpAny_getItem_list_neg pl.isList (by omega) (by rw [List.size_toArray] <;> omega) (by omega) (by rw [hj]; simpa using ew) fin
def mAugI (f : Int → Int → Int) (ml : ME Path) (mi m : ME W) : MS := fun env => match ml env with
  | some (.ok path, env1) => match mi env1 with
    | some (.ok iw, env2) => match wInt iw, getE env2 path with
      | some i, some (.ol ws) => match ixN ws.length i with
        | some j => match (ws[j]?).bind wInt with
          | some x => match m env2 with
            | some (.ok y, env3) => match wInt y with
              | some y => (setE env3 path (.ol (ws.set j (.sh (.int (f x y)))))).map fun e => (.ok .nx, e)
              | none => none
            | _ => none
          | none => none
        | none => none
      | _, _ => none
    | _ => none
  | _ => none
theorem ss_augI (ho : PIp X op (ipI f)) (hl : SL X o ml) (hi : SE X Wx k true ix mi) (he : SE X Wx p true e m) (ha : ∀ ov iv new, augStore ix ov iv new = (do holding [new, ov, iv] (setItem ov iv new); release [new, ov, iv] []; pure .next) := by intros; rfl) : SS X pn Wx (.AugAssign (.Subscript o ix tpos) op e pos) (mAugI f ml mi m) := by
  obtain ⟨tl, pl, sl⟩ := hl
  obtain ⟨ti, pi, si⟩ := hi
  obtain ⟨te, pe, se⟩ := he
  refine ⟨_, ps_augS pl pi pget_list pe ho set_list ha, fun B H σ env fp O D c => ?_⟩
  refine sl B H σ env fp O _ ?_
  unfold mAugI at c
  cases e1 : ml env with
  | none => rw [e1] at c; exact c.elim
  | some r1 =>
    obtain ⟨r1, env1⟩ := r1
    rw [e1] at c
    cases r1 with
    | ex x => exact c.elim
    | ok path =>
      intro v1 H1 B1 ee O1 S1 s1 b1 L1
      subst ee
      simp only at c
      refine si B1 H1 σ env1 fp O1 _ ?_
      cases e2 : mi env1 with
      | none => rw [e2] at c; exact c.elim
      | some r2 =>
        obtain ⟨r2, env2⟩ := r2
        rw [e2] at c
        cases r2 with
        | ex x => exact c.elim
        | ok iw =>
          intro y H2 B2 f2 fp2 P
          obtain ⟨s2, b2, rfl, rfl⟩ := P.pure rfl
          simp only at c
          cases e3 : wInt iw with
          | none => rw [e3] at c; exact c.elim
          | some i =>
            cases e4 : getE env2 path with
            | none => rw [e3, e4] at c; exact c.elim
            | some u =>
              cases u with
              | ol ws =>
                rw [e3, e4] at c
                simp only at c
                cases e5 : ixN ws.length i with
                | none => rw [e5] at c; exact c.elim
                | some j =>
                  rw [e5] at c
                  simp only at c
                  cases e6 : (ws[j]?).bind wInt with
                  | none => rw [e6] at c; exact c.elim
                  | some x0 =>
                    rw [e6] at c
                    simp only at c
                    simp only [Option.bind_eq_some_iff] at e6
                    obtain ⟨wj, e7, e8⟩ := e6
                    have hj : j < ws.length := (List.getElem?_eq_some_iff.mp e7).1
                    have L2 := locE_mono s2 L1
                    have yi : y = .int i := relW_int P.rel e3
                    obtain ⟨g1, g, g2, efp, rg, _⟩ := relE_zip P.ok.sub P.ok.rel e4 L2
                    simp only [relW] at rg
                    obtain ⟨pa, vs, gk, rfl, hp, rk, _⟩ := rg
                    obtain ⟨w1, w2, u1, vj, u2, k1, k0, k2, _, hvs, q1, q2, _, _, rj, _⟩ := relWs_split rk e7
                    have hvj : vs[j]? = some vj := by rw [hvs]; exact get_mid q2
                    have evj := relW_int rj e8
                    subst evj
                    refine ⟨pa, vs, i, .int x0, rfl, yi, SqL.of hp, by unfold atI; rw [← relWs_length rk, e5]; exact hvj, ?_⟩
                    refine se B2 H2 σ env2 fp2 P.ok _ ?_
                    cases e9 : m env2 with
                    | none => rw [e9] at c; exact c.elim
                    | some r3 =>
                      obtain ⟨r3, env3⟩ := r3
                      rw [e9] at c
                      cases r3 with
                      | ex x => exact c.elim
                      | ok yw =>
                        simp only at c
                        cases e10 : wInt yw with
                        | none => rw [e10] at c; exact c.elim
                        | some y0 =>
                          rw [e10] at c
                          simp only at c
                          intro vy H3 B3 f3 fp3 P3
                          obtain ⟨s3, b3, rfl, rfl⟩ := P3.pure rfl
                          have evy := relW_int P3.rel e10
                          have L3 := locE_mono s3 L2
                          obtain ⟨g1, g, g2, rfl, rg, back⟩ := relE_zip P3.ok.sub P3.ok.rel e4 L3
                          simp only [relW] at rg
                          obtain ⟨pa', vs', gk', epa, hp', rk', rfl⟩ := rg
                          cases epa
                          have hp3 := s3 _ _ hp
                          rw [hp3] at hp'
                          cases hp'
                          obtain ⟨g', rk2, sub', nd'⟩ := relWs_set (w := .sh (.int (f x0 y0))) (v := .int (f x0 y0)) (f0 := []) rk' hj (by simp [relW, repD])
                          have ndE := P3.ok.nd
                          simp only [List.nodup_append, List.mem_append, List.nodup_cons, List.mem_cons, List.cons_append] at ndE
                          have npk : pa ∉ gk' := by grind
                          have npg' : pa ∉ g' := fun z => (sub' pa z).elim npk (by simp)
                          refine ⟨x0, y0, rfl, evy, pa, vs, i, j, rfl, yi, hp3, by rw [← relWs_length rk']; exact e5, ?_⟩
                          have kp : ∀ q, q ≠ pa → upd H3 pa (.lst (vs.set j (.int (f x0 y0)))) q = H3 q := fun q h => upd_ne h
                          have Bpa : B3 pa = none := P3.ok.out pa (by simp)
                          have rnew : relW (gx X) B3 (upd H3 pa (.lst (vs.set j (.int (f x0 y0))))) (.ol (ws.set j (.sh (.int (f x0 y0))))) (.ref pa) (pa :: g') := by
                            simp only [relW]
                            exact ⟨pa, _, g', rfl, upd_same, relWs_frame (Same.refl B3) rk2 fun q hq => kp q fun z => npg' (by rw [← z]; exact hq), rfl⟩
                          obtain ⟨env4, e11, rE⟩ := back B3 (upd H3 pa (.lst (vs.set j (.int (f x0 y0))))) (.ol (ws.set j (.sh (.int (f x0 y0))))) (pa :: g') (Same.refl B3) (fun q hq => kp q (by grind)) (fun q hq => kp q (by grind)) rnew
                          rw [e11] at c
                          have s13 : Same H H3 := fun a o h => s3 a o (s2 a o (s1 a o h))
                          refine c σ (upd H3 pa (.lst (vs.set j (.int (f x0 y0))))) B3 (g1 ++ (pa :: g' ++ g2)) ⟨⟨fun a o h => ?_, rE, ?_, fun q hq => ?_⟩, ⟨fun a o h n => ?_, fun a o h => P3.step.bext a o (P.step.bext a o (S1.bext a o h)), fun a h n => ?_, fun a ha => ?_, fun a h => ?_⟩, fun _ _ => rfl⟩
                          · rw [kp a fun z => by rw [z, Bpa] at h; cases h]
                            exact P3.ok.sub a o h
                          · have ndg := nd' (by grind) List.nodup_nil (by simp)
                            simp only [List.nodup_append, List.mem_append, List.nodup_cons, List.mem_cons, List.cons_append]
                            have sub'' : ∀ q ∈ g', q ∈ gk' := fun q hq => (sub' q hq).elim id (by simp)
                            grind
                          · simp only [List.mem_append, List.mem_cons, List.cons_append] at hq
                            rcases hq with hq | rfl | hq | hq
                            · exact P3.ok.out q (by simp [hq])
                            · exact Bpa
                            · rcases sub' q hq with z | z
                              · exact P3.ok.out q (by simp [z])
                              · simp at z
                            · exact P3.ok.out q (by simp [hq])
                          · rw [kp a fun z => n (by rw [z]; simp)]
                            exact s13 a o h
                          · exact (b3 a (P.step.live a (S1.live a h))).trans ((b2 a (S1.live a h)).trans (b1 a h))
                          · simp only [List.nil_append, List.mem_append, List.mem_cons, List.cons_append] at ha ⊢
                            rcases ha with ha | rfl | ha | ha
                            · simp [ha]
                            · simp
                            · rcases sub' a ha with z | z
                              · simp [z]
                              · simp at z
                            · simp [ha]
                          · by_cases z : a = pa
                            · rw [z, upd_same]; simp
                            · rw [kp a z]; rw [same_some s13 h]; exact h
              | sh _ => rw [e3, e4] at c; exact c.elim
              | ot _ => rw [e3, e4] at c; exact c.elim
              | ob _ _ _ => rw [e3, e4] at c; exact c.elim
              | dk _ _ => rw [e3, e4] at c; exact c.elim
              | dt _ _ => rw [e3, e4] at c; exact c.elim
end
end AM

set_option Elab.async false
set_option linter.all false
set_option maxRecDepth 100000
/-! Affine mirror, part 18: a fresh tree let go, list(range(..)), xs[::-1]. -/
namespace AM
open PySem L2
def mFz (m : ME W) : ME W := m.bind (ME.op fun w => w.toD.map W.sh)
section
variable {G : GX} {k p : Bool} {Wx : WX}
theorem Sim.fz {t : TE} {m : ME W} (h : Sim G true p Wx (rW G) t m) : Sim G true p Wx (rW G) t (mFz m) := by
  intro B H σ env fp O Q c
  refine h B H σ env fp O _ ?_
  unfold mFz ME.bind at c
  cases e1 : m env with
  | none => rw [e1] at c; exact c
  | some r =>
    obtain ⟨r, env1⟩ := r
    rw [e1] at c
    cases r with
    | ex x => exact c
    | ok w =>
      intro v H1 B1 f0 fp1 P
      simp only [ME.op] at c
      cases e2 : w.toD with
      | none => rw [e2] at c; exact c.elim
      | some d =>
        rw [e2] at c
        obtain ⟨nd, dis⟩ := P.own rfl
        have be := grd_bext (H := H1) P.out
        have rv : relW G B1 H1 w v f0 := P.rel
        have rd : repD G (grd B1 H1 f0) d v := relW_toD be rv e2 fun q hq => grd_in hq
        refine c v H1 (grd B1 H1 f0) [] fp1 ⟨⟨grd_sub P.ok.sub, relE_frame be P.ok.rel fun _ _ => rfl, P.ok.nd, fun q hq => ?_⟩, ?_, fun q hq => by simp at hq, ⟨P.step.keep, fun a o h => be a o (P.step.bext a o h), fun a h n => ?_, fun a ha => P.step.new a ?_, P.step.live⟩, fun _ => ⟨List.nodup_nil, fun q hq => by simp at hq⟩, fun hp => ?_⟩
        · rw [grd_out fun z => dis q z hq]
          exact P.ok.out q hq
        · show relW G _ _ _ _ _
          simp only [relW]
          exact ⟨rd, trivial⟩
        · rw [grd_out fun z => ?_]
          · exact P.step.bold a h n
          · rcases P.step.new a (by simp [z]) with y | y
            · exact n y
            · exact h y
        · simp only [List.nil_append] at ha
          simp [ha]
        · obtain ⟨s1, s2, s3, s4⟩ := P.pure hp
          refine ⟨s1, fun q hq => ?_, s3, s4⟩
          rw [grd_out fun z => ?_]
          · exact s2 q hq
          · rcases P.step.new q (by simp [z]) with y | y
            · exact dis q z (by rw [s4]; exact y)
            · exact hq y
end
section
variable {X : Cx} {Wx : WX} {k p k1 p1 k2 p2 : Bool} {e a b : Expr} {m ma mb : ME W} {pos p4 p5 p6 pp : Pos} {j : Nat}
theorem se_fz (h : SE X Wx true p e m) : SE X Wx true p e (mFz m) := by
  obtain ⟨t, pe, s⟩ := h
  exact ⟨t, pe, s.fz⟩
/-! xs[::-1] -/
def gRevL : W → Option W := fun w => (wEls w).map fun ds => .ol (ds.reverse.map W.sh)
theorem repDs_rev {G : GX} {B : Hp} : ∀ {ds : List D} {vs : List V}, repDs G B ds vs → repDs G B ds.reverse vs.reverse
  | [], _, h => by simp only [repDs] at h; subst h; simp [repDs]
  | d :: ds, _, h => by
    simp only [repDs] at h
    obtain ⟨v, r, rfl, h1, h2⟩ := h
    rw [List.reverse_cons, List.reverse_cons]
    exact repDs_append (repDs_rev h2) (by simp only [repDs]; exact ⟨v, [], rfl, h1, rfl⟩)
theorem se_rev {e : Expr} {kk : Nat} (h : SE X Wx k p e m) : SE X Wx true p (.Subscript e (.Slice none none (some (.UnaryOp .USub (.Constant (.int 1) kk p4) p5)) p6) pos) (mOp1 gRevL m) := by
  obtain ⟨t, pe, s⟩ := h
  refine ⟨_, pe_revL pe, s.op (r := fun (x : V) H1 (Q : VK) => ∃ a xs, x = .ref a ∧ SqL X.K H1 a xs ∧ ∀ p, H1 p = none → Q (.ref p) (upd H1 p (.lst xs.reverse))) (ops_newL fun B H w v f c sb ra e => ?_)⟩
  unfold gRevL at e
  simp only [Option.map_eq_some_iff] at e
  obtain ⟨ds, e1, rfl⟩ := e
  obtain ⟨a, vs, rfl, h1, h2⟩ := wEls_eq sb ra e1
  exact ⟨ds.reverse, vs.reverse, rfl, repDs_rev h2, fun Q q => ⟨a, vs, rfl, SqL.of h1, q⟩⟩
/-! list(range(..)) -/
def rgD (a b : Int) : List D := (List.range (b - a).toNat).map fun i => D.int (a + (i : Nat))
theorem repDs_rgD {G : GX} {B : Hp} (a b : Int) : repDs G B (rgD a b) (rgV a b) := by
  unfold rgD rgV
  generalize List.range (b - a).toNat = l
  induction l with
  | nil => simp [repDs]
  | cons x r ih =>
    simp only [List.map_cons, repDs]
    exact ⟨_, _, rfl, by simp [repD], ih⟩
def rgOk (a b : Int) : Bool := decide (0 ≤ a) && decide (a ≤ 16777216) && decide (0 ≤ b) && decide (b ≤ 16777216)
def gRgL1 : W → Option W := fun w => (wInt w).bind fun n => if rgOk 0 n = true then some (.ol ((rgD 0 n).map W.sh)) else none
def gRgL2 : W × W → Option W := fun w => match wInt w.1, wInt w.2 with
  | some a, some b => if rgOk a b = true then some (.ol ((rgD a b).map W.sh)) else none
  | _, _ => none
theorem rgOk_ok {a b : Int} (h : rgOk a b = true) : RgOk a b := by
  unfold rgOk at h
  simp only [Bool.and_eq_true, decide_eq_true_eq] at h
  exact RgOk.of_le h.1.1.1 h.2 h.1.1.2 h.1.2
theorem se_listRg1 {p3 : Pos} (hc : X.calm = true) (hg : Gl X "list") (hm : X.mg "list" = none) (hg2 : Gl X "range") (hm2 : X.mg "range" = none) (ha : SE X Wx k p a m)
    (na : starEach [a] X.env = (false, eval a X.env) :: starEach [] X.env := by rfl) (nb : starEach [.Call (.Name "range" pp) [a] [] p3] X.env = (false, eval (.Call (.Name "range" pp) [a] [] p3) X.env) :: starEach [] X.env := by rfl) :
    SE X Wx true p (.Call (.Name "list" p4) [.Call (.Name "range" pp) [a] [] p3] [] pos) (mOp1 gRgL1 m) := by
  obtain ⟨t, pa, s⟩ := ha
  refine ⟨_, pe_listRg hc hg hm (prg_1 hg2 hm2 pa na) nb, s.op (r := fun x H1 (Q : VK) => ∃ n, x = .int n ∧ RgOk 0 n ∧ ∀ q, H1 q = none → Q (.ref q) (upd H1 q (.lst (rgV 0 n)))) (ops_newL fun B H w v f c sb ra e => ?_)⟩
  unfold gRgL1 at e
  simp only [Option.bind_eq_some_iff] at e
  obtain ⟨n, e1, e2⟩ := e
  split at e2
  · rename_i h
    cases e2
    rw [wInt_eq e1] at ra
    have ra : relW _ _ _ _ _ _ := ra
    simp only [relW, repD] at ra
    exact ⟨rgD 0 n, rgV 0 n, rfl, repDs_rgD 0 n, fun Q q => ⟨n, ra.1, rgOk_ok h, q⟩⟩
  · cases e2
theorem se_listRg2 {p3 : Pos} (hc : X.calm = true) (hg : Gl X "list") (hm : X.mg "list" = none) (hg2 : Gl X "range") (hm2 : X.mg "range" = none) (ha : SE X Wx k1 p1 a ma) (hb : SE X Wx k2 p2 b mb) (hcc : k1 = true ∨ p2 = true := by decide)
    (na : starEach [a, b] X.env = (false, eval a X.env) :: starEach [b] X.env := by rfl) (nc : starEach [b] X.env = (false, eval b X.env) :: starEach [] X.env := by rfl) (hp : (backTo p3 (starEach [b] X.env)).any (·.1) = false := by rfl) (nb : starEach [.Call (.Name "range" pp) [a, b] [] p3] X.env = (false, eval (.Call (.Name "range" pp) [a, b] [] p3) X.env) :: starEach [] X.env := by rfl) :
    SE X Wx true (p1 && p2) (.Call (.Name "list" p4) [.Call (.Name "range" pp) [a, b] [] p3] [] pos) (mOp2 gRgL2 ma mb) := by
  obtain ⟨t, pa, s⟩ := ha
  obtain ⟨u, pb, s2⟩ := hb
  refine ⟨_, pe_listRg hc hg hm (prg_2 hg2 hm2 pa pb na nc hp) nb, (Sim.pair (rW_good _) s s2 hcc).op (r := fun (xy : V × V) H1 (Q : VK) => ∃ i j, xy.1 = .int i ∧ xy.2 = .int j ∧ RgOk i j ∧ ∀ q, H1 q = none → Q (.ref q) (upd H1 q (.lst (rgV i j)))) (ops_newL fun B H w v f c sb ra e => ?_)⟩
  obtain ⟨f1, f2, r1, r2, _⟩ := ra
  unfold gRgL2 at e
  split at e
  · rename_i i j h1 h2
    split at e
    · rename_i h
      cases e
      rw [wInt_eq h1] at r1
      rw [wInt_eq h2] at r2
      have r1 : relW _ _ _ _ _ _ := r1
      have r2 : relW _ _ _ _ _ _ := r2
      simp only [relW, repD] at r1 r2
      exact ⟨rgD i j, rgV i j, rfl, repDs_rgD i j, fun Q q => ⟨i, j, r1.1, r2.1, rgOk_ok h, q⟩⟩
    · cases e
  · cases e
end
end AM

set_option Elab.async false
set_option linter.all false
set_option maxRecDepth 100000
/-! Affine mirror, part 19: a, b = x, y of plain names; weakenings; name = [..] let go. -/
namespace AM
open PySem L2
def setsV : St → List Nat → List V → St
  | σ, i :: is, v :: vs => setsV (σ.set i (some v)) is vs
  | σ, _, _ => σ
def setsW : Env → List Nat → List W → Env
  | e, i :: is, w :: ws => setsW (e.set i (some w)) is ws
  | e, _, _ => e
section
variable {G : GX} {pn : Nat → Bool} {Wx : WX} {p : Bool}
theorem Ok.sets : ∀ {is : List Nat} {B H : Hp} {σ : St} {env : Env} {fp : List Addr} {ws : List W} {vs : List V} {f0 : List Addr}, Ok G B H σ env fp → relWs G B H ws vs f0 → (∀ q ∈ f0, B q = none) → f0.Nodup → (∀ q ∈ f0, q ∉ fp) → (∀ i ∈ is, i < env.length) → is.length = ws.length →
    ∃ fp2, Ok G B H (setsV σ is vs) (setsW env is ws) fp2 ∧ ∀ q ∈ fp2, q ∈ f0 ++ fp
  | [], B, H, σ, env, fp, ws, vs, f0, O, r, out, nd, dis, hi, hl => by
    cases ws with
    | nil => simp only [relWs] at r; obtain ⟨rfl, rfl⟩ := r; exact ⟨fp, O, by simp⟩
    | cons _ _ => simp at hl
  | i :: is, B, H, σ, env, fp, ws, vs, f0, O, r, out, nd, dis, hi, hl => by
    cases ws with
    | nil => simp at hl
    | cons w ws =>
      simp only [relWs] at r
      obtain ⟨v, vr, g1, g2, rfl, r1, r2, rfl⟩ := r
      simp only [List.nodup_append] at nd
      obtain ⟨fp1, O1, s1⟩ := O.set (w := w) (v := v) (f0 := g1) r1 (fun q hq => out q (by simp [hq])) nd.1 (fun q hq => dis q (by simp [hq])) (hi i (by simp))
      obtain ⟨fp2, O2, s2⟩ := Ok.sets (is := is) O1 r2 (fun q hq => out q (by simp [hq])) nd.2.1 (fun q hq z => by
        have := s1 q z
        simp only [List.mem_append] at this
        rcases this with y | y
        · exact nd.2.2 q y q hq rfl
        · exact dis q (by simp [hq]) y) (fun j hj => by simpa using hi j (by simp [hj])) (by simpa using hl)
      refine ⟨fp2, O2, fun q hq => ?_⟩
      have := s2 q hq
      simp only [List.mem_append] at this ⊢
      rcases this with y | y
      · simp [y]
      · have := s1 q y
        simp only [List.mem_append] at this
        rcases this with z | z <;> simp [z]
theorem setsV_pin : ∀ {is : List Nat} {σ : St} {vs : List V} {j : Nat}, j ∉ is → (setsV σ is vs)[j]? = σ[j]?
  | [], σ, vs, j, h => by cases vs <;> rfl
  | i :: is, σ, [], j, h => rfl
  | i :: is, σ, v :: vs, j, h => by
    simp only [List.mem_cons, not_or] at h
    show (setsV (σ.set i (some v)) is vs)[j]? = _
    rw [setsV_pin h.2, List.getElem?_set_ne (fun z => h.1 z.symm)]
def mPar (is : List Nat) (ma : ME (List W)) : MS := fun env => match ma env with
  | some (.ok ws, e) => if (is.all fun i => decide (i < e.length)) = true ∧ is.length = ws.length then some (.ok .nx, setsW e is ws) else none
  | some (.ex x, e) => some (.ex x, e)
  | none => none
theorem simS_par {is : List Nat} {ta : TA} {ma : ME (List W)} {R : Ends → St → List V → Hp → Prop} (hp : (is.all fun i => !pn i) = true) (h : Sim G true p Wx (rWs G) ta ma) (hR : ∀ D σ vs H1, vs.length = is.length → D.nx (setsV σ is vs) H1 → R D σ vs H1) : SimS G pn Wx (fun D σ H => ta σ H (R D σ)) (mPar is ma) := by
  intro B H σ env fp O D c
  refine h B H σ env fp O _ ?_
  unfold mPar at c
  cases e1 : ma env with
  | none => rw [e1] at c; exact c
  | some r =>
    obtain ⟨r, env1⟩ := r
    rw [e1] at c
    cases r with
    | ex x => exact c.ofEx (env := env)
    | ok ws =>
      intro vs H1 B1 f0 fp1 P
      obtain ⟨nd, dis⟩ := P.own rfl
      have rw' : relWs G B1 H1 ws vs f0 := P.rel
      simp only at c
      split at c
      · rename_i hh
        obtain ⟨h1, h2⟩ := hh
        simp only [List.all_eq_true, decide_eq_true_eq] at h1
        obtain ⟨fp2, O2, s2⟩ := P.ok.sets rw' P.out nd dis h1 h2
        refine hR D σ vs H1 (by rw [← relWs_length rw', h2]) (c _ H1 B1 fp2 ⟨O2, P.step.mono fun q hq => by simpa using s2 q (by simpa using hq), fun j hj => setsV_pin fun z => ?_⟩)
        simp only [List.all_eq_true] at hp
        have := hp j z
        rw [hj] at this
        cases this
      · exact c.elim
end
section
variable {X : Cx} {Wx : WX} {pn : Nat → Bool} {p k : Bool} {e a b c3 : Expr} {ma : ME (List W)} {pos : Pos}
theorem ss_par {i j : Nat} {x y : Str} {px py pt : Pos} {kt k2 pt2} (hc : X.calm = true) (hN : X.N.Nodup) (hi : X.N[i]? = some x) (hj : X.N[j]? = some y) (hij : i ≠ j)
    (hx : X.env.scope.names.lookup x = some .local) (hy : X.env.scope.names.lookup y = some .local) (hp : ([i, j].all fun i => !pn i) = true) (ha : SA X Wx true p [a, b] ma)
    (hw : swappedStores [.Tuple [.Name x px, .Name y py] kt pt] (.Tuple [a, b] k2 pt2) X.env = pure (some [x, y]))
    (hs : swapsWithSole [.Tuple [.Name x px, .Name y py] kt pt] (.Tuple [a, b] k2 pt2) pos.line X.env = pure false := by rfl) :
    SS X pn Wx (.Assign [.Tuple [.Name x px, .Name y py] kt pt] (.Tuple [a, b] k2 pt2) pos) (mPar [i, j] ma) := by
  obtain ⟨ta, pa, sa⟩ := ha
  refine ⟨_, ps_par hc hN hi hj hij hx hy pa hw hs, simS_par (R := fun D σ vs H1 => ∃ v w, vs = [v, w] ∧ D.nx ((σ.set i (some v)).set j (some w)) H1) hp sa fun D σ vs H1 hl h => ?_⟩
  match vs, hl with
  | [v, w], _ => exact ⟨v, w, rfl, h⟩
theorem ss_par3 {i j l : Nat} {x y z : Str} {px py pz pt : Pos} {kt k2 pt2} (hc : X.calm = true) (hN : X.N.Nodup) (hi : X.N[i]? = some x) (hj : X.N[j]? = some y) (hl : X.N[l]? = some z) (hij : i ≠ j) (hil : i ≠ l) (hjl : j ≠ l)
    (hx : X.env.scope.names.lookup x = some .local) (hy : X.env.scope.names.lookup y = some .local) (hz : X.env.scope.names.lookup z = some .local) (hp : ([i, j, l].all fun i => !pn i) = true) (ha : SA X Wx true p [a, b, c3] ma)
    (hw : swappedStores [.Tuple [.Name x px, .Name y py, .Name z pz] kt pt] (.Tuple [a, b, c3] k2 pt2) X.env = pure (some [x, y, z]))
    (hs : swapsWithSole [.Tuple [.Name x px, .Name y py, .Name z pz] kt pt] (.Tuple [a, b, c3] k2 pt2) pos.line X.env = pure false := by rfl) :
    SS X pn Wx (.Assign [.Tuple [.Name x px, .Name y py, .Name z pz] kt pt] (.Tuple [a, b, c3] k2 pt2) pos) (mPar [i, j, l] ma) := by
  obtain ⟨ta, pa, sa⟩ := ha
  refine ⟨_, ps_par3 hc hN hi hj hl hij hil hjl hx hy hz pa hw hs, simS_par (R := fun D σ vs H1 => ∃ u v w, vs = [u, v, w] ∧ D.nx (((σ.set i (some u)).set j (some v)).set l (some w)) H1) hp sa fun D σ vs H1 hl h => ?_⟩
  match vs, hl with
  | [u, v, w], _ => exact ⟨u, v, w, rfl, h⟩
/-! weaker -/
theorem SimI.weak {G : GX} {t : TI} {m : ME (List D)} (h : SimI G p Wx t m) : SimI G false Wx t m := by
  intro B H σ env fp O R c
  refine h B H σ env fp O R ?_
  cases e : m env with
  | none => rw [e] at c; exact c
  | some r =>
    obtain ⟨r, env1⟩ := r
    rw [e] at c
    cases r with
    | ex x => exact c
    | ok ds => exact fun J H1 B1 fp1 P => c J H1 B1 fp1 ⟨P.ok, P.step, fun z => (Bool.false_ne_true z).elim, P.walk⟩
theorem si_p {tg iter : Expr} {m : ME (List D)} (h : SI X Wx p tg iter m) : SI X Wx false tg iter m := by
  obtain ⟨t, h1, h2⟩ := h
  exact ⟨t, h1, h2.weak⟩
theorem sts_p {es : List Expr} {n : ME Bool} (h : STts X Wx p es n) : STts X Wx false es n := by
  obtain ⟨t, h1, h2⟩ := h
  cases p
  · exact ⟨t, h1, h2⟩
  · exact ⟨t, h1, h2.unpure false⟩
theorem se_p2 {m : ME W} (h : SE X Wx k p e m) : SE X Wx k false e m := by
  cases p
  · exact h
  · exact se_p h
theorem st_p2 {m : ME Bool} (h : STt X Wx p e m) : STt X Wx false e m := by
  cases p
  · exact h
  · exact st_p h
theorem se_k2 {m : ME W} (h : SE X Wx k p e m) : SE X Wx false p e m := by
  cases k
  · exact h
  · exact se_k h
/-! name = [..], let go -/
theorem ss_lcZ {i : Nat} {y : Str} {py spos : Pos} {elt tg iter : Expr} {ifs : List Expr} {scope : Scope} {own : List (Str × Nat)} {mi : ME (List D)} {mg : MG} {mc : ME Bool} {me : ME W} {q : Bool} (hp : pn i = false) (hc : X.calm = true) (hN : X.N.Nodup) (hy : X.N[i]? = some y) (hyl : X.env.scope.names.lookup y = some .local)
    (hsw : swapsWith (.ListComp elt [⟨tg, iter, ifs, 0⟩] scope pos) (some (.Name y py)) spos.line X.env = pure true) (hi : SI X Wx p tg iter mi) (ok : BlkOk X.N X.env.scope scope own) (hg : ∀ b : BF, SG (b.cx X scope) (offs (own.map (·.2))) q tg mg) (ht : ∀ b : BF, STts (b.cx X scope) W0 p ifs mc) (he : ∀ b : BF, SE (b.cx X scope) W0 true p elt me) (hs : ∀ x, foldedSetIterable iter X.env x = pure x := by intro _; rfl) :
    SS X pn Wx (.Assign [.Name y py] (.ListComp elt [⟨tg, iter, ifs, 0⟩] scope pos) spos) (mAsg (mFz (mComp mi mg mc me (own.map (·.2)))) (gSet i)) := by
  obtain ⟨ti, pi, si⟩ := hi
  obtain ⟨t1, p1, s1⟩ := uni_g hg
  obtain ⟨t2, p2, s2⟩ := uni_t ht
  obtain ⟨t3, p3, s3⟩ := uni_e he
  exact ⟨_, ps_setLc hc hN hy hyl hsw pi ok (fun s H C cl fp => p1 ⟨s, H, C, cl, fp⟩) (fun s H C cl fp => p2 ⟨s, H, C, cl, fp⟩) (fun s H C cl fp => p3 ⟨s, H, C, cl, fp⟩) hs, simS_asg (sim_comp si s1 s2 s3).fz (simG_name (qq := true) hp)⟩
theorem ss_lcPZ {i : Nat} {y : Str} {py spos : Pos} {elt tg iter : Expr} {ifs : List Expr} {scope : Scope} {own : List (Str × Nat)} {mi : ME (List D)} {mg : MG} {mc : ME Bool} {me : ME W} (hp : pn i = false) (hc : X.calm = true) (hN : X.N.Nodup) (hy : X.N[i]? = some y) (hyl : X.env.scope.names.lookup y = some .local)
    (hsw : swapsWith (.ListComp elt [⟨tg, iter, ifs, 0⟩] scope pos) (some (.Name y py)) spos.line X.env = pure true) (hi : SI X Wx p tg iter mi) (ok : BlkOk X.N X.env.scope scope own) (hg : ∀ b : BF, SG (b.cx X scope) (offs (own.map (·.2))) true tg mg) (ht : ∀ b : BF, STts (b.cx X scope) W0 true ifs mc) (he : ∀ b : BF, SE (b.cx X scope) W0 true true elt me) (hs : ∀ x, foldedSetIterable iter X.env x = pure x := by intro _; rfl) :
    SS X pn Wx (.Assign [.Name y py] (.ListComp elt [⟨tg, iter, ifs, 0⟩] scope pos) spos) (mAsg (mFz (mCompP mi mg mc me (own.map (·.2)))) (gSet i)) := by
  obtain ⟨ti, pi, si⟩ := hi
  obtain ⟨t1, p1, s1⟩ := uni_g hg
  obtain ⟨t2, p2, s2⟩ := uni_t ht
  obtain ⟨t3, p3, s3⟩ := uni_e he
  exact ⟨_, ps_setLc hc hN hy hyl hsw pi ok (fun s H C cl fp => p1 ⟨s, H, C, cl, fp⟩) (fun s H C cl fp => p2 ⟨s, H, C, cl, fp⟩) (fun s H C cl fp => p3 ⟨s, H, C, cl, fp⟩) hs, simS_asg (sim_compP si s1 s2 s3).fz (simG_name (qq := true) hp)⟩
end
end AM

set_option Elab.async false
set_option linter.all false
set_option maxRecDepth 100000
/-! Affine mirror, part 20: short words for printed terms. -/
namespace AM
open PySem L2
def mK0 (mf : MF) (ma : ME (List AW)) : ME W := ma.bind fun as => callK0 mf as
def mK1 (mf : MF) (ma : ME (List AW)) : ME W := ma.bind fun as => match ioOf as with
    | none => ME.stuck
    | some (i, pa) => if ioCount as = 1 then callK1 mf as i pa else ME.stuck
theorem r65 {k : Nat} {A : Around} (r : Room k A) : A.units + 65 < cLine := by have := r.un; omega
/-- the law's promise -/
def spL (K : PySem.W.Frag) (mf : Nat → MF) : Sp := fun vs H Q _ => ∃ (a : Addr) (ns : List Int) (fu : Nat) (outs : List (Option W)), vs = [.ref a] ∧ SqL K H a (ns.map V.int) ∧ mf fu [.sh (.scr ns)] = some (.ok (.sh (.bl true)), outs) ∧ ∀ H', Q (.bl true) H'
theorem FnOk.law {P : Program} {w : World} {K : PySem.W.Frag} {mg : Str → Option Value} {base : Heap} {CX : CXT} {k : Nat} {f : Addr} {fd : FuncData} {x : Str} {mf : Nat → MF} (F : ∀ fu, FnOk P w K mg base CX k f fd [x] (spOf ⟨K, mg⟩ 1 (mf fu))) : FnOk P w K mg base CX k f fd [x] (spL K mf) := by
  have key : ∀ vs H Q E, spL K mf vs H Q E → ∃ fu, spOf ⟨K, mg⟩ 1 (mf fu) vs H Q E := by
    rintro vs H Q E ⟨a, ns, fu, outs, rfl, hs, e, q⟩
    refine ⟨fu, rfl, H, [.sh (.scr ns)], [], Same.refl H, ?_, List.nodup_nil, by simp, ?_⟩
    · simp only [relWs, relW, repD]
      exact ⟨_, [], [], [], rfl, ⟨⟨a, rfl, hs⟩, rfl⟩, ⟨rfl, rfl⟩, rfl⟩
    · rw [e]
      intro v H' B' f0 f2 s r _ _ _ _
      simp only [relW, repD] at r
      rw [r.1]
      exact q H'
  exact ⟨fun vs H Q E h => by
    obtain ⟨fu, h⟩ := key vs H Q E h
    exact (F fu).len vs H Q E h, fun A outer s H args us vs Q E hr he hb hv hs => by
    obtain ⟨fu, h⟩ := key vs H Q E hs
    exact (F fu).run A outer s H args us vs Q E hr he hb hv h⟩
theorem spL_mk {K : PySem.W.Frag} {mf : Nat → MF} {H : Hp} {a : Addr} {ns : List Int} {E : XK} (hS : SqL K H a (ns.map V.int)) (h : ∃ fu outs, mf fu [.sh (.scr ns)] = some (.ok (.sh (.bl true)), outs)) : spL K mf [.ref a] H (fun v _ => v = .bl true) E := by
  obtain ⟨fu, outs, e⟩ := h
  exact ⟨a, ns, fu, outs, rfl, hS, e, fun _ => rfl⟩
theorem noCX {P : Program} {w : World} {H : Hp} {s : Shared} {e : Value} {s' : Shared} (h : L2.CX P w [] H s (fun _ _ _ => False) e s') : False := by
  obtain ⟨_, _, _, _, _, _, _, _, _, _, _, _, z⟩ := h
  exact z
theorem exc_mk {K : PySem.W.Frag} {mg : Str → Option Value} {c : Str} {C : Addr} (h1 : mg c = some (.ref C)) (h2 : PySem.W.excIn K C [.type "ValueError", .type "Exception", .type "BaseException", .type "object"] "ValueError.__new__" = true) (h3 : PySem.W.keepIn K (.ref C) = true)
    (h4 : PySem.W.subIn K (.ref C) (.type "BaseException") = some true) (h5 : PySem.W.typeIn K (.ref C) = some (.type "type")) : ExC K mg c := ⟨⟨C, h1, h2, h3, h4, h5⟩⟩
end AM

set_option Elab.async false
set_option linter.all false
set_option maxRecDepth 100000
/-! Affine mirror, part 26: an item of a name's list, with an index that changes other things. -/
namespace AM
open PySem L2 PyProof.Rows
def gIxI (w : W) (as : List W) : Option (W × W) := match as with
  | [i] => match gIx (w, i) with
    | some (.sh d) => some (w, .sh d)
    | _ => none
  | _ => none
def gOne : W → Option (List W)
  | .sh d => some [.sh d]
  | _ => none
def mIxI (ml : ME Path) (mb : ME W) : ME W := mIn gIxI ml (mb.bind (ME.op gOne))
theorem opi_ix {G : GX} : OpI G (fun v vs H Q => rIx G.K v (vs.headD .non) H Q) gIxI := by
  intro B H w v ga as avs fa w' c s rw' ra nd out e Q q
  unfold gIxI at e
  split at e
  · rename_i i
    split at e
    · rename_i d hd
      cases e
      simp only [relWs] at ra
      obtain ⟨y, r, g1, g2, rfl, r1, ⟨rfl, rfl⟩, rfl⟩ := ra
      refine opp_ix B H (w, i) (v, y) (ga ++ g1) (.sh d) s ⟨ga, g1, rw', r1, rfl⟩ hd Q fun z f' hf nf rz => ?_
      refine q z H B ga f' (fun _ _ h _ => h) (fun _ _ h => h) s (fun _ _ => rfl) (fun p hp => ?_) ?_ (fun _ h => h) rw' rz
      · rw [show f' = [] by simp only [rW, relW] at rz; exact rz.2] at hp
        simp only [List.append_nil] at hp
        exact ⟨out p (by simp [hp]), .inl (by simp [hp])⟩
      · rw [show f' = [] by simp only [rW, relW] at rz; exact rz.2]
        simp only [List.append_nil]
        exact (List.nodup_append.mp nd).1
    · cases e
  · cases e
theorem ops_one {G : GX} : OpS (rW G) (rWs G) (fun y H Q => Q [y] H) gOne := by
  intro B H a b f c s r out e Q q
  unfold gOne at e
  split at e
  · cases e
    have r2 : relW G B H _ b f := r
    simp only [relW] at r2
    obtain ⟨r2, rfl⟩ := r2
    refine q [b] H B [] (fun _ _ h => h) (fun _ _ h => h) s (fun _ _ => rfl) (by simp) List.nodup_nil ?_
    show relWs G B H [.sh _] [b] []
    simp only [relWs, relW]
    exact ⟨b, [], [], [], rfl, ⟨r2, rfl⟩, ⟨rfl, rfl⟩, rfl⟩
  · cases e
section
variable {X : Cx} {Wx : WX} {k p : Bool} {a b : Expr} {ml : ME Path} {mb : ME W} {pos : Pos}
theorem se_ixI (hl : SL X a ml) (hb : SE X Wx k p b mb) (hs : PlainIx b) (hr : Root ml) : SE X Wx true false (.Subscript a b pos) (mIxI ml mb) := by
  obtain ⟨tl, pl, sl⟩ := hl
  obtain ⟨tb, pb, sb⟩ := hb
  exact ⟨_, pe_ix ix_seq pl pb hs, Sim.inPlace (r := fun v vs H Q => rIx (gx X).K v (vs.headD .non) H Q) sl (sb.op ops_one) (.inr hr) opi_ix⟩
end
end AM

set_option Elab.async false
set_option linter.all false
set_option maxRecDepth 100000
/-! Affine mirror, part 27: a def that takes its in-out pair apart at its head. -/
namespace AM
open PySem L2 PyProof.Rows
section
variable {G : GX} {B H : Hp} {σ : L2.St} {env : Env} {f f' g : List Addr} {w : W} {v : V} {i : Nat}
/-- what a slot holds, taken out -/
theorem relE_out (r : relE G B H σ env f) (e : env[i]? = some (some w)) : ∃ v g f', σ[i]? = some (some v) ∧ relW G B H w v g ∧ relE G B H σ (env.set i none) f' ∧ (f.Nodup → (g ++ f').Nodup) ∧ ∀ q ∈ g ++ f', q ∈ f := by
  obtain ⟨e1, e2, s1, o, s2, f1, g, f2, rfl, rfl, l1, l2, rfl, r1, ⟨v, rfl, r2⟩, r3⟩ := relE_split r e
  refine ⟨v, g, f1 ++ ([] ++ f2), get_mid l2, r2, ?_, fun n => ?_, fun q hq => ?_⟩
  · rw [set_mid l1]
    exact relE_join r1 (show relS G B H (some v) none [] from rfl) r3
  · simp only [List.nodup_append, List.mem_append, List.nil_append] at n ⊢
    grind
  · simp only [List.mem_append, List.nil_append] at hq ⊢
    grind
/-- and put in again, where the machine's slot still has it -/
theorem relE_in (r : relE G B H σ env f') (e : env[i]? = some none) (hv : σ[i]? = some (some v)) (rw' : relW G B H w v g) : ∃ f, relE G B H σ (env.set i (some w)) f ∧ ((g ++ f').Nodup → f.Nodup) ∧ ∀ q ∈ f, q ∈ g ++ f' := by
  obtain ⟨e1, e2, s1, o, s2, f1, g0, f2, rfl, rfl, l1, l2, rfl, r1, r2, r3⟩ := relE_split r e
  rw [get_mid l2] at hv
  cases hv
  have z : g0 = [] := r2
  subst z
  refine ⟨f1 ++ (g ++ f2), ?_, fun n => ?_, fun q hq => ?_⟩
  · rw [set_mid l1]
    exact relE_join r1 ⟨v, rfl, rw'⟩ r3
  · simp only [List.nodup_append, List.mem_append, List.nil_append] at n ⊢
    grind
  · simp only [List.mem_append, List.nil_append] at hq ⊢
    grind
end
def packE (i j k : Nat) (e : Env) : Option Env := match e[i]?, e[j]?, e[k]? with
  | some none, some (some a), some (some b) => some (((e.set j none).set k none).set i (some (.ot [a, b])))
  | _, _, _ => none
def mUnp (i j k : Nat) (m : MS) : MS := fun env => match env[i]? with
  | some (some (.ot [w0, w1])) => if j < env.length ∧ k < env.length then match m (((env.set i none).set j (some w0)).set k (some w1)) with
    | some (r, e) => (packE i j k e).map fun e => (r, e)
    | none => none else none
  | _ => none
section
variable {X : Cx} {Wx : WX} {pn pn1 : Nat → Bool} {i j k : Nat} {m : MS} {u : TS}
theorem sim_unp (hij : i ≠ j) (hik : i ≠ k) (hjk : j ≠ k) (hm : SimS (gx X) pn1 Wx u m) (h1i : pn1 i = true) (h1j : pn1 j = true) (h1k : pn1 k = true) (h0 : ∀ a, pn a = true → pn1 a = true ∧ a ≠ j ∧ a ≠ k) :
    SimS (gx X) pn Wx (fun D σ H => tAsg (tVar i) (L2.gTup X.K 2 (gCons (gName j) (gCons (gName k) gNil))) { D with nx := u D } σ H) (mUnp i j k m) := by
  intro B H σ env fp O D c
  unfold mUnp at c
  split at c
  · rename_i w0 w1 e0
    by_cases hl : j < env.length ∧ k < env.length
    · rw [if_pos hl] at c
      obtain ⟨v, g, f', hv, rv, rr, nd1, in1⟩ := relE_out O.rel e0
      simp only [relW] at rv
      obtain ⟨p, vs, rfl, hB, rs⟩ := rv
      simp only [relWs] at rs
      obtain ⟨v0, r0, g0, g0', rfl, q0, ⟨v1, r1, g1, g1', rfl, q1, ⟨rfl, rfl⟩, rfl⟩, rfl⟩ := rs
      refine ⟨.ref p, hv, p, [v0, v1], rfl, SqT.of (O.sub _ _ hB), rfl, v0, [v1], rfl, v1, [], rfl, rfl, ?_⟩
      show u D ((σ.set j (some v0)).set k (some v1)) H
      have nd := nd1 O.nd
      have O1 : Ok (gx X) B H σ (env.set i none) f' := ⟨O.sub, rr, (List.nodup_append.mp nd).2.1, fun q hq => O.out q (in1 q (List.mem_append.mpr (.inr hq)))⟩
      simp only [List.nodup_append, List.mem_append, List.append_nil] at nd in1
      obtain ⟨fp2, O2, s2⟩ := O1.set (i := j) q0 (fun q hq => O.out q (in1 q (by simp [hq]))) (by grind) (by grind) (by simpa using hl.1)
      obtain ⟨fp3, O3, s3⟩ := O2.set (i := k) q1 (fun q hq => O.out q (in1 q (by simp [hq]))) (by grind) (fun q hq z => by
        rcases List.mem_append.mp (s2 q z) with z | z
        · grind
        · grind) (by simpa using hl.2)
      have sub3 : ∀ q ∈ fp3, q ∈ fp := fun q hq => by
        rcases List.mem_append.mp (s3 q hq) with z | z
        · exact in1 q (by simp [z])
        · rcases List.mem_append.mp (s2 q z) with z | z
          · exact in1 q (by simp [z])
          · exact in1 q (by simp [z])
      refine hm B H _ _ fp3 O3 D ?_
      have len : σ.length = env.length := relE_length O.rel
      -- what is behind, packed again
      have pack : ∀ {e e2 : Env} {σ' : L2.St} {H' B' : Hp} {f0 fp4 : List Addr}, packE i j k e = some e2 → PostS (gx X) pn1 B H ((σ.set j (some v0)).set k (some v1)) fp3 e σ' H' B' f0 fp4 →
          ∃ fp5, PostS (gx X) pn B H σ fp e2 σ' H' B' f0 fp5 ∧ ∀ q ∈ fp5, q ∈ fp4 := fun {e e2 σ' H' B' f0 fp4} he P => by
        unfold packE at he
        split at he
        · rename_i a b x1 x2 x3
          cases he
          obtain ⟨va, ga, fa, ha, ra, rra, na, ia⟩ := relE_out P.ok.rel x2
          have x3' : (e.set j none)[k]? = some (some b) := by rw [List.getElem?_set_ne hjk]; exact x3
          obtain ⟨vb, gb, fb, hb, rb, rrb, nb, ib⟩ := relE_out rra x3'
          have x1' : ((e.set j none).set k none)[i]? = some none := by rw [List.getElem?_set_ne hik.symm, List.getElem?_set_ne hij.symm]; exact x1
          have pj := P.pin j h1j
          have pk := P.pin k h1k
          have pi := P.pin i h1i
          rw [List.getElem?_set_ne hjk.symm, List.getElem?_set_self (by omega), ha] at pj
          rw [List.getElem?_set_self (by simp; omega), hb] at pk
          rw [List.getElem?_set_ne hik.symm, List.getElem?_set_ne hij.symm, hv] at pi
          cases pj
          cases pk
          have rw' : relW (gx X) B' H' (.ot [a, b]) (.ref p) (ga ++ gb) := by
            simp only [relW, relWs]
            exact ⟨p, [v0, v1], rfl, P.step.bext _ _ hB, v0, [v1], ga, gb, rfl, ra, ⟨v1, [], gb, [], rfl, rb, ⟨rfl, rfl⟩, by simp⟩, rfl⟩
          obtain ⟨fe, re, ne, ie⟩ := relE_in rrb x1' pi rw'
          have inn : ∀ q ∈ fe, q ∈ fp4 := fun q hq => by
            rcases List.mem_append.mp (ie q hq) with z | z
            · rcases List.mem_append.mp z with z | z
              · exact ia q (by simp [z])
              · exact ia q (List.mem_append.mpr (.inr (ib q (by simp [z]))))
            · exact ia q (List.mem_append.mpr (.inr (ib q (by simp [z]))))
          have nd4 := na P.ok.nd
          have nd5 := nb (List.nodup_append.mp nd4).2.1
          refine ⟨fe, ⟨⟨P.ok.sub, re, ne ?_, fun q hq => P.ok.out q (inn q hq)⟩, ⟨fun a o h n => P.step.keep a o h fun z => n (sub3 a z), P.step.bext, fun a h n => P.step.bold a h fun z => n (sub3 a z), fun q hq => ?_, P.step.live⟩, fun x hx => ?_⟩, inn⟩
          · have dis : ∀ q ∈ ga, q ∉ gb ++ fb := fun q hq z => (List.nodup_append.mp nd4).2.2 q hq q (ib q z) rfl
            rw [List.append_assoc]
            refine List.nodup_append.mpr ⟨(List.nodup_append.mp nd4).1, nd5, fun q hq r hr e => ?_⟩
            subst e
            exact dis q hq hr
          · have : q ∈ f0 ++ fp4 := by
              rcases List.mem_append.mp hq with z | z
              · simp [z]
              · simp [inn q z]
            exact (P.step.new q this).imp (sub3 q) id
          · obtain ⟨y1, y2, y3⟩ := h0 x hx
            rw [P.pin x y1, List.getElem?_set_ne (Ne.symm y3), List.getElem?_set_ne (Ne.symm y2)]
        · cases he
      cases e9 : m (((env.set i none).set j (some w0)).set k (some w1)) with
      | none => rw [e9] at c; exact c.elim
      | some r =>
        obtain ⟨r, e⟩ := r
        rw [e9] at c
        simp only at c
        cases e10 : packE i j k e with
        | none => rw [e10] at c; exact c.elim
        | some e2 =>
          rw [e10] at c
          simp only [Option.map_some] at c
          cases r with
          | ex x =>
            intro cls d σ' H' B' fp4 P hx hd
            obtain ⟨fp5, P2, i2⟩ := pack e10 P
            refine c cls d σ' H' B' fp5 P2 hx fun dd e => ?_
            obtain ⟨a1, a2, a3⟩ := hd dd e
            exact ⟨a1, fun z => a2 (i2 dd z), a3⟩
          | ok fl =>
            cases fl with
            | nx =>
              intro σ' H' B' fp4 P
              obtain ⟨fp5, P2, i2⟩ := pack e10 P
              exact c σ' H' B' fp5 P2
            | bk =>
              intro σ' H' B' fp4 P
              obtain ⟨fp5, P2, i2⟩ := pack e10 P
              exact c σ' H' B' fp5 P2
            | ct =>
              intro σ' H' B' fp4 P
              obtain ⟨fp5, P2, i2⟩ := pack e10 P
              exact c σ' H' B' fp5 P2
            | rt w =>
              intro v σ' H' B' f0 fp4 P r1 r2 r3 r4
              obtain ⟨fp5, P2, i2⟩ := pack e10 P
              exact c v σ' H' B' f0 fp5 P2 r1 r2 r3 fun q hq z => r4 q hq (i2 q z)
    · rw [if_neg hl] at c
      exact c.elim
  · exact c.elim
theorem sss_unp {x y z : Str} {kk : Nat} {p1 p2 p3 p4 pos : Pos} {sts : List Stmt} (hc : X.calm = true) (hN : X.N.Nodup) (hi : PE X (.Name x p1) (tVar i)) (hj : X.N[j]? = some y) (hjl : Loc X.env.scope y) (hk : X.N[k]? = some z) (hkl : Loc X.env.scope z) (hij : i ≠ j) (hik : i ≠ k) (hjk : j ≠ k)
    (h1i : pn1 i = true) (h1j : pn1 j = true) (h1k : pn1 k = true) (h0 : ∀ a, pn a = true → pn1 a = true ∧ a ≠ j ∧ a ≠ k) (hm : SSs X pn1 Wx sts m)
    (hfj : X.fn y = true ∨ X.env.scope.names.lookup y = some .local := by first | exact .inl rfl | exact .inr rfl) (hfk : X.fn z = true ∨ X.env.scope.names.lookup z = some .local := by first | exact .inl rfl | exact .inr rfl)
    (hn : (assignEach [.Name y p3, .Name z p4] X.env).length = 2 := by rfl) (hst : (assignEach [.Name y p3, .Name z p4] X.env).findIdx? (·.1) = none := by rfl)
    (hs : swapsWithSole [.Tuple [.Name y p3, .Name z p4] kk p2] (.Name x p1) pos.line X.env = pure false := by rfl) (hw : swappedStores [.Tuple [.Name y p3, .Name z p4] kk p2] (.Name x p1) X.env = pure none := by rfl)
    (h1 : (assignEach [.Tuple [.Name y p3, .Name z p4] kk p2] X.env).map (·.2) = [assign (.Tuple [.Name y p3, .Name z p4] kk p2) X.env] := by rfl) :
    SSs X pn Wx (.Assign [.Tuple [.Name y p3, .Name z p4] kk p2] (.Name x p1) pos :: sts) (mUnp i j k m) := by
  obtain ⟨u, pu, su⟩ := hm
  exact ⟨_, pss_cons (ps_asg hi (pg_tup hc (pgs_cons (pg_name hN hj hjl hfj) (pgs_cons (pg_name hN hk hkl hfk) pgs_nil)) hn hst) hs hw h1) pu, sim_unp hij hik hjk su h1i h1j h1k h0⟩
/-- pins of the rest of such a def -/
def pnU (n j k : Nat) : Nat → Bool := fun a => Nat.blt a n || (Nat.beq a j || Nat.beq a k)
theorem pnU_ok {n j k : Nat} {nio : List Nat} (hj : Nat.ble n j = true) (hk : Nat.ble n k = true) : ∀ a, pinOf n nio a = true → pnU n j k a = true ∧ a ≠ j ∧ a ≠ k := fun a h => by
  have hj : n ≤ j := by simpa using hj
  have hk : n ≤ k := by simpa using hk
  simp [pinOf] at h
  refine ⟨?_, by omega, by omega⟩
  simp [pnU, h.1]
end
end AM

set_option Elab.async false
set_option linter.all false
set_option maxRecDepth 100000
/-! Affine mirror, part 28: an own name let go ahead of its last statement. -/
namespace AM
open PySem L2 PyProof.Rows
section
variable {G : GX} {B H : Hp} {σ : L2.St} {env : Env} {fp : List Addr} {w : W} {d : D} {i : Nat} {pn : Nat → Bool} {Wx : WX} {t : TS} {m : MS}
theorem Ok.frz (O : Ok G B H σ env fp) (e : env[i]? = some (some w)) (ed : w.toD = some d) : ∃ B' fp', Ok G B' H σ (env.set i (some (.sh d))) fp' ∧ Step B H fp B' H fp' := by
  obtain ⟨v, g, f', hv, rv, rr, nd, inn⟩ := relE_out O.rel e
  have out : ∀ q ∈ g, B q = none := fun q hq => O.out q (inn q (by simp [hq]))
  have n := nd O.nd
  have be := grd_bext (H := H) out
  have rsh : relW G (grd B H g) H (.sh d) v [] := by
    simp only [relW]
    exact ⟨relW_toD be rv ed fun q hq => grd_in hq, trivial⟩
  have hi : i < env.length := (List.getElem?_eq_some_iff.mp e).1
  obtain ⟨fe, re, ne, ie⟩ := relE_in (relE_frame be rr fun _ _ => rfl) (by simp [hi]) hv rsh
  rw [List.set_set] at re
  have sub : ∀ q ∈ fe, q ∈ f' := fun q hq => by simpa using ie q hq
  refine ⟨grd B H g, fe, ⟨grd_sub O.sub, re, ne (by simpa using (List.nodup_append.mp n).2.1), fun q hq => ?_⟩, ⟨fun _ _ h _ => h, be, fun a _ na => grd_out fun z => na (inn a (by simp [z])), fun q hq => .inl (inn q (by simp [sub q hq])), fun _ h => h⟩⟩
  rw [grd_out fun z => (List.nodup_append.mp n).2.2 q z q (sub q hq) rfl]
  exact O.out q (inn q (by simp [sub q hq]))
def mGz (i : Nat) (m : MS) : MS := fun env => match env[i]? with
  | some (some w) => match w.toD with
    | some d => m (env.set i (some (.sh d)))
    | none => none
  | _ => none
theorem simS_gz (h : SimS G pn Wx t m) : SimS G pn Wx t (mGz i m) := by
  intro B H σ env fp O D c
  unfold mGz at c
  split at c
  · rename_i w e
    split at c
    · rename_i d ed
      obtain ⟨B', fp', O', S'⟩ := O.frz e ed
      exact h B' H σ _ fp' O' D (ContS.after ⟨O', S', fun _ _ => rfl⟩ c)
    · exact c.elim
  · exact c.elim
theorem ss_gz {X : Cx} {st : Stmt} (i : Nat) (h : SS X pn Wx st m) : SS X pn Wx st (mGz i m) := by
  obtain ⟨t, p, s⟩ := h
  exact ⟨t, p, simS_gz s⟩
end
end AM

set_option Elab.async false
set_option linter.all false
set_option maxRecDepth 100000
/-! Affine mirror, part 29: objects of own classes: fields, methods, making. -/
namespace AM
open PySem L2 PyProof.Rows

/-- a field of a class: no attribute of the class itself -/
def AttrF (K : PySem.W.Frag) (mg : Str → Option Value) (c f : Str) : Prop := ∀ C, mg c = some (.ref C) → Cls K C ∧ NoAttr K C f
theorem zip_lookup {f : Str} {v : V} : ∀ {fs : List Str} {vs : List V} {j : Nat}, fs.Nodup → fs[j]? = some f → vs[j]? = some v → (fs.zip vs).lookup f = some v
  | [], _, j, _, h, _ => by simp at h
  | g :: fs, [], j, _, _, h => by simp at h
  | g :: fs, u :: vs, 0, _, h1, h2 => by
    simp at h1 h2
    subst h1 h2
    simp [List.lookup]
  | g :: fs, u :: vs, j + 1, nd, h1, h2 => by
    simp only [List.getElem?_cons_succ] at h1 h2
    have hne : f ≠ g := fun z => (List.nodup_cons.mp nd).1 (z ▸ List.mem_of_getElem? h1)
    have ih := zip_lookup (List.nodup_cons.mp nd).2 h1 h2
    simp only [List.zip_cons_cons, List.lookup]
    rw [show (f == g) = false by simpa using hne]
    exact ih
theorem zip_lookup_none {f : Str} : ∀ {fs : List Str} {vs : List V}, f ∉ fs → (fs.zip vs).lookup f = none
  | [], _, _ => rfl
  | g :: fs, [], _ => rfl
  | g :: fs, u :: vs, h => by
    simp only [List.mem_cons, not_or] at h
    simp only [List.zip_cons_cons, List.lookup]
    rw [show (f == g) = false by simpa using h.1]
    exact zip_lookup_none h.2
theorem putF_set {f : Str} {v : V} : ∀ {fs : List Str} {vs : List V} {j : Nat}, fs.Nodup → fs.length = vs.length → fs[j]? = some f → putF f v (fs.zip vs) = fs.zip (vs.set j v)
  | [], _, j, _, _, h => by simp at h
  | g :: fs, [], j, _, l, _ => by simp at l
  | g :: fs, u :: vs, 0, _, _, h1 => by
    simp at h1
    subst h1
    simp [putF]
  | g :: fs, u :: vs, j + 1, nd, l, h1 => by
    simp only [List.getElem?_cons_succ] at h1
    have hne : g ≠ f := fun z => (List.nodup_cons.mp nd).1 (z ▸ List.mem_of_getElem? h1)
    have ih := putF_set (v := v) (List.nodup_cons.mp nd).2 (by simpa using l) h1
    simp [putF, hne, ih]
theorem putF_new {f : Str} {v : V} : ∀ {fs : List Str} {vs : List V}, f ∉ fs → fs.length = vs.length → putF f v (fs.zip vs) = (fs ++ [f]).zip (vs ++ [v])
  | [], [], _, _ => rfl
  | [], _ :: _, _, l => by simp at l
  | g :: fs, [], _, l => by simp at l
  | g :: fs, u :: vs, h, l => by
    simp only [List.mem_cons, not_or] at h
    have ih := putF_new (v := v) h.2 (by simpa using l)
    simp only [List.zip_cons_cons, putF, List.cons_append]
    rw [if_neg (Ne.symm h.1), ih]

/-! ### a field as a place -/
def lFld (c : Str) (fs0 : List Str) (j : Nat) (ml : ME Path) : ME Path := fun env => match ml env with
  | some (.ok path, e) => match getE e path with
    | some (.ob c' fs ws) => if c' = c ∧ fs = fs0 ∧ j < ws.length then some (.ok (path.1, path.2 ++ [j]), e) else none
    | _ => none
  | _ => none
def mPk (ml : ME Path) : ME W := fun env => match ml env with
  | some (.ok path, e) => (getE e path).map fun w => (.ok w, e)
  | _ => none
/-- .. of shared data -/
def mPkS (ml : ME Path) : ME W := fun env => match ml env with
  | some (.ok path, e) => match getE e path with
    | some (.sh d) => some (.ok (.sh d), e)
    | _ => none
  | _ => none
/-- a field of a shared object -/
def gFld (c : Str) (fs0 : List Str) (j : Nat) : W → Option W := fun w => match w with
  | .sh (.obj c' fs ds) => if c' = c ∧ fs = fs0 then ds[j]?.map W.sh else none
  | _ => none
section
variable {G : GX} {Wx : WX} {ml : ME Path} {t : TE} {c f : Str} {fs0 : List Str} {j : Nat}
theorem simL_fld (hA : AttrF G.K G.mg c f) (nd : fs0.Nodup) (hj : fs0[j]? = some f) (ha : SimL G t ml) : SimL G (tFld G.K t f) (lFld c fs0 j ml) := by
  intro B H σ env fp O Q c'
  refine ha B H σ env fp O _ ?_
  unfold lFld at c'
  cases e1 : ml env with
  | none => rw [e1] at c'; exact c'
  | some r1 =>
    obtain ⟨r1, env1⟩ := r1
    rw [e1] at c'
    cases r1 with
    | ex x => exact c'
    | ok path =>
      intro v H1 B1 ee O1 S1 s1 b1 L1
      subst ee
      simp only at c'
      cases e2 : getE env1 path with
      | none => rw [e2] at c'; exact c'.elim
      | some u =>
        rw [e2] at c'
        cases u with
        | ob c1 fs ws =>
          simp only at c'
          by_cases hc : c1 = c ∧ fs = fs0 ∧ j < ws.length
          · rw [if_pos hc] at c'
            obtain ⟨rfl, rfl, hlt⟩ := hc
            obtain ⟨f1, g, f2, ef, ru, _⟩ := relE_zip O1.sub O1.rel e2 L1
            simp only [relW] at ru
            obtain ⟨p, dx, C, vs, gg, rfl, hm, hp, hd, hl, hr, _⟩ := ru
            obtain ⟨cl, na⟩ := hA C hm
            have hv : j < vs.length := by rw [← relWs_length hr]; exact hlt
            have ev := List.getElem?_eq_getElem hv
            refine ⟨p, C, dx, _, vs[j], rfl, hp, cl, na, zip_lookup nd hj ev, ?_⟩
            refine c' _ H1 B1 rfl O1 S1 s1 b1 ?_
            obtain ⟨v0, q1, q2⟩ := L1
            exact ⟨v0, q1, locV_snoc q2 ⟨p, vs[j], rfl, .inr (.inr ⟨C, dx, _, hp, by rw [zip_get hl]; exact ev⟩), rfl⟩⟩
          · rw [if_neg hc] at c'
            exact c'.elim
        | sh _ => exact c'.elim
        | ol _ => exact c'.elim
        | ot _ => exact c'.elim
        | dk _ _ => exact c'.elim
        | dt _ _ => exact c'.elim
theorem sim_pk (ha : SimL G t ml) : Sim G false true Wx (rW G) t (mPk ml) := by
  intro B H σ env fp O Q c'
  refine ha B H σ env fp O _ ?_
  unfold mPk at c'
  cases e1 : ml env with
  | none => rw [e1] at c'; exact c'
  | some r1 =>
    obtain ⟨r1, env1⟩ := r1
    rw [e1] at c'
    cases r1 with
    | ex x => exact c'
    | ok path =>
      intro v H1 B1 ee O1 S1 s1 b1 L1
      subst ee
      simp only at c'
      cases e2 : getE env1 path with
      | none => rw [e2] at c'; exact c'.elim
      | some u =>
        rw [e2] at c'
        obtain ⟨f1, g, f2, rfl, ru, _⟩ := relE_zip O1.sub O1.rel e2 L1
        exact c' v H1 B1 g _ ⟨O1, ru, fun q hq => O1.out q (by simp [hq]), S1.mono fun q hq => by simp only [List.mem_append] at hq ⊢; grind, fun z => Bool.noConfusion z, fun _ => ⟨s1, b1, rfl, rfl⟩⟩
theorem sim_pkS (ha : SimL G t ml) : Sim G true true Wx (rW G) t (mPkS ml) := by
  intro B H σ env fp O Q c'
  refine ha B H σ env fp O _ ?_
  unfold mPkS at c'
  cases e1 : ml env with
  | none => rw [e1] at c'; exact c'
  | some r1 =>
    obtain ⟨r1, env1⟩ := r1
    rw [e1] at c'
    cases r1 with
    | ex x => exact c'
    | ok path =>
      intro v H1 B1 ee O1 S1 s1 b1 L1
      subst ee
      simp only at c'
      cases e2 : getE env1 path with
      | none => rw [e2] at c'; exact c'.elim
      | some u =>
        rw [e2] at c'
        cases u with
        | sh d =>
          obtain ⟨f1, g, f2, rfl, ru, _⟩ := relE_zip O1.sub O1.rel e2 L1
          simp only [relW] at ru
          refine c' v H1 B1 [] _ ⟨O1, ?_, fun q hq => by simp at hq, S1.mono fun q hq => by simpa using hq, fun _ => ⟨List.nodup_nil, fun q hq => by simp at hq⟩, fun _ => ⟨s1, b1, rfl, rfl⟩⟩
          show relW G B1 H1 _ _ _
          simp only [relW]
          exact ⟨ru.1, trivial⟩
        | ob _ _ _ => exact c'.elim
        | ol _ => exact c'.elim
        | ot _ => exact c'.elim
        | dk _ _ => exact c'.elim
        | dt _ _ => exact c'.elim
theorem ops_fld (hA : AttrF G.K G.mg c f) (nd : fs0.Nodup) (hj : fs0[j]? = some f) :
    OpS (rW G) (rW G) (fun x H Q => ∃ a C dx fs v, x = .ref a ∧ H a = some (.ins C dx fs) ∧ Cls G.K C ∧ NoAttr G.K C f ∧ fs.lookup f = some v ∧ Q v H) (gFld c fs0 j) := by
  refine ops_flat fun B H w v fp c' sb ra e => ?_
  unfold gFld at e
  split at e
  · rename_i c1 fs ds
    split at e
    · rename_i hc
      obtain ⟨rfl, rfl⟩ := hc
      simp only [Option.map_eq_some_iff] at e
      obtain ⟨d, e1, rfl⟩ := e
      have ra : relW G B H _ _ _ := ra
      simp only [relW, repD] at ra
      obtain ⟨⟨p, dx, C, vs, rfl, hm, hp, hd, hl, hr⟩, _⟩ := ra
      obtain ⟨cl, na⟩ := hA C hm
      obtain ⟨x, h1, h2⟩ := repDs_get hr e1
      exact ⟨d, x, rfl, h2, fun Q q => ⟨p, C, dx, _, x, rfl, sb _ _ hp, cl, na, zip_lookup nd hj h1, q⟩⟩
    · cases e
  · cases e
end
section
variable {X : Cx} {Wx : WX} {e : Expr} {ml : ME Path} {m : ME W} {c f : Str} {fs0 : List Str} {j : Nat} {pos : Pos} {k p : Bool}
theorem sl_fld (hA : AttrF X.K X.mg c f) (nd : fs0.Nodup) (hj : fs0[j]? = some f) (h : SL X e ml) (hb : attributeBase e f X.env (eval e X.env) = eval e X.env := by rfl) : SL X (.Attribute e f pos) (lFld c fs0 j ml) := by
  obtain ⟨t, pe, s⟩ := h
  exact ⟨_, pe_fld pe hb, simL_fld (G := gx X) hA nd hj s⟩
theorem se_pk (h : SL X e ml) : SE X Wx false true e (mPk ml) := by
  obtain ⟨t, pe, s⟩ := h
  exact ⟨_, pe, sim_pk s⟩
theorem se_pkS (h : SL X e ml) : SE X Wx true true e (mPkS ml) := by
  obtain ⟨t, pe, s⟩ := h
  exact ⟨_, pe, sim_pkS s⟩
theorem se_fldS (hA : AttrF X.K X.mg c f) (nd : fs0.Nodup) (hj : fs0[j]? = some f) (h : SE X Wx k p e m) (hb : attributeBase e f X.env (eval e X.env) = eval e X.env := by rfl) : SE X Wx true p (.Attribute e f pos) (mOp1 (gFld c fs0 j) m) := by
  obtain ⟨t, pe, s⟩ := h
  exact ⟨_, pe_fld pe hb, s.op (ops_fld (G := gx X) hA nd hj)⟩
end
end AM

set_option Elab.async false
set_option linter.all false
set_option maxRecDepth 100000
/-! Affine mirror, part 30: e.f = value; calls of methods; making. -/
namespace AM
open PySem L2 PyProof.Rows

def gFs (c : Str) (fs0 : List Str) (j : Nat) : W → W → Option W := fun o w => match o with
  | .ob c' fs ws => if c' = c ∧ fs = fs0 ∧ j < ws.length then some (.ob c fs (ws.set j w)) else none
  | _ => none
def gFn (c : Str) (fs0 : List Str) (f : Str) : W → W → Option W := fun o w => match o with
  | .ob c' fs ws => if c' = c ∧ fs = fs0 then some (.ob c (fs ++ [f]) (ws ++ [w])) else none
  | _ => none
def PutOk (G : GX) (f : Str) (g : W → W → Option W) : Prop := ∀ (B H : Hp) (o o' w : W) (v y : V) (fo f0 : List Addr), relW G B H o v fo → relW G B H w y f0 → (fo ++ f0).Nodup → g o w = some o' →
  ∃ a C dx fs g', v = .ref a ∧ H a = some (.ins C dx fs) ∧ Cls G.K C ∧ NoAttr G.K C f ∧ fs.length < 1000 ∧ relW G B (upd H a (.ins C dx (putF f y fs))) o' v g' ∧ (∀ q ∈ g', q ∈ fo ∨ q ∈ f0) ∧ g'.Nodup ∧ a ∈ fo ∧ a ∈ g'
theorem putOk_set {G : GX} {c f : Str} {fs0 : List Str} {j : Nat} (hA : AttrF G.K G.mg c f) (nd : fs0.Nodup) (hj : fs0[j]? = some f) (hl : fs0.length < 1000) : PutOk G f (gFs c fs0 j) := by
  intro B H o o' w v y fo f0 ro rw' n e
  unfold gFs at e
  split at e
  · rename_i c1 fs ws
    split at e
    · rename_i hc
      obtain ⟨rfl, rfl, hlt⟩ := hc
      cases e
      simp only [relW] at ro
      obtain ⟨p, dx, C, vs, gg, rfl, hm, hp, hd, hln, hr, rfl⟩ := ro
      obtain ⟨cl, na⟩ := hA C hm
      obtain ⟨g', r', sub, nd'⟩ := relWs_set hr hlt rw'
      simp only [List.nodup_append, List.nodup_cons, List.mem_cons, List.cons_append, List.mem_append] at n
      have np : p ∉ g' := fun z => by rcases sub p z with y | y <;> grind
      have ndx : dx ∉ g' := fun z => by rcases sub dx z with y | y <;> grind
      have npd : p ≠ dx := by grind
      refine ⟨p, C, dx, _, p :: dx :: g', rfl, hp, cl, na, ?_, ?_, fun q hq => ?_, ?_, by simp, by simp⟩
      · rw [List.length_zip]; omega
      · simp only [relW]
        refine ⟨p, dx, C, vs.set j y, g', rfl, hm, ?_, ?_, by simpa using hln, relWs_frame (Same.refl B) r' fun q hq => upd_ne fun z => np (by rw [← z]; exact hq), rfl⟩
        · rw [upd_same, putF_set nd hln hj]
        · rw [upd_ne npd.symm]; exact hd
      · simp only [List.mem_cons] at hq ⊢
        rcases hq with hq | hq | hq
        · simp [hq]
        · simp [hq]
        · rcases sub q hq with z | z <;> simp [z]
      · have := nd' (by grind) (by grind) (by grind)
        simp only [List.nodup_cons, List.mem_cons]
        grind
    · cases e
  · cases e
theorem putOk_new {G : GX} {c f : Str} {fs0 : List Str} (hA : AttrF G.K G.mg c f) (hf : f ∉ fs0) (hl : fs0.length < 1000) : PutOk G f (gFn c fs0 f) := by
  intro B H o o' w v y fo f0 ro rw' n e
  unfold gFn at e
  split at e
  · rename_i c1 fs ws
    split at e
    · rename_i hc
      obtain ⟨rfl, rfl⟩ := hc
      cases e
      simp only [relW] at ro
      obtain ⟨p, dx, C, vs, gg, rfl, hm, hp, hd, hln, hr, rfl⟩ := ro
      obtain ⟨cl, na⟩ := hA C hm
      simp only [List.nodup_append, List.nodup_cons, List.mem_cons, List.cons_append, List.mem_append] at n
      have np : p ∉ gg ++ f0 := by simp only [List.mem_append]; grind
      have npd : p ≠ dx := by grind
      have r1 : relWs G B H [w] [y] f0 := by simp only [relWs]; exact ⟨y, [], f0, [], rfl, rw', ⟨rfl, rfl⟩, by simp⟩
      refine ⟨p, C, dx, _, p :: dx :: (gg ++ f0), rfl, hp, cl, na, ?_, ?_, fun q hq => ?_, ?_, by simp, by simp⟩
      · rw [List.length_zip]; omega
      · simp only [relW]
        refine ⟨p, dx, C, vs ++ [y], gg ++ f0, rfl, hm, ?_, ?_, by simp [hln], relWs_frame (Same.refl B) (relWs_append hr r1) fun q hq => upd_ne fun z => np (by rw [← z]; exact hq), rfl⟩
        · rw [upd_same, putF_new hf hln]
        · rw [upd_ne npd.symm]; exact hd
      · simp only [List.mem_cons, List.mem_append] at hq ⊢
        grind
      · simp only [List.nodup_cons, List.nodup_append, List.mem_cons, List.mem_append]
        grind
    · cases e
  · cases e
def mSetO (g : W → W → Option W) (m : ME W) (ml : ME Path) : MS := m.bind fun w => fun env => match ml env with
  | some (.ok path, e) => match getE e path with
    | some o => match g o w with
      | some o' => (setE e path o').map fun e' => (.ok .nx, e')
      | none => none
    | none => none
  | _ => none
section
variable {G : GX} {pn : Nat → Bool} {Wx : WX} {p : Bool} {te tl : TE} {m : ME W} {ml : ME Path} {f : Str} {g : W → W → Option W}
theorem simS_setO (hg : PutOk G f g) (h : Sim G true p Wx (rW G) te m) (hl : SimL G tl ml) : SimS G pn Wx (sFld G.K tl te f) (mSetO g m ml) := by
  intro B H σ env fp O D c
  refine h B H σ env fp O _ ?_
  unfold mSetO ME.bind at c
  cases e1 : m env with
  | none => rw [e1] at c; exact c
  | some r =>
    obtain ⟨r, env1⟩ := r
    rw [e1] at c
    cases r with
    | ex x => exact c.ofEx (env := env)
    | ok w =>
      intro y H1 B1 f0 fp1 P
      obtain ⟨nd0, dis0⟩ := P.own rfl
      simp only at c
      refine hl B1 H1 σ env1 fp1 P.ok _ ?_
      cases e2 : ml env1 with
      | none => rw [e2] at c; exact c
      | some r2 =>
        obtain ⟨r2, env2⟩ := r2
        rw [e2] at c
        cases r2 with
        | ex x => exact c.elim
        | ok path =>
          intro v H2 B2 ee O2 S2 s2 b2 L2
          subst ee
          simp only at c
          cases e3 : getE env2 path with
          | none => rw [e3] at c; exact c.elim
          | some o =>
            rw [e3] at c
            simp only at c
            cases e4 : g o w with
            | none => rw [e4] at c; exact c.elim
            | some o' =>
              rw [e4] at c
              simp only at c
              have ry : relW G B1 H1 w y f0 := P.rel
              have lv0 := relW_live ry
              have ry2 : relW G B2 H2 w y f0 := relW_frame S2.bext ry fun q hq => same_some s2 (lv0 q hq)
              obtain ⟨f1, gg, f2, rfl, ro, back⟩ := relE_zip O2.sub O2.rel e3 L2
              have ndE := O2.nd
              have ndg : (gg ++ f0).Nodup := by
                simp only [List.nodup_append, List.mem_append] at ndE dis0 ⊢
                refine ⟨ndE.2.1.1, nd0, fun a ha b hb e => ?_⟩
                subst e
                exact dis0 a hb (.inr (.inl ha))
              obtain ⟨a, C, dx, fs, g', rfl, ha, cl, na, hlen, ro', sub, ndg', ain, aing⟩ := hg B2 H2 o o' w v y gg f0 ro ry2 ndg e4
              refine ⟨a, C, dx, fs, rfl, ha, cl, na, hlen, ?_⟩
              simp only [List.nodup_append, List.mem_append] at ndE dis0
              have kp : ∀ q, q ≠ a → upd H2 a (.ins C dx (putF f y fs)) q = H2 q := fun q h => upd_ne h
              have Ba : B2 a = none := O2.out a (by simp [ain])
              obtain ⟨env3, e5, rE⟩ := back B2 (upd H2 a (.ins C dx (putF f y fs))) o' g' (Same.refl B2) (fun q hq => kp q fun z => by
                subst z
                exact ndE.2.2 q hq q (.inl ain) rfl) (fun q hq => kp q fun z => by
                subst z
                exact ndE.2.1.2.2 q ain q hq rfl) ro'
              rw [e5] at c
              have live2 : ∀ q, H q ≠ none → H2 q ≠ none := fun q h => S2.live q (P.step.live q h)
              have inn : ∀ q, q ∈ f1 ++ (g' ++ f2) → q ∈ f0 ++ (f1 ++ (gg ++ f2)) := fun q hq => by
                simp only [List.mem_append] at hq ⊢
                rcases hq with hq | hq | hq
                · simp [hq]
                · rcases sub q hq with z | z <;> simp [z]
                · simp [hq]
              refine c σ _ B2 (f1 ++ (g' ++ f2)) ⟨⟨fun b o h => ?_, rE, ?_, fun q hq => ?_⟩, ⟨fun b o h n => ?_, fun b o h => S2.bext b o (P.step.bext b o h), fun b h n => ?_, fun b hb => ?_, fun b h => ?_⟩, fun _ _ => rfl⟩
              · rw [kp b fun z => by rw [z, Ba] at h; cases h]
                exact O2.sub b o h
              · simp only [List.nodup_append, List.mem_append]
                refine ⟨ndE.1, ⟨ndg', ndE.2.1.2.1, fun x hx z hz e => ?_⟩, fun x hx z hz e => ?_⟩
                · subst e
                  rcases sub x hx with q | q
                  · exact ndE.2.1.2.2 x q x hz rfl
                  · exact dis0 x q (.inr (.inr hz))
                · subst e
                  rcases hz with hz | hz
                  · rcases sub x hz with q | q
                    · exact ndE.2.2 x hx x (.inl q) rfl
                    · exact dis0 x q (.inl hx)
                  · exact ndE.2.2 x hx x (.inr hz) rfl
              · rcases List.mem_append.mp (inn q hq) with z | z
                · rw [b2 q (lv0 q z)]
                  exact P.out q z
                · exact O2.out q z
              · have h1 := P.step.keep b o h n
                rw [kp b fun z => ?_]
                · exact s2 b o h1
                · subst z
                  rcases P.step.new b (by simp [ain]) with q | q
                  · exact n q
                  · rw [h] at q; cases q
              · rw [b2 b (P.step.live b h)]
                exact P.step.bold b h n
              · exact P.step.new b (inn b (by simpa using hb))
              · by_cases z : b = a
                · rw [z, upd_same]; simp
                · rw [kp b z]; exact live2 b h
end
theorem ss_fldS {X : Cx} {pn : Nat → Bool} {Wx : WX} {p : Bool} {o value : Expr} {m : ME W} {ml : ME Path} {c f : Str} {fs0 : List Str} {j : Nat} {pos pos' : Pos} (hA : AttrF X.K X.mg c f) (nd : fs0.Nodup) (hj : fs0[j]? = some f) (hl : fs0.length < 1000) (ho : SL X o ml) (hv : SE X Wx true p value m)
    (hs : swapsWith value (some (.Attribute o f pos')) pos.line X.env = pure false := by rfl) : SS X pn Wx (.Assign [.Attribute o f pos'] value pos) (mSetO (gFs c fs0 j) m ml) := by
  obtain ⟨tl, pl, sl⟩ := ho
  obtain ⟨te, pe, se⟩ := hv
  exact ⟨_, ps_fld pl pe hs, simS_setO (G := gx X) (putOk_set hA nd hj hl) se sl⟩
theorem ss_fldN {X : Cx} {pn : Nat → Bool} {Wx : WX} {p : Bool} {o value : Expr} {m : ME W} {ml : ME Path} {c f : Str} {fs0 : List Str} {pos pos' : Pos} (hA : AttrF X.K X.mg c f) (hf : f ∉ fs0) (hl : fs0.length < 1000) (ho : SL X o ml) (hv : SE X Wx true p value m)
    (hs : swapsWith value (some (.Attribute o f pos')) pos.line X.env = pure false := by rfl) : SS X pn Wx (.Assign [.Attribute o f pos'] value pos) (mSetO (gFn c fs0 f) m ml) := by
  obtain ⟨tl, pl, sl⟩ := ho
  obtain ⟨te, pe, se⟩ := hv
  exact ⟨_, ps_fld pl pe hs, simS_setO (G := gx X) (putOk_new hA hf hl) se sl⟩

/-! ### calls of methods -/
def mOn (c : Str) (fs0 : List Str) (i : Nat) (m : ME W) : ME W := fun env => match env[i]? with
  | some (some (.ob c' fs _)) => if c' = c ∧ fs = fs0 then m env else none
  | some (some (.sh (.obj c' fs _))) => if c' = c ∧ fs = fs0 then m env else none
  | _ => none
def mNoX (m : ME W) : ME W := fun env => match m env with
  | some (.ok w, e) => some (.ok w, e)
  | _ => none
theorem sim_on {G : GX} {Wx : WX} {k p : Bool} {u : V → TE} {m : ME W} {c mt : Str} {fs0 : List Str} {i : Nat} {C : Addr} (hC : G.mg c = some (.ref C)) (hm : mt ∉ fs0) (h : Sim G k p W0 (rW G) (fun σ H Q => ∃ v, σ[i]? = some (some v) ∧ u v σ H Q) m) :
    Sim G k p Wx (rW G) (fun σ H Q => ∃ v, σ[i]? = some (some v) ∧ ∃ a dx fs, v = .ref a ∧ H a = some (.ins C dx fs) ∧ fs.lookup mt = none ∧ u v σ H Q) (mOn c fs0 i (mNoX m)) := by
  intro B H σ env fp O Q c'
  have key : ∀ (a dx : Addr) (vs : List V), σ[i]? = some (some (.ref a)) → H a = some (.ins C dx (fs0.zip vs)) → Cont G k p (rW G) Wx B H σ env fp (mNoX m env) Q →
      ∃ v, σ[i]? = some (some v) ∧ ∃ a dx fs, v = .ref a ∧ H a = some (.ins C dx fs) ∧ fs.lookup mt = none ∧ u v σ H Q := fun a dx vs h1 h2 c' => by
    have := h B H σ env fp O Q (by
      unfold mNoX at c'
      cases e : m env with
      | none => rw [e] at c'; exact c'
      | some r =>
        obtain ⟨r, e2⟩ := r
        rw [e] at c'
        cases r with
        | ok w => exact c'
        | ex x => exact c'.elim)
    obtain ⟨v, h3, h4⟩ := this
    rw [h1] at h3
    cases h3
    exact ⟨_, h1, a, dx, _, rfl, h2, zip_lookup_none hm, h4⟩
  unfold mOn at c'
  split at c'
  · rename_i c1 fs ws e
    split at c'
    · rename_i hc
      obtain ⟨rfl, rfl⟩ := hc
      obtain ⟨e1, e2, s1, o, s2, f1, g, f2, rfl, rfl, l1, l2, rfl, r1, ⟨v, rfl, r2⟩, r3⟩ := relE_split O.rel e
      simp only [relW] at r2
      obtain ⟨a, dx, C', vs, gg, rfl, hmC, hp, _⟩ := r2
      rw [hC] at hmC
      cases hmC
      exact key a dx vs (get_mid l2) hp c'
    · exact c'.elim
  · rename_i c1 fs ws e
    split at c'
    · rename_i hc
      obtain ⟨rfl, rfl⟩ := hc
      obtain ⟨e1, e2, s1, o, s2, f1, g, f2, rfl, rfl, l1, l2, rfl, r1, ⟨v, rfl, r2⟩, r3⟩ := relE_split O.rel e
      simp only [relW, repD] at r2
      obtain ⟨⟨a, dx, C', vs, rfl, hmC, hp, _⟩, _⟩ := r2
      rw [hC] at hmC
      cases hmC
      exact key a dx vs (get_mid l2) (O.sub _ _ hp) c'
    · exact c'.elim
  · exact c'.elim
/-- a method, by what it does -/
structure DfM (P : Program) (w : World) (K : PySem.W.Frag) (mg : Str → Option Value) (base : Heap) (c mt : Str) (n : Nat) (mf : MF) (j : Nat) : Prop where
  ex : ∃ (C f : Addr) (fd : FuncData) (ps : List Str), FnOk P w K mg base (L2.CX P w) j f fd ps (spOf ⟨K, mg⟩ n mf) ∧ mg c = some (.ref C) ∧ Cls K C ∧ Meth K C mt f ∧ Binds K fd ps []
  len : ∀ ws r, mf ws = some r → ws.length = n
/-- a class that may be made, by what its __init__ does -/
structure DfI (P : Program) (w : World) (K : PySem.W.Frag) (mg : Str → Option Value) (base : Heap) (c : Str) (n : Nat) (mf : MF) (j : Nat) : Prop where
  ex : ∃ (C f : Addr) (fd : FuncData) (ps : List Str), FnOk P w K mg base (L2.CX P w) j f fd ps (spOf ⟨K, mg⟩ n mf) ∧ mg c = some (.ref C) ∧ Mk K C f ∧ Binds K fd ps []
  len : ∀ ws r, mf ws = some r → ws.length = n
theorem passes0 {X : Cx} : Passes (L2.CX X.prog X.w) X (WE W0 []) := fun pins σ H s e s' I c => passAt takes0 σ pins H s e s' I c
section
variable {X : Cx} {Wx : WX} {p : Bool} {c mt x : Str} {n j k i : Nat} {fs0 : List Str} {mf : MF} {e o : Expr} {es : List Expr} {ma : ME (List AW)} {pp pos apos : Pos} {pl : Sem Bool}
theorem meth_eq {C : Addr} {G : GX} {t : TA} : (tMeth C mt (spOf G n mf) [] (WE W0 []) (tVar i) t) = (fun σ H Q => ∃ v, σ[i]? = some (some v) ∧ ∃ a dx fs, v = .ref a ∧ H a = some (.ins C dx fs) ∧ fs.lookup mt = none ∧ t σ H fun vs H2 => spOf G n mf (v :: vs) H2 Q (WE W0 σ)) := by
  funext σ H Q
  unfold tMeth tVar
  simp only [List.append_nil]
theorem se_mt1 (D : DfM X.prog X.w X.K X.mg X.base c mt n mf j) (hr : Room j X.A) (ho : PE X o (tVar i)) (hm : mt ∉ fs0) (ha : SAw X W0 p (e :: es) ma)
    (hst : starEach (e :: es) X.env = (false, eval e X.env) :: starEach es X.env := by rfl) (hpl : (backTo pos (starEach es X.env)).any (·.1) = false := by rfl)
    (ht : eval (.Call (.Attribute o mt apos) (e :: es) [] pos) X.env = (do
      let ov ← eval o X.env
      standAt apos.atName
      let (f, first) ← holding [ov] (getMethod ov mt pl)
      callWith pos f first (backTo pos (starEach (e :: es) X.env)) (backToKw pos (keywordEach [] X.env))) := by rfl)
    (hc : p = true ∨ Root (lVar i) := by exact .inr root_var) : SE X Wx true false (.Call (.Attribute o mt apos) (e :: es) [] pos) (mOn c fs0 i (mNoX (mK1 mf (wIo (lVar i) ma)))) := by
  obtain ⟨C, f, fd, ps, F, hC, cl, me, hb⟩ := D.ex
  obtain ⟨t, pa, sa⟩ := ha
  refine ⟨_, pe_meth ho cl me F hr hb .nil passes0 pa hst hpl ht, ?_⟩
  rw [meth_eq]
  exact sim_on (u := fun v σ H Q => t σ H fun vs H2 => spOf (gx X) n mf (v :: vs) H2 Q (WE W0 σ)) hC hm (sim_call1 D.len (simA_loc (mk := AW.io) (fun _ _ _ _ _ h => ⟨h, rfl⟩) simL_var sa hc))
theorem se_mt10 (D : DfM X.prog X.w X.K X.mg X.base c mt n mf j) (hr : Room j X.A) (ho : PE X o (tVar i)) (hm : mt ∉ fs0)
    (ht : eval (.Call (.Attribute o mt apos) [] [] pos) X.env = (do
      let ov ← eval o X.env
      standAt apos.atName
      let (f, first) ← holding [ov] (getMethod ov mt pl)
      callWith pos f first (backTo pos (starEach [] X.env)) (backToKw pos (keywordEach [] X.env))) := by rfl) :
    SE X Wx true false (.Call (.Attribute o mt apos) [] [] pos) (mOn c fs0 i (mNoX (mK1 mf (wIo (lVar i) wNil)))) := by
  obtain ⟨C, f, fd, ps, F, hC, cl, me, hb⟩ := D.ex
  refine ⟨_, pe_meth0 ho cl me F hr hb .nil passes0 ht, ?_⟩
  rw [meth_eq]
  exact sim_on (u := fun v σ H Q => tNil σ H fun vs H2 => spOf (gx X) n mf (v :: vs) H2 Q (WE W0 σ)) hC hm (sim_call1 D.len (simA_loc (mk := AW.io) (fun _ _ _ _ _ h => ⟨h, rfl⟩) simL_var simA_nil (.inl rfl)))
/-- the object lent to be read -/
theorem se_mtB (D : DfM X.prog X.w X.K X.mg X.base c mt n mf j) (hr : Room j X.A) (ho : PE X o (tVar i)) (hm : mt ∉ fs0) (ha : SAw X W0 p (e :: es) ma)
    (hst : starEach (e :: es) X.env = (false, eval e X.env) :: starEach es X.env := by rfl) (hpl : (backTo pos (starEach es X.env)).any (·.1) = false := by rfl)
    (ht : eval (.Call (.Attribute o mt apos) (e :: es) [] pos) X.env = (do
      let ov ← eval o X.env
      standAt apos.atName
      let (f, first) ← holding [ov] (getMethod ov mt pl)
      callWith pos f first (backTo pos (starEach (e :: es) X.env)) (backToKw pos (keywordEach [] X.env))) := by rfl)
    (hc : p = true ∨ Root (lVar i) := by exact .inr root_var) : SE X Wx true p (.Call (.Attribute o mt apos) (e :: es) [] pos) (mOn c fs0 i (mNoX (mK0 mf (wBor (lVar i) ma)))) := by
  obtain ⟨C, f, fd, ps, F, hC, cl, me, hb⟩ := D.ex
  obtain ⟨t, pa, sa⟩ := ha
  refine ⟨_, pe_meth ho cl me F hr hb .nil passes0 pa hst hpl ht, ?_⟩
  rw [meth_eq]
  exact sim_on (u := fun v σ H Q => t σ H fun vs H2 => spOf (gx X) n mf (v :: vs) H2 Q (WE W0 σ)) hC hm (sim_call0 D.len (simA_loc (mk := AW.bor) (fun _ _ _ _ _ h => ⟨h, rfl⟩) simL_var sa hc))
theorem se_mtB0 (D : DfM X.prog X.w X.K X.mg X.base c mt n mf j) (hr : Room j X.A) (ho : PE X o (tVar i)) (hm : mt ∉ fs0)
    (ht : eval (.Call (.Attribute o mt apos) [] [] pos) X.env = (do
      let ov ← eval o X.env
      standAt apos.atName
      let (f, first) ← holding [ov] (getMethod ov mt pl)
      callWith pos f first (backTo pos (starEach [] X.env)) (backToKw pos (keywordEach [] X.env))) := by rfl) :
    SE X Wx true true (.Call (.Attribute o mt apos) [] [] pos) (mOn c fs0 i (mNoX (mK0 mf (wBor (lVar i) wNil)))) := by
  obtain ⟨C, f, fd, ps, F, hC, cl, me, hb⟩ := D.ex
  refine ⟨_, pe_meth0 ho cl me F hr hb .nil passes0 ht, ?_⟩
  rw [meth_eq]
  exact sim_on (u := fun v σ H Q => tNil σ H fun vs H2 => spOf (gx X) n mf (v :: vs) H2 Q (WE W0 σ)) hC hm (sim_call0 D.len (simA_loc (mk := AW.bor) (fun _ _ _ _ _ h => ⟨h, rfl⟩) simL_var simA_nil (.inl rfl)))
/-- the object is shared -/
theorem se_mtS (D : DfM X.prog X.w X.K X.mg X.base c mt n mf j) (hr : Room j X.A) (ho : PE X o (tVar i)) (hm : mt ∉ fs0) (ha : SAw X W0 p (e :: es) ma)
    (hst : starEach (e :: es) X.env = (false, eval e X.env) :: starEach es X.env := by rfl) (hpl : (backTo pos (starEach es X.env)).any (·.1) = false := by rfl)
    (ht : eval (.Call (.Attribute o mt apos) (e :: es) [] pos) X.env = (do
      let ov ← eval o X.env
      standAt apos.atName
      let (f, first) ← holding [ov] (getMethod ov mt pl)
      callWith pos f first (backTo pos (starEach (e :: es) X.env)) (backToKw pos (keywordEach [] X.env))) := by rfl) : SE X Wx true p (.Call (.Attribute o mt apos) (e :: es) [] pos) (mOn c fs0 i (mNoX (mK0 mf (wOwn (mVarS i) ma)))) := by
  obtain ⟨C, f, fd, ps, F, hC, cl, me, hb⟩ := D.ex
  obtain ⟨t, pa, sa⟩ := ha
  refine ⟨_, pe_meth ho cl me F hr hb .nil passes0 pa hst hpl ht, ?_⟩
  rw [meth_eq]
  exact sim_on (u := fun v σ H Q => t σ H fun vs H2 => spOf (gx X) n mf (v :: vs) H2 Q (WE W0 σ)) hC hm (sim_call0 D.len (simA_own (p1 := true) sim_varS sa))
theorem se_mtS0 (D : DfM X.prog X.w X.K X.mg X.base c mt n mf j) (hr : Room j X.A) (ho : PE X o (tVar i)) (hm : mt ∉ fs0)
    (ht : eval (.Call (.Attribute o mt apos) [] [] pos) X.env = (do
      let ov ← eval o X.env
      standAt apos.atName
      let (f, first) ← holding [ov] (getMethod ov mt pl)
      callWith pos f first (backTo pos (starEach [] X.env)) (backToKw pos (keywordEach [] X.env))) := by rfl) :
    SE X Wx true true (.Call (.Attribute o mt apos) [] [] pos) (mOn c fs0 i (mNoX (mK0 mf (wOwn (mVarS i) wNil)))) := by
  obtain ⟨C, f, fd, ps, F, hC, cl, me, hb⟩ := D.ex
  refine ⟨_, pe_meth0 ho cl me F hr hb .nil passes0 ht, ?_⟩
  rw [meth_eq]
  exact sim_on (u := fun v σ H Q => tNil σ H fun vs H2 => spOf (gx X) n mf (v :: vs) H2 Q (WE W0 σ)) hC hm (sim_call0 D.len (simA_own (p1 := true) sim_varS simA_nil))
end
end AM

set_option Elab.async false
set_option linter.all false
set_option maxRecDepth 100000
/-! Affine mirror, part 31: making; an object's parts handed out at its end. -/
namespace AM
open PySem L2 PyProof.Rows

def ownWs : List AW → Option (List W)
  | [] => some []
  | .own w :: as => (ownWs as).map (w :: ·)
  | _ => none
theorem ownWs_rel {G : GX} {B H : Hp} {σ : L2.St} : ∀ {as : List AW} {ws : List W} {vs : List V} {f : List Addr}, ownWs as = some ws → relAs G B H σ as vs f → relWs G B H ws vs f
  | [], ws, vs, f, e, r => by
    cases e
    obtain ⟨rfl, rfl⟩ := r
    simp [relWs]
  | .own w :: as, ws, vs, f, e, r => by
    simp only [ownWs, Option.map_eq_some_iff] at e
    obtain ⟨ws', e1, rfl⟩ := e
    obtain ⟨v, rr, f1, f2, rfl, r1, r2, rfl⟩ := r
    simp only [relWs]
    exact ⟨v, rr, f1, f2, rfl, r1, ownWs_rel e1 r2, rfl⟩
  | .bor _ :: as, ws, vs, f, e, r => by simp [ownWs] at e
  | .io _ :: as, ws, vs, f, e, r => by simp [ownWs] at e
def mMake (c : Str) (mf : MF) (ma : ME (List AW)) : ME W := ma.bind fun as => fun env => match ownWs as with
  | none => none
  | some ws => match mf (.ob c [] [] :: ws) with
    | some (.ok (.sh .non), some w' :: _) => some (.ok w', env)
    | _ => none
section
variable {G : GX} {Wx : WX} {p : Bool} {ta : TA} {ma : ME (List AW)} {mf : MF} {n : Nat} {c : Str} {C : Addr}
theorem sim_make (hC : G.mg c = some (.ref C)) (hn : ∀ ws r, mf ws = some r → ws.length = n) (ha : SimA G p Wx ta ma) : Sim G true p Wx (rW G) (tMake C (spOf G n mf) [] (WE W0 []) ta) (mMake c mf ma) := by
  intro B H σ env fp O Q c0
  refine ha B H σ env fp O _ ?_
  unfold mMake ME.bind at c0
  cases e1 : ma env with
  | none => rw [e1] at c0; exact c0
  | some r1 =>
    obtain ⟨r1, env1⟩ := r1
    rw [e1] at c0
    cases r1 with
    | ex x => exact c0
    | ok as =>
      intro vs H1 B1 f0 fp1 P x dx nx ndx nex
      simp only at c0
      cases e2 : ownWs as with
      | none => rw [e2] at c0; exact c0.elim
      | some ws =>
        rw [e2] at c0
        simp only at c0
        have rws := ownWs_rel e2 P.rel
        have nex' : x ≠ dx := Ne.symm nex
        have sm : Same H1 (upd (upd H1 dx (.own x)) x (.ins C dx [])) := fun a o e => by
          rw [upd_ne (ne_of_none e nx), upd_ne (ne_of_none e ndx)]
          exact e
        have live0 := relWs_live rws
        have liveE := relE_live P.ok.rel
        obtain ⟨nd0, dis0⟩ := P.own
        cases e3 : mf (.ob c [] [] :: ws) with
        | none => rw [e3] at c0; exact c0.elim
        | some ro =>
          have hl := hn _ _ e3
          obtain ⟨r, outs⟩ := ro
          rw [e3] at c0
          have rall : relWs G B1 (upd (upd H1 dx (.own x)) x (.ins C dx [])) (.ob c [] [] :: ws) (.ref x :: (vs ++ [])) (x :: dx :: f0) := by
            simp only [relWs, relW, List.append_nil]
            refine ⟨.ref x, vs, [x, dx], f0, rfl, ⟨x, dx, C, [], [], rfl, hC, by rw [upd_same]; rfl, by rw [upd_ne nex, upd_same], rfl, ⟨rfl, rfl⟩, rfl⟩, relWs_frame (Same.refl B1) rws fun q hq => same_some sm (live0 q hq), rfl⟩
          have lx : ∀ q, H1 q ≠ none → q ≠ x ∧ q ≠ dx := fun q h => ⟨fun z => h (by rw [z]; exact nx), fun z => h (by rw [z]; exact ndx)⟩
          refine ⟨by rw [← relWs_length rall]; exact hl, B1, _, x :: dx :: f0, P.ok.sub.trans sm, rall, ?_, fun q hq => ?_, ?_⟩
          · refine List.nodup_cons.mpr ⟨fun z => ?_, List.nodup_cons.mpr ⟨fun z => live0 dx z ndx, nd0⟩⟩
            rcases List.mem_cons.mp z with z | z
            · exact nex' z
            · exact live0 x z nx
          · simp only [List.mem_cons] at hq
            rcases hq with rfl | rfl | hq
            · exact none_of_sub P.ok.sub nx
            · exact none_of_sub P.ok.sub ndx
            · exact P.out q hq
          · rw [e3]
            cases r with
            | ex xx => simp only at c0; exact c0.elim
            | ok w =>
              intro v H' B' fr f2 s' rw' ro nd out st
              split at c0
              · rename_i w' rest heq
                simp only [Option.some.injEq, Prod.mk.injEq, Res.ok.injEq] at heq
                obtain ⟨rfl, rfl⟩ := heq
                simp only [relW, repD] at rw'
                obtain ⟨rfl, rfl⟩ := rw'
                refine ⟨rfl, ?_⟩
                obtain ⟨o, τ, g1, g2, eσ, ⟨v1, rfl, r1⟩, r2, rfl⟩ := ro
                simp only [List.map_cons, List.cons.injEq, Option.some.injEq] at eσ
                obtain ⟨rfl, rfl⟩ := eσ
                simp only [List.nil_append] at nd out st
                have live1 : ∀ q, H1 q ≠ none → upd (upd H1 dx (.own x)) x (.ins C dx []) q ≠ none := fun q h => by rw [same_some sm h]; exact h
                have keep1 : ∀ q, H1 q ≠ none → q ∉ f0 → H' q = H1 q := fun q h nf => by
                  cases e : H1 q with
                  | none => exact absurd e h
                  | some o =>
                    refine st.keep q o (sm q o e) fun z => ?_
                    simp only [List.mem_cons] at z
                    rcases z with z | z | z
                    · exact (lx q h).1 z
                    · exact (lx q h).2 z
                    · exact nf z
                have bold1 : ∀ q, H1 q ≠ none → q ∉ f0 → B' q = B1 q := fun q h nf => by
                  refine st.bold q (live1 q h) fun z => ?_
                  simp only [List.mem_cons] at z
                  rcases z with z | z | z
                  · exact (lx q h).1 z
                  · exact (lx q h).2 z
                  · exact nf z
                have kE : ∀ q ∈ fp1, H' q = H1 q := fun q hq => keep1 q (liveE q hq) fun z => dis0 q z hq
                have ngone : ∀ a, upd (upd H1 dx (.own x)) x (.ins C dx []) a = none → H1 a = none := fun a h => by
                  cases e : H1 a with
                  | none => rfl
                  | some o => rw [sm a o e] at h; cases h
                have nd1 := (List.nodup_append.mp nd).1
                refine c0 (.ref x) H' B' g1 fp1 ⟨⟨s', relE_frame st.bext P.ok.rel kE, P.ok.nd, fun q hq => ?_⟩, r1, fun q hq => out q (by simp [hq]), ⟨fun a o h nf => ?_, fun a o h => st.bext a o (P.step.bext a o h), fun a h nf => ?_, fun a ha => ?_, fun a h => st.live a (live1 a (P.step.live a h))⟩, fun _ => ⟨nd1, fun q hq z => ?_⟩, fun hp => ?_⟩
                · rw [bold1 q (liveE q hq) fun z => dis0 q z hq]
                  exact P.ok.out q hq
                · have h1 := P.step.keep a o h nf
                  rw [keep1 a (by simp [h1]) fun z => ?_]
                  · exact h1
                  · rcases P.step.new a (by simp [z]) with y | y
                    · exact nf y
                    · rw [h] at y; cases y
                · rw [bold1 a (P.step.live a h) fun z => ?_]
                  · exact P.step.bold a h nf
                  · rcases P.step.new a (by simp [z]) with y | y
                    · exact nf y
                    · exact h y
                · rcases List.mem_append.mp ha with ha | ha
                  · rcases st.new a (by simp [ha]) with z | z
                    · simp only [List.mem_cons] at z
                      rcases z with rfl | rfl | z
                      · exact .inr (none_back P.step.live nx)
                      · exact .inr (none_back P.step.live ndx)
                      · exact P.step.new a (by simp [z])
                    · exact .inr (none_back P.step.live (ngone a z))
                  · exact P.step.new a (by simp [ha])
                · rcases st.new q (by simp [hq]) with y | y
                  · simp only [List.mem_cons] at y
                    rcases y with rfl | rfl | y
                    · exact liveE _ z nx
                    · exact liveE _ z ndx
                    · exact dis0 q y z
                  · exact liveE q z (ngone q y)
                · obtain ⟨a1, a2, a3, a4⟩ := P.pure hp
                  have nf0 : ∀ q, H q ≠ none → q ∉ f0 := fun q h z => by
                    rcases P.step.new q (by simp [z]) with y | y
                    · exact dis0 q z (by rw [a4]; exact y)
                    · exact h y
                  refine ⟨fun q o h => ?_, fun q h => ?_, a3, a4⟩
                  · have h1 := a1 q o h
                    rw [keep1 q (by simp [h1]) (nf0 q (by simp [h]))]
                    exact h1
                  · rw [bold1 q (P.step.live q h) (nf0 q h)]
                    exact a2 q h
              · exact c0.elim
end
section
variable {X : Cx} {Wx : WX} {p : Bool} {c x : Str} {n j k : Nat} {mf : MF} {e : Expr} {es : List Expr} {ma : ME (List AW)} {pp pos : Pos}
theorem se_make (D : DfI X.prog X.w X.K X.mg X.base x n mf j) (hr : Room (j + 1) X.A) (hg : Gl X x) (ha : SAw X Wx p (e :: es) ma) (hdb : (x == ("__debug__" : Str)) = false := by decide)
    (he : starEach (e :: es) X.env = (false, eval e X.env) :: starEach es X.env := by rfl) (hpl : (backTo pos (starEach es X.env)).any (·.1) = false := by rfl) : SE X Wx true p (.Call (.Name x pp) (e :: es) [] pos) (mMake x mf ma) := by
  obtain ⟨C, f, fd, ps, F, hC, M, hb⟩ := D.ex
  obtain ⟨ta, pa, sa⟩ := ha
  exact ⟨_, pe_make M F hr hg hC hb .nil passes0 pa hdb he hpl, sim_make (G := gx X) hC D.len sa⟩
end
/-! ### an object at its end: two of its fields, and what a reading of it gives -/
def mEndA (i j1 j2 : Nat) (ma : ME (List AW)) : ME (List W) := ma.bind fun as => fun env => match as with
  | [.bor (a, [b]), .bor (a', [b']), .own w] => if a = i ∧ b = j1 ∧ a' = i ∧ b' = j2 ∧ j1 ≠ j2 then match env[i]? with
      | some (some (.ob _ _ ws)) => match ws[j1]?, ws[j2]? with
        | some w1, some w2 => some (.ok [w1, w2, w], env.set i none)
        | _, _ => none
      | _ => none
    else none
  | _ => none
theorem relWs_two {G : GX} {B H : Hp} : ∀ {ws : List W} {vs : List V} {f : List Addr} {j1 j2 : Nat} {w1 w2 : W}, relWs G B H ws vs f → j1 < j2 → ws[j1]? = some w1 → ws[j2]? = some w2 →
    ∃ v1 v2 g1 g2, vs[j1]? = some v1 ∧ vs[j2]? = some v2 ∧ relW G B H w1 v1 g1 ∧ relW G B H w2 v2 g2 ∧ (f.Nodup → (g1 ++ g2).Nodup) ∧ ∀ q ∈ g1 ++ g2, q ∈ f
  | [], _, _, j1, j2, _, _, _, _, e, _ => by simp at e
  | w0 :: ws, vs, f, 0, j2, w1, w2, r, h, e1, e2 => by
    simp only [relWs] at r
    obtain ⟨v, rr, g1, gr, rfl, r1, r2, rfl⟩ := r
    simp at e1
    subst e1
    obtain ⟨j2, rfl⟩ : ∃ m, j2 = m + 1 := ⟨j2 - 1, by omega⟩
    simp at e2
    obtain ⟨u1, u2, v1, v2, x, fa, gb, fb, _, rfl, l1, l2, rfl, _, q2, _⟩ := relWs_split r2 e2
    exact ⟨v, v2, g1, gb, rfl, by simpa using get_mid l2, r1, q2, fun n => by simp only [List.nodup_append, List.mem_append] at n ⊢; grind, fun q hq => by simp only [List.mem_append] at hq ⊢; grind⟩
  | w0 :: ws, vs, f, j1 + 1, j2, w1, w2, r, h, e1, e2 => by
    simp only [relWs] at r
    obtain ⟨v, rr, g1, gr, rfl, r1, r2, rfl⟩ := r
    obtain ⟨j2, rfl⟩ : ∃ m, j2 = m + 1 := ⟨j2 - 1, by omega⟩
    simp at e1 e2
    obtain ⟨v1, v2, ga, gb, h1, h2, h3, h4, h5, h6⟩ := relWs_two r2 (by omega) e1 e2
    exact ⟨v1, v2, ga, gb, by simpa using h1, by simpa using h2, h3, h4, fun n => h5 (List.nodup_append.mp n).2.1, fun q hq => by simp [h6 q hq]⟩
theorem relWs_two' {G : GX} {B H : Hp} {ws : List W} {vs : List V} {f : List Addr} {j1 j2 : Nat} {w1 w2 : W} (r : relWs G B H ws vs f) (h : j1 ≠ j2) (e1 : ws[j1]? = some w1) (e2 : ws[j2]? = some w2) :
    ∃ v1 v2 g1 g2, vs[j1]? = some v1 ∧ vs[j2]? = some v2 ∧ relW G B H w1 v1 g1 ∧ relW G B H w2 v2 g2 ∧ (f.Nodup → (g1 ++ g2).Nodup) ∧ ∀ q ∈ g1 ++ g2, q ∈ f := by
  rcases Nat.lt_or_gt_of_ne h with h | h
  · exact relWs_two r h e1 e2
  · obtain ⟨v2, v1, g2, g1, k2, k1, r2, r1, nd, inn⟩ := relWs_two r h e2 e1
    refine ⟨v1, v2, g1, g2, k1, k2, r1, r2, fun n => ?_, fun q hq => inn q ?_⟩
    · have := nd n
      simp only [List.nodup_append] at this ⊢
      exact ⟨this.2.1, this.1, fun a ha b hb e => this.2.2 b hb a ha e.symm⟩
    · simp only [List.mem_append] at hq ⊢
      exact hq.symm
theorem sim_end {G : GX} {Wx : WX} {p : Bool} {i j1 j2 : Nat} {ta : TA} {ma : ME (List AW)} (ha : SimA G p Wx ta ma) : Sim G true false Wx (rWs G) ta (mEndA i j1 j2 ma) := by
  intro B H σ env fp O Q c0
  refine ha B H σ env fp O _ ?_
  unfold mEndA ME.bind at c0
  cases e1 : ma env with
  | none => rw [e1] at c0; exact c0
  | some r1 =>
    obtain ⟨r1, env1⟩ := r1
    rw [e1] at c0
    cases r1 with
    | ex x => exact c0
    | ok as =>
      intro vs H1 B1 f0 fp1 P
      simp only at c0
      split at c0
      · rename_i a b a' b' w
        split at c0
        · rename_i hc
          obtain ⟨rfl, rfl, rfl, rfl, hlt⟩ := hc
          split at c0
          · rename_i cc fs ws e2
            split at c0
            · rename_i w1 w2 h1 h2
              obtain ⟨x1, r1, f1, f1', rfl, ⟨l1, rfl⟩, ⟨x2, r2, f2, f2', rfl, ⟨l2, rfl⟩, ⟨x3, r3, f3, f3', rfl, rw3, ⟨rfl, rfl⟩, rfl⟩, rfl⟩, rfl⟩ := P.rel
              simp only [List.nil_append, List.append_nil] at *
              obtain ⟨v, g, f', hv, rv, rr, ndg, inn⟩ := relE_out P.ok.rel e2
              have ndE := ndg P.ok.nd
              simp only [relW] at rv
              obtain ⟨pa, dx, C, xs, gg, rfl, hm, hp, hd, hl, hr, rfl⟩ := rv
              obtain ⟨y1, y2, g1, g2, k1, k2, q1, q2, nd12, in12⟩ := relWs_two' hr hlt h1 h2
              have fld : ∀ {jj : Nat} {z y : V}, locE H1 σ (a', [jj]) z → xs[jj]? = some y → z = y := fun {jj z y} hz hy => by
                obtain ⟨u, hu, ad, zz, rfl, hz1, hz2⟩ := hz
                rw [hv] at hu
                cases hu
                have hz2 : z = zz := hz2
                subst hz2
                rcases hz1 with ⟨us, e, _⟩ | ⟨us, e, _⟩ | ⟨C2, dx2, us, e, h⟩
                · rw [hp] at e; cases e
                · rw [hp] at e; cases e
                · rw [hp] at e
                  cases e
                  rw [zip_get hl, hy] at h
                  exact (Option.some.inj h).symm
              have z1 := fld l1 k1
              have z2 := fld l2 k2
              subst z1 z2
              have rw3 : relW G B1 H1 w x3 f3 := rw3
              obtain ⟨nd0, dis0⟩ := P.own
              have inE : ∀ q, q ∈ g1 ++ g2 → q ∈ fp1 := fun q hq => inn q (by simp [in12 q hq])
              have inF : ∀ q, q ∈ f' → q ∈ fp1 := fun q hq => inn q (by simp [hq])
              simp only [List.nodup_append, List.nodup_cons, List.mem_cons, List.mem_append, List.cons_append] at ndE
              have nd12' := nd12 ndE.2.2.1
              refine c0 [x1, x2, x3] H1 B1 (g1 ++ (g2 ++ f3)) f' ⟨⟨P.ok.sub, rr, ndE.2.2.2.1, fun q hq => P.ok.out q (inF q hq)⟩, ?_, fun q hq => ?_, P.step.mono fun q hq => ?_, fun _ => ⟨?_, fun q hq z => ?_⟩, fun h => Bool.noConfusion h⟩
              · show relWs G B1 H1 _ _ _
                simp only [relWs]
                exact ⟨x1, [x2, x3], g1, g2 ++ f3, rfl, q1, ⟨x2, [x3], g2, f3, rfl, q2, ⟨x3, [], f3, [], rfl, rw3, ⟨rfl, rfl⟩, by simp⟩, rfl⟩, rfl⟩
              · simp only [List.mem_append] at hq
                rcases hq with hq | hq | hq
                · exact P.ok.out q (inE q (by simp [hq]))
                · exact P.ok.out q (inE q (by simp [hq]))
                · exact P.out q hq
              · simp only [List.mem_append] at hq ⊢
                rcases hq with (hq | hq | hq) | hq
                · exact .inr (inE q (by simp [hq]))
                · exact .inr (inE q (by simp [hq]))
                · exact .inl hq
                · exact .inr (inF q hq)
              · simp only [List.nodup_append, List.mem_append] at nd12' ⊢
                refine ⟨nd12'.1, ⟨nd12'.2.1, nd0, fun s hs t ht e => ?_⟩, fun s hs t ht e => ?_⟩
                · subst e
                  exact dis0 s ht (inE s (by simp [hs]))
                · subst e
                  rcases ht with ht | ht
                  · exact nd12'.2.2 s hs s ht rfl
                  · exact dis0 s ht (inE s (by simp [hs]))
              · simp only [List.mem_append] at hq
                rcases hq with hq | hq | hq
                · exact ndE.2.2.2.2 q (in12 q (by simp [hq])) q z rfl
                · exact ndE.2.2.2.2 q (in12 q (by simp [hq])) q z rfl
                · exact dis0 q hq (inF q z)
            · exact c0.elim
          · exact c0.elim
        · exact c0.elim
      · exact c0.elim
theorem sa_end {X : Cx} {Wx : WX} {p : Bool} {es : List Expr} {ma : ME (List AW)} (i j1 j2 : Nat) (h : SAw X Wx p es ma) : SA X Wx true false es (mEndA i j1 j2 ma) := by
  obtain ⟨t, pa, s⟩ := h
  exact ⟨t, pa, sim_end s⟩
end AM

set_option Elab.async false
set_option linter.all false
set_option maxRecDepth 100000
/-! Affine mirror, part 32: what is not said; calls without arguments; recursion; facts of classes. -/
namespace AM
open PySem L2 PyProof.Rows

section
variable {X : Cx} {pn : Nat → Bool} {Wx : WX} {st : Stmt} {e : Expr} {k p : Bool}
theorem ss_stuck : SS X pn Wx st ME.stuck := ⟨fun _ _ _ => False, ⟨fun _ _ _ _ _ _ h => h.elim⟩, fun _ _ _ _ _ _ _ c => c.elim⟩
theorem se_stuck : SE X Wx k p e ME.stuck := ⟨fun _ _ _ => False, ⟨fun _ _ _ _ _ _ h => h.elim⟩, fun _ _ _ _ _ _ _ c => c.elim⟩
end
theorem se_gintE {X : Cx} {Wx : WX} {x : Str} {i : Int} {pos : Pos} (hg : Gl X x) (h : ∃ u, X.mg x = some u ∧ RelV (.int i) u) (hd : (x == ("__debug__" : Str)) = false := by decide) : SE X Wx true true (.Name x pos) (mC (.int i)) := by
  obtain ⟨u, hm, r⟩ := h
  exact se_gint hg hm r hd
theorem se_gstrE {X : Cx} {Wx : WX} {x : Str} {i : Str} {pos : Pos} (hg : Gl X x) (h : ∃ u, X.mg x = some u ∧ RelV (.str i) u) (hd : (x == ("__debug__" : Str)) = false := by decide) : SE X Wx true true (.Name x pos) (mC (.str i)) := by
  obtain ⟨u, hm, r⟩ := h
  exact se_gstr hg hm r hd
theorem sim_nox {G : GX} {Wx : WX} {k p : Bool} {t : TE} {m : ME W} (h : Sim G k p W0 (rW G) t m) : Sim G k p Wx (rW G) t (mNoX m) := by
  intro B H σ env fp O Q c
  refine h B H σ env fp O Q ?_
  unfold mNoX at c
  cases e : m env with
  | none => rw [e] at c; exact c
  | some r =>
    obtain ⟨r, e2⟩ := r
    rw [e] at c
    cases r with
    | ok w => exact c
    | ex x => exact c.elim
theorem se_callN {X : Cx} {Wx : WX} {x : Str} {n j : Nat} {mf : MF} {pp pos : Pos} (D : Df X.prog X.w X.K X.mg X.base x n mf j) (hr : Room j X.A) (hg : Gl X x) (hdb : (x == ("__debug__" : Str)) = false := by decide) :
    SE X Wx true true (.Call (.Name x pp) [] [] pos) (mNoX (mK0 mf wNil)) := by
  obtain ⟨f, fd, ps, F, hm, hk, hb⟩ := D.ex
  have h : Sim (gx X) true true W0 (rW (gx X)) (tCall (spOf (gx X) n mf) [] (WE W0 []) tNil) (mK0 mf wNil) := by
    have e : (tCall (spOf (gx X) n mf) [] (WE W0 []) tNil) = (fun σ H Q => tNil σ H fun vs H1 => spOf (gx X) n mf vs H1 Q (WE W0 σ)) := by
      funext σ H Q
      unfold tCall
      simp only [List.append_nil]
    rw [e]
    exact sim_call0 D.len simA_nil
  exact ⟨_, pe_call0 F hr hg hm hk hb .nil passes0 hdb, sim_nox h⟩
section
variable {P : Program} {w : World} {K : PySem.W.Frag} {mg : Str → Option Value} {base : Heap}
/-- a def of which nothing is said -/
theorem fn_none {x qual : Str} {st : Stmt} {f : Addr} {fd : FuncData} {N ps : List Str} {k n : Nat} (F : Fun K x qual st f fd) (S : FnScope N ps (defScope st)) (hn : ps.length = n) :
    FnOk P w K mg base (L2.CX P w) (k + 1) f fd ps (spOf ⟨K, mg⟩ n (fun _ => none)) := by
  refine F.okX S (fun vs H Q E h => h.1.trans hn.symm) fun cdv A outer s H vs Q E hr h => ?_
  obtain ⟨_, _, _, _, _, _, _, _, c⟩ := h
  exact c.elim
theorem attr_mk {c f : Str} {C : Addr} (h : mg c = some (.ref C)) (cl : Cls K C) (na : NoAttr K C f) : AttrF K mg c f := fun C' h' => by
  rw [h] at h'
  cases h'
  exact ⟨cl, na⟩
end
end AM

set_option Elab.async false
set_option linter.all false
set_option maxRecDepth 100000
/-! Affine mirror, part 33: is True, is False, of truths. -/
namespace AM
open PySem L2
def gIsB : W × W → Option W := fun p => match p.1, p.2 with
  | .sh (.bl a), .sh (.bl c) => some (.sh (.bl (decide (a = c))))
  | _, _ => none
def gNotB : W × W → Option W := fun p => match p.1, p.2 with
  | .sh (.bl a), .sh (.bl c) => some (.sh (.bl (!decide (a = c))))
  | _, _ => none
section
variable {X : Cx} {b : Expr}
theorem cr_isB : CR X .Is b gIsB := by
  refine ⟨_, op_is_bl, ops_flat fun B H a b fp c s ra e => ?_, nomark _⟩
  obtain ⟨f1, f2, r1, r2, _⟩ := ra
  obtain ⟨a1, a2⟩ := a
  unfold gIsB at e
  simp only at e r1 r2
  split at e
  · rename_i x y
    cases e
    have r1 : relW _ _ _ _ _ _ := r1
    have r2 : relW _ _ _ _ _ _ := r2
    simp only [relW, repD] at r1 r2
    exact ⟨.bl _, .bl (decide (x = y)), rfl, by simp [repD], fun Q q => ⟨x, y, r1.1, r2.1, q⟩⟩
  · cases e
theorem cr_notB : CR X .IsNot b gNotB := by
  refine ⟨_, op_isnot_bl, ops_flat fun B H a b fp c s ra e => ?_, nomark _⟩
  obtain ⟨f1, f2, r1, r2, _⟩ := ra
  obtain ⟨a1, a2⟩ := a
  unfold gNotB at e
  simp only at e r1 r2
  split at e
  · rename_i x y
    cases e
    have r1 : relW _ _ _ _ _ _ := r1
    have r2 : relW _ _ _ _ _ _ := r2
    simp only [relW, repD] at r1 r2
    exact ⟨.bl _, .bl (!decide (x = y)), rfl, by simp [repD], fun Q q => ⟨x, y, r1.1, r2.1, q⟩⟩
  · cases e
end
end AM

set_option Elab.async false
set_option linter.all false
set_option maxRecDepth 100000
set_option maxHeartbeats 4000000
namespace LW
open PySem L2 AM
def fs_Bringing : List Str := ["web", "near", "place", "dues", "times"]
theorem nd_Bringing : fs_Bringing.Nodup := by decide +kernel
def b__law_mixed : MS :=
    (mSeq (mAsg (mOp2 gMod (mOp2 gAdd (mOp2 gAdd (mOp2 gMul (mOp2 gMod (mVarS 0) (mC (.int 2147483647))) (mC (.int 48271))) (mOp2 gMul (mVarS 1) (mC (.int 69621)))) (mC (.int 11))) (mC (.int 2147483647))) (gSet 2))
    (mSeq (mAsg (mOp2 gMod (mOp2 gMul (mVarS 2) (mVarS 2)) (mC (.int 2147483629))) (gSet 2))
    (mRet (mOp2 gDiv (mOp2 gMod (mOp2 gMul (mVarS 2) (mVarS 2)) (mC (.int 2147483587))) (mC (.int 64))))))
def m__law_mixed : MF := fnM 2 3 [0, 1] (b__law_mixed)
def b__law_take : MS :=
    (mSeq (mIfS (mB (mOp2 gIn (mIx (mVar 0) (mC (.int 0))) (mLst (mCons (mC (.int 0)) (mCons (mOp1 gNeg (mC (.int 1))) mNil))))) (mSeq (mAsg (mOp2 gAdd (mIx (mVar 0) (mC (.int 2))) (mC (.int 1))) (gSetI (lVar 0) (mC (.int 2))))
    (mRet (mOp2 gMod (mK0 m__law_mixed (wBor (lIx (lVar 0) (mC (.int 1))) (wBor (lIx (lVar 0) (mC (.int 2))) wNil))) (mVarS 1)))) mNx)
    (mSeq (mAsg (mOp2 gMod (mIx (mVar 0) (mC (.int 0))) (mVarS 1)) (gSet 2))
    (mSeq (mAsg (mOp2 gDiv (mIx (mVar 0) (mC (.int 0))) (mVarS 1)) (gSetI (lVar 0) (mC (.int 0))))
    (mRet (mVarS 2)))))
def m__law_take : MF := fnM 2 3 [1] (b__law_take)
def b__law_web (fu : Nat) : MS :=
    (mSeq (mAsg (mFz (mOp2 gAdd (mVarS 1) (mK1 m__law_take (wIo (lVar 0) (wOwn (mOp2 gSub (mOp2 gAdd (mVarS 2) (mC (.int 1))) (mVarS 1)) wNil))))) (gSet 4))
    (mSeq (mAsg (mOp1 gRgL1 (mVarS 4)) (gSet 5))
    (mSeq (mAsg (mLst mNil) (gSet 6))
    (mSeq (mWhile (mB (mOp2 gNe (mVar 5) (mLst mNil))) (mDrop (mIn (onL gApp) (lChk isOl (lVar 6)) (mCons (mIn (onL gPopAt) (lChk isOl (lVar 5)) (mCons (mK1 m__law_take (wIo (lVar 0) (wOwn (mBi gLen (mCons (mVar 5) mNil)) wNil))) mNil)) mNil))) fu)
    (mSeq (mAsg (mLst mNil) (gSet 7))
    (mSeq (mFor (mItR gRg2 (mCons (mC (.int 1)) (mCons (mVarS 4) mNil))) (gSet 8) (mSeq (mPar [10, 11] (mCons (mSh (mIx (mVar 6) (mVarS 8))) (mCons (mFz (mIxI (lVar 6) (mK1 m__law_take (wIo (lVar 0) (wOwn (mVarS 8) wNil))))) mNil)))
    (mDrop (mIn (onL gApp) (lChk isOl (lVar 7)) (mCons (mTup (mCons (mBi gMin (mCons (mVarS 10) (mCons (mVarS 11) mNil))) (mCons (mBi gMax (mCons (mVarS 10) (mCons (mVarS 11) mNil))) mNil))) mNil)))))
    (mSeq (mIfS (mB (mOp2 gGt (mVarS 4) (mC (.int 1)))) (mFor (mItR gRg1 (mCons (mK1 m__law_take (wIo (lVar 0) (wOwn (mOp2 gSub (mOp2 gAdd (mVarS 3) (mC (.int 2))) (mVarS 4)) wNil))) mNil)) (gSet 8) (mSeq (mAsg (mFz (mK1 m__law_take (wIo (lVar 0) (wOwn (mOp2 gSub (mVarS 4) (mC (.int 1))) wNil)))) (gSet 10))
    (mDrop (mIn (onL gApp) (lChk isOl (lVar 7)) (mCons (mTup (mCons (mVarS 10) (mCons (mOp2 gAdd (mOp2 gAdd (mVarS 10) (mC (.int 1))) (mK1 m__law_take (wIo (lVar 0) (wOwn (mOp2 gSub (mOp2 gSub (mVarS 4) (mC (.int 1))) (mVarS 10)) wNil)))) mNil))) mNil))))) mNx)
    (mSeq (mAsg (mLst mNil) (gSet 9))
    (mSeq (mWhile (mB (mOp2 gNe (mVar 7) (mLst mNil))) (mDrop (mIn (onL gApp) (lChk isOl (lVar 9)) (mCons (mIn (onL gPopAt) (lChk isOl (lVar 7)) (mCons (mK1 m__law_take (wIo (lVar 0) (wOwn (mBi gLen (mCons (mVar 7) mNil)) wNil))) mNil)) mNil))) fu)
    (mRet (mTup (mCons (mVarS 4) (mCons (mMov 9) mNil)))))))))))))
def m__law_web (fu : Nat) : MF := fnM 4 12 [1, 2, 3] (b__law_web fu)
def b__law_pile : MS :=
    (mSeq (mAsg (mC (.int 0)) (gSet 2))
    (mSeq (mIfS (mB (mOp2 gLt (mVarS 1) (mBi gLen (mCons (mVarS 0) mNil)))) (mAsg (mFz (mIx (mVarS 0) (mVarS 1))) (gSet 2)) mNx)
    (mRet (mLst (mCons (mIx (mLst (mCons (mC (.int 0)) (mCons (mOp2 gMod (mVarS 2) (mOp2 gMul (mOp2 gMul (mOp2 gPow (mC (.int 10)) (mC (.int 50))) (mOp2 gPow (mC (.int 10)) (mC (.int 50)))) (mOp2 gPow (mC (.int 10)) (mC (.int 50))))) mNil))) (mBi gToInt (mCons (mOp2 gGe (mBi gAbs (mCons (mVarS 2) mNil)) (mOp2 gPow (mC (.int 10)) (mC (.int 18)))) mNil))) (mCons (mOp2 gMod (mVarS 2) (mC (.int 2147483647))) (mCons (mOp2 gMul (mC (.int 97)) (mVarS 1)) mNil)))))))
def m__law_pile : MF := fnM 2 3 [0, 1] (b__law_pile)
def b__law_number : MS :=
    (mSeq (mAsg (mFz (mK1 m__law_take (wIo (lVar 0) (wOwn (mC (.int 8)) wNil)))) (gSet 1))
    (mSeq (mIfS (mB (mOp2 gLt (mVarS 1) (mC (.int 2)))) (mSeq (mAsg (mC (.int 0)) (gSet 2))
    (mSeq (mFor (mItR gRg1 (mCons (mC (.int 7)) mNil)) (gSet 3) (mAsg (mFz (mOp2 gAdd (mOp2 gMul (mVarS 2) (mOp2 gPow (mC (.int 10)) (mC (.int 5)))) (mK1 m__law_take (wIo (lVar 0) (wOwn (mOp2 gPow (mC (.int 10)) (mC (.int 5))) wNil))))) (gSet 2)))
    (mRet (mIx (mLst (mCons (mVarS 2) (mCons (mOp1 gNeg (mVarS 2)) mNil))) (mVarS 1))))) mNx)
    (mRet (mOp2 gSub (mK1 m__law_take (wIo (lVar 0) (wOwn (mFz (mIx (mLst (mCons (mC (.int 9)) (mCons (mC (.int 25)) mNil))) (mOp2 gMod (mVarS 1) (mC (.int 2))))) wNil))) (mIx (mLst (mCons (mC (.int 3)) (mCons (mC (.int 12)) mNil))) (mOp2 gMod (mVarS 1) (mC (.int 2))))))))
def m__law_number : MF := fnM 1 4 [] (b__law_number)
def b__law_numbers : MS :=
    (mSeq (mAsg (mOp2 gGt (mK1 m__law_take (wIo (lVar 0) (wOwn (mC (.int 3)) wNil))) (mC (.int 0))) (gSet 2))
    (mSeq (mIfS (mB (mVarS 2)) (mRet (mComp (mItR gRg1 (mCons (mVarS 1) mNil)) (gSet 3) (ME.pure true) (mOp2 gSub (mK1 m__law_take (wIo (lVar 0) (wOwn (mC (.int 9)) wNil))) (mC (.int 3))) [3])) mNx)
    (mRet (mComp (mItR gRg1 (mCons (mVarS 1) mNil)) (gSet 3) (ME.pure true) (mK1 m__law_number (wIo (lVar 0) wNil)) [3]))))
def m__law_numbers : MF := fnM 2 4 [1] (b__law_numbers)
def b_look_at_dues : MS :=
    (mIfS (mB (mOp2 gNe (mBi gLen (mCons (mVarS 1) mNil)) (mIx (mVarS 0) (mC (.int 0))))) (mRaise "NoDues") mNx)
def m_look_at_dues : MF := fnM 2 2 [0, 1] (b_look_at_dues)
def b_look_at_place : MS :=
    (mIfS (mOr (mB (mOp2 gLt (mVarS 1) (mC (.int 0)))) (mB (mOp2 gGe (mVarS 1) (mIx (mVarS 0) (mC (.int 0)))))) ME.stuck mNx)
def m_look_at_place : MF := fnM 2 2 [0, 1] (b_look_at_place)
def b_near_of : MS :=
    (mSeq (mAsg (mVarS 0) (gUn 2 (gsCons (gSet 2) (gsCons (gSet 3) gsNil))))
    (mSeq (mAsg (mCompP (mItR gRg1 (mCons (mVarS 2) mNil)) (gSet 6) (ME.pure true) (mOp2 gMul (mLst (mCons (mC (.int 0)) mNil)) (mVarS 2)) [6]) (gSet 1))
    (mSeq (mFor (mItL (mVarS 3)) (gUn 2 (gsCons (gSet 4) (gsCons (gSet 5) gsNil))) (mSeq (mAugI (fun i j => i + j) (lIx (lVar 1) (mVarS 4)) (mVarS 5) (mC (.int 1)))
    (mAugI (fun i j => i + j) (lIx (lVar 1) (mVarS 5)) (mVarS 4) (mC (.int 1)))))
    (mRet (mMov 1)))))
def m_near_of : MF := fnM 1 7 [0] (b_near_of)
def b_Bringing_init : MS :=
    (mSeq (mSetO (gFn "Bringing" [] "web") (mVarS 1) (lVar 0))
    (mSeq (mSetO (gFn "Bringing" ["web"] "near") (mK0 m_near_of (wOwn (mVarS 1) wNil)) (lVar 0))
    (mSeq (mSetO (gFn "Bringing" ["web", "near"] "place") (mVarS 3) (lVar 0))
    (mSeq (mSetO (gFn "Bringing" ["web", "near", "place"] "dues") (mBi gList (mCons (mVarS 2) mNil)) (lVar 0))
    (mSetO (gFn "Bringing" ["web", "near", "place", "dues"] "times") (mOp2 gMul (mLst (mCons (mC (.int 0)) mNil)) (mIx (mVarS 1) (mC (.int 0)))) (lVar 0))))))
def m_Bringing_init : MF := fnM 4 4 [1, 2, 3] (b_Bringing_init)
def b_look_at_times : MS :=
    (mIfS (mB (mOp2 gNe (mBi gLen (mCons (mVarS 1) mNil)) (mIx (mVarS 0) (mC (.int 0))))) (mRaise "NoTimes") mNx)
def m_look_at_times : MF := fnM 2 2 [0, 1] (b_look_at_times)
def b_lent : MS :=
    (mSeq (mDrop (mK0 m_look_at_dues (wOwn (mVarS 0) (wOwn (mVarS 1) wNil))))
    (mSeq (mDrop (mK0 m_look_at_times (wOwn (mVarS 0) (wOwn (mVarS 2) wNil))))
    (mSeq (mAsg (mBi gList (mCons (mVarS 1) mNil)) (gSet 3))
    (mSeq (mFor (mItL (mIx (mVarS 0) (mC (.int 1)))) (gUn 2 (gsCons (gSet 4) (gsCons (gSet 5) gsNil))) (mSeq (mAsg (mOp2 gSub (mIx (mVarS 2) (mVarS 4)) (mIx (mVarS 2) (mVarS 5))) (gSet 6))
    (mSeq (mAugI (fun i j => i - j) (lVar 3) (mVarS 4) (mVarS 6))
    (mAugI (fun i j => i + j) (lVar 3) (mVarS 5) (mVarS 6)))))
    (mRet (mMov 3))))))
def m_lent : MF := fnM 3 7 [0, 1, 2] (b_lent)
def b_Bringing_ties_to : MS :=
    (mRet (mBi gSum (mCons (mCompP (mItL (mVarS 2)) (gSet 3) (ME.pure true) (mIx (mIx (mOp1 (gFld "Bringing" fs_Bringing 1) (mVarS 0)) (mVarS 1)) (mVarS 3)) [3]) mNil)))
def m_Bringing_ties_to : MF := fnM 3 4 [0, 1, 2] (b_Bringing_ties_to)
def b_Bringing_layers (fu : Nat) : MS :=
    (mSeq (mAsg (mLst (mCons (mFz (mLst (mCons (mPkS (lFld "Bringing" fs_Bringing 2 (lVar 0))) mNil))) mNil)) (gSet 1))
    (mSeq (mAsg (mLst (mCons (mPkS (lFld "Bringing" fs_Bringing 2 (lVar 0))) mNil)) (gSet 2))
    (mSeq (mWhile (mB (mOp2 gLt (mBi gLen (mCons (mVar 2) mNil)) (mIx (mPkS (lFld "Bringing" fs_Bringing 0 (lVar 0))) (mC (.int 0))))) (mSeq (mAsg (mFz (mCompP (mItR gRg1 (mCons (mIx (mPkS (lFld "Bringing" fs_Bringing 0 (lVar 0))) (mC (.int 0))) mNil)) (gSet 4) (mAnd (mB (mOp2 gNotIn (mVarS 4) (mVar 2))) (mB (mOp2 gGt (mOn "Bringing" fs_Bringing 0 (mNoX (mK0 m_Bringing_ties_to (wBor (lVar 0) (wOwn (mVarS 4) (wBor (lIx (lVar 1) (mOp1 gNeg (mC (.int 1)))) wNil)))))) (mC (.int 0))))) (mVarS 4) [4])) (gSet 3))
    (mSeq (mDrop (mIn (onL gApp) (lChk isOl (lVar 1)) (mCons (mVarS 3) mNil)))
    (mDrop (mIn (onL gExt) (lChk isOl (lVar 2)) (mCons (mVarS 3) mNil))))) fu)
    (mRet (mMov 1)))))
def m_Bringing_layers (fu : Nat) : MF := fnM 1 5 [] (b_Bringing_layers fu)
def b_put_together : MS :=
    (mRet (mCompP (mItR gRg1 (mCons (mBi gLen (mCons (mVarS 0) mNil)) mNil)) (gSet 2) (ME.pure true) (mOp2 gAdd (mIx (mVarS 0) (mVarS 2)) (mIx (mVarS 1) (mVarS 2))) [2]))
def m_put_together : MF := fnM 2 3 [0, 1] (b_put_together)
def b_Bringing_lend : MS :=
    (mSeq (mAsg (mFz (mCompP (mItR gRg1 (mCons (mIx (mPkS (lFld "Bringing" fs_Bringing 0 (lVar 0))) (mC (.int 0))) mNil)) (gSet 4) (ME.pure true) (mOp2 gMul (mVarS 2) (mBi gToInt (mCons (mOp2 gIn (mVarS 4) (mVarS 1)) mNil))) [4])) (gSet 3))
    (mSeq (mSetO (gFs "Bringing" fs_Bringing 3) (mK0 m_lent (wBor (lFld "Bringing" fs_Bringing 0 (lVar 0)) (wBor (lFld "Bringing" fs_Bringing 3 (lVar 0)) (wOwn (mVarS 3) wNil)))) (lVar 0))
    (mSetO (gFs "Bringing" fs_Bringing 4) (mK0 m_put_together (wBor (lFld "Bringing" fs_Bringing 4 (lVar 0)) (wOwn (mVarS 3) wNil))) (lVar 0))))
def m_Bringing_lend : MF := fnM 3 5 [1, 2] (b_Bringing_lend)
def b_Bringing_pay (fu : Nat) : MS :=
    (mSeq (mAsg (mFz (mOn "Bringing" fs_Bringing 0 (mNoX (mK1 (m_Bringing_layers fu) (wIo (lVar 0) wNil))))) (gSet 1))
    (mFor (mItR gRg3 (mCons (mOp2 gSub (mBi gLen (mCons (mVarS 1) mNil)) (mC (.int 1))) (mCons (mC (.int 0)) (mCons (mOp1 gNeg (mC (.int 1))) mNil)))) (gSet 2) (mSeq (mAsg (mFz (mBi gMax (mCons (mCompP (mItL (mIx (mVarS 1) (mVarS 2))) (gSet 6) (ME.pure true) (mOp1 gNeg (mIx (mPk (lFld "Bringing" fs_Bringing 3 (lVar 0))) (mVarS 6))) [6]) mNil))) (gSet 3))
    (mIfS (mB (mOp2 gGt (mVarS 3) (mC (.int 0)))) (mSeq (mAsg (mLst mNil) (gSet 4))
    (mSeq (mFor (mItL (mSl (mVarS 1) mNoPart (mPart (mVarS 2)))) (gSet 5) (mDrop (mIn (onL gExt) (lChk isOl (lVar 4)) (mCons (mVarS 5) mNil))))
    (mDrop (mOn "Bringing" fs_Bringing 0 (mNoX (mK1 m_Bringing_lend (wIo (lVar 0) (wOwn (mFrz 4) (wOwn (mVarS 3) wNil))))))))) mNx))))
def m_Bringing_pay (fu : Nat) : MF := fnM 1 7 [] (b_Bringing_pay fu)
def b_Bringing_order (fu : Nat) : MS :=
    (mSeq (mAsg (mLst (mCons (mOp1 (gFld "Bringing" fs_Bringing 2) (mVarS 0)) mNil)) (gSet 1))
    (mSeq (mAsg (mLst (mCons (mOp1 (gFld "Bringing" fs_Bringing 2) (mVarS 0)) mNil)) (gSet 2))
    (mSeq (mWhile (mB (mOp2 gNe (mVar 2) (mLst mNil))) (mSeq (mAsg (mLst mNil) (gSet 2))
    (mFor (mItR gRg1 (mCons (mIx (mOp1 (gFld "Bringing" fs_Bringing 0) (mVarS 0)) (mC (.int 0))) mNil)) (gSet 3) (mIfS (mAnd (mB (mOp2 gNotIn (mVarS 3) (mVar 1))) (mB (mOp2 gLt (mIx (mOp1 (gFld "Bringing" fs_Bringing 3) (mVarS 0)) (mVarS 3)) (mOn "Bringing" fs_Bringing 0 (mNoX (mK0 m_Bringing_ties_to (wOwn (mVarS 0) (wOwn (mVarS 3) (wBor (lVar 1) wNil))))))))) (mSeq (mDrop (mIn (onL gApp) (lChk isOl (lVar 1)) (mCons (mVarS 3) mNil)))
    (mDrop (mIn (onL gApp) (lChk isOl (lVar 2)) (mCons (mVarS 3) mNil)))) mNx))) fu)
    (mRet (mMov 1)))))
def m_Bringing_order (fu : Nat) : MF := fnM 1 4 [0] (b_Bringing_order fu)
def b_Bringing_draw_in (fu : Nat) : MS :=
    (mSeq (mAsg (mFz (mOn "Bringing" fs_Bringing 0 (mNoX (mK0 (m_Bringing_order fu) (wBor (lVar 0) wNil))))) (gSet 1))
    (mWhile (mB (mOp2 gLt (mBi gLen (mCons (mVarS 1) mNil)) (mIx (mPkS (lFld "Bringing" fs_Bringing 0 (lVar 0))) (mC (.int 0))))) (mSeq (mAsg (mFz (mCompP (mItR gRg1 (mCons (mIx (mPkS (lFld "Bringing" fs_Bringing 0 (lVar 0))) (mC (.int 0))) mNil)) (gSet 4) (mB (mOp2 gNotIn (mVarS 4) (mVarS 1))) (mVarS 4) [4])) (gSet 2))
    (mSeq (mAsg (mFz (mCompP (mItL (mVarS 2)) (gSet 4) (ME.pure true) (mTup (mCons (mVarS 4) (mCons (mOn "Bringing" fs_Bringing 0 (mNoX (mK0 m_Bringing_ties_to (wBor (lVar 0) (wOwn (mVarS 4) (wOwn (mVarS 1) wNil)))))) mNil))) [4])) (gSet 3))
    (mSeq (mDrop (mOn "Bringing" fs_Bringing 0 (mNoX (mK1 m_Bringing_lend (wIo (lVar 0) (wOwn (mVarS 2) (wOwn (mFz (mBi gMin (mCons (mCompP (mItL (mVarS 3)) (gUn 2 (gsCons (gSet 4) (gsCons (gSet 5) gsNil))) (mB (mOp2 gGt (mVarS 5) (mC (.int 0)))) (mOp2 gDiv (mIx (mPk (lFld "Bringing" fs_Bringing 3 (lVar 0))) (mVarS 4)) (mVarS 5)) [4, 5]) mNil))) wNil)))))))
    (mAsg (mFz (mOn "Bringing" fs_Bringing 0 (mNoX (mK0 (m_Bringing_order fu) (wBor (lVar 0) wNil))))) (gSet 1))))) fu))
def m_Bringing_draw_in (fu : Nat) : MF := fnM 1 6 [] (b_Bringing_draw_in fu)
def b_brought (fu : Nat) (rec_brought : MF) : MS :=
    (mSeq (mAsg (mMake "Bringing" m_Bringing_init (wOwn (mVarS 0) (wOwn (mVarS 1) (wOwn (mVarS 2) wNil)))) (gSet 3))
    (mSeq (mAsg (mFz (mCompP (mItR gEnum (mCons (mVarS 1) mNil)) (gUn 2 (gsCons (gSet 6) (gsCons (gSet 7) gsNil))) (mB (mOp2 gNe (mVarS 6) (mVarS 2))) (mVarS 7) [6, 7])) (gSet 4))
    (mSeq (mIfS (mAnd (mB (mOp2 gNe (mVarS 4) (mLst mNil))) (mOr (mB (mOp2 gGt (mBi gMax (mCons (mVarS 4) mNil)) (mC (.int 20)))) (mB (mOp2 gLt (mBi gMin (mCons (mVarS 4) mNil)) (mOp1 gNeg (mC (.int 20))))))) (mSeq (mAsg (mFz (mIx (mK0 rec_brought (wOwn (mVarS 0) (wOwn (mFz (mCompP (mItL (mVarS 1)) (gSet 7) (ME.pure true) (mOp2 gDiv (mVarS 7) (mC (.int 2))) [7])) (wOwn (mVarS 2) wNil)))) (mC (.int 0)))) (gSet 5))
    (mSeq (mSetO (gFs "Bringing" fs_Bringing 4) (mCompP (mItL (mVarS 5)) (gSet 8) (ME.pure true) (mOp2 gMul (mC (.int 2)) (mVarS 8)) [8]) (lVar 3))
    (mSetO (gFs "Bringing" fs_Bringing 3) (mK0 m_lent (wOwn (mVarS 0) (wOwn (mVarS 1) (wBor (lFld "Bringing" fs_Bringing 4 (lVar 3)) wNil)))) (lVar 3)))) mNx)
    (mSeq (mDrop (mOn "Bringing" fs_Bringing 3 (mNoX (mK1 (m_Bringing_pay fu) (wIo (lVar 3) wNil)))))
    (mSeq (mDrop (mOn "Bringing" fs_Bringing 3 (mNoX (mK1 (m_Bringing_draw_in fu) (wIo (lVar 3) wNil)))))
    (mRet (mTup (mEndA 3 4 3 (wBor (lFld "Bringing" fs_Bringing 4 (lVar 3)) (wBor (lFld "Bringing" fs_Bringing 3 (lVar 3)) (wOwn (mOn "Bringing" fs_Bringing 3 (mNoX (mK0 (m_Bringing_order fu) (wBor (lVar 3) wNil)))) wNil)))))))))))
def m_brought (fu : Nat) : Nat → MF
  | 0 => fun _ => none
  | d + 1 => fnM 3 9 [0, 1, 2] (b_brought fu (m_brought fu d))
def b_draw (fu : Nat) : MS :=
    (mSeq (mDrop (mK0 m_look_at_dues (wOwn (mVarS 0) (wOwn (mVarS 1) wNil))))
    (mSeq (mDrop (mK0 m_look_at_place (wOwn (mVarS 0) (wOwn (mVarS 2) wNil))))
    (mSeq (mAsg (mK0 (m_brought fu 200) (wOwn (mVarS 0) (wOwn (mVarS 1) (wOwn (mVarS 2) wNil)))) (gUn 3 (gsCons (gSet 3) (gsCons (gSet 4) (gsCons (gSet 5) gsNil)))))
    (mRet (mTup (mCons (mSh (mIx (mVar 4) (mVarS 2))) (mCons (mFrz 3) (mCons (mTup (mCons (mBi gList (mCons (mVar 3) mNil)) (mCons (mMov 5) mNil))) mNil))))))))
def m_draw (fu : Nat) : MF := fnM 3 6 [0, 1, 2] (b_draw fu)
def b__law_draw (fu : Nat) : MS :=
    (mRet (mIx (mK0 (m_draw fu) (wOwn (mVarS 0) (wOwn (mFz (mBi gList (mCons (mVarS 1) mNil))) (wOwn (mVarS 2) wNil)))) (mC (.int 0))))
def m__law_draw (fu : Nat) : MF := fnM 3 3 [0, 1, 2] (b__law_draw fu)
def b_loose : MS :=
    (mRet (mOp2 gSub (mOp2 gAdd (mBi gLen (mCons (mIx (mVarS 0) (mC (.int 1))) mNil)) (mC (.int 1))) (mIx (mVarS 0) (mC (.int 0)))))
def m_loose : MF := fnM 1 1 [0] (b_loose)
def b__law_more : MS :=
    (mSeq (mAsg (mBi gList (mCons (mVarS 0) mNil)) (gSet 3))
    (mSeq (mAsg (mOp2 gAdd (mIx (mVar 3) (mVarS 1)) (mVarS 2)) (gSetI (lVar 3) (mVarS 1)))
    (mRet (mMov 3))))
def m__law_more : MF := fnM 3 4 [0, 1, 2] (b__law_more)
def b_is_clear : MS :=
    (mRet (mOp2 gGe (mBi gMin (mCons (mVarS 0) mNil)) (mC (.int 0))))
def m_is_clear : MF := fnM 1 1 [0] (b_is_clear)
def b_cleared (fu : Nat) : MS :=
    (mSeq (mDrop (mK0 m_look_at_dues (wOwn (mVarS 0) (wOwn (mVarS 1) wNil))))
    (mSeq (mAsg (mK0 (m_brought fu 200) (wOwn (mVarS 0) (wOwn (mVarS 1) (wOwn (mC (.int 0)) wNil)))) (gUn 3 (gsCons (gSet 2) (gsCons (gSet 3) (gsCons (gSet 4) gsNil)))))
    (mSeq (mIfS (mB (mK0 m_is_clear (wBor (lVar 3) wNil))) (mRet (mTup (mCons (mC (.bl true)) (mCons (mMov 2) mNil)))) mNx)
    (mRet (mTup (mCons (mC (.bl false)) (mCons (mMov 2) (mCons (mMov 4) mNil))))))))
def m_cleared (fu : Nat) : MF := fnM 2 5 [0, 1] (b_cleared fu)
def b_law (fu : Nat) : MS :=
    (mSeq (mFor (mItR gRg3 (mCons (mC (.int 0)) (mCons (mC (.int 12)) (mCons (mC (.int 3)) mNil)))) (gSet 1) (mSeq (mAsg (mFz (mK0 (m__law_web fu) (wOwn (mK0 m__law_pile (wOwn (mVarS 0) (wOwn (mVarS 1) wNil))) (wOwn (mC (.int 1)) (wOwn (mC (.int 6)) (wOwn (mC (.int 10)) wNil)))))) (gSet 2))
    (mSeq (mAsg (mVarS 2) (gUn 2 (gsCons (gSet 12) (gsCons (gSet 13) gsNil))))
    (mSeq (mAsg (mK0 m__law_pile (wOwn (mVarS 0) (wOwn (mOp2 gAdd (mVarS 1) (mC (.int 1))) wNil))) (gSet 3))
    (mSeq (mAsg (mFz (mK1 m__law_numbers (wIo (lVar 3) (wOwn (mVarS 12) wNil)))) (gSet 4))
    (mSeq (mAsg (mFz (mK1 m__law_take (wIo (lVar 3) (wOwn (mVarS 12) wNil)))) (gSet 5))
    (mSeq (mAsg (mFz (mK1 m__law_take (wIo (lVar 3) (wOwn (mVarS 12) wNil)))) (gSet 6))
    (mSeq (mAsg (mK0 m__law_pile (wOwn (mVarS 0) (wOwn (mOp2 gAdd (mVarS 1) (mC (.int 2))) wNil))) (gSet 3))
    (mSeq (mAsg (mFz (mK1 m__law_numbers (wIo (lVar 3) (wOwn (mVarS 12) wNil)))) (gSet 7))
    (mSeq (mAsg (mFz (mK1 m__law_number (wIo (lVar 3) wNil))) (gSet 8))
    (mSeq (mAsg (mFz (mK0 (m__law_draw fu) (wOwn (mVarS 2) (wOwn (mVarS 4) (wOwn (mVarS 5) wNil))))) (gSet 9))
    (mSeq (mIfS (mOr (mB (mOp2 gNe (mK0 (m__law_draw fu) (wOwn (mVarS 2) (wOwn (mFz (mK0 m_lent (wOwn (mVarS 2) (wOwn (mVarS 4) (wOwn (mVarS 7) wNil))))) (wOwn (mVarS 5) wNil)))) (mVarS 9))) (mOr (mB (mOp2 gGt (mVarS 9) (mBi gSum (mCons (mVarS 4) mNil)))) (mB (mOp2 gLt (mVarS 9) (mOp2 gSub (mBi gSum (mCons (mVarS 4) mNil)) (mK0 m_loose (wOwn (mVarS 2) wNil))))))) (mRet (mC (.bl false))) mNx)
    (mSeq (mIfS (mB (mOp2 gNe (mK0 (m__law_draw fu) (wOwn (mVarS 2) (wOwn (mFz (mK0 m__law_more (wOwn (mVarS 4) (wOwn (mVarS 5) (wOwn (mVarS 8) wNil))))) (wOwn (mVarS 5) wNil)))) (mOp2 gAdd (mVarS 9) (mVarS 8)))) (mRet (mC (.bl false))) mNx)
    (mSeq (mIfS (mB (mOp2 gLt (mK0 (m__law_draw fu) (wOwn (mVarS 2) (wOwn (mFz (mK0 m__law_more (wOwn (mVarS 4) (wOwn (mVarS 6) (wOwn (mC (.int 1)) wNil))))) (wOwn (mVarS 5) wNil)))) (mOp2 gAdd (mVarS 9) (mBi gToInt (mCons (mOp2 gEq (mVarS 6) (mVarS 5)) mNil))))) (mRet (mC (.bl false))) mNx)
    (mSeq (mIfS (mOr (mB (mOp2 gNe (mIx (mK0 (m_cleared fu) (wOwn (mVarS 2) (wOwn (mVarS 4) wNil))) (mC (.int 0))) (mOp2 gGe (mVarS 9) (mC (.int 0))))) (mB (mOp2 gNe (mOp2 gGe (mVarS 9) (mC (.int 0))) (mOp2 gGe (mK0 (m__law_draw fu) (wOwn (mVarS 2) (wOwn (mVarS 4) (wOwn (mVarS 6) wNil)))) (mC (.int 0)))))) (mRet (mC (.bl false))) mNx)
    (mSeq (mIfS (mB (mOp2 gNe (mK0 (m__law_draw fu) (wOwn (mVarS 2) (wOwn (mFz (mK0 m__law_more (wOwn (mVarS 4) (wOwn (mVarS 5) (wOwn (mOp1 gNeg (mVarS 9)) wNil))))) (wOwn (mVarS 5) wNil)))) (mC (.int 0)))) (mRet (mC (.bl false))) mNx)
    (mSeq (mAsg (mFz (mTup (mCons (mVarS 12) (mCons (mCompP (mItL (mVarS 13)) (gUn 2 (gsCons (gSet 14) (gsCons (gSet 15) gsNil))) (ME.pure true) (mTup (mCons (mOp2 gSub (mOp2 gSub (mVarS 12) (mC (.int 1))) (mVarS 15)) (mCons (mOp2 gSub (mOp2 gSub (mVarS 12) (mC (.int 1))) (mVarS 14)) mNil))) [14, 15]) mNil)))) (gSet 10))
    (mSeq (mIfS (mB (mOp2 gNe (mK0 (m__law_draw fu) (wOwn (mVarS 10) (wOwn (mFz (mOp1 gRevL (mVarS 4))) (wOwn (mOp2 gSub (mOp2 gSub (mVarS 12) (mC (.int 1))) (mVarS 5)) wNil)))) (mVarS 9))) (mRet (mC (.bl false))) mNx)
    (mSeq (mAsg (mFz (mK0 m__law_more (wOwn (mFz (mOp2 gMul (mLst (mCons (mC (.int 0)) mNil)) (mVarS 12))) (wOwn (mVarS 5) (wOwn (mBi gSum (mCons (mVarS 4) mNil)) wNil))))) (gSet 11))
    (mIfS (mB (mOp2 gNe (mK0 (m__law_draw fu) (wOwn (mVarS 2) (wOwn (mVarS 11) (wOwn (mVarS 5) wNil)))) (mBi gSum (mCons (mVarS 4) mNil)))) (mRet (mC (.bl false))) mNx))))))))))))))))))))
    (mRet (mC (.bl true))))
def m_law (fu : Nat) : MF := fnM 1 16 [0] (b_law fu)
end LW

set_option Elab.async false
set_option linter.all false
set_option maxRecDepth 100000
/-! Typed layer, part 1: typed computations, judgements, rules of statements. -/
namespace TY
open PySem AM
abbrev Env := AM.Env
/-- a typed computation: nothing said, a value, or a refusal -/
abbrev X (α : Type) := Option (Res α)
section
variable {α β γ δ σ τ ρ lam : Type}
def X.ok (a : α) : X α := some (.ok a)
def X.ex (x : XV) : X α := some (.ex x)
def X.bad : X α := none
def X.bind (p : X α) (k : α → X β) : X β := match p with
  | none => none
  | some (.ok a) => k a
  | some (.ex x) => some (.ex x)
def X.ofO (o : Option α) : X α := o.map .ok
@[simp] theorem bind_ok {a : α} {k : α → X β} : X.bind (X.ok a) k = k a := Eq.trans rfl rfl
@[simp] theorem bind_some {a : α} {k : α → X β} : X.bind (some (.ok a)) k = k a := Eq.trans rfl rfl
@[simp] theorem bind_ex {x : XV} {k : α → X β} : X.bind (X.ex x) k = X.ex x := Eq.trans rfl rfl
@[simp] theorem bind_ex2 {x : XV} {k : α → X β} : X.bind (some (.ex x)) k = some (.ex x) := Eq.trans rfl rfl
@[simp] theorem bind_none {k : α → X β} : X.bind none k = none := Eq.trans rfl rfl
@[simp] theorem bind_bad {k : α → X β} : X.bind X.bad k = X.bad := Eq.trans rfl rfl
@[simp] theorem ofO_some {a : α} : X.ofO (some a) = X.ok a := Eq.trans rfl rfl
@[simp] theorem ofO_none : X.ofO (none : Option α) = X.bad := Eq.trans rfl rfl
theorem bind_assoc {p : X α} {f : α → X β} {g : β → X γ} : X.bind (X.bind p f) g = X.bind p fun a => X.bind (f a) g := by
  rcases p with _ | ⟨a | x⟩ <;> rfl
theorem bind_ite {c : Prop} [Decidable c] {p q : X α} {k : α → X β} : X.bind (if c then p else q) k = if c then X.bind p k else X.bind q k := by
  split <;> rfl
@[simp] theorem ok_inj {a b : α} : (X.ok a = X.ok b) ↔ a = b := by simp [X.ok]
/-- how a block ends: at its end, by break, by continue, by return -/
inductive Out (σ lam ρ : Type) where
  | go (s : σ) | bk (l : lam) | ct (l : lam) | rt (r : ρ)
/-- behind a block with exits, within a block with exits -/
def X.bindO (p : X (Out σ lam ρ)) (k : σ → X (Out τ lam ρ)) : X (Out τ lam ρ) := X.bind p fun o => match o with
  | .go s => k s | .bk l => X.ok (.bk l) | .ct l => X.ok (.ct l) | .rt r => X.ok (.rt r)
/-- behind a block that may return, in a def's body -/
def X.bindR (p : X (Out σ Unit ρ)) (k : σ → X ρ) : X ρ := X.bind p fun o => match o with
  | .go s => k s | .bk _ => X.bad | .ct _ => X.bad | .rt r => X.ok r
/-- a loop without exits -/
def X.forP (b : α → σ → X σ) : List α → σ → X σ
  | [], s => X.ok s
  | a :: as, s => X.bind (b a s) fun s => X.forP b as s
/-- a loop with exits -/
def X.forL (b : α → σ → X (Out σ σ ρ)) : List α → σ → X (Out σ Unit ρ)
  | [], s => X.ok (.go s)
  | a :: as, s => X.bind (b a s) fun o => match o with
    | .go s => X.forL b as s | .ct s => X.forL b as s | .bk s => X.ok (.go s) | .rt r => X.ok (.rt r)
def X.whP (c : σ → X Bool) (b : σ → X σ) : Nat → σ → X σ
  | 0, _ => X.bad
  | n + 1, s => X.bind (c s) fun t => if t = true then X.bind (b s) fun s => X.whP c b n s else X.ok s
def X.whL (c : σ → X Bool) (b : σ → X (Out σ σ ρ)) : Nat → σ → X (Out σ Unit ρ)
  | 0, _ => X.bad
  | n + 1, s => X.bind (c s) fun t => if t = true then (X.bind (b s) fun o => match o with
    | .go s => X.whL c b n s | .ct s => X.whL c b n s | .bk s => X.ok (.go s) | .rt r => X.ok (.rt r)) else X.ok (.go s)
/-- a block that may return, within a loop or block with other exits -/
def X.up (p : X (Out σ Unit ρ)) : X (Out σ lam ρ) := X.bind p fun o => match o with
  | .go s => X.ok (.go s) | .bk _ => X.bad | .ct _ => X.bad | .rt r => X.ok (.rt r)

/-! ### judgements -/
/-- what a run of the mirror is to a typed computation -/
structure Jd (β τ : Type) where
  rel0 : Option (Res β × Env) → X τ → Prop
  Ex : Env → Prop
  non0 : ∀ r, rel0 r none
  ex0 : ∀ x e, Ex e → rel0 (some (.ex x, e)) (some (.ex x))
/-- the same, not to be looked through -/
structure Jd.rel {β τ : Type} (J : Jd β τ) (r : Option (Res β × Env)) (p : X τ) : Prop where
  h : J.rel0 r p
theorem Jd.non {β τ : Type} (J : Jd β τ) (r : Option (Res β × Env)) : J.rel r none := ⟨J.non0 r⟩
theorem Jd.ex {β τ : Type} (J : Jd β τ) (x : XV) (e : Env) (h : J.Ex e) : J.rel (some (.ex x, e)) (some (.ex x)) := ⟨J.ex0 x e h⟩
/-- an expression, or the arguments of a call -/
def jE {Oo : Type} (ev : σ → β) (mk : σ → Oo → Env) (Ex : Env → Prop) : Jd β σ where
  rel0 r p := match p with
    | none => True
    | some (.ok s) => ∃ os, r = some (.ok (ev s), mk s os)
    | some (.ex x) => ∃ e, r = some (.ex x, e) ∧ Ex e
  Ex := Ex
  non0 _ := trivial
  ex0 _ _ h := ⟨_, rfl, h⟩
/-- a block without exits -/
def jM {Oo : Type} (mk : σ → Oo → Env) (Ex : Env → Prop) : Jd Fl σ where
  rel0 r p := match p with
    | none => True
    | some (.ok s) => ∃ os, r = some (.ok .nx, mk s os)
    | some (.ex x) => ∃ e, r = some (.ex x, e) ∧ Ex e
  Ex := Ex
  non0 _ := trivial
  ex0 _ _ h := ⟨_, rfl, h⟩
/-- a def's body -/
def jF (G : ρ → W → Env → Prop) (Ex : Env → Prop) : Jd Fl ρ where
  rel0 r p := match p with
    | none => True
    | some (.ok a) => ∃ w e, (r = some (.ok (.rt w), e) ∨ (r = some (.ok .nx, e) ∧ w = .sh .non)) ∧ G a w e
    | some (.ex x) => ∃ e, r = some (.ex x, e) ∧ Ex e
  Ex := Ex
  non0 _ := trivial
  ex0 _ _ h := ⟨_, rfl, h⟩
/-- a block with exits -/
def jS {Oo Ol : Type} (mk : σ → Oo → Env) (ml : lam → Ol → Env) (G : ρ → W → Env → Prop) (Ex : Env → Prop) : Jd Fl (Out σ lam ρ) where
  rel0 r p := match p with
    | none => True
    | some (.ok (.go s)) => ∃ os, r = some (.ok .nx, mk s os)
    | some (.ok (.bk s)) => ∃ os, r = some (.ok .bk, ml s os)
    | some (.ok (.ct s)) => ∃ os, r = some (.ok .ct, ml s os)
    | some (.ok (.rt a)) => ∃ w e, r = some (.ok (.rt w), e) ∧ G a w e
    | some (.ex x) => ∃ e, r = some (.ex x, e) ∧ Ex e
  Ex := Ex
  non0 _ := trivial
  ex0 _ _ h := ⟨_, rfl, h⟩
/-- what a def does -/
def TF0 (r : Option (Res W × List (Option W))) (p : X ρ) (er : ρ → W) (eo : ρ → List (Option W)) (Xo : List (Option W) → Prop) : Prop := match p with
  | none => True
  | some (.ok a) => r = some (.ok (er a), eo a)
  | some (.ex x) => ∃ outs, r = some (.ex x, outs) ∧ Xo outs

structure TF (r : Option (Res W × List (Option W))) (p : X ρ) (er : ρ → W) (eo : ρ → List (Option W)) (Xo : List (Option W) → Prop) : Prop where
  h : TF0 r p er eo Xo

/-! ### the machine's side -/
def aft (r : Option (Res α × Env)) (κ : α → Env → Option (Res β × Env)) : Option (Res β × Env) := match r with
  | none => none
  | some (.ok a, e) => κ a e
  | some (.ex x, e) => some (.ex x, e)
def opK (o : Option α) (e : Env) (κ : α → Env → Option (Res β × Env)) : Option (Res β × Env) := match o with
  | none => none
  | some a => κ a e
def sq (r : Option (Res Fl × Env)) (rest : MS) : Option (Res Fl × Env) := match r with
  | some (.ok .nx, e) => rest e
  | r => r
def gK (g : MG) (w : W) (e : Env) (rest : MS) : Option (Res Fl × Env) := match g w e with
  | some (.ok _, e) => rest e
  | _ => none
theorem aft_aft {r : Option (Res α × Env)} {κ : α → Env → Option (Res β × Env)} {κ' : β → Env → Option (Res γ × Env)} : aft (aft r κ) κ' = aft r fun a e => aft (κ a e) κ' := by
  rcases r with _ | ⟨_ | _, _⟩ <;> rfl
theorem bind_aft {m : ME α} {f : α → ME β} {env : Env} : ME.bind m f env = aft (m env) f := by
  unfold ME.bind aft
  rcases m env with _ | ⟨_ | _, _⟩ <;> rfl
theorem pure_aft {a : α} {env : Env} {κ : α → Env → Option (Res β × Env)} : aft (ME.pure a env) κ = κ a env := rfl
theorem op_aft {g : α → Option γ} {a : α} {env : Env} {κ : γ → Env → Option (Res β × Env)} : aft (ME.op g a env) κ = opK (g a) env κ := by
  unfold ME.op opK aft
  rcases g a with _ | _ <;> rfl
theorem opK_aft {o : Option α} {env : Env} {κ : α → Env → Option (Res β × Env)} {κ' : β → Env → Option (Res γ × Env)} : aft (opK o env κ) κ' = opK o env fun a e => aft (κ a e) κ' := by
  rcases o with _ | _ <;> rfl
end

section
variable {α β γ δ σ τ ρ lam : Type} {J : Jd β τ} {p : X τ} {env e : Env}
/-! ### values -/
theorem x_val {m : ME α} {κ : α → Env → Option (Res β × Env)} {a : α} (h : m env = some (.ok a, e)) (k : J.rel (κ a e) p) : J.rel (aft (m env) κ) p := by
  rw [h]
  exact k
theorem o_val {o : Option α} {κ : α → Env → Option (Res β × Env)} {a : α} (h : o = some a) (k : J.rel (κ a e) p) : J.rel (opK o e κ) p := by
  rw [h]
  exact k
theorem o_par {o : Option α} {f : Option γ} {ec : γ → α} {κ : α → Env → Option (Res β × Env)} {pk : γ → X τ} (h : o = f.map ec) (k : ∀ c, J.rel (κ (ec c) e) (pk c)) : J.rel (opK o e κ) (X.bind (X.ofO f) pk) := by
  rw [h]
  rcases f with _ | c
  · exact J.non _
  · exact k c
/-- an expression as a block of its own -/
theorem x_sub {Oo : Type} {m : ME α} {κ : α → Env → Option (Res β × Env)} {ps : X σ} {pk : σ → X τ} (ev : σ → α) (mk : σ → Oo → Env) (h : (jE ev mk J.Ex).rel (m env) ps) (k : ∀ s os, J.rel (κ (ev s) (mk s os)) (pk s)) : J.rel (aft (m env) κ) (X.bind ps pk) := by
  rcases ps with _ | ⟨s | x⟩
  · exact J.non _
  · obtain ⟨os, h⟩ := h.h
    rw [h]
    exact k s os
  · obtain ⟨e', h, h2⟩ := h.h
    rw [h]
    exact J.ex x e' h2
theorem e_end {Oo : Type} {Ex : Env → Prop} {ev : σ → β} {mk : σ → Oo → Env} {w : β} {s : σ} (os : Oo) (h : w = ev s) (h2 : e = mk s os) : (jE ev mk Ex).rel (some (.ok w, e)) (X.ok s) := ⟨⟨os, by rw [h, h2]⟩⟩
theorem e_true {Ex : Env → Prop} : (jE id (fun (_ : Bool) (_ : Unit) => e) Ex).rel (ME.pure true e) (X.ok true) := ⟨⟨(), rfl⟩⟩
/-- the whole expression is what is wanted -/
theorem x_all {α : Type} {J : Jd α τ} {m : ME α} (h : J.rel (aft (m env) fun a e => some (.ok a, e)) p) : J.rel (m env) p := by
  have : aft (m env) (fun a e => some (.ok a, e)) = m env := by
    rcases m env with _ | ⟨_ | _, _⟩ <;> rfl
  rwa [this] at h
section
variable {κ : W → Env → Option (Res β × Env)} {ma mb m : ME W} {g : W × W → Option W} {g1 : W → Option W}
theorem x_op2 (h : J.rel (aft (ma env) fun w e => aft (mb e) fun u e => opK (g (w, u)) e κ) p) : J.rel (aft (mOp2 g ma mb env) κ) p := by
  simp only [mOp2, bind_aft, aft_aft, pure_aft, op_aft]
  exact h
theorem x_ix (h : J.rel (aft (ma env) fun w e => aft (mb e) fun u e => opK (gIx (w, u)) e κ) p) : J.rel (aft (mIx ma mb env) κ) p := by
  simp only [mIx, bind_aft, aft_aft, pure_aft, op_aft]
  exact h
theorem x_op1 (h : J.rel (aft (m env) fun w e => opK (g1 w) e κ) p) : J.rel (aft (mOp1 g1 m env) κ) p := by
  simp only [mOp1, bind_aft, aft_aft, op_aft]
  exact h
theorem x_fz (h : J.rel (aft (m env) fun w e => opK (w.toD.map W.sh) e κ) p) : J.rel (aft (mFz m env) κ) p := by
  simp only [mFz, bind_aft, aft_aft, op_aft]
  exact h
theorem x_sh (h : J.rel (aft (m env) fun w e => opK (wSh w) e κ) p) : J.rel (aft (mSh m env) κ) p := by
  simp only [mSh, bind_aft, aft_aft, op_aft]
  exact h
theorem x_B {κ : Bool → Env → Option (Res β × Env)} (h : J.rel (aft (m env) fun w e => opK (wBl w) e κ) p) : J.rel (aft (mB m env) κ) p := by
  simp only [mB, bind_aft, aft_aft, op_aft]
  exact h
theorem x_bi {ms : ME (List W)} {g : List W → Option W} (h : J.rel (aft (ms env) fun ws e => opK (g ws) e κ) p) : J.rel (aft (mBi g ms env) κ) p := by
  simp only [mBi, bind_aft, aft_aft, op_aft]
  exact h
theorem x_lst {ms : ME (List W)} (h : J.rel (aft (ms env) fun ws e => opK (gLst ws) e κ) p) : J.rel (aft (mLst ms env) κ) p := by
  simp only [mLst, bind_aft, aft_aft, op_aft]
  exact h
theorem x_tup {ms : ME (List W)} (h : J.rel (aft (ms env) fun ws e => opK (gTup ws) e κ) p) : J.rel (aft (mTup ms env) κ) p := by
  simp only [mTup, bind_aft, aft_aft, op_aft]
  exact h
theorem x_nil {κ : List W → Env → Option (Res β × Env)} (h : J.rel (κ [] env) p) : J.rel (aft (mNil env) κ) p := h
theorem x_cons {ms : ME (List W)} {κ : List W → Env → Option (Res β × Env)} (h : J.rel (aft (m env) fun w e => aft (ms e) fun ws e => κ (w :: ws) e) p) : J.rel (aft (mCons m ms env) κ) p := by
  simp only [mCons, bind_aft, aft_aft, op_aft, pure_aft]
  exact h
theorem x_itR {ms : ME (List W)} {g : List W → Option (List D)} {κ : List D → Env → Option (Res β × Env)} (h : J.rel (aft (ms env) fun ws e => opK (g ws) e κ) p) : J.rel (aft (mItR g ms env) κ) p := by
  simp only [mItR, bind_aft, aft_aft, op_aft]
  exact h
theorem x_itL {κ : List D → Env → Option (Res β × Env)} (h : J.rel (aft (m env) fun w e => opK (wEls w) e κ) p) : J.rel (aft (mItL m env) κ) p := by
  simp only [mItL, bind_aft, aft_aft, op_aft]
  exact h
theorem x_itT {κ : List D → Env → Option (Res β × Env)} (h : J.rel (aft (m env) fun w e => opK (wTEls w) e κ) p) : J.rel (aft (mItT m env) κ) p := by
  simp only [mItT, bind_aft, aft_aft, op_aft]
  exact h
theorem x_noPart {κ : Option Int → Env → Option (Res β × Env)} (h : J.rel (κ none env) p) : J.rel (aft (mNoPart env) κ) p := h
theorem x_part {κ : Option Int → Env → Option (Res β × Env)} (h : J.rel (aft (m env) fun w e => opK ((wInt w).map some) e κ) p) : J.rel (aft (mPart m env) κ) p := by
  simp only [mPart, bind_aft, aft_aft, op_aft]
  exact h
theorem x_sl {lo hi : ME (Option Int)} (h : J.rel (aft (m env) fun w e => aft (lo e) fun a e => aft (hi e) fun b e => opK (gSl (w, a, b)) e κ) p) : J.rel (aft (mSl m lo hi env) κ) p := by
  simp only [mSl, bind_aft, aft_aft, op_aft, pure_aft]
  exact h
theorem x_ms {ms : ME (List W)} {g : W × List W → Option W} (h : J.rel (aft (m env) fun w e => opK ((wStr w).map fun s => W.sh (.str s)) e fun w e => aft (ms e) fun ws e => opK (g (w, ws)) e κ) p) : J.rel (aft (mMs g m ms env) κ) p := by
  simp only [mMs, bind_aft, aft_aft, op_aft, pure_aft, opK_aft]
  exact h
def andK (t : Bool) (b : ME Bool) (e : Env) (κ : Bool → Env → Option (Res β × Env)) : Option (Res β × Env) := if t = true then aft (b e) κ else κ false e
def orK (t : Bool) (b : ME Bool) (e : Env) (κ : Bool → Env → Option (Res β × Env)) : Option (Res β × Env) := if t = true then κ true e else aft (b e) κ
def andVK (t : Bool) (b : ME W) (e : Env) (κ : W → Env → Option (Res β × Env)) : Option (Res β × Env) := if t = true then aft (b e) κ else κ (.sh (.bl false)) e
def orVK (t : Bool) (b : ME W) (e : Env) (κ : W → Env → Option (Res β × Env)) : Option (Res β × Env) := if t = true then κ (.sh (.bl true)) e else aft (b e) κ
def ifK {α : Type} (t : Bool) (a b : ME α) (e : Env) (κ : α → Env → Option (Res β × Env)) : Option (Res β × Env) := if t = true then aft (a e) κ else aft (b e) κ
theorem x_and {a b : ME Bool} {κ : Bool → Env → Option (Res β × Env)} (h : J.rel (aft (a env) fun c e => andK c b e κ) p) : J.rel (aft (mAnd a b env) κ) p := by
  simp only [mAnd, bind_aft, aft_aft]
  have : (fun (c : Bool) (e : Env) => aft ((if c = true then b else ME.pure false) e) κ) = fun c e => if c = true then aft (b e) κ else κ false e := by
    funext c e
    cases c <;> rfl
  rw [this]
  exact h
theorem x_or {a b : ME Bool} {κ : Bool → Env → Option (Res β × Env)} (h : J.rel (aft (a env) fun c e => orK c b e κ) p) : J.rel (aft (mOr a b env) κ) p := by
  simp only [mOr, bind_aft, aft_aft]
  have : (fun (c : Bool) (e : Env) => aft ((if c = true then ME.pure true else b) e) κ) = fun c e => if c = true then κ true e else aft (b e) κ := by
    funext c e
    cases c <;> rfl
  rw [this]
  exact h
theorem x_not {a : ME Bool} {κ : Bool → Env → Option (Res β × Env)} (h : J.rel (aft (a env) fun c e => κ (!c) e) p) : J.rel (aft (mNot a env) κ) p := by
  simp only [mNot, bind_aft, aft_aft]
  exact h
theorem x_if {α : Type} {κ : α → Env → Option (Res β × Env)} {c : ME Bool} {a b : ME α} (h : J.rel (aft (c env) fun t e => ifK t a b e κ) p) : J.rel (aft (mIf c a b env) κ) p := by
  simp only [mIf, bind_aft, aft_aft]
  have : (fun (c : Bool) (e : Env) => aft ((if c = true then a else b) e) κ) = fun c e => if c = true then aft (a e) κ else aft (b e) κ := by
    funext c e
    cases c <;> rfl
  rw [this]
  exact h
theorem x_andV (h : J.rel (aft (ma env) fun w e => opK (wBl w) e fun c e => andVK c mb e κ) p) : J.rel (aft (mAndV ma mb env) κ) p := by
  simp only [mAndV, mB, bind_aft, aft_aft, op_aft, opK_aft]
  have : (fun (c : Bool) (e : Env) => aft ((if c = true then mb else mC (.bl false)) e) κ) = fun c e => if c = true then aft (mb e) κ else κ (.sh (.bl false)) e := by
    funext c e
    cases c <;> rfl
  rw [this]
  exact h
theorem x_orV (h : J.rel (aft (ma env) fun w e => opK (wBl w) e fun c e => orVK c mb e κ) p) : J.rel (aft (mOrV ma mb env) κ) p := by
  simp only [mOrV, mB, bind_aft, aft_aft, op_aft, opK_aft]
  have : (fun (c : Bool) (e : Env) => aft ((if c = true then mC (.bl true) else mb) e) κ) = fun c e => if c = true then κ (.sh (.bl true)) e else aft (mb e) κ := by
    funext c e
    cases c <;> rfl
  rw [this]
  exact h
/-- an operation on what stands at a place -/
def inK {β : Type} (e : Env) (path : Path) (g : W → Option (W × W)) (κ : W → Env → Option (Res β × Env)) : Option (Res β × Env) := opK (getE e path) e fun w e => opK (g w) e fun r e => opK (setE e path r.1) e fun e' _ => κ r.2 e'
theorem x_in {g : W → List W → Option (W × W)} {ml : ME Path} {ms : ME (List W)} {path : Path} {e1 : Env} (hl : ml env = some (.ok path, e1)) (h : J.rel (aft (ms e1) fun ws e => inK e path (fun w => g w ws) κ) p) : J.rel (aft (mIn g ml ms env) κ) p := by
  have : aft (mIn g ml ms env) κ = aft (ms e1) fun ws e => inK e path (fun w => g w ws) κ := by
    unfold mIn inK
    rw [hl]
    simp only
    rcases ms e1 with _ | ⟨ws | x, e2⟩
    · rfl
    · simp only [aft]
      rcases getE e2 path with _ | w
      · rfl
      · simp only [opK, Option.bind_some]
        rcases g w ws with _ | ⟨r1, r2⟩
        · rfl
        · simp only [Option.bind_some]
          rcases setE e2 path r1 with _ | e3 <;> rfl
    · rfl
  rw [this]
  exact h
end
/-! short circuits -/
section
variable {κ : Bool → Env → Option (Res β × Env)} {b : ME Bool} {ta tb : Bool}
theorem k_and (hb : b e = some (.ok tb, e)) (k : J.rel (κ (ta && tb) e) p) : J.rel (andK ta b e κ) p := by
  unfold andK
  cases ta
  · simpa using k
  · simp only [if_pos, hb]
    exact k
theorem k_or (hb : b e = some (.ok tb, e)) (k : J.rel (κ (ta || tb) e) p) : J.rel (orK ta b e κ) p := by
  unfold orK
  cases ta
  · simp only [hb]
    exact k
  · simpa using k
theorem k_andX {Oo : Type} {pb : X σ} {pk : σ → X τ} (ev : σ → Bool) (mk : σ → Oo → Env) (s0 : σ) (os0 : Oo) (hb : (jE ev mk J.Ex).rel (b e) pb) (h0 : ev s0 = false) (h1 : e = mk s0 os0) (k : ∀ s os, J.rel (κ (ev s) (mk s os)) (pk s)) : J.rel (andK ta b e κ) (X.bind (if ta = true then pb else X.ok s0) pk) := by
  unfold andK
  cases ta
  · have := k s0 os0
    rw [h0, ← h1] at this
    exact this
  · exact x_sub ev mk hb k
theorem k_orX {Oo : Type} {pb : X σ} {pk : σ → X τ} (ev : σ → Bool) (mk : σ → Oo → Env) (s0 : σ) (os0 : Oo) (hb : (jE ev mk J.Ex).rel (b e) pb) (h0 : ev s0 = true) (h1 : e = mk s0 os0) (k : ∀ s os, J.rel (κ (ev s) (mk s os)) (pk s)) : J.rel (orK ta b e κ) (X.bind (if ta = true then X.ok s0 else pb) pk) := by
  unfold orK
  cases ta
  · exact x_sub ev mk hb k
  · have := k s0 os0
    rw [h0, ← h1] at this
    exact this
end
section
variable {κ : W → Env → Option (Res β × Env)} {b : ME W} {ta tb : Bool}
theorem k_andV (hb : b e = some (.ok (W.sh (.bl tb)), e)) (k : J.rel (κ (W.sh (.bl (ta && tb))) e) p) : J.rel (andVK ta b e κ) p := by
  unfold andVK
  cases ta
  · simpa using k
  · simp only [if_pos, hb]
    exact k
theorem k_orV (hb : b e = some (.ok (W.sh (.bl tb)), e)) (k : J.rel (κ (W.sh (.bl (ta || tb))) e) p) : J.rel (orVK ta b e κ) p := by
  unfold orVK
  cases ta
  · simp only [hb]
    exact k
  · simpa using k
theorem k_andVX {Oo : Type} {pb : X σ} {pk : σ → X τ} (ev : σ → W) (mk : σ → Oo → Env) (s0 : σ) (os0 : Oo) (hb : (jE ev mk J.Ex).rel (b e) pb) (h0 : ev s0 = .sh (.bl false)) (h1 : e = mk s0 os0) (k : ∀ s os, J.rel (κ (ev s) (mk s os)) (pk s)) : J.rel (andVK ta b e κ) (X.bind (if ta = true then pb else X.ok s0) pk) := by
  unfold andVK
  cases ta
  · have := k s0 os0
    rw [h0, ← h1] at this
    exact this
  · exact x_sub ev mk hb k
theorem k_orVX {Oo : Type} {pb : X σ} {pk : σ → X τ} (ev : σ → W) (mk : σ → Oo → Env) (s0 : σ) (os0 : Oo) (hb : (jE ev mk J.Ex).rel (b e) pb) (h0 : ev s0 = .sh (.bl true)) (h1 : e = mk s0 os0) (k : ∀ s os, J.rel (κ (ev s) (mk s os)) (pk s)) : J.rel (orVK ta b e κ) (X.bind (if ta = true then X.ok s0 else pb) pk) := by
  unfold orVK
  cases ta
  · exact x_sub ev mk hb k
  · have := k s0 os0
    rw [h0, ← h1] at this
    exact this
end
theorem k_ifV {α : Type} {κ : α → Env → Option (Res β × Env)} {t : Bool} {a b : ME α} {f : γ → α} {u v : γ} (ha : a e = some (.ok (f u), e)) (hb : b e = some (.ok (f v), e)) (k : J.rel (κ (f (if t = true then u else v)) e) p) : J.rel (ifK t a b e κ) p := by
  unfold ifK
  cases t
  · simp only [hb]
    exact k
  · simp only [ha]
    exact k
theorem k_ifX {α : Type} {Oo : Type} {κ : α → Env → Option (Res β × Env)} {t : Bool} {a b : ME α} {pa pb : X σ} {pk : σ → X τ} (ev : σ → α) (mk : σ → Oo → Env) (ha : (jE ev mk J.Ex).rel (a e) pa) (hb : (jE ev mk J.Ex).rel (b e) pb) (k : ∀ s os, J.rel (κ (ev s) (mk s os)) (pk s)) : J.rel (ifK t a b e κ) (X.bind (if t = true then pa else pb) pk) := by
  unfold ifK
  cases t
  · exact x_sub ev mk hb k
  · exact x_sub ev mk ha k
end

section
variable {σ τ ρ lam α β : Type} {J : Jd Fl τ} {p : X τ} {env e : Env} {m : ME W} {rest s A B : MS} {w : W}
/-! ### statements -/
theorem sq_nx {r : Option (Res Fl × Env)} : sq r mNx = r := by
  rcases r with _ | ⟨(_ | _ | _ | _) | _, _⟩ <;> rfl
theorem mSeq_sq : mSeq s rest env = sq (s env) rest := rfl
theorem s_last (h : J.rel (mSeq s mNx env) p) : J.rel (s env) p := by
  rw [mSeq_sq, sq_nx] at h
  exact h
theorem s_assoc (h : J.rel (mSeq A (mSeq B rest) env) p) : J.rel (mSeq (mSeq A B) rest env) p := by
  have : mSeq (mSeq A B) rest env = mSeq A (mSeq B rest) env := by
    unfold mSeq
    rcases A env with _ | ⟨(_ | _ | _ | _) | _, _⟩ <;> rfl
  rw [this]
  exact h
/-- the environment written out -/
theorem n_env {e' : Env} (h : env = e') (k : J.rel (s e') p) : J.rel (s env) p := by
  rw [h]
  exact k
theorem s_nx (h : J.rel (rest env) p) : J.rel (mSeq mNx rest env) p := h
theorem s_asg {g : MG} (h : J.rel (aft (m env) fun w e => gK g w e rest) p) : J.rel (mSeq (mAsg m g) rest env) p := by
  have : mSeq (mAsg m g) rest env = aft (m env) fun w e => gK g w e rest := by
    unfold mSeq mAsg
    rw [bind_aft]
    rcases m env with _ | ⟨w | x, e⟩
    · rfl
    · simp only [aft, gK]
      rcases g w e with _ | ⟨_ | _, _⟩ <;> rfl
    · rfl
  rw [this]
  exact h
theorem k_set {i : Nat} (hi : Nat.blt i e.length = true) (k : J.rel (rest (e.set i (some w))) p) : J.rel (gK (gSet i) w e rest) p := by
  have hi : i < e.length := by simpa using hi
  simp only [gK, gSet, if_pos hi]
  exact k
theorem k_G {g : MG} {e' : Env} (h : g w e = some (.ok (), e')) (k : J.rel (rest e') p) : J.rel (gK g w e rest) p := by
  simp only [gK, h]
  exact k
theorem s_drop (h : J.rel (aft (m env) fun _ e => rest e) p) : J.rel (mSeq (mDrop m) rest env) p := by
  have : mSeq (mDrop m) rest env = aft (m env) fun _ e => rest e := by
    unfold mSeq mDrop
    rw [bind_aft]
    rcases m env with _ | ⟨_ | _, _⟩ <;> rfl
  rw [this]
  exact h
theorem s_ret (h : J.rel (aft (m env) fun w e => some (.ok (.rt w), e)) p) : J.rel (mSeq (mRet m) rest env) p := by
  have : mSeq (mRet m) rest env = aft (m env) fun w e => some (.ok (.rt w), e) := by
    unfold mSeq mRet
    rw [bind_aft]
    rcases m env with _ | ⟨_ | _, _⟩ <;> rfl
  rw [this]
  exact h
theorem s_retN (h : J.rel (some (.ok (.rt (.sh .non)), env)) p) : J.rel (mSeq (ME.pure (.rt (.sh .non))) rest env) p := h
theorem s_raise {c : Str} (h : J.Ex env) : J.rel (mSeq (mRaise c) rest env) (X.ex ⟨c, []⟩) := J.ex _ _ h
theorem s_if {c : ME Bool} (h : J.rel (aft (c env) fun b e => if b = true then mSeq A rest e else mSeq B rest e) p) : J.rel (mSeq (mIfS c A B) rest env) p := by
  have : mSeq (mIfS c A B) rest env = aft (c env) fun b e => if b = true then mSeq A rest e else mSeq B rest e := by
    unfold mSeq mIfS
    rw [bind_aft]
    rcases c env with _ | ⟨b | x, e⟩
    · rfl
    · cases b <;> rfl
    · rfl
  rw [this]
  exact h
theorem k_if {b : Bool} {x y : Option (Res β × Env)} {J : Jd β τ} {pa pb : X τ} (ha : J.rel x pa) (hb : J.rel y pb) : J.rel (if b = true then x else y) (if b = true then pa else pb) := by
  cases b
  · exact hb
  · exact ha
theorem s_par {is : List Nat} {ma : ME (List W)} (h : J.rel (aft (ma env) fun ws e => if (is.all fun i => decide (i < e.length)) = true ∧ is.length = ws.length then rest (setsW e is ws) else none) p) : J.rel (mSeq (mPar is ma) rest env) p := by
  have : mSeq (mPar is ma) rest env = aft (ma env) fun ws e => if (is.all fun i => decide (i < e.length)) = true ∧ is.length = ws.length then rest (setsW e is ws) else none := by
    unfold mSeq mPar
    rcases ma env with _ | ⟨ws | x, e⟩
    · rfl
    · simp only [aft]
      by_cases hc : (is.all fun i => decide (i < e.length)) = true ∧ is.length = ws.length
      · simp only [if_pos hc]
      · simp only [if_neg hc]
    · rfl
  rw [this]
  exact h
theorem k_par {is : List Nat} {ws : List W} (h1 : (is.all fun i => decide (i < e.length)) = true) (h2 : is.length = ws.length) (k : J.rel (rest (setsW e is ws)) p) : J.rel (if (is.all fun i => decide (i < e.length)) = true ∧ is.length = ws.length then rest (setsW e is ws) else none) p := by
  rw [if_pos ⟨h1, h2⟩]
  exact k
/-- a block without exits, and what stands behind it -/
theorem s_sub {Oo : Type} {ps : X σ} {pk : σ → X τ} (mk : σ → Oo → Env) (h : (jM mk J.Ex).rel (s env) ps) (k : ∀ s os, J.rel (rest (mk s os)) (pk s)) : J.rel (mSeq s rest env) (X.bind ps pk) := by
  rw [mSeq_sq]
  rcases ps with _ | ⟨a | x⟩
  · exact J.non _
  · obtain ⟨os, h⟩ := h.h
    rw [h]
    exact k a os
  · obtain ⟨e', h, h2⟩ := h.h
    rw [h]
    exact J.ex x e' h2
/-- a block with exits within such a one -/
theorem s_subS {Oo Ol Ok : Type} {ps : X (Out σ lam ρ)} {pk : σ → X (Out τ lam ρ)} (mk : σ → Oo → Env) {mk2 : τ → Ok → Env} {ml : lam → Ol → Env} {G : ρ → W → Env → Prop} {Ex : Env → Prop} (h : (jS mk ml G Ex).rel (s env) ps) (k : ∀ s os, (jS mk2 ml G Ex).rel (rest (mk s os)) (pk s)) : (jS mk2 ml G Ex).rel (mSeq s rest env) (X.bindO ps pk) := by
  rw [mSeq_sq]
  rcases ps with _ | ⟨(a | a | a | a) | x⟩
  · exact Jd.non _ _
  · obtain ⟨os, h⟩ := h.h
    rw [h]
    exact k a os
  · obtain ⟨os, h⟩ := h.h
    rw [h]
    exact ⟨⟨os, rfl⟩⟩
  · obtain ⟨os, h⟩ := h.h
    rw [h]
    exact ⟨⟨os, rfl⟩⟩
  · obtain ⟨w, e, h, h2⟩ := h.h
    rw [h]
    exact ⟨⟨w, e, rfl, h2⟩⟩
  · obtain ⟨e', h, h2⟩ := h.h
    rw [h]
    exact ⟨⟨e', rfl, h2⟩⟩
def noL : Unit → Empty → Env := fun _ o => nomatch o
/-- a block that may return, in a def's body -/
theorem s_subR {Oo : Type} {ps : X (Out σ Unit ρ)} {pk : σ → X ρ} (mk : σ → Oo → Env) {G : ρ → W → Env → Prop} {Ex : Env → Prop} (h : (jS mk noL G Ex).rel (s env) ps) (k : ∀ s os, (jF G Ex).rel (rest (mk s os)) (pk s)) : (jF G Ex).rel (mSeq s rest env) (X.bindR ps pk) := by
  rw [mSeq_sq]
  rcases ps with _ | ⟨(a | a | a | a) | x⟩
  · exact Jd.non _ _
  · obtain ⟨os, h⟩ := h.h
    rw [h]
    exact k a os
  · exact Jd.non _ _
  · exact Jd.non _ _
  · obtain ⟨w, e, h, h2⟩ := h.h
    rw [h]
    exact ⟨⟨w, e, .inl rfl, h2⟩⟩
  · obtain ⟨e', h, h2⟩ := h.h
    rw [h]
    exact ⟨⟨e', rfl, h2⟩⟩
/-- a block that may return, within a block with other exits -/
theorem s_up {Oo Ol : Type} {ps : X (Out σ Unit ρ)} {mk : σ → Oo → Env} {ml : lam → Ol → Env} {G : ρ → W → Env → Prop} {Ex : Env → Prop} (h : (jS mk noL G Ex).rel (s env) ps) : (jS mk ml G Ex).rel (s env) (X.up ps) := by
  rcases ps with _ | ⟨(a | a | a | a) | x⟩
  · exact Jd.non _ _
  · exact ⟨h.h⟩
  · exact Jd.non _ _
  · exact Jd.non _ _
  · exact ⟨h.h⟩
  · exact ⟨h.h⟩
/-! ends -/
theorem n_go {Oo : Type} {mk : σ → Oo → Env} {Ex : Env → Prop} {a : σ} (os : Oo) (h : env = mk a os) : (jM mk Ex).rel (mNx env) (X.ok a) := ⟨⟨os, by rw [h]; rfl⟩⟩
theorem n_goS {Oo Ol : Type} {mk : σ → Oo → Env} {ml : lam → Ol → Env} {G : ρ → W → Env → Prop} {Ex : Env → Prop} {a : σ} (os : Oo) (h : env = mk a os) : (jS mk ml G Ex).rel (mNx env) (X.ok (.go a)) := ⟨⟨os, by rw [h]; rfl⟩⟩
theorem n_goF {G : ρ → W → Env → Prop} {Ex : Env → Prop} {a : ρ} (h : G a (.sh .non) env) : (jF G Ex).rel (mNx env) (X.ok a) := ⟨⟨_, env, .inr ⟨rfl, rfl⟩, h⟩⟩
theorem n_ret {G : ρ → W → Env → Prop} {Ex : Env → Prop} {a : ρ} (h : G a w env) : (jF G Ex).rel (some (.ok (.rt w), env)) (X.ok a) := ⟨⟨w, env, .inl rfl, h⟩⟩
theorem n_retS {Oo Ol : Type} {mk : σ → Oo → Env} {ml : lam → Ol → Env} {G : ρ → W → Env → Prop} {Ex : Env → Prop} {a : ρ} (h : G a w env) : (jS mk ml G Ex).rel (some (.ok (.rt w), env)) (X.ok (.rt a)) := ⟨⟨w, env, rfl, h⟩⟩
theorem s_bk {Oo Ol : Type} {mk : σ → Oo → Env} {ml : lam → Ol → Env} {G : ρ → W → Env → Prop} {Ex : Env → Prop} {a : lam} (os : Ol) (h : env = ml a os) : (jS mk ml G Ex).rel (mSeq (ME.pure .bk) rest env) (X.ok (.bk a)) := ⟨⟨os, by rw [h]; rfl⟩⟩
theorem s_ct {Oo Ol : Type} {mk : σ → Oo → Env} {ml : lam → Ol → Env} {G : ρ → W → Env → Prop} {Ex : Env → Prop} {a : lam} (os : Ol) (h : env = ml a os) : (jS mk ml G Ex).rel (mSeq (ME.pure .ct) rest env) (X.ok (.ct a)) := ⟨⟨os, by rw [h]; rfl⟩⟩
/-! ### loops -/
theorem s_for {it : ME (List D)} {g : MG} {body : MS} (h : J.rel (aft (it env) fun ds e => sq (mLoop g body ds e) rest) p) : J.rel (mSeq (mFor it g body) rest env) p := by
  have : mSeq (mFor it g body) rest env = aft (it env) fun ds e => sq (mLoop g body ds e) rest := by
    rw [mSeq_sq]
    unfold mFor
    rw [bind_aft]
    rcases it env with _ | ⟨_ | _, _⟩ <;> rfl
  rw [this]
  exact h
theorem loopP {Oo : Type} {g : MG} {body : MS} {mk : σ → Oo → Env} {Ex : Env → Prop} {dd : α → D} {pb : α → σ → X σ} (hb : ∀ x s os, (jM mk Ex).rel (gK g (.sh (dd x)) (mk s os) body) (pb x s)) :
    ∀ (xs : List α) (s : σ) (os : Oo), (jM mk Ex).rel (mLoop g body (xs.map dd) (mk s os)) (X.forP pb xs s)
  | [], s, os => ⟨⟨os, rfl⟩⟩
  | x :: xs, s, os => by
    have h := (hb x s os).h
    simp only [List.map_cons, mLoop, X.forP]
    unfold gK at h
    rcases e1 : pb x s with _ | ⟨s' | z⟩
    · exact Jd.non _ _
    · rw [e1] at h
      obtain ⟨os', h⟩ := h
      rcases e2 : g (.sh (dd x)) (mk s os) with _ | ⟨_ | _, e3⟩
      · rw [e2] at h; cases h
      · rw [e2] at h
        simp only at h ⊢
        rw [h]
        exact loopP hb xs s' os'
      · rw [e2] at h; cases h
    · rw [e1] at h
      obtain ⟨e', h, h2⟩ := h
      rcases e2 : g (.sh (dd x)) (mk s os) with _ | ⟨_ | _, e3⟩
      · rw [e2] at h; cases h
      · rw [e2] at h
        simp only at h ⊢
        rw [h]
        exact ⟨⟨e', rfl, h2⟩⟩
      · rw [e2] at h; cases h
theorem loopL {Oo : Type} {g : MG} {body : MS} {mk : σ → Oo → Env} {G : ρ → W → Env → Prop} {Ex : Env → Prop} {dd : α → D} {pb : α → σ → X (Out σ σ ρ)} (hb : ∀ x s os, (jS mk mk G Ex).rel (gK g (.sh (dd x)) (mk s os) body) (pb x s)) :
    ∀ (xs : List α) (s : σ) (os : Oo), (jS mk noL G Ex).rel (mLoop g body (xs.map dd) (mk s os)) (X.forL pb xs s)
  | [], s, os => ⟨⟨os, rfl⟩⟩
  | x :: xs, s, os => by
    have h := (hb x s os).h
    simp only [List.map_cons, mLoop, X.forL]
    unfold gK at h
    rcases e1 : pb x s with _ | ⟨(s' | s' | s' | s') | z⟩
    · exact Jd.non _ _
    all_goals
      rw [e1] at h
      rcases e2 : g (.sh (dd x)) (mk s os) with _ | ⟨_ | _, e3⟩
      · rw [e2] at h; simp only [jS] at h; (first | (obtain ⟨_, h⟩ := h; cases h; done) | (obtain ⟨_, h, _⟩ := h; cases h; done) | (obtain ⟨_, _, h, _⟩ := h; cases h))
      · rw [e2] at h
        simp only [jS] at h
        simp only
        first
          | (obtain ⟨os', h⟩ := h; rw [h]; exact loopL hb xs _ os')
          | (obtain ⟨os', h⟩ := h; rw [h]; exact ⟨⟨os', rfl⟩⟩)
          | (obtain ⟨e', h, h2⟩ := h; rw [h]; exact ⟨⟨e', rfl, h2⟩⟩)
          | (obtain ⟨w', e', h, h2⟩ := h; rw [h]; exact ⟨⟨w', e', rfl, h2⟩⟩)
      · rw [e2] at h; simp only [jS] at h; (first | (obtain ⟨_, h⟩ := h; cases h; done) | (obtain ⟨_, h, _⟩ := h; cases h; done) | (obtain ⟨_, _, h, _⟩ := h; cases h))
/-- a loop without exits, and what stands behind it -/
theorem k_for {Oo : Type} {g : MG} {body : MS} {ds : List D} {dd : α → D} {pb : α → σ → X σ} {pk : σ → X τ} {xs : List α} (mk : σ → Oo → Env) (s0 : σ) (os0 : Oo) (h0 : e = mk s0 os0) (hd : ds = xs.map dd) (hb : ∀ x s os, (jM mk J.Ex).rel (gK g (.sh (dd x)) (mk s os) body) (pb x s)) (k : ∀ s os, J.rel (rest (mk s os)) (pk s)) : J.rel (sq (mLoop g body ds e) rest) (X.bind (X.forP pb xs s0) pk) := by
  subst h0 hd
  exact s_sub (s := mLoop g body (xs.map dd)) mk (loopP hb xs s0 os0) k
theorem k_forR {Oo : Type} {g : MG} {body : MS} {ds : List D} {dd : α → D} {pb : α → σ → X (Out σ σ ρ)} {pk : σ → X ρ} {xs : List α} {G : ρ → W → Env → Prop} {Ex : Env → Prop} (mk : σ → Oo → Env) (s0 : σ) (os0 : Oo) (h0 : e = mk s0 os0) (hd : ds = xs.map dd) (hb : ∀ x s os, (jS mk mk G Ex).rel (gK g (.sh (dd x)) (mk s os) body) (pb x s)) (k : ∀ s os, (jF G Ex).rel (rest (mk s os)) (pk s)) : (jF G Ex).rel (sq (mLoop g body ds e) rest) (X.bindR (X.forL pb xs s0) pk) := by
  subst h0 hd
  exact s_subR (s := mLoop g body (xs.map dd)) mk (loopL hb xs s0 os0) k
theorem k_forS {Oo Ol Ok : Type} {g : MG} {body : MS} {ds : List D} {dd : α → D} {pb : α → σ → X (Out σ σ ρ)} {pk : σ → X (Out τ lam ρ)} {xs : List α} {mk2 : τ → Ok → Env} {ml : lam → Ol → Env} {G : ρ → W → Env → Prop} {Ex : Env → Prop} (mk : σ → Oo → Env) (s0 : σ) (os0 : Oo) (h0 : e = mk s0 os0) (hd : ds = xs.map dd) (hb : ∀ x s os, (jS mk mk G Ex).rel (gK g (.sh (dd x)) (mk s os) body) (pb x s)) (k : ∀ s os, (jS mk2 ml G Ex).rel (rest (mk s os)) (pk s)) : (jS mk2 ml G Ex).rel (sq (mLoop g body ds e) rest) (X.bindO (X.up (X.forL pb xs s0)) pk) := by
  subst h0 hd
  exact s_subS (s := mLoop g body (xs.map dd)) mk (s_up (loopL hb xs s0 os0)) k
theorem whileP {Oo : Type} {c : ME Bool} {body : MS} {mk : σ → Oo → Env} {Ex : Env → Prop} {pc : σ → X Bool} {pb : σ → X σ} (hc : ∀ s os, (jE id (fun (_ : Bool) (_ : Unit) => mk s os) Ex).rel (c (mk s os)) (pc s)) (hb : ∀ s os, (jM mk Ex).rel (body (mk s os)) (pb s)) :
    ∀ (fu : Nat) (s : σ) (os : Oo), (jM mk Ex).rel (mWhile c body fu (mk s os)) (X.whP pc pb fu s)
  | 0, s, os => Jd.non _ _
  | fu + 1, s, os => by
    have h := (hc s os).h
    simp only [mWhile, X.whP]
    rcases e1 : pc s with _ | ⟨t | z⟩
    · exact Jd.non _ _
    · rw [e1] at h
      obtain ⟨_, h⟩ := h
      rw [h]
      cases t
      · exact ⟨⟨os, rfl⟩⟩
      · have h2 := (hb s os).h
        simp only [id, if_pos, X.bind]
        rcases e2 : pb s with _ | ⟨s' | z⟩
        · exact Jd.non _ _
        · rw [e2] at h2
          obtain ⟨os', h2⟩ := h2
          simp only [h2]
          exact whileP hc hb fu s' os'
        · rw [e2] at h2
          obtain ⟨e', h2, h3⟩ := h2
          simp only [h2]
          exact ⟨⟨e', rfl, h3⟩⟩
    · rw [e1] at h
      obtain ⟨e', h, h2⟩ := h
      rw [h]
      exact ⟨⟨e', rfl, h2⟩⟩
theorem s_wh {Oo : Type} {c : ME Bool} {body : MS} {fu : Nat} {pc : σ → X Bool} {pb : σ → X σ} {pk : σ → X τ} (mk : σ → Oo → Env) (s0 : σ) (os0 : Oo) (h0 : env = mk s0 os0) (hc : ∀ s os, (jE id (fun (_ : Bool) (_ : Unit) => mk s os) J.Ex).rel (c (mk s os)) (pc s)) (hb : ∀ s os, (jM mk J.Ex).rel (body (mk s os)) (pb s)) (k : ∀ s os, J.rel (rest (mk s os)) (pk s)) : J.rel (mSeq (mWhile c body fu) rest env) (X.bind (X.whP pc pb fu s0) pk) := by
  subst h0
  exact s_sub mk (whileP hc hb fu s0 os0) k
end
end TY

set_option Elab.async false
set_option linter.all false
set_option maxRecDepth 100000
/-! Typed layer, part 2: how typed values are trees; operations. -/
namespace TY
open PySem AM
abbrev at_ {α : Type} (xs : List α) (i : Int) : Option α := L2.atI xs i
def tI : Int → D := .int
def tB : Bool → D := .bl
def tS : Str → D := .str
def tN : Unit → D := fun _ => .non
def tX : XV → D := fun x => .exc x.c x.ds
def tD : D → D := fun d => d
def tR : List Int → D := .scr
section
variable {α β γ δ : Type}
def tL (t : α → D) : List α → D := fun xs => .lst (xs.map t)
def t2 (a : α → D) (b : β → D) : α × β → D := fun p => .tup [a p.1, b p.2]
def t3 (a : α → D) (b : β → D) (c : γ → D) : α × β × γ → D := fun p => .tup [a p.1, b p.2.1, c p.2.2]
def t4 (a : α → D) (b : β → D) (c : γ → D) (d : δ → D) : α × β × γ × δ → D := fun p => .tup [a p.1, b p.2.1, c p.2.2.1, d p.2.2.2]
def eD (t : α → D) : α → W := fun a => .sh (t a)
def eO (e : α → W) : List α → W := fun xs => .ol (xs.map e)
def o2 (a : α → W) (b : β → W) : α × β → W := fun p => .ot [a p.1, b p.2]
def o3 (a : α → W) (b : β → W) (c : γ → W) : α × β × γ → W := fun p => .ot [a p.1, b p.2.1, c p.2.2]
/-! letting go -/
def Fz (e : α → W) (t : α → D) : Prop := ∀ a, (e a).toD = some (t a)
theorem fz_sh {t : α → D} : Fz (eD t) t := fun _ => rfl
theorem toDs_map {e : α → W} {t : α → D} (h : Fz e t) : ∀ xs : List α, W.toDs (xs.map e) = some (xs.map t)
  | [] => rfl
  | x :: xs => by simp [W.toDs, h x, toDs_map h xs]
theorem fz_ol {e : α → W} {t : α → D} (h : Fz e t) : Fz (eO e) (tL t) := fun xs => by
  simp only [eO, W.toD, toDs_map h xs]
  rfl
theorem fz_o2 {a : α → W} {b : β → W} {c : α → D} {d : β → D} (h : Fz a c) (k : Fz b d) : Fz (o2 a b) (t2 c d) := fun p => by
  simp [o2, W.toD, W.toDs, h p.1, k p.2, t2]
theorem fz_o3 {a : α → W} {b : β → W} {g : γ → W} {c : α → D} {d : β → D} {k : γ → D} (h1 : Fz a c) (h2 : Fz b d) (h3 : Fz g k) : Fz (o3 a b g) (t3 c d k) := fun p => by
  simp [o3, W.toD, W.toDs, h1 p.1, h2 p.2.1, h3 p.2.2, t3]
theorem frzV {e : α → W} {t : α → D} {env : Env} {i : Nat} {a : α} (h : Fz e t) (hg : env[i]? = some (some (e a))) : mFrz i env = some (.ok (eD t a), env.set i (some (eD t a))) := by
  unfold mFrz
  simp only [hg, h a]
  rfl
theorem fzV {e : α → W} {t : α → D} (h : Fz e t) (a : α) : (e a).toD.map W.sh = some (eD t a) := by rw [h a]; rfl
/-! equality -/
structure Pl (t : α → D) (pd : α → PyData) (k : Nat) : Prop where
  hpd : ∀ a, (t a).pd = some (pd a)
  lay : ∀ a, (pd a).canLay0 = true
  dep : ∀ a, (pd a).depth ≤ k
  eqv : ∀ a b, PyData.eqv (pd a) (pd b) = true ↔ a = b
theorem pl_I : Pl tI PyData.int 0 := ⟨fun _ => rfl, fun _ => rfl, fun _ => by simp [PyData.depth], fun a b => by simp [PyData.eqv]⟩
theorem pl_B : Pl tB PyData.bool 0 := ⟨fun _ => rfl, fun _ => rfl, fun _ => by simp [PyData.depth], fun a b => by simp [PyData.eqv]⟩
theorem pl_N : Pl tN (fun _ => PyData.none) 0 := ⟨fun _ => rfl, fun _ => rfl, fun _ => by simp [PyData.depth], fun a b => by simp [PyData.eqv]⟩
section
variable {t : α → D} {pd : α → PyData} {k : Nat}
theorem pl_pds (h : Pl t pd k) : ∀ xs : List α, D.pds (xs.map t) = some (xs.map pd)
  | [] => rfl
  | x :: xs => by simp [D.pds, h.hpd x, pl_pds h xs]
theorem pl_lays (h : Pl t pd k) : ∀ xs : List α, PyData.canLayAll0 (xs.map pd) = true
  | [] => rfl
  | x :: xs => by simp [PyData.canLayAll0, h.lay x, pl_lays h xs]
theorem pl_deps (h : Pl t pd k) : ∀ xs : List α, PyData.depthAll (xs.map pd) ≤ k
  | [] => by simp [PyData.depthAll]
  | x :: xs => by
    have := h.dep x
    have := pl_deps h xs
    simp only [List.map_cons, PyData.depthAll]
    omega
theorem pl_eqs (h : Pl t pd k) : ∀ xs ys : List α, PyData.eqvAll (xs.map pd) (ys.map pd) = true ↔ xs = ys
  | [], [] => by simp [PyData.eqvAll]
  | [], _ :: _ => by simp [PyData.eqvAll]
  | _ :: _, [] => by simp [PyData.eqvAll]
  | x :: xs, y :: ys => by simp [PyData.eqvAll, h.eqv x y, pl_eqs h xs ys]
theorem pl_L (h : Pl t pd k) : Pl (tL t) (fun xs => .list (xs.map pd)) (k + 1) := ⟨fun xs => by simp [tL, D.pd, pl_pds h xs], fun xs => by simpa [PyData.canLay0] using pl_lays h xs, fun xs => by
  have := pl_deps h xs
  simp only [PyData.depth]
  omega, fun xs ys => by simpa [PyData.eqv] using pl_eqs h xs ys⟩
variable {u : β → D} {qd : β → PyData} {l : Nat}
theorem pl_2 (h : Pl t pd k) (g : Pl u qd l) : Pl (t2 t u) (fun p => .tuple [pd p.1, qd p.2]) (max k l + 1) := ⟨fun p => by simp [t2, D.pd, D.pds, h.hpd p.1, g.hpd p.2], fun p => by simp [PyData.canLay0, PyData.canLayAll0, h.lay p.1, g.lay p.2], fun p => by
  have := h.dep p.1
  have := g.dep p.2
  simp only [PyData.depth, PyData.depthAll]
  omega, fun p q => by simp [PyData.eqv, PyData.eqvAll, h.eqv, g.eqv, Prod.ext_iff]⟩
variable {v : γ → D} {rd : γ → PyData} {m : Nat}
theorem pl_3 (h : Pl t pd k) (g : Pl u qd l) (f : Pl v rd m) : Pl (t3 t u v) (fun p => .tuple [pd p.1, qd p.2.1, rd p.2.2]) (max k (max l m) + 1) := ⟨fun p => by simp [t3, D.pd, D.pds, h.hpd p.1, g.hpd p.2.1, f.hpd p.2.2], fun p => by simp [PyData.canLay0, PyData.canLayAll0, h.lay p.1, g.lay p.2.1, f.lay p.2.2], fun p => by
  have := h.dep p.1
  have := g.dep p.2.1
  have := f.dep p.2.2
  simp only [PyData.depth, PyData.depthAll]
  omega, fun p q => by simp [PyData.eqv, PyData.eqvAll, h.eqv, g.eqv, f.eqv, Prod.ext_iff]⟩
theorem wPd_of (h : Pl t pd k) (hk : k ≤ 64) {w : W} {a : α} (e : w.toD = some (t a)) : wPd w = some (pd a) := by
  unfold wPd
  simp only [e, Option.bind_some, h.hpd a]
  rw [if_pos]
  have := h.dep a
  simp [SeqAt.shaped, h.lay a]
  omega
variable {e : α → W} {e' : α → W} [DecidableEq α]
theorem pl_dec (h : Pl t pd k) (a b : α) : PyData.eqv (pd a) (pd b) = decide (a = b) := by
  rw [Bool.eq_iff_iff, h.eqv]
  simp
theorem gEq_p (h : Pl t pd k) (hk : Nat.ble k 64 = true) (f : Fz e t) (f' : Fz e' t) (a b : α) : gEq (e a, e' b) = some (eD tB (decide (a = b))) := by
  simp only [gEq, gDD, wPd_of h (by simpa using hk) (f a), wPd_of h (by simpa using hk) (f' b), fEq, pl_dec h]
  rfl
theorem gNe_p (h : Pl t pd k) (hk : Nat.ble k 64 = true) (f : Fz e t) (f' : Fz e' t) (a b : α) : gNe (e a, e' b) = some (eD tB (!decide (a = b))) := by
  simp only [gNe, gDD, wPd_of h (by simpa using hk) (f a), wPd_of h (by simpa using hk) (f' b), fNe, pl_dec h]
  rfl
theorem any_eqvL (h : Pl t pd k) (a : α) : ∀ xs : List α, (List.any (xs.map pd) fun z => PyData.eqv z (pd a)) = decide (a ∈ xs)
  | [] => by simp
  | x :: xs => by
    simp only [List.map_cons, List.any_cons, any_eqvL h a xs, pl_dec h, List.mem_cons, Bool.decide_or]
    congr 1
    by_cases e : a = x
    · simp [e]
    · have : ¬ x = a := fun z => e z.symm
      simp [e, this]
variable {el : List α → W}
theorem gIn_p (h : Pl t pd k) (hk : Nat.ble (k + 1) 64 = true) (f : Fz e t) (f' : Fz el (tL t)) (a : α) (xs : List α) : gIn (e a, el xs) = some (eD tB (decide (a ∈ xs))) := by
  have hk : k + 1 ≤ 64 := by simpa using hk
  simp only [gIn, gDD, wPd_of h (by omega) (f a), wPd_of (pl_L h) hk (f' xs), fIn, any_eqvL h]
  rfl
theorem gNotIn_p (h : Pl t pd k) (hk : Nat.ble (k + 1) 64 = true) (f : Fz e t) (f' : Fz el (tL t)) (a : α) (xs : List α) : gNotIn (e a, el xs) = some (eD tB (!decide (a ∈ xs))) := by
  have hk : k + 1 ≤ 64 := by simpa using hk
  simp only [gNotIn, gDD, wPd_of h (by omega) (f a), wPd_of (pl_L h) hk (f' xs), fNotIn, any_eqvL h]
  rfl
end
/-! numbers -/
theorem add_I (i j : Int) : gAdd (eD tI i, eD tI j) = some (eD tI (i + j)) := rfl
theorem sub_I (i j : Int) : gSub (eD tI i, eD tI j) = some (eD tI (i - j)) := rfl
theorem neg_I (i : Int) : gNeg (eD tI i) = some (eD tI (-i)) := rfl
theorem lt_I (i j : Int) : gLt (eD tI i, eD tI j) = some (eD tB (decide (i < j))) := rfl
theorem le_I (i j : Int) : gLe (eD tI i, eD tI j) = some (eD tB (decide (i ≤ j))) := rfl
theorem gt_I (i j : Int) : gGt (eD tI i, eD tI j) = some (eD tB (decide (j < i))) := rfl
theorem ge_I (i j : Int) : gGe (eD tI i, eD tI j) = some (eD tB (decide (j ≤ i))) := rfl
theorem not_B (b : Bool) : gNotV (eD tB b) = some (eD tB (!b)) := rfl
theorem log_lt {n k : Nat} (h : n < 2 ^ k) (h0 : 0 < k) : n.log2 < k := by
  by_cases hn : n = 0
  · subst hn; simpa using h0
  · exact (Nat.log2_lt hn).mpr h
def mulO (i j : Int) : Option Int := if i.natAbs.log2 + j.natAbs.log2 < 1000000 then some (i * j) else none
theorem mul_I (i j : Int) : gMul (eD tI i, eD tI j) = (mulO i j).map (eD tI) := by
  unfold mulO
  simp only [gMul, gMulI, gRep, gII, wInt, eD, tI, wEls]
  by_cases h : i.natAbs.log2 + j.natAbs.log2 < 1000000 <;> simp [h, eD]
theorem mul_c {i j k : Int} (h : decide (i.natAbs.log2 + j.natAbs.log2 < 1000000) = true) (e : i * j = k) : gMul (eD tI i, eD tI j) = some (eD tI k) := by
  rw [mul_I, mulO, if_pos (of_decide_eq_true h), e]
  rfl
theorem mulO_ok {i j : Int} {n m : Nat} (h : i.natAbs < 2 ^ n) (k : j.natAbs < 2 ^ m) (hn : n + m ≤ 999999) : mulO i j = some (i * j) := by
  unfold mulO
  rw [if_pos]
  have h1 := log_lt (n := i.natAbs) (k := n + 1) (by rw [Nat.pow_succ]; omega) (by omega)
  have h2 := log_lt (n := j.natAbs) (k := m + 1) (by rw [Nat.pow_succ]; omega) (by omega)
  omega
def divO (i j : Int) : Option Int := if 0 < j ∧ j.natAbs.log2 < 9000 then some (i / j) else if j ≠ 0 ∧ j.natAbs < 1073741824 then some (i.fdiv j) else none
theorem div_I (i j : Int) : gDiv (eD tI i, eD tI j) = (divO i j).map (eD tI) := by
  unfold divO
  simp only [gDiv, gDivP, gDivN, gII, wInt, eD, tI]
  by_cases h : 0 < j ∧ j.natAbs.log2 < 9000
  · simp [h, eD]
  · by_cases h2 : j ≠ 0 ∧ j.natAbs < 1073741824
    · simp only [if_neg h, if_pos h2, Bool.and_eq_true, decide_eq_true_eq]
      rfl
    · simp only [if_neg h, if_neg h2, Bool.and_eq_true, decide_eq_true_eq]
      rfl
theorem div_c {i j : Int} (h : (decide (0 < j) && decide (j.natAbs.log2 < 9000)) = true) : gDiv (eD tI i, eD tI j) = some (eD tI (i / j)) := by
  simp only [Bool.and_eq_true, decide_eq_true_eq] at h
  rw [div_I, divO, if_pos h]
  rfl
def modO (i j : Int) : Option Int := if 0 < j then some (i % j) else if j ≠ 0 then some (i.fmod j) else none
theorem mod_I (i j : Int) : gMod (eD tI i, eD tI j) = (modO i j).map (eD tI) := by
  unfold modO
  simp only [gMod, gModP, gModN, gII, wInt, eD, tI]
  by_cases h : 0 < j
  · simp [h, eD]
  · by_cases h2 : j ≠ 0
    · simp only [if_neg h, if_pos h2, decide_eq_true_eq]
      rfl
    · simp only [if_neg h, if_neg h2, decide_eq_true_eq]
      rfl
theorem mod_c {i j : Int} (h : decide (0 < j) = true) : gMod (eD tI i, eD tI j) = some (eD tI (i % j)) := by
  rw [mod_I, modO, if_pos (of_decide_eq_true h)]
  rfl
theorem divO_pos {i j : Int} (h : 0 < j) (k : j.natAbs < 2 ^ 8999) : divO i j = some (i / j) := by
  unfold divO
  rw [if_pos ⟨h, by have := log_lt k (by decide); omega⟩]
theorem modO_pos {i j : Int} (h : 0 < j) : modO i j = some (i % j) := by
  unfold modO
  rw [if_pos h]
theorem pow_c {i j k : Int} (h : (decide (0 ≤ j) && decide (j ≤ 1000000) && decide (i.natAbs < 2 ^ 64)) = true) (e : i ^ j.toNat = k) : gPow (eD tI i, eD tI j) = some (eD tI k) := by
  simp only [gPow, gII, wInt, eD, tI]
  rw [if_pos h, e]
def b2i (b : Bool) : Int := if b = true then 1 else 0
@[simp] theorem b2i_t : b2i true = 1 := rfl
@[simp] theorem b2i_f : b2i false = 0 := rfl
theorem int_B (b : Bool) : gToInt [eD tB b] = some (eD tI (b2i b)) := rfl
theorem int_I (i : Int) : gToInt [eD tI i] = some (eD tI i) := rfl
def absI (i : Int) : Int := if i < 0 then -i else i
theorem absI_nat (i : Int) : absI i = (i.natAbs : Int) := by unfold absI; split <;> omega
theorem abs_I (i : Int) : gAbs [eD tI i] = some (eD tI (absI i)) := rfl
theorem bl_B (b : Bool) : wBl (eD tB b) = some b := rfl
/-! a test of other things than truths is not covered -/
/-! lists -/
theorem atI_map {f : α → β} (xs : List α) (i : Int) : L2.atI (xs.map f) i = (L2.atI xs i).map f := by
  unfold L2.atI
  rw [List.length_map]
  rcases L2.ixN xs.length i with _ | j
  · rfl
  · simp
theorem ix_sh {t : α → D} (xs : List α) (i : Int) : gIx (eD (tL t) xs, eD tI i) = (at_ xs i).map (eD t) := by
  show (L2.atI (xs.map t) i).map W.sh = _
  rw [atI_map, Option.map_map]
  rfl
theorem ix_ol {e : α → W} (xs : List α) (i : Int) : gIx (eO e xs, eD tI i) = (at_ xs i).map e := by
  show L2.atI (xs.map e) i = _
  rw [atI_map]
theorem ix_scr (xs : List Int) (i : Int) : gIx (eD tR xs, eD tI i) = (at_ xs i).map (eD tI) := rfl
theorem at_ok {xs : List α} {i : Int} {x : α} (h0 : 0 ≤ i) (h : xs[i.toNat]? = some x) : at_ xs i = some x := by
  have := (List.getElem?_eq_some_iff.mp h).1
  simp [at_, L2.atI, L2.ixN, h0, show i < xs.length by omega]
  exact (List.getElem?_eq_some_iff.mp h).2
@[simp] theorem at_0 {x : α} {xs : List α} : at_ (x :: xs) 0 = some x := at_ok (by omega) rfl
@[simp] theorem at_1 {x y : α} {xs : List α} : at_ (x :: y :: xs) 1 = some y := at_ok (by omega) rfl
@[simp] theorem at_2 {x y z : α} {xs : List α} : at_ (x :: y :: z :: xs) 2 = some z := at_ok (by omega) rfl
theorem len_sh {t : α → D} (xs : List α) : gLen [eD (tL t) xs] = some (eD tI (xs.length : Int)) := by
  show some (W.sh (.int ((xs.map t).length : Int))) = _
  rw [List.length_map]
  rfl
theorem len_ol {e : α → W} (xs : List α) : gLen [eO e xs] = some (eD tI (xs.length : Int)) := by
  show some (W.sh (.int ((xs.map e).length : Int))) = _
  rw [List.length_map]
  rfl
theorem len_scr (xs : List Int) : gLen [eD tR xs] = some (eD tI (xs.length : Int)) := rfl
theorem shsOf_map {t : α → D} : ∀ xs : List α, shsOf (xs.map (eD t)) = some (xs.map t)
  | [] => rfl
  | x :: xs => by simp [shsOf, eD, shsOf_map (t := t) xs, show (fun a => W.sh (t a)) = eD t from rfl]
theorem els_sh {t : α → D} (xs : List α) : wEls (eD (tL t) xs) = some (xs.map t) := rfl
theorem els_ol {t : α → D} (xs : List α) : wEls (eO (eD t) xs) = some (xs.map t) := shsOf_map xs
theorem dInts_map : ∀ xs : List Int, dInts (xs.map tI) = some xs
  | [] => rfl
  | x :: xs => by
    show (dInts (xs.map tI)).map (x :: ·) = _
    rw [dInts_map xs]
    rfl
/-- a list whose parts are shared, own or shared itself -/
def LE (e : List α → W) (t : α → D) : Prop := ∀ xs, wEls (e xs) = some (xs.map t)
theorem le_sh {t : α → D} : LE (eD (tL t)) t := els_sh
theorem le_ol {t : α → D} : LE (eO (eD t)) t := els_ol
theorem le_seq {e : List α → W} {t : α → D} (h : LE e t) (xs : List α) : wSeq (e xs) = some (xs.map t) := by
  have := h xs
  unfold wSeq
  split
  · rename_i e2; rw [e2] at this; simp [wEls] at this
  · rename_i e2; rw [e2] at this; simp [wEls] at this
  · exact this
theorem wInts_le {e : List Int → W} (h : LE e tI) (xs : List Int) : wInts (e xs) = some xs := by
  have := h xs
  unfold wInts
  split
  · rename_i e2; rw [e2] at this; simp [wEls] at this
  · rw [this]; exact dInts_map xs
theorem sum_I {e : List Int → W} (h : LE e tI) (xs : List Int) : gSum [e xs] = some (eD tI xs.sum) := by
  simp [gSum, wInts_le h, eD, tI]
def minO (xs : List Int) : Option Int := if xs.length = 0 then none else some (minI xs)
def maxO (xs : List Int) : Option Int := if xs.length = 0 then none else some (maxI xs)
theorem min_L {e : List Int → W} (h : LE e tI) (xs : List Int) : gMin [e xs] = (minO xs).map (eD tI) := by
  simp only [gMin, wInts_le h, minO, Option.bind_some]
  split <;> rfl
theorem max_L {e : List Int → W} (h : LE e tI) (xs : List Int) : gMax [e xs] = (maxO xs).map (eD tI) := by
  simp only [gMax, wInts_le h, maxO, Option.bind_some]
  split <;> rfl
def min2 (i j : Int) : Int := if j < i then j else i
def max2 (i j : Int) : Int := if j > i then j else i
theorem min_2 (i j : Int) : gMin [eD tI i, eD tI j] = some (eD tI (min2 i j)) := rfl
theorem max_2 (i j : Int) : gMax [eD tI i, eD tI j] = some (eD tI (max2 i j)) := rfl
theorem list_L {e : List α → W} {t : α → D} (h : LE e t) (xs : List α) : gList [e xs] = some (eO (eD t) xs) := by
  simp only [gList, le_seq h, Option.map_some, List.map_map]
  rfl
theorem list_R (xs : List Int) : gList [eD tR xs] = some (eO (eD tI) xs) := by
  show some (W.ol ((xs.map D.int).map W.sh)) = _
  rw [List.map_map]
  rfl
theorem dBls_map : ∀ xs : List Bool, dBls (xs.map tB) = some xs
  | [] => rfl
  | x :: xs => by
    show (dBls (xs.map tB)).map (x :: ·) = _
    rw [dBls_map xs]
    rfl
theorem any_L {e : List Bool → W} (h : LE e tB) (xs : List Bool) : gAny [e xs] = some (eD tB (xs.any id)) := by
  show (((wEls (e xs)).bind dBls).map fun bs => W.sh (.bl (bs.any id))) = _
  rw [h xs, Option.bind_some, dBls_map]
  rfl
theorem all_L {e : List Bool → W} (h : LE e tB) (xs : List Bool) : gAll [e xs] = some (eD tB (xs.all id)) := by
  show (((wEls (e xs)).bind dBls).map fun bs => W.sh (.bl (bs.all id))) = _
  rw [h xs, Option.bind_some, dBls_map]
  rfl
theorem sorted_L {e : List Int → W} (h : LE e tI) (xs : List Int) : gSorted [e xs] = some (eO (eD tI) (sortI xs)) := by
  simp only [gSorted, wInts_le h, Option.map_some]
  rfl
def catO (xs ys : List α) : Option (List α) := if xs.length + ys.length ≤ 100000 then some (xs ++ ys) else none
theorem cat_L {e e' : List α → W} {t : α → D} (h : LE e t) (h' : LE e' t) (xs ys : List α) : gAdd (e xs, e' ys) = (catO xs ys).map (eO (eD t)) := by
  have a := h xs
  have b := h' ys
  have i1 : wInt (e xs) = none := by
    cases h : e xs with
    | sh d => rw [h] at a; cases d <;> simp [wEls, wInt] at a ⊢
    | ol ws => rfl
    | ot _ => rfl
    | ob _ _ _ => rfl
    | dk _ _ => rfl
    | dt _ _ => rfl
  have i2 : wStr (e xs) = none := by
    cases h : e xs with
    | sh d => rw [h] at a; cases d <;> simp [wEls, wStr] at a ⊢
    | ol ws => rfl
    | ot _ => rfl
    | ob _ _ _ => rfl
    | dk _ _ => rfl
    | dt _ _ => rfl
  have g1 : gAddI (e xs, e' ys) = none := by simp [gAddI, gII, i1]
  have g2 : gAddS (e xs, e' ys) = none := by simp [gAddS, i2]
  simp only [gAdd, g1, g2, Option.none_or, gCat, a, b, catO, List.length_map]
  split
  · simp only [Option.map_some, Option.some.injEq, eO]
    rw [← List.map_append, List.map_map]
    rfl
  · rfl
def repO (xs : List α) (k : Int) : Option (List α) := if xs.length * k.toNat ≤ 100000 ∧ -100000 ≤ k ∧ k ≤ 100000 then some (List.replicate k.toNat xs).flatten else none
theorem rep_L {e : List α → W} {t : α → D} (h : LE e t) (xs : List α) (k : Int) : gMul (e xs, eD tI k) = (repO xs k).map (eO (eD t)) := by
  have a := h xs
  have i1 : wInt (e xs) = none := by
    cases h : e xs with
    | sh d => rw [h] at a; cases d <;> simp [wEls, wInt] at a ⊢
    | ol ws => rfl
    | ot _ => rfl
    | ob _ _ _ => rfl
    | dk _ _ => rfl
    | dt _ _ => rfl
  have g1 : gMulI (e xs, eD tI k) = none := by simp [gMulI, gII, i1]
  have i3 : wInt (eD tI k) = some k := rfl
  simp only [gMul, g1, Option.none_or, gRep, a, i3, repO, List.length_map]
  split
  · simp only [Option.map_some, Option.some.injEq, eO]
    have : ∀ n, (List.replicate n (xs.map t)).flatten = (List.replicate n xs).flatten.map t := by
      intro n
      induction n with
      | zero => rfl
      | succ n ih => rw [List.replicate_succ, List.replicate_succ, List.flatten_cons, List.flatten_cons, ih, List.map_append]
    rw [this, List.map_map]
    rfl
  · rfl
theorem cutL_map {f : α → β} (xs : List α) (lo hi : Option Int) : cutL (xs.map f) lo hi = (cutL xs lo hi).map f := by
  simp [cutL]
theorem wEls_ne {w : W} {ds : List D} (h : wEls w = some ds) : ∀ a b, gSl (w, a, b) = some (.ol ((cutL ds a b).map W.sh)) := fun a b => by
  cases w with
  | sh d => cases d <;> simp [wEls] at h; subst h; rfl
  | ol ws => simp only [gSl, h, Option.map_some]
  | ot _ => simp [wEls] at h
  | ob _ _ _ => simp [wEls] at h
  | dk _ _ => simp [wEls] at h
  | dt _ _ => simp [wEls] at h
theorem sl_L {e : List α → W} {t : α → D} (h : LE e t) (xs : List α) (lo hi : Option Int) : gSl (e xs, lo, hi) = some (eO (eD t) (cutL xs lo hi)) := by
  rw [wEls_ne (h xs), cutL_map, List.map_map]
  rfl
theorem rev_L {e : List α → W} {t : α → D} (h : LE e t) (xs : List α) : gRevL (e xs) = some (eO (eD t) xs.reverse) := by
  simp only [gRevL, h xs, Option.map_some, Option.some.injEq, eO]
  rw [← List.map_reverse, List.map_map]
  rfl
/-! displays -/
theorem lst_0 {e : α → W} : gLst [] = some (eO e []) := rfl
theorem lst_1 {e : α → W} {a : α} : gLst [e a] = some (eO e [a]) := rfl
theorem lst_2 {e : α → W} {a b : α} : gLst [e a, e b] = some (eO e [a, b]) := rfl
theorem lst_3 {e : α → W} {a b c : α} : gLst [e a, e b, e c] = some (eO e [a, b, c]) := rfl
theorem lst_n {e : α → W} {ws : List W} (xs : List α) (h : ws = xs.map e) (hl : Nat.ble ws.length 100000 = true) : gLst ws = some (eO e xs) := by
  unfold gLst
  rw [if_pos (by simpa using hl), h]
  rfl
theorem tup_2 {t : α → D} {u : β → D} {a : α} {b : β} : gTup [eD t a, eD u b] = some (eD (t2 t u) (a, b)) := rfl
theorem tup_3 {t : α → D} {u : β → D} {v : γ → D} {a : α} {b : β} {c : γ} : gTup [eD t a, eD u b, eD v c] = some (eD (t3 t u v) (a, b, c)) := rfl
/-! ranges -/
def rgT (lo c : Int) (n : Nat) : List Int := (List.range n).map fun k => lo + (k : Nat) * c
theorem rgL_T (lo c : Int) (n : Nat) : rgL lo c n = (rgT lo c n).map tI := by
  simp only [rgL, rgT, List.map_map]
  rfl
@[simp] theorem rgT_len (lo c : Int) (n : Nat) : (rgT lo c n).length = n := by simp [rgT]
theorem rgT_get {lo c : Int} {n i : Nat} (h : i < n) : (rgT lo c n)[i]? = some (lo + i * c) := by simp [rgT, h]
def rg1 (n : Int) : Option (List Int) := if inR n = true then some (rgT 0 1 n.toNat) else none
def rg2 (a b : Int) : Option (List Int) := if (inR a && inR b) = true then some (rgT a 1 (b - a).toNat) else none
def rg3 (a b c : Int) : Option (List Int) := if c ≠ 0 ∧ c.natAbs < 1073741824 ∧ Builtin.Range.small a b c = true ∧ Builtin.Range.rangeSize a b c = ((Builtin.Range.rangeSize a b c).toNat : Int) then some (rgT a c (Builtin.Range.rangeSize a b c).toNat) else none
theorem rg_1 (n : Int) : gRg1 [eD tI n] = (rg1 n).map fun xs => xs.map tI := by
  show (if inR n = true then some (rgL 0 1 n.toNat) else none) = _
  unfold rg1
  split
  · simp [rgL_T]
  · rfl
theorem rg_2 (a b : Int) : gRg2 [eD tI a, eD tI b] = (rg2 a b).map fun xs => xs.map tI := by
  show (if (inR a && inR b) = true then some (rgL a 1 (b - a).toNat) else none) = _
  unfold rg2
  split
  · simp [rgL_T]
  · rfl
theorem rg_3 (a b c : Int) : gRg3 [eD tI a, eD tI b, eD tI c] = (rg3 a b c).map fun xs => xs.map tI := by
  show (if c ≠ 0 ∧ c.natAbs < 1073741824 ∧ Builtin.Range.small a b c = true ∧ Builtin.Range.rangeSize a b c = ((Builtin.Range.rangeSize a b c).toNat : Int) then some (rgL a c (Builtin.Range.rangeSize a b c).toNat) else none) = _
  unfold rg3
  split
  · simp [rgL_T]
  · rfl
theorem inR_ok {n : Int} (h : -(2 ^ 62) ≤ n) (k : n < 2 ^ 62) : inR n = true := by
  simp only [inR, Bool.and_eq_true, decide_eq_true_eq]
  omega
theorem rg1_ok {n : Int} (h : -(2 ^ 62) ≤ n) (k : n < 2 ^ 62) : rg1 n = some (rgT 0 1 n.toNat) := by rw [rg1, if_pos (inR_ok h k)]
theorem rg2_ok {a b : Int} (h : -(2 ^ 62) ≤ a) (k : a < 2 ^ 62) (h2 : -(2 ^ 62) ≤ b) (k2 : b < 2 ^ 62) : rg2 a b = some (rgT a 1 (b - a).toNat) := by rw [rg2, if_pos (by rw [inR_ok h k, inR_ok h2 k2]; rfl)]
def rgdO (a b : Int) : Option (List Int) := if rgOk a b = true then some (rgT a 1 (b - a).toNat) else none
theorem rgD_T (a b : Int) : (rgD a b).map W.sh = (rgT a 1 (b - a).toNat).map (eD tI) := by
  simp only [rgD, rgT, List.map_map]
  refine List.map_congr_left fun k _ => ?_
  simp [eD, tI]
theorem rgL_1 (n : Int) : gRgL1 (eD tI n) = (rgdO 0 n).map (eO (eD tI)) := by
  show (if rgOk 0 n = true then some (W.ol ((rgD 0 n).map W.sh)) else none) = _
  unfold rgdO
  split
  · simp [rgD_T, eO]
  · rfl
theorem rgL_2 (a b : Int) : gRgL2 (eD tI a, eD tI b) = (rgdO a b).map (eO (eD tI)) := by
  show (if rgOk a b = true then some (W.ol ((rgD a b).map W.sh)) else none) = _
  unfold rgdO
  split
  · simp [rgD_T, eO]
  · rfl
theorem rgdO_ok {a b : Int} (h : 0 ≤ a) (k : a ≤ 16777216) (h2 : 0 ≤ b) (k2 : b ≤ 16777216) : rgdO a b = some (rgT a 1 (b - a).toNat) := by rw [rgdO, if_pos (by simp [rgOk]; omega)]
def enumT (xs : List α) : List (Int × α) := xs.zipIdx.map fun p => ((p.2 : Nat), p.1)
theorem enum_L {e : List α → W} {t : α → D} (h : LE e t) (xs : List α) : gEnum [e xs] = some ((enumT xs).map (t2 tI t)) := by
  simp only [gEnum, h xs, Option.map_some, Option.some.injEq, enumT, List.map_map]
  rw [List.zipIdx_map, List.map_map]
  rfl
theorem zip_L {e : List α → W} {t : α → D} {e' : List β → W} {t' : β → D} (h : LE e t) (h' : LE e' t') (xs : List α) (ys : List β) : gZip [e xs, e' ys] = some ((xs.zip ys).map (t2 t t')) := by
  simp only [gZip, h xs, h' ys, Option.some.injEq]
  rw [List.zip_map, List.map_map]
  rfl
end
/-! ### changes in place -/
section
variable {α β γ δ σ τ ρ : Type} {J : Jd β τ} {env e' : Env}
def ixO (xs : List α) (i : Int) : Option (Nat × α) := (L2.ixN xs.length i).bind fun j => xs[j]?.map fun x => (j, x)
theorem ixO_mem {xs : List α} {i : Int} {j : Nat} {x : α} (h : ixO xs i = some (j, x)) : L2.ixN xs.length i = some j ∧ xs[j]? = some x ∧ j < xs.length := by
  unfold ixO at h
  rcases e : L2.ixN xs.length i with _ | k
  · rw [e] at h; cases h
  · rw [e] at h
    simp only [Option.bind_some, Option.map_eq_some_iff, Prod.mk.injEq] at h
    obtain ⟨y, h1, rfl, rfl⟩ := h
    exact ⟨rfl, h1, (List.getElem?_eq_some_iff.mp h1).1⟩
theorem ixO_ok {xs : List α} {i : Int} {x : α} (h0 : 0 ≤ i) (h : xs[i.toNat]? = some x) : ixO xs i = some (i.toNat, x) := by
  have := (List.getElem?_eq_some_iff.mp h).1
  simp only [ixO, L2.ixN, if_pos h0, if_pos (show i < xs.length by omega), Option.bind_some, h, Option.map_some]
/-- the place of a part of a list that a name holds -/
theorem p_ix {ml : ME Path} {mi : ME W} {e : α → W} {xs : List α} {a : Int} {r : Option (Res β × Env)} {pk : Nat × α → X τ} {path : Path} (hl : ml env = some (.ok path, env)) (hi : mi env = some (.ok (eD tI a), env)) (hg : getE env path = some (eO e xs))
    (k : ∀ j x, lIx ml mi env = some (.ok (path.1, path.2 ++ [j]), env) → getE env (path.1, path.2 ++ [j]) = some (e x) → (∀ y, setE env (path.1, path.2 ++ [j]) (e y) = setE env path (eO e (xs.set j y))) → J.rel r (pk (j, x))) : J.rel r (X.bind (X.ofO (ixO xs a)) pk) := by
  rcases h : ixO xs a with _ | ⟨j, x⟩
  · exact J.non _
  · obtain ⟨h1, h2, h3⟩ := ixO_mem h
    unfold getE at hg
    rcases e1 : env[path.1]? with _ | ⟨_ | w⟩
    · rw [e1] at hg; cases hg
    · rw [e1] at hg; cases hg
    · rw [e1] at hg
      simp only at hg
      have gp : ∀ (js : List Nat) (w : W), getP w js = some (eO e xs) → getP w (js ++ [j]) = some (e x) ∧ ∀ y, putP w (js ++ [j]) (e y) = putP w js (eO e (xs.set j y)) := by
        intro js
        induction js with
        | nil =>
          intro w h
          simp only [getP, Option.some.injEq] at h
          subst h
          refine ⟨?_, fun y => ?_⟩
          · simp [getP, kids, eO, h2]
          · simp [putP, kids, eO, h2, setKid, List.map_set]
        | cons i js ih =>
          intro w h
          simp only [List.cons_append, getP, putP] at h ⊢
          rcases e2 : (kids w).bind (·[i]?) with _ | z
          · rw [e2] at h; cases h
          · rw [e2] at h
            simp only at h ⊢
            obtain ⟨q1, q2⟩ := ih z h
            exact ⟨q1, fun y => by rw [q2 y]⟩
      obtain ⟨q1, q2⟩ := gp _ _ hg
      refine k j x ?_ ?_ fun y => ?_
      · unfold lIx
        have g2 : getE env path = some (eO e xs) := by
          unfold getE
          rw [e1]
          exact hg
        have wi : wInt (eD tI a) = some a := rfl
        have kd : kids (eO e xs) = some (xs.map e) := rfl
        simp only [hl, hi, wi, g2, Option.bind_some, kd, List.length_map, h1]
        simp only [eO, if_pos h3]
      · unfold getE
        simp only [e1]
        exact q1
      · unfold setE
        simp only [e1, q2 y]
/-- xs[i] = v -/
def setO (xs : List α) (i : Int) (v : α) : Option (List α) := (L2.ixN xs.length i).bind fun j => if j < xs.length then some (xs.set j v) else none
theorem setO_ok {xs : List α} {i : Int} {v : α} (h0 : 0 ≤ i) (h : i < xs.length) : setO xs i v = some (xs.set i.toNat v) := by
  simp only [setO, L2.ixN, if_pos h0, if_pos h, Option.bind_some, if_pos (show i.toNat < xs.length by omega)]
theorem k_setI {J : Jd Fl τ} {ml : ME Path} {mi : ME W} {e : α → W} {xs : List α} {i : Int} {v : α} {rest : MS} {path : Path} {ev : List α → Env} {pk : List α → X τ} (hl : ml env = some (.ok path, env)) (hi : mi env = some (.ok (eD tI i), env)) (hg : getE env path = some (eO e xs)) (hs : ∀ ys, setE env path (eO e ys) = some (ev ys)) (k : ∀ ys, J.rel (rest (ev ys)) (pk ys)) :
    J.rel (gK (gSetI ml mi) (e v) env rest) (X.bind (X.ofO (setO xs i v)) pk) := by
  have wi : wInt (eD tI i) = some i := rfl
  have : gK (gSetI ml mi) (e v) env rest = match (setO xs i v) with | some ys => rest (ev ys) | none => none := by
    unfold gK gSetI setO
    simp only [hl, hi, wi, hg, eO, List.length_map]
    rcases L2.ixN xs.length i with _ | j
    · rfl
    · simp only [Option.bind_some]
      by_cases h : j < xs.length
      · simp only [if_pos h]
        have := hs (xs.set j v)
        simp only [eO, List.map_set] at this
        rw [this]
        rfl
      · simp only [if_neg h]
  rw [this]
  rcases setO xs i v with _ | ys
  · exact J.non _
  · exact k ys
def updO (xs : List Int) (i : Int) (f : Int → Int) : Option (List Int) := (ixO xs i).map fun p => xs.set p.1 (f p.2)
theorem updO_ok {xs : List Int} {i x : Int} {f : Int → Int} (h0 : 0 ≤ i) (h : xs[i.toNat]? = some x) : updO xs i f = some (xs.set i.toNat (f x)) := by
  rw [updO, ixO_ok h0 h]
  rfl
theorem s_augI {J : Jd Fl τ} {f : Int → Int → Int} {ml : ME Path} {mi m : ME W} {xs : List Int} {i y : Int} {rest : MS} {path : Path} {ev : List Int → Env} {pk : List Int → X τ} (hl : ml env = some (.ok path, env)) (hi : mi env = some (.ok (eD tI i), env)) (hg : getE env path = some (eO (eD tI) xs)) (hm : m env = some (.ok (eD tI y), env)) (hs : ∀ ys, setE env path (eO (eD tI) ys) = some (ev ys)) (k : ∀ ys, J.rel (rest (ev ys)) (pk ys)) :
    J.rel (mSeq (mAugI f ml mi m) rest env) (X.bind (X.ofO (updO xs i fun x => f x y)) pk) := by
  have wi : wInt (eD tI i) = some i := rfl
  have wy : wInt (eD tI y) = some y := rfl
  have : mSeq (mAugI f ml mi m) rest env = match updO xs i fun x => f x y with | some ys => rest (ev ys) | none => none := by
    unfold mSeq mAugI updO ixO
    simp only [hl, hi, wi, hg, eO, List.length_map]
    rcases L2.ixN xs.length i with _ | j
    · rfl
    · simp only [Option.bind_some, List.getElem?_map]
      rcases e1 : xs[j]? with _ | x
      · rfl
      · have wx : wInt (eD tI x) = some x := rfl
        simp only [Option.map_some, Option.bind_some, wx, hm, wy]
        have := hs (xs.set j (f x y))
        simp only [eO, List.map_set] at this
        rw [show W.sh (.int (f x y)) = eD tI (f x y) from rfl, this]
        rfl
  rw [this]
  rcases updO xs i fun x => f x y with _ | ys
  · exact J.non _
  · exact k ys
/-- the same, where the index and what is added are blocks of their own -/
theorem s_augIX {J : Jd Fl τ} {f : Int → Int → Int} {ml : ME Path} {mi m : ME W} {xs : List Int} {rest : MS} {path : Path} {ev : List Int → Env} {pk : List Int → X τ} {pi py : X Int} (hl : ml env = some (.ok path, env)) (hi : (jE (eD tI) (fun (_ : Int) (_ : Unit) => env) (fun _ => False)).rel (mi env) pi) (hg : getE env path = some (eO (eD tI) xs)) (hm : (jE (eD tI) (fun (_ : Int) (_ : Unit) => env) (fun _ => False)).rel (m env) py) (hs : ∀ ys, setE env path (eO (eD tI) ys) = some (ev ys)) (k : ∀ ys, J.rel (rest (ev ys)) (pk ys)) :
    J.rel (mSeq (mAugI f ml mi m) rest env) (X.bind pi fun i => X.bind py fun y => X.bind (X.ofO (updO xs i fun x => f x y)) pk) := by
  rcases pi with _ | ⟨i | x⟩
  · exact J.non _
  · obtain ⟨_, hi⟩ := hi.h
    rcases py with _ | ⟨y | x⟩
    · exact J.non _
    · obtain ⟨_, hm⟩ := hm.h
      exact s_augI hl hi hg hm hs k
    · obtain ⟨_, _, h⟩ := hm.h
      exact h.elim
  · obtain ⟨_, _, h⟩ := hi.h
    exact h.elim
theorem v_of {m : ME α} {a : α} (h : (jE (fun _ : Unit => a) (fun _ (_ : Unit) => env) (fun _ => False)).rel (m env) (X.ok ())) : m env = some (.ok a, env) := by
  obtain ⟨_, h⟩ := h.h
  exact h
/-- x += e of a name -/
theorem s_aug {J : Jd Fl τ} {p : X τ} {i : Nat} {f : Int → Int → Int} {m : ME W} {x : Int} {rest : MS} (hx : env[i]? = some (some (eD tI x))) (h : J.rel (aft (m env) fun w e => opK (wInt w) e fun y e => gK (gSet i) (eD tI (f x y)) e rest) p) : J.rel (mSeq (mAug i f m) rest env) p := by
  have : mSeq (mAug i f m) rest env = aft (m env) fun w e => opK (wInt w) e fun y e => gK (gSet i) (eD tI (f x y)) e rest := by
    unfold mSeq mAug
    have wx : wInt (eD tI x) = some x := rfl
    simp only [hx, wx]
    rcases m env with _ | ⟨w | z, e⟩
    · rfl
    · simp only [aft, opK]
      rcases wInt w with _ | y
      · rfl
      · simp only [gK, gSet]
        by_cases h : i < List.length e
        · simp only [if_pos h]; rfl
        · simp only [if_neg h]
    · rfl
  rw [this]
  exact h
theorem int_w (i : Int) : wInt (eD tI i) = some i := rfl
end
end TY

set_option Elab.async false
set_option linter.all false
set_option maxRecDepth 100000
/-! Typed layer, part 3: methods in place, calls, comprehensions, defs. -/
namespace TY
open PySem AM
section
variable {α β γ δ σ τ ρ : Type} {J : Jd β τ} {env e : Env}
/-! methods in place -/
theorem chk_ol {ml : ME Path} {path : Path} {el : α → W} {xs : List α} (hl : ml env = some (.ok path, env)) (hg : getE env path = some (eO el xs)) : lChk isOl ml env = some (.ok path, env) := by
  unfold lChk
  simp only [hl, hg]
  rfl
def appO (xs : List α) (x : α) : Option (List α) := if xs.length < 100000 then some (xs ++ [x]) else none
theorem appO_ok {xs : List α} {x : α} (h : xs.length < 100000) : appO xs x = some (xs ++ [x]) := if_pos h
def extO (xs ys : List α) : Option (List α) := if xs.length + ys.length ≤ 100000 then some (xs ++ ys) else none
theorem extO_ok {xs ys : List α} (h : xs.length + ys.length ≤ 100000) : extO xs ys = some (xs ++ ys) := if_pos h
def popO (xs : List α) (i : Int) : Option (List α × α) := if -100000 ≤ i ∧ i ≤ 100000 then (ixO xs i).map fun p => (xs.eraseIdx p.1, p.2) else none
theorem popO_ok {xs : List α} {i : Int} {x : α} (h0 : 0 ≤ i) (h1 : i ≤ 100000) (h : xs[i.toNat]? = some x) : popO xs i = some (xs.eraseIdx i.toNat, x) := by
  rw [popO, if_pos ⟨by omega, h1⟩, ixO_ok h0 h]
  rfl
def popL (xs : List α) : Option (List α × α) := (xs[xs.length - 1]?).map fun x => (xs.dropLast, x)
section
variable {κ : W → Env → Option (Res β × Env)} {path : Path} {el : α → W} {xs : List α} {ev : List α → Env} {pk : List α → X τ} {pk2 : List α × α → X τ}
theorem i_app {x : α} (hg : getE e path = some (eO el xs)) (hs : ∀ ys, setE e path (eO el ys) = some (ev ys)) (k : ∀ ys, J.rel (κ (eD tN ()) (ev ys)) (pk ys)) :
    J.rel (inK e path (fun w => onL gApp w [el x]) κ) (X.bind (X.ofO (appO xs x)) pk) := by
  unfold inK
  rw [hg]
  by_cases h : xs.length < 100000
  · have := hs (xs ++ [x])
    simp only [eO, List.map_append, List.map_cons, List.map_nil] at this
    simp only [opK, onL, eO, gApp, List.length_map, appO, if_pos h, Option.map_some, this]
    exact k _
  · simp only [appO, if_neg h]
    exact J.non _
theorem i_ext {e2 : List α → W} {ys : List α} (h2 : ∀ ys, wTake (e2 ys) = some (ys.map el)) (hg : getE e path = some (eO el xs)) (hs : ∀ ys, setE e path (eO el ys) = some (ev ys)) (k : ∀ ys, J.rel (κ (eD tN ()) (ev ys)) (pk ys)) :
    J.rel (inK e path (fun w => onL gExt w [e2 ys]) κ) (X.bind (X.ofO (extO xs ys)) pk) := by
  unfold inK
  rw [hg]
  by_cases h : xs.length + ys.length ≤ 100000
  · have := hs (xs ++ ys)
    simp only [eO, List.map_append] at this
    simp only [opK, onL, eO, gExt, List.length_map, extO, h2 ys, Option.bind_some, if_pos h, Option.map_some, this]
    exact k _
  · simp only [extO, if_neg h]
    exact J.non _
theorem tk_ol (ys : List α) : wTake (eO el ys) = some (ys.map el) := rfl
theorem tk_sh {t : α → D} (ys : List α) : wTake (eD (tL t) ys) = some (ys.map (eD t)) := by
  show some ((ys.map t).map W.sh) = _
  rw [List.map_map]
  rfl
theorem i_popAt {i : Int} (hg : getE e path = some (eO el xs)) (hs : ∀ ys, setE e path (eO el ys) = some (ev ys)) (k : ∀ r : List α × α, J.rel (κ (el r.2) (ev r.1)) (pk2 r)) :
    J.rel (inK e path (fun w => onL gPopAt w [eD tI i]) κ) (X.bind (X.ofO (popO xs i)) pk2) := by
  have wi : wInt (eD tI i) = some i := rfl
  unfold inK
  rw [hg]
  by_cases h : -100000 ≤ i ∧ i ≤ 100000
  · simp only [opK, onL, eO, gPopAt, wi, Option.bind_some, popO, ixO, List.length_map, if_pos h]
    rcases L2.ixN xs.length i with _ | j
    · exact J.non _
    · simp only [Option.bind_some, List.getElem?_map]
      rcases xs[j]? with _ | x
      · exact J.non _
      · have := hs (xs.eraseIdx j)
        have e1 : (xs.map el).eraseIdx j = (xs.eraseIdx j).map el := by
          simp [List.eraseIdx_eq_take_drop_succ, List.map_append, List.map_take, List.map_drop]
        simp only [eO, ← e1] at this
        simp only [Option.map_some, this]
        exact k (xs.eraseIdx j, x)
  · simp only [popO, if_neg h]
    exact J.non _
theorem i_pop (hg : getE e path = some (eO el xs)) (hs : ∀ ys, setE e path (eO el ys) = some (ev ys)) (k : ∀ r : List α × α, J.rel (κ (el r.2) (ev r.1)) (pk2 r)) :
    J.rel (inK e path (fun w => onL gPop w []) κ) (X.bind (X.ofO (popL xs)) pk2) := by
  unfold inK
  rw [hg]
  simp only [opK, onL, eO, gPop, popL, List.length_map, List.getElem?_map]
  rcases xs[xs.length - 1]? with _ | x
  · exact J.non _
  · have := hs xs.dropLast
    simp only [eO, List.map_dropLast] at this
    simp only [Option.map_some, this]
    exact k (xs.dropLast, x)
end
/-! an item of a name's list, the index behind other changes -/
def ixK (e : Env) (path : Path) (i : W) (κ : W → Env → Option (Res β × Env)) : Option (Res β × Env) := opK (getE e path) e fun w e => opK (gIx (w, i)) e fun r e => opK (wSh r) e fun r e => opK (setE e path w) e fun e' _ => κ r e'
theorem x_ixI {κ : W → Env → Option (Res β × Env)} {ml : ME Path} {mb : ME W} {path : Path} {e1 : Env} {p : X τ} (hl : ml env = some (.ok path, e1)) (h : J.rel (aft (mb e1) fun i e => ixK e path i κ) p) : J.rel (aft (mIxI ml mb env) κ) p := by
  refine x_in hl ?_
  simp only [bind_aft, aft_aft, op_aft]
  have : (fun (i : W) (e : Env) => opK (gOne i) e fun ws e => inK e path (fun w => gIxI w ws) κ) = fun i e => match i with
      | .sh _ => opK (getE e path) e fun w e => opK (gIx (w, i)) e fun r e => opK (wSh r) e fun r e => opK (setE e path w) e fun e' _ => κ r e'
      | _ => none := by
    funext i e
    cases i with
    | sh d =>
      simp only [gOne, opK, inK]
      rcases getE e path with _ | w
      · rfl
      · simp only [gIxI]
        rcases gIx (w, W.sh d) with _ | r
        · rfl
        · cases r <;> rfl
    | ol _ => rfl
    | ot _ => rfl
    | ob _ _ _ => rfl
    | dk _ _ => rfl
    | dt _ _ => rfl
  rw [this]
  have e3 : (fun (i : W) (e : Env) => match i with
      | .sh _ => opK (getE e path) e fun w e => opK (gIx (w, i)) e fun r e => opK (wSh r) e fun r e => opK (setE e path w) e fun e' _ => κ r e'
      | _ => none) = fun i e => opK (getE e path) e fun w e => opK (gIx (w, i)) e fun r e => opK (wSh r) e fun r e => opK (setE e path w) e fun e' _ => κ r e' := by
    funext i e
    have nn : ∀ (w i : W), wInt i = none → gIx (w, i) = none := fun w i h => by unfold gIx; simp only [h]
    cases i with
    | sh d => rfl
    | ol _ => simp only [opK]; rcases getE e path with _ | w; rfl; simp only [nn _ (W.ol _) rfl]
    | ot _ => simp only [opK]; rcases getE e path with _ | w; rfl; simp only [nn _ (W.ot _) rfl]
    | ob _ _ _ => simp only [opK]; rcases getE e path with _ | w; rfl; simp only [nn _ (W.ob _ _ _) rfl]
    | dk _ _ => simp only [opK]; rcases getE e path with _ | w; rfl; simp only [nn _ (W.dk _ _) rfl]
    | dt _ _ => simp only [opK]; rcases getE e path with _ | w; rfl; simp only [nn _ (W.dt _ _) rfl]
  rw [e3]
  exact h
theorem k_ixO {κ : W → Env → Option (Res β × Env)} {path : Path} {t : α → D} {xs : List α} {i : Int} {ev : List α → Env} {pk : α → X τ} (hg : getE e path = some (eO (eD t) xs)) (hs : ∀ ys, setE e path (eO (eD t) ys) = some (ev ys)) (k : ∀ x, J.rel (κ (eD t x) (ev xs)) (pk x)) :
    J.rel (ixK e path (eD tI i) κ) (X.bind (X.ofO (at_ xs i)) pk) := by
  simp only [ixK, hg, opK, ix_ol]
  rcases at_ xs i with _ | x
  · exact J.non _
  · simp only [Option.map_some, hs xs]
    exact k x
theorem k_ixS {κ : W → Env → Option (Res β × Env)} {path : Path} {t : α → D} {xs : List α} {i : Int} {ev : List α → Env} {pk : α → X τ} (hg : getE e path = some (eD (tL t) xs)) (hs : ∀ ys, setE e path (eD (tL t) ys) = some (ev ys)) (k : ∀ x, J.rel (κ (eD t x) (ev xs)) (pk x)) :
    J.rel (ixK e path (eD tI i) κ) (X.bind (X.ofO (at_ xs i)) pk) := by
  simp only [ixK, hg, opK, ix_sh]
  rcases at_ xs i with _ | x
  · exact J.non _
  · simp only [Option.map_some, hs xs]
    exact k x
/-! ### arguments -/
section
variable {κ : List AW → Env → Option (Res β × Env)} {p : X τ} {m : ME W} {r : ME (List AW)} {ml : ME Path} {pa : Path} {e' : Env}
theorem xa_nil (h : J.rel (κ [] env) p) : J.rel (aft (wNil env) κ) p := h
theorem xa_own (h : J.rel (aft (m env) fun w e => aft (r e) fun as e => κ (.own w :: as) e) p) : J.rel (aft (wOwn m r env) κ) p := by
  simp only [wOwn, bind_aft, aft_aft, pure_aft]
  exact h
theorem xa_bor (hl : ml env = some (.ok pa, e')) (h : J.rel (aft (r e') fun as e => κ (.bor pa :: as) e) p) : J.rel (aft (wBor ml r env) κ) p := by
  simp only [wBor, wLoc, hl, bind_aft, aft_aft, pure_aft]
  exact h
theorem xa_io (hl : ml env = some (.ok pa, e')) (h : J.rel (aft (r e') fun as e => κ (.io pa :: as) e) p) : J.rel (aft (wIo ml r env) κ) p := by
  simp only [wIo, wLoc, hl, bind_aft, aft_aft, pure_aft]
  exact h
end
theorem aw_nil {o : Option W} : argWs e o [] = some [] := rfl
theorem aw_own {o : Option W} {w : W} {as : List AW} {ws : List W} (h : argWs e o as = some ws) : argWs e o (.own w :: as) = some (w :: ws) := by simp [argWs, h]
theorem aw_bor {o : Option W} {pa : Path} {en : α → W} {t : α → D} {a : α} {as : List AW} {ws : List W} (f : Fz en t) (hg : getE e pa = some (en a)) (h : argWs e o as = some ws) : argWs e o (.bor pa :: as) = some (eD t a :: ws) := by
  simp [argWs, h, hg, f a, eD]
theorem aw_io {w : W} {pa : Path} {as : List AW} {ws : List W} (h : argWs e (some w) as = some ws) : argWs e (some w) (.io pa :: as) = some (w :: ws) := by simp [argWs, h]
/-! ### calls -/
section
variable {κ : W → Env → Option (Res β × Env)} {mf : MF} {ma : ME (List AW)} {as : List AW} {ws : List W} {pf : X ρ} {pk : ρ → X τ} {er : ρ → W} {eo : ρ → List (Option W)} {Xo : List (Option W) → Prop} {p : X τ}
theorem x_K0 (h : J.rel (aft (ma env) fun as e => aft (callK0 mf as e) κ) p) : J.rel (aft (mK0 mf ma env) κ) p := by
  simp only [mK0, bind_aft, aft_aft]
  exact h
theorem k_call0 (ha : argWs e none as = some ws) (ht : TF (mf ws) pf er eo Xo) (hio : ioOf as = none) (hb : hasBor as = false) (hx : J.Ex e) (k : ∀ a, J.rel (κ (er a) e) (pk a)) : J.rel (aft (callK0 mf as e) κ) (X.bind pf pk) := by
  unfold callK0
  simp only [hio, ha]
  rcases pf with _ | ⟨a | x⟩
  · exact J.non _
  · rw [show mf ws = _ from ht.h]
    simp only [hb, Bool.false_and]
    exact k a
  · obtain ⟨outs, ht, _⟩ := ht.h
    rw [ht]
    simp only [hb, Bool.false_and]
    exact J.ex x e hx
theorem k_call0b (ha : argWs e none as = some ws) (ht : TF (mf ws) pf er eo Xo) (hio : ioOf as = none) (hc : ∀ a, (er a).closed = true) (hx : J.Ex e) (k : ∀ a, J.rel (κ (er a) e) (pk a)) : J.rel (aft (callK0 mf as e) κ) (X.bind pf pk) := by
  unfold callK0
  simp only [hio, ha]
  rcases pf with _ | ⟨a | x⟩
  · exact J.non _
  · rw [show mf ws = _ from ht.h]
    simp only [resClosed, hc a, Bool.not_true, Bool.and_false]
    exact k a
  · obtain ⟨outs, ht, _⟩ := ht.h
    rw [ht]
    simp only [resClosed, Bool.not_true, Bool.and_false]
    exact J.ex x e hx
/-- a call with one in-out argument -/
def cK1 (mf : MF) (as : List AW) (e : Env) : Option (Res W × Env) := (match ioOf as with | none => ME.stuck | some (i, pa) => if ioCount as = 1 then callK1 mf as i pa else ME.stuck) e
theorem x_K1 (h : J.rel (aft (ma env) fun as e => aft (cK1 mf as e) κ) p) : J.rel (aft (mK1 mf ma env) κ) p := by
  simp only [mK1, bind_aft, aft_aft]
  exact h
theorem k_call1 {i : Nat} {pa : Path} {w : W} {w' : ρ → W} {ev : ρ → Env} (hio : ioOf as = some (i, pa)) (hn : ioCount as = 1) (hg : getE e pa = some w) (ha : argWs (e.set pa.1 none) (some w) as = some ws) (ht : TF (mf ws) pf er eo Xo) (hb : hasBor as = false)
    (ho : ∀ a, (eo a)[i]? = some (some (w' a))) (hs : ∀ a, setE e pa (w' a) = some (ev a)) (hx : ∀ outs, Xo outs → ∃ v e', outs[i]? = some (some v) ∧ setE e pa v = some e' ∧ J.Ex e') (k : ∀ a, J.rel (κ (er a) (ev a)) (pk a)) :
    J.rel (aft (cK1 mf as e) κ) (X.bind pf pk) := by
  unfold cK1
  simp only [hio, if_pos hn]
  unfold callK1
  simp only [hg, ha]
  rcases pf with _ | ⟨a | x⟩
  · exact J.non _
  · rw [show mf ws = _ from ht.h]
    simp only [hb, Bool.false_and, ho a, hs a]
    exact k a
  · obtain ⟨outs, ht, hX⟩ := ht.h
    obtain ⟨v, e', h1, h2, h3⟩ := hx outs hX
    rw [ht]
    simp only [hb, Bool.false_and, h1, h2]
    exact J.ex x e' h3
end
/-! what holds no list that others know -/
theorem cl_I (i : Int) : (eD tI i).closed = true := rfl
theorem cl_B (i : Bool) : (eD tB i).closed = true := rfl
theorem cl_S (i : Str) : (eD tS i).closed = true := rfl
theorem cl_N (i : Unit) : (eD tN i).closed = true := rfl
theorem cls_map {el : α → W} (h : ∀ a, (el a).closed = true) : ∀ xs : List α, W.closeds (xs.map el) = true
  | [] => rfl
  | x :: xs => by simp [W.closeds, h x, cls_map h xs]
theorem cl_ol {el : α → W} (h : ∀ a, (el a).closed = true) (xs : List α) : (eO el xs).closed = true := by simp [eO, W.closed, cls_map h]
theorem cl_o2 {a : α → W} {b : β → W} (h : ∀ x, (a x).closed = true) (k : ∀ x, (b x).closed = true) (p : α × β) : (o2 a b p).closed = true := by simp [o2, W.closed, W.closeds, h, k]
theorem cl_o3 {a : α → W} {b : β → W} {c : γ → W} (h : ∀ x, (a x).closed = true) (k : ∀ x, (b x).closed = true) (l : ∀ x, (c x).closed = true) (p : α × β × γ) : (o3 a b c p).closed = true := by simp [o3, W.closed, W.closeds, h, k, l]
/-- a refusal counts as nothing said -/
def X.nx (p : X ρ) : X ρ := match p with
  | some (.ok a) => X.ok a
  | _ => none
@[simp] theorem nx_ok {a : ρ} : X.nx (X.ok a) = X.ok a := Eq.trans rfl rfl
theorem tf_nx {r : Option (Res W × List (Option W))} {p : X ρ} {er : ρ → W} {eo : ρ → List (Option W)} {Xo : List (Option W) → Prop} (h : TF r p er eo Xo) : TF r (X.nx p) er eo fun _ => False := by
  rcases p with _ | ⟨a | x⟩
  · exact ⟨trivial⟩
  · exact ⟨h.h⟩
  · exact ⟨trivial⟩
theorem k_call0n {κ : W → Env → Option (Res β × Env)} {mf : MF} {as : List AW} {ws : List W} {pf : X ρ} {pk : ρ → X τ} {er : ρ → W} {eo : ρ → List (Option W)} {Xo : List (Option W) → Prop} (ha : argWs e none as = some ws) (ht : TF (mf ws) pf er eo Xo) (hio : ioOf as = none) (hb : hasBor as = false) (k : ∀ a, J.rel (κ (er a) e) (pk a)) : J.rel (aft (callK0 mf as e) κ) (X.bind (X.nx pf) pk) := by
  unfold callK0
  simp only [hio, ha]
  rcases pf with _ | ⟨a | x⟩
  · exact J.non _
  · rw [show mf ws = _ from ht.h]
    simp only [hb, Bool.false_and]
    exact k a
  · exact J.non _
theorem k_call0bn {κ : W → Env → Option (Res β × Env)} {mf : MF} {as : List AW} {ws : List W} {pf : X ρ} {pk : ρ → X τ} {er : ρ → W} {eo : ρ → List (Option W)} {Xo : List (Option W) → Prop} (ha : argWs e none as = some ws) (ht : TF (mf ws) pf er eo Xo) (hio : ioOf as = none) (hc : ∀ a, (er a).closed = true) (k : ∀ a, J.rel (κ (er a) e) (pk a)) : J.rel (aft (callK0 mf as e) κ) (X.bind (X.nx pf) pk) := by
  unfold callK0
  simp only [hio, ha]
  rcases pf with _ | ⟨a | x⟩
  · exact J.non _
  · rw [show mf ws = _ from ht.h]
    simp only [resClosed, hc a, Bool.not_true, Bool.and_false]
    exact k a
  · exact J.non _
theorem k_call1n {κ : W → Env → Option (Res β × Env)} {mf : MF} {as : List AW} {ws : List W} {pf : X ρ} {pk : ρ → X τ} {er : ρ → W} {eo : ρ → List (Option W)} {Xo : List (Option W) → Prop} {i : Nat} {pa : Path} {w : W} {w' : ρ → W} {ev : ρ → Env} (hio : ioOf as = some (i, pa)) (hn : ioCount as = 1) (hg : getE e pa = some w) (ha : argWs (e.set pa.1 none) (some w) as = some ws) (ht : TF (mf ws) pf er eo Xo) (hb : hasBor as = false)
    (ho : ∀ a, (eo a)[i]? = some (some (w' a))) (hs : ∀ a, setE e pa (w' a) = some (ev a)) (k : ∀ a, J.rel (κ (er a) (ev a)) (pk a)) :
    J.rel (aft (cK1 mf as e) κ) (X.bind (X.nx pf) pk) := by
  unfold cK1
  simp only [hio, if_pos hn]
  unfold callK1
  simp only [hg, ha]
  rcases pf with _ | ⟨a | x⟩
  · exact J.non _
  · rw [show mf ws = _ from ht.h]
    simp only [hb, Bool.false_and, ho a, hs a]
    exact k a
  · exact J.non _
/-! ### comprehensions -/
def lcO (f : α → β) (xs : List α) : Option (List β) := if xs.length ≤ 100000 then some (xs.map f) else none
theorem lcO_ok {f : α → β} {xs : List α} (h : xs.length ≤ 100000) : lcO f xs = some (xs.map f) := if_pos h
def lcFO (c : α → Bool) (f : α → β) (xs : List α) : Option (List β) := if xs.length ≤ 100000 then some ((xs.filter c).map f) else none
theorem lcFO_ok {c : α → Bool} {f : α → β} {xs : List α} (h : xs.length ≤ 100000) : lcFO c f xs = some ((xs.filter c).map f) := if_pos h
/-- parts that are blocks of their own; a test that is one -/
def X.lcG (c : α → X Bool) (f : α → X β) : List α → X (List β)
  | [] => X.ok []
  | x :: xs => X.bind (c x) fun t => if t = true then (X.bind (f x) fun y => X.bind (X.lcG c f xs) fun ys => X.ok (y :: ys)) else X.lcG c f xs
def X.lcX (c : α → X Bool) (f : α → X β) (xs : List α) : X (List β) := if xs.length ≤ 100000 then X.lcG c f xs else X.bad
def X.lcM (f : α → X β) : List α → X (List β)
  | [] => X.ok []
  | x :: xs => X.bind (f x) fun y => X.bind (X.lcM f xs) fun ys => X.ok (y :: ys)
theorem lcG_true (f : α → X β) : ∀ xs, X.lcG (fun _ => X.ok true) f xs = X.lcM f xs
  | [] => rfl
  | x :: xs => by simp [X.lcG, X.lcM, lcG_true f xs]
theorem lcX_M {f : α → X β} {xs : List α} (h : xs.length ≤ 100000) : X.lcX (fun _ => X.ok true) f xs = X.lcM f xs := by rw [X.lcX, if_pos h, lcG_true]
section
variable {κ : W → Env → Option (Res β × Env)} {it : ME (List D)} {g : MG} {c : ME Bool} {el : ME W} {vs : List Nat} {p : X τ}
def clK (o : Option (List W)) (e : Env) (κ : W → Env → Option (Res β × Env)) : Option (Res β × Env) := opK o e fun ws e1 => κ (.ol ws) e1
theorem x_cp (h : J.rel (aft (it env) fun ds e1 => clK (mCLP g c el (wipeE e1 vs) ds []) e1 κ) p) : J.rel (aft (mCompP it g c el vs env) κ) p := by
  have : aft (mCompP it g c el vs env) κ = aft (it env) fun ds e1 => clK (mCLP g c el (wipeE e1 vs) ds []) e1 κ := by
    unfold mCompP clK
    rcases it env with _ | ⟨ds | x, e1⟩
    · rfl
    · simp only [aft]
      rcases mCLP g c el (wipeE e1 vs) ds [] with _ | ws <;> rfl
    · rfl
  rw [this]
  exact h
variable {dd : α → D} {en : γ → W} {ds : List D} {xs : List α}
/-- elements and tests without partial steps -/
theorem k_cp {f : α → γ} {ev : α → Env} {pk : List γ → X τ} (hd : ds = xs.map dd) (hg : ∀ x, g (.sh (dd x)) (wipeE e vs) = some (.ok (), ev x)) (he : ∀ x, el (ev x) = some (.ok (en (f x)), ev x)) (k : ∀ ys, J.rel (κ (eO en ys) e) (pk ys)) :
    J.rel (clK (mCLP g (ME.pure true) el (wipeE e vs) ds []) e κ) (X.bind (X.ofO (lcO f xs)) pk) := by
  subst hd
  unfold lcO
  split
  · rename_i hl
    have key : ∀ (xs : List α) (acc : List W), acc.length + xs.length ≤ 100000 → mCLP g (ME.pure true) el (wipeE e vs) (xs.map dd) acc = some (acc ++ xs.map (en ∘ f)) := by
      intro xs
      induction xs with
      | nil => intro acc _; simp [mCLP]
      | cons x xs ih =>
        intro acc h
        simp only [List.length_cons] at h
        simp only [List.map_cons, mCLP, hg x, ME.pure, he x, if_pos (show acc.length < 100000 by omega)]
        rw [ih _ (by simp; omega)]
        simp
    rw [key xs [] (by simpa using hl)]
    have := k (xs.map f)
    simp only [eO, List.map_map] at this
    simpa [clK, opK] using this
  · exact J.non _
theorem k_cpF {c : ME Bool} {ct : α → Bool} {f : α → γ} {ev : α → Env} {pk : List γ → X τ} (hd : ds = xs.map dd) (hg : ∀ x, g (.sh (dd x)) (wipeE e vs) = some (.ok (), ev x)) (hc : ∀ x, c (ev x) = some (.ok (ct x), ev x)) (he : ∀ x, el (ev x) = some (.ok (en (f x)), ev x)) (k : ∀ ys, J.rel (κ (eO en ys) e) (pk ys)) :
    J.rel (clK (mCLP g c el (wipeE e vs) ds []) e κ) (X.bind (X.ofO (lcFO ct f xs)) pk) := by
  subst hd
  unfold lcFO
  split
  · rename_i hl
    have key : ∀ (xs : List α) (acc : List W), acc.length + xs.length ≤ 100000 → mCLP g c el (wipeE e vs) (xs.map dd) acc = some (acc ++ (xs.filter ct).map (en ∘ f)) := by
      intro xs
      induction xs with
      | nil => intro acc _; simp [mCLP]
      | cons x xs ih =>
        intro acc h
        simp only [List.length_cons] at h
        cases ht : ct x with
        | false =>
          simp only [List.map_cons, mCLP, hg x, hc x, ht]
          rw [ih _ (by omega)]
          simp [ht]
        | true =>
          simp only [List.map_cons, mCLP, hg x, hc x, ht, he x, if_pos (show acc.length < 100000 by omega)]
          rw [ih _ (by simp; omega)]
          simp [ht]
    rw [key xs [] (by simpa using hl)]
    have := k ((xs.filter ct).map f)
    simp only [eO, List.map_map] at this
    simpa [clK, opK] using this
  · exact J.non _
/-- with parts that are blocks of their own -/
theorem k_cpX {c : ME Bool} {pc : α → X Bool} {pf : α → X γ} {ev : α → Env} {pk : List γ → X τ} (hd : ds = xs.map dd) (hg : ∀ x, g (.sh (dd x)) (wipeE e vs) = some (.ok (), ev x)) (hc : ∀ x, (jE id (fun (_ : Bool) (_ : Unit) => ev x) (fun _ => False)).rel (c (ev x)) (pc x)) (he : ∀ x, (jE en (fun (_ : γ) (_ : Unit) => ev x) (fun _ => False)).rel (el (ev x)) (pf x)) (k : ∀ ys, J.rel (κ (eO en ys) e) (pk ys)) :
    J.rel (clK (mCLP g c el (wipeE e vs) ds []) e κ) (X.bind (X.lcX pc pf xs) pk) := by
  subst hd
  unfold X.lcX
  split
  · rename_i hl
    have key : ∀ (xs : List α) (acc : List W), acc.length + xs.length ≤ 100000 → match X.lcG pc pf xs with
        | some (.ok ys) => mCLP g c el (wipeE e vs) (xs.map dd) acc = some (acc ++ ys.map en)
        | some (.ex _) => False
        | none => True := by
      intro xs
      induction xs with
      | nil => intro acc _; simp [mCLP, X.lcG, X.ok]
      | cons x xs ih =>
        intro acc h
        simp only [List.length_cons] at h
        have h1 := (hc x).h
        have h2 := (he x).h
        simp only [X.lcG]
        rcases e1 : pc x with _ | ⟨t | z⟩
        · trivial
        · rw [e1] at h1
          obtain ⟨_, h1⟩ := h1
          cases t with
          | false =>
            have := ih acc (by omega)
            simp only [X.bind, Bool.false_eq_true, if_false]
            rcases e3 : X.lcG pc pf xs with _ | ⟨ys | z⟩
            · trivial
            · rw [e3] at this
              simp only [List.map_cons, mCLP, hg x, h1, id]
              exact this
            · rw [e3] at this; exact this
          | true =>
            simp only [X.bind, if_true]
            rcases e2 : pf x with _ | ⟨y | z⟩
            · trivial
            · rw [e2] at h2
              obtain ⟨_, h2⟩ := h2
              have := ih (acc ++ [en y]) (by simp; omega)
              rcases e3 : X.lcG pc pf xs with _ | ⟨ys | z⟩
              · trivial
              · rw [e3] at this
                simp only [List.map_cons, mCLP, hg x, h1, id, h2, if_pos (show acc.length < 100000 by omega), X.ok]
                rw [this]
                simp
              · rw [e3] at this; exact this
            · rw [e2] at h2
              obtain ⟨_, _, h⟩ := h2
              exact h.elim
        · rw [e1] at h1
          obtain ⟨_, _, h⟩ := h1
          exact h.elim
    have := key xs [] (by simpa using hl)
    rcases e3 : X.lcG pc pf xs with _ | ⟨ys | z⟩
    · exact J.non _
    · rw [e3] at this
      simp only [List.nil_append] at this
      rw [this]
      exact k ys
    · rw [e3] at this; exact this.elim
  · exact J.non _
/-- elements that change things -/
def X.lcS (f : α → σ → X (γ × σ)) : List α → σ → X (List γ × σ)
  | [], s => X.ok ([], s)
  | x :: xs, s => X.bind (f x s) fun y => X.bind (X.lcS f xs y.2) fun ys => X.ok (y.1 :: ys.1, ys.2)
def X.lcSX (f : α → σ → X (γ × σ)) (xs : List α) (s : σ) : X (List γ × σ) := if xs.length ≤ 100000 then X.lcS f xs s else X.bad
theorem x_cs (h : J.rel (aft (it env) fun ds e1 => aft ((match mCL g c el vs ds [] (wipeE e1 vs) with | some (.ok ws, e2) => some (.ok (.ol ws), e2) | _ => none)) κ) p) : J.rel (aft (mComp it g c el vs env) κ) p := by
  have : aft (mComp it g c el vs env) κ = aft (it env) fun ds e1 => aft ((match mCL g c el vs ds [] (wipeE e1 vs) with | some (.ok ws, e2) => some (.ok (.ol ws), e2) | _ => none)) κ := by
    unfold mComp
    rcases it env with _ | ⟨ds | x, e1⟩ <;> rfl
  rw [this]
  exact h
theorem k_cs {Oo Op : Type} {pf : α → σ → X (γ × σ)} {pk : List γ × σ → X τ} (mk : σ → Oo → Env) (mk2 : σ → Op → Env) (ev : α → σ → Oo → Env) (s0 : σ) (os0 : Oo) (hd : ds = xs.map dd) (h0 : wipeE e vs = mk s0 os0) (hg : ∀ x s os, g (.sh (dd x)) (mk s os) = some (.ok (), ev x s os)) (hw : ∀ s os, ∃ os', wipeE (mk2 s os) vs = mk s os')
    (he : ∀ x s os, (jE (fun r : γ × σ => en r.1) (fun r (o : Op) => mk2 r.2 o) (fun _ => False)).rel (el (ev x s os)) (pf x s)) (k : ∀ (r : List γ × σ) os, J.rel (κ (eO en r.1) (mk r.2 os)) (pk r)) :
    J.rel (aft ((match mCL g (ME.pure true) el vs ds [] (wipeE e vs) with | some (.ok ws, e2) => some (.ok (.ol ws), e2) | _ => none)) κ) (X.bind (X.lcSX pf xs s0) pk) := by
  subst hd
  rw [h0]
  by_cases hl : xs.length ≤ 100000
  · rw [X.lcSX, if_pos hl]
    have key : ∀ (xs : List α) (acc : List W) (s : σ) (os : Oo), acc.length + xs.length ≤ 100000 → match X.lcS pf xs s with
        | some (.ok r) => ∃ os', mCL g (ME.pure true) el vs (xs.map dd) acc (mk s os) = some (.ok (acc ++ r.1.map en), mk r.2 os')
        | some (.ex _) => False
        | none => True := by
      intro xs
      induction xs with
      | nil => intro acc s os _; exact ⟨os, by simp [mCL, ME.pure]⟩
      | cons x xs ih =>
        intro acc s os h
        simp only [List.length_cons] at h
        have h2 := (he x s os).h
        simp only [X.lcS]
        rcases e2 : pf x s with _ | ⟨y | z⟩
        · trivial
        · rw [e2] at h2
          obtain ⟨o2, h2⟩ := h2
          obtain ⟨os', hw'⟩ := hw y.2 o2
          have := ih (acc ++ [en y.1]) y.2 os' (by simp; omega)
          simp only [X.bind]
          rcases e3 : X.lcS pf xs y.2 with _ | ⟨ys | z⟩
          · trivial
          · rw [e3] at this
            obtain ⟨o3, this⟩ := this
            refine ⟨o3, ?_⟩
            simp only [List.map_cons, mCL, hg x s os, ME.pure, h2, if_pos (show acc.length < 100000 by omega)]
            rw [hw']
            refine Eq.trans this ?_
            simp
          · rw [e3] at this; exact this
        · rw [e2] at h2
          obtain ⟨_, _, h⟩ := h2
          exact h.elim
    have := key xs [] s0 os0 (by simpa using hl)
    rcases e3 : X.lcS pf xs s0 with _ | ⟨r | z⟩
    · exact J.non _
    · rw [e3] at this
      obtain ⟨o3, this⟩ := this
      simp only [List.nil_append] at this
      rw [this]
      exact k r o3
    · rw [e3] at this; exact this.elim
  · rw [X.lcSX, if_neg hl]
    exact J.non _
end
/-! ### a def -/
/-- how a def's body has to end; how it has to be where it refuses -/
def gF (N n : Nat) (nio : List Nat) (er : ρ → W) (eo : ρ → List (Option W)) : ρ → W → Env → Prop := fun a w e => w = er a ∧ e.length = N ∧ (wipeE e nio).take n = eo a
def xF (N n : Nat) (nio : List Nat) (Xo : List (Option W) → Prop) : Env → Prop := fun e => e.length = N ∧ Xo ((wipeE e nio).take n)
theorem tf_fn {n N : Nat} {nio : List Nat} {body : MS} {ws : List W} {p : X ρ} {er : ρ → W} {eo : ρ → List (Option W)} {Xo : List (Option W) → Prop} (hl : ws.length = n) (h : (jF (gF N n nio er eo) (xF N n nio Xo)).rel (body (ws.map some ++ List.replicate (N - n) none)) p) : TF (fnM n N nio body ws) p er eo Xo := by
  unfold fnM
  rw [if_pos hl]
  rcases p with _ | ⟨a | x⟩
  · exact ⟨trivial⟩
  · obtain ⟨w, e, h, rfl, h2, h3⟩ := h.h
    rcases h with h | ⟨h, h4⟩
    · rw [h]
      simp only [if_pos h2, h3]
      exact ⟨rfl⟩
    · rw [h]
      simp only [if_pos h2, h3, ← h4]
      exact ⟨rfl⟩
  · obtain ⟨e, h, h2, h3⟩ := h.h
    rw [h]
    simp only [if_pos h2]
    exact ⟨⟨_, rfl, h3⟩⟩
def xAny : List (Option W) → Prop := fun _ => True
def xIo (i : Nat) : List (Option W) → Prop := fun o => ∃ w, o[i]? = some (some w)
end
end TY

set_option Elab.async false
set_option linter.all false
set_option maxRecDepth 100000
/-! Typed layer, part 4: laws of typed loops. -/
namespace TY
open PySem AM
section
variable {α β γ σ ρ : Type}
theorem forP_at {b : α → σ → X σ} (I : Nat → σ → Prop) : ∀ {xs : List α} {k : Nat} {s : σ}, I k s → (∀ i x s, xs[i]? = some x → I (k + i) s → ∃ s', b x s = X.ok s' ∧ I (k + i + 1) s') → ∃ s', X.forP b xs s = X.ok s' ∧ I (k + xs.length) s'
  | [], k, s, h, _ => ⟨s, rfl, h⟩
  | x :: xs, k, s, h, st => by
    obtain ⟨s1, h1, h2⟩ := st 0 x s rfl h
    obtain ⟨s2, h3, h4⟩ := forP_at I (xs := xs) (k := k + 1) (s := s1) h2 fun i y s hy hi => by
      have := st (i + 1) y s (by simpa using hy) (by rwa [show k + (i + 1) = k + 1 + i by omega])
      rwa [show k + (i + 1) + 1 = k + 1 + i + 1 by omega] at this
    refine ⟨s2, ?_, by rw [show k + (x :: xs).length = k + 1 + xs.length by simp; omega]; exact h4⟩
    simp only [X.forP, h1, bind_ok, h3]
/-- a loop by its invariant -/
theorem forP_ok {b : α → σ → X σ} {xs : List α} {s : σ} (I : Nat → σ → Prop) (h : I 0 s) (st : ∀ i x s, xs[i]? = some x → I i s → ∃ s', b x s = X.ok s' ∧ I (i + 1) s') : ∃ s', X.forP b xs s = X.ok s' ∧ I xs.length s' := by
  have := forP_at I (xs := xs) (k := 0) h fun i d env hd hi => by
    rw [Nat.zero_add] at hi ⊢
    exact st i d env hd hi
  rwa [Nat.zero_add] at this
/-- a loop whose turns are functions, where an invariant holds -/
theorem forP_fold {b : α → σ → X σ} {f : σ → α → σ} (I : σ → Prop) : ∀ {xs : List α} {s : σ}, I s → (∀ x s, x ∈ xs → I s → b x s = X.ok (f s x) ∧ I (f s x)) → X.forP b xs s = X.ok (xs.foldl f s) ∧ I (xs.foldl f s)
  | [], s, h, _ => ⟨rfl, h⟩
  | x :: xs, s, h, st => by
    obtain ⟨h1, h2⟩ := st x s (by simp) h
    simp only [X.forP, h1, bind_ok, List.foldl_cons]
    exact forP_fold I h2 fun y s hy hi => st y s (by simp [hy]) hi
theorem forL_at {b : α → σ → X (Out σ σ ρ)} (I : Nat → σ → Prop) : ∀ {xs : List α} {k : Nat} {s : σ}, I k s → (∀ i x s, xs[i]? = some x → I (k + i) s → ∃ s', (b x s = X.ok (.go s') ∨ b x s = X.ok (.ct s')) ∧ I (k + i + 1) s') → ∃ s', X.forL b xs s = X.ok (.go s') ∧ I (k + xs.length) s'
  | [], k, s, h, _ => ⟨s, rfl, h⟩
  | x :: xs, k, s, h, st => by
    obtain ⟨s1, h1, h2⟩ := st 0 x s rfl h
    obtain ⟨s2, h3, h4⟩ := forL_at I (xs := xs) (k := k + 1) (s := s1) h2 fun i y s hy hi => by
      have := st (i + 1) y s (by simpa using hy) (by rwa [show k + (i + 1) = k + 1 + i by omega])
      rwa [show k + (i + 1) + 1 = k + 1 + i + 1 by omega] at this
    refine ⟨s2, ?_, by rw [show k + (x :: xs).length = k + 1 + xs.length by simp; omega]; exact h4⟩
    rcases h1 with h1 | h1 <;> simp only [X.forL, h1, bind_ok, h3]
/-- a loop with exits that takes none of them -/
theorem forL_ok {b : α → σ → X (Out σ σ ρ)} {xs : List α} {s : σ} (I : Nat → σ → Prop) (h : I 0 s) (st : ∀ i x s, xs[i]? = some x → I i s → ∃ s', (b x s = X.ok (.go s') ∨ b x s = X.ok (.ct s')) ∧ I (i + 1) s') : ∃ s', X.forL b xs s = X.ok (.go s') ∧ I xs.length s' := by
  have := forL_at I (xs := xs) (k := 0) h fun i d env hd hi => by
    rw [Nat.zero_add] at hi ⊢
    exact st i d env hd hi
  rwa [Nat.zero_add] at this
/-- nothing is kept from turn to turn -/
theorem forL_u {b : α → Unit → X (Out Unit Unit ρ)} {xs : List α} (st : ∀ x ∈ xs, b x () = X.ok (.go ()) ∨ b x () = X.ok (.ct ())) : X.forL b xs () = X.ok (.go ()) := by
  obtain ⟨⟨⟩, h, _⟩ := forL_ok (b := b) (xs := xs) (s := ()) (fun _ _ => True) trivial fun i x s hx _ => ⟨(), st x (List.mem_of_getElem? hx), trivial⟩
  exact h
theorem lcM_ok {f : α → X β} {g : α → β} : ∀ {xs : List α}, (∀ x ∈ xs, f x = X.ok (g x)) → X.lcM f xs = X.ok (xs.map g)
  | [], _ => rfl
  | x :: xs, h => by
    simp only [X.lcM, h x (by simp), bind_ok, lcM_ok (xs := xs) fun y hy => h y (by simp [hy])]
    rfl
theorem lcX_ok {f : α → X β} {g : α → β} {xs : List α} (hl : xs.length ≤ 100000) (h : ∀ x ∈ xs, f x = X.ok (g x)) : X.lcX (fun _ => X.ok true) f xs = X.ok (xs.map g) := by
  rw [lcX_M hl, lcM_ok h]
theorem lcG_ok {c : α → X Bool} {t : α → Bool} {f : α → X β} {g : α → β} : ∀ {xs : List α}, (∀ x ∈ xs, c x = X.ok (t x)) → (∀ x ∈ xs, t x = true → f x = X.ok (g x)) → X.lcG c f xs = X.ok ((xs.filter t).map g)
  | [], _, _ => rfl
  | x :: xs, h, k => by
    have ih := lcG_ok (xs := xs) (fun y hy => h y (by simp [hy])) fun y hy => k y (by simp [hy])
    simp only [X.lcG, h x (by simp), bind_ok]
    cases ht : t x with
    | false => simp [ht, ih]
    | true => simp [ht, ih, k x (by simp) ht]
theorem lcXF_ok {c : α → X Bool} {t : α → Bool} {f : α → X β} {g : α → β} {xs : List α} (hl : xs.length ≤ 100000) (h : ∀ x ∈ xs, c x = X.ok (t x)) (k : ∀ x ∈ xs, t x = true → f x = X.ok (g x)) : X.lcX c f xs = X.ok ((xs.filter t).map g) := by
  rw [X.lcX, if_pos hl, lcG_ok h k]
theorem lcS_at {f : α → σ → X (γ × σ)} (I : Nat → List γ → σ → Prop) : ∀ {xs : List α} {k : Nat} {acc : List γ} {s : σ}, I k acc s → (∀ i x acc s, xs[i]? = some x → I (k + i) acc s → ∃ y s', f x s = X.ok (y, s') ∧ I (k + i + 1) (acc ++ [y]) s') → ∃ ys s', X.lcS f xs s = X.ok (ys, s') ∧ I (k + xs.length) (acc ++ ys) s'
  | [], k, acc, s, h, _ => ⟨[], s, rfl, by simpa using h⟩
  | x :: xs, k, acc, s, h, st => by
    obtain ⟨y, s1, h1, h2⟩ := st 0 x acc s rfl h
    obtain ⟨ys, s2, h3, h4⟩ := lcS_at I (xs := xs) (k := k + 1) (acc := acc ++ [y]) (s := s1) h2 fun i z acc s hy hi => by
      have := st (i + 1) z acc s (by simpa using hy) (by rwa [show k + (i + 1) = k + 1 + i by omega])
      rwa [show k + (i + 1) + 1 = k + 1 + i + 1 by omega] at this
    refine ⟨y :: ys, s2, ?_, by rw [show k + (x :: xs).length = k + 1 + xs.length by simp; omega]; simpa using h4⟩
    simp only [X.lcS, h1, bind_ok, h3]
/-- a comprehension whose parts change things, by an invariant over what is told so far -/
theorem lcSX_ok {f : α → σ → X (γ × σ)} {xs : List α} {s : σ} (I : Nat → List γ → σ → Prop) (hl : xs.length ≤ 100000) (h : I 0 [] s) (st : ∀ i x acc s, xs[i]? = some x → I i acc s → ∃ y s', f x s = X.ok (y, s') ∧ I (i + 1) (acc ++ [y]) s') : ∃ ys s', X.lcSX f xs s = X.ok (ys, s') ∧ I xs.length ys s' := by
  have := lcS_at I (xs := xs) (k := 0) (acc := []) h fun i d acc env hd hi => by
    rw [Nat.zero_add] at hi ⊢
    exact st i d acc env hd hi
  rw [X.lcSX, if_pos hl]
  rw [Nat.zero_add] at this
  exact this
/-- a while by an invariant with a number that falls to 0 -/
theorem whP_ok {c : σ → X Bool} {b : σ → X σ} (I : Nat → σ → Prop) (n0 : ∀ s, I 0 s → c s = X.ok false) (st : ∀ n s, I (n + 1) s → c s = X.ok true ∧ ∃ s', b s = X.ok s' ∧ I n s') : ∀ {n fu : Nat} {s : σ}, I n s → n < fu → ∃ s', X.whP c b fu s = X.ok s' ∧ I 0 s'
  | 0, fu + 1, s, h, _ => ⟨s, by simp only [X.whP, n0 s h, bind_ok]; rfl, h⟩
  | n + 1, fu + 1, s, h, hl => by
    obtain ⟨h1, s1, h2, h3⟩ := st n s h
    obtain ⟨s2, h4, h5⟩ := whP_ok I n0 st (n := n) (fu := fu) (s := s1) h3 (by omega)
    exact ⟨s2, by simp only [X.whP, h1, h2, bind_ok, if_true, h4], h5⟩
@[simp] theorem bindR_go {s : σ} {k : σ → X ρ} : X.bindR (X.ok (.go s)) k = k s := Eq.trans rfl rfl
@[simp] theorem bindR_rt {r : ρ} {k : σ → X ρ} : X.bindR (X.ok (.rt r)) k = X.ok r := Eq.trans rfl rfl
@[simp] theorem bindO_go {τ lam : Type} {s : σ} {k : σ → X (Out τ lam ρ)} : X.bindO (X.ok (.go s)) k = k s := Eq.trans rfl rfl
@[simp] theorem bindO_rt {τ lam : Type} {r : ρ} {k : σ → X (Out τ lam ρ)} : X.bindO (X.ok (.rt r)) k = X.ok (.rt r) := Eq.trans rfl rfl
@[simp] theorem up_go {lam : Type} {s : σ} : X.up (lam := lam) (ρ := ρ) (X.ok (.go s)) = X.ok (.go s) := Eq.trans rfl rfl
@[simp] theorem up_rt {lam : Type} {r : ρ} : X.up (σ := σ) (lam := lam) (X.ok (.rt r)) = X.ok (.rt r) := Eq.trans rfl rfl
theorem rgT_cons {a : Int} {n : Nat} : rgT a 1 (n + 1) = a :: rgT (a + 1) 1 n := by
  simp only [rgT, List.range_succ_eq_map, List.map_cons, List.map_map]
  congr 1
  · simp
  · refine List.map_congr_left fun k _ => ?_
    simp only [Function.comp, Nat.succ_eq_add_one]
    omega
theorem rgT_mem {a x : Int} {n : Nat} : x ∈ rgT a 1 n ↔ a ≤ x ∧ x < a + n := by
  simp only [rgT, List.mem_map, List.mem_range]
  constructor
  · rintro ⟨k, h, rfl⟩
    omega
  · rintro ⟨h1, h2⟩
    exact ⟨(x - a).toNat, by omega, by omega⟩
theorem rgT_nodup {a : Int} : ∀ {n : Nat}, (rgT a 1 n).Nodup := by
  intro n
  induction n generalizing a with
  | zero => exact List.nodup_nil
  | succ n ih =>
    rw [rgT_cons, List.nodup_cons]
    exact ⟨fun h => by rw [rgT_mem] at h; omega, ih⟩
end
end TY

set_option Elab.async false
set_option linter.all false
set_option maxRecDepth 100000
/-! Typed layer, part 5: lists as functions of a place; sums; lendings. -/
namespace TY
open PySem AM
section
variable {α β γ : Type}
/-- a list by its places -/
def Ls (n : Nat) (f : Nat → α) : List α := (List.range n).map f
@[simp] theorem Ls_len (n : Nat) (f : Nat → α) : (Ls n f).length = n := by simp [Ls]
theorem Ls_get {n i : Nat} {f : Nat → α} (h : i < n) : (Ls n f)[i]? = some (f i) := by simp [Ls, h]
theorem Ls_getE {n i : Nat} {f : Nat → α} (h : i < (Ls n f).length) : (Ls n f)[i] = f i := by simp [Ls]
theorem Ls_congr {n : Nat} {f g : Nat → α} (h : ∀ i, i < n → f i = g i) : Ls n f = Ls n g := List.map_congr_left fun i hi => h i (List.mem_range.mp hi)
theorem Ls_inj {n : Nat} {f g : Nat → α} : Ls n f = Ls n g ↔ ∀ i, i < n → f i = g i := by
  refine ⟨fun h i hi => ?_, Ls_congr⟩
  have := congrArg (fun l => l[i]?) h
  simp only [Ls_get hi, Option.some.injEq] at this
  exact this
theorem Ls_of {n : Nat} {xs : List α} {f : Nat → α} (hl : xs.length = n) (h : ∀ i, i < n → xs[i]? = some (f i)) : xs = Ls n f := by
  refine List.ext_getElem? fun i => ?_
  by_cases hi : i < n
  · rw [h i hi, Ls_get hi]
  · rw [List.getElem?_eq_none (by omega), List.getElem?_eq_none (by simp; omega)]
theorem Ls_set {n i : Nat} {f : Nat → α} {v : α} : (Ls n f).set i v = Ls n fun j => if j = i then v else f j := by
  refine Ls_of (by simp) fun j hj => ?_
  by_cases h : i = j
  · subst h
    simp [hj]
  · have h2 : ¬ j = i := fun e => h e.symm
    simp only [List.getElem?_set, if_neg h, Ls_get hj, if_neg h2]
theorem Ls_map {n : Nat} {f : Nat → α} {g : α → β} : (Ls n f).map g = Ls n fun i => g (f i) := by simp [Ls, List.map_map, Function.comp_def]
theorem Ls_mem {n : Nat} {f : Nat → α} {x : α} : x ∈ Ls n f ↔ ∃ i, i < n ∧ f i = x := by simp [Ls]
theorem Ls_succ {n : Nat} {f : Nat → α} : Ls (n + 1) f = Ls n f ++ [f n] := by simp [Ls, List.range_succ]
theorem Ls_zip {n : Nat} {f : Nat → α} {g : Nat → β} : (Ls n f).zip (Ls n g) = Ls n fun i => (f i, g i) := by
  refine Ls_of (by simp) fun j hj => ?_
  simp [List.getElem?_zip_eq_some, Ls_get hj]
theorem rgT_Ls {a : Int} {n : Nat} : rgT a 1 n = Ls n fun i => a + i := by simp [rgT, Ls]
theorem at_Ls {n : Nat} {f : Nat → α} {i : Int} (h0 : 0 ≤ i) (h : i.toNat < n) : at_ (Ls n f) i = some (f i.toNat) := at_ok h0 (Ls_get h)
theorem ixO_Ls {n : Nat} {f : Nat → α} {i : Int} (h0 : 0 ≤ i) (h : i.toNat < n) : ixO (Ls n f) i = some (i.toNat, f i.toNat) := ixO_ok h0 (Ls_get h)
theorem updO_Ls {n : Nat} {f : Nat → Int} {i : Int} {g : Int → Int} (h0 : 0 ≤ i) (h : i.toNat < n) : updO (Ls n f) i g = some (Ls n fun j => if j = i.toNat then g (f j) else f j) := by
  rw [updO_ok h0 (Ls_get h), Ls_set]
  congr 1
  refine Ls_congr fun j hj => ?_
  split
  · rename_i e; rw [e]
  · rfl
theorem setO_Ls {n : Nat} {f : Nat → α} {i : Int} {v : α} (h0 : 0 ≤ i) (h : i.toNat < n) : setO (Ls n f) i v = some (Ls n fun j => if j = i.toNat then v else f j) := by
  rw [setO_ok h0 (by simp; omega), Ls_set]
theorem lcO_Ls {n : Nat} {f : Nat → α} {g : α → β} (h : n ≤ 100000) : lcO g (Ls n f) = some (Ls n fun i => g (f i)) := by
  rw [lcO_ok (by simpa using h), Ls_map]
/-- the number at a place -/
def fn (xs : List Int) (i : Nat) : Int := xs.getD i 0
theorem Ls_fn {n : Nat} {xs : List Int} (h : xs.length = n) : xs = Ls n (fn xs) := Ls_of h fun i hi => by
  simp [fn, List.getD_eq_getElem?_getD, List.getElem?_eq_getElem (show i < xs.length by omega)]
theorem fn_Ls {n i : Nat} {f : Nat → Int} (h : i < n) : fn (Ls n f) i = f i := by simp [fn, List.getD_eq_getElem?_getD, Ls_get h]
end
/-! ### sums -/
def S : Nat → (Nat → Int) → Int
  | 0, _ => 0
  | n + 1, f => S n f + f n
theorem sum_Ls (n : Nat) (f : Nat → Int) : (Ls n f).sum = S n f := by
  induction n with
  | zero => rfl
  | succ n ih => rw [Ls_succ, List.sum_append, ih]; simp [S]
section
variable {n : Nat} {f g : Nat → Int}
theorem S_congr (h : ∀ i, i < n → f i = g i) : S n f = S n g := by
  induction n with
  | zero => rfl
  | succ n ih => rw [S, S, ih fun i hi => h i (by omega), h n (by omega)]
theorem S_add : S n (fun i => f i + g i) = S n f + S n g := by
  induction n with
  | zero => rfl
  | succ n ih => simp only [S, ih]; omega
theorem S_sub : S n (fun i => f i - g i) = S n f - S n g := by
  induction n with
  | zero => rfl
  | succ n ih => simp only [S, ih]; omega
theorem S_neg : S n (fun i => - f i) = - S n f := by
  induction n with
  | zero => rfl
  | succ n ih => simp only [S, ih]; omega
theorem S_mul {c : Int} : S n (fun i => c * f i) = c * S n f := by
  induction n with
  | zero => simp [S]
  | succ n ih => simp only [S, ih, Int.mul_add]
theorem S_const {c : Int} : S n (fun _ => c) = n * c := by
  induction n with
  | zero => simp [S]
  | succ n ih =>
    simp only [S, ih]
    rw [Int.natCast_add, Int.add_mul]
    simp
theorem S_zero : S n (fun _ => 0) = 0 := by rw [S_const]; simp
theorem S_one {a : Nat} {c : Int} : S n (fun i => if i = a then c else 0) = if a < n then c else 0 := by
  induction n with
  | zero => rfl
  | succ n ih =>
    simp only [S, ih]
    by_cases h : a < n
    · rw [if_pos h, if_neg (by omega), if_pos (by omega)]; omega
    · rw [if_neg h]
      by_cases e : n = a
      · rw [if_pos e, if_pos (by omega)]; omega
      · rw [if_neg e, if_neg (by omega)]; omega
theorem S_oneF {a : Nat} {h : Nat → Int} : S n (fun i => if i = a then h i else 0) = if a < n then h a else 0 := by
  rw [← S_one (n := n) (a := a) (c := h a)]
  refine S_congr fun i _ => ?_
  by_cases e : i = a
  · rw [if_pos e, if_pos e, e]
  · rw [if_neg e, if_neg e]
theorem S_nonneg (h : ∀ i, i < n → 0 ≤ f i) : 0 ≤ S n f := by
  induction n with
  | zero => simp [S]
  | succ n ih =>
    have := ih fun i hi => h i (by omega)
    have := h n (by omega)
    simp only [S]; omega
theorem S_le (h : ∀ i, i < n → f i ≤ g i) : S n f ≤ S n g := by
  induction n with
  | zero => simp [S]
  | succ n ih =>
    have := ih fun i hi => h i (by omega)
    have := h n (by omega)
    simp only [S]; omega
theorem S_term (h : ∀ i, i < n → 0 ≤ f i) {j : Nat} (hj : j < n) : f j ≤ S n f := by
  induction n with
  | zero => omega
  | succ n ih =>
    simp only [S]
    have := S_nonneg (n := n) (f := f) fun i hi => h i (by omega)
    have h2 := h n (by omega)
    by_cases e : j = n
    · subst e; omega
    · have := ih (fun i hi => h i (by omega)) (by omega)
      omega
theorem S_zero_of (h : ∀ i, i < n → 0 ≤ f i) (hs : S n f = 0) : ∀ i, i < n → f i = 0 := fun i hi => by
  have := S_term h hi
  have := h i hi
  omega
end
theorem S_swap {m n : Nat} {f : Nat → Nat → Int} : S n (fun i => S m fun j => f i j) = S m fun j => S n fun i => f i j := by
  induction n with
  | zero => simp [S, S_zero]
  | succ n ih => simp only [S, ih, S_add]
/-- a sum over a list -/
def Sl {α : Type} (xs : List α) (f : α → Int) : Int := (xs.map f).sum
section
variable {α : Type} {xs ys : List α} {f g : α → Int}
@[simp] theorem Sl_nil : Sl ([] : List α) f = 0 := rfl
@[simp] theorem Sl_cons {x : α} : Sl (x :: xs) f = f x + Sl xs f := by simp [Sl]
theorem Sl_app : Sl (xs ++ ys) f = Sl xs f + Sl ys f := by simp [Sl]
theorem Sl_congr (h : ∀ x ∈ xs, f x = g x) : Sl xs f = Sl xs g := by
  unfold Sl
  rw [List.map_congr_left h]
theorem Sl_add : Sl xs (fun x => f x + g x) = Sl xs f + Sl xs g := by
  induction xs with
  | nil => rfl
  | cons x xs ih => simp only [Sl_cons, ih]; omega
theorem Sl_sub : Sl xs (fun x => f x - g x) = Sl xs f - Sl xs g := by
  induction xs with
  | nil => rfl
  | cons x xs ih => simp only [Sl_cons, ih]; omega
theorem Sl_neg : Sl xs (fun x => - f x) = - Sl xs f := by
  induction xs with
  | nil => rfl
  | cons x xs ih => simp only [Sl_cons, ih]; omega
theorem Sl_mul {c : Int} : Sl xs (fun x => c * f x) = c * Sl xs f := by
  induction xs with
  | nil => simp
  | cons x xs ih => simp only [Sl_cons, ih, Int.mul_add]
theorem Sl_const {c : Int} : Sl xs (fun _ => c) = xs.length * c := by
  induction xs with
  | nil => simp
  | cons x xs ih =>
    simp only [Sl_cons, ih, List.length_cons, Int.natCast_add, Int.add_mul]
    omega
theorem Sl_zero (h : ∀ x ∈ xs, f x = 0) : Sl xs f = 0 := by
  rw [Sl_congr h, Sl_const]; simp
theorem Sl_nonneg (h : ∀ x ∈ xs, 0 ≤ f x) : 0 ≤ Sl xs f := by
  induction xs with
  | nil => simp
  | cons x xs ih =>
    have := ih fun y hy => h y (by simp [hy])
    have := h x (by simp)
    simp only [Sl_cons]; omega
theorem Sl_zero_of (h : ∀ x ∈ xs, 0 ≤ f x) (hs : Sl xs f = 0) : ∀ x ∈ xs, f x = 0 := by
  induction xs with
  | nil => simp
  | cons x xs ih =>
    have h1 := Sl_nonneg (xs := xs) (f := f) fun y hy => h y (by simp [hy])
    have h2 := h x (by simp)
    simp only [Sl_cons] at hs
    intro y hy
    rcases List.mem_cons.mp hy with rfl | hy
    · omega
    · exact ih (fun z hz => h z (by simp [hz])) (by omega) y hy
theorem Sl_perm (h : xs.Perm ys) : Sl xs f = Sl ys f := by
  induction h with
  | nil => rfl
  | cons x _ ih => simp only [Sl_cons, ih]
  | swap x y l => simp only [Sl_cons]; omega
  | trans _ _ h1 h2 => rw [h1, h2]
theorem S_Sl {n : Nat} {F : Nat → α → Int} : S n (fun i => Sl xs fun x => F i x) = Sl xs fun x => S n fun i => F i x := by
  induction xs with
  | nil => simp [S_zero]
  | cons x xs ih => simp only [Sl_cons, S_add, ih]
end
/-! ### lendings -/
abbrev Ties := List (Int × Int)
/-- what a place gives along a tie -/
def flow (x : Nat → Int) (i : Nat) (t : Int × Int) : Int := if i = t.1.toNat then x t.1.toNat - x t.2.toNat else if i = t.2.toNat then x t.2.toNat - x t.1.toNat else 0
/-- what a place gives by times -/
def lap (ties : Ties) (x : Nat → Int) (i : Nat) : Int := Sl ties (flow x i)
/-- ties within n places -/
def TiesOk (n : Nat) (ties : Ties) : Prop := ∀ t ∈ ties, 0 ≤ t.1 ∧ t.1 < t.2 ∧ t.2 < n
theorem lap_add {ties : Ties} {x y : Nat → Int} {i : Nat} : lap ties (fun j => x j + y j) i = lap ties x i + lap ties y i := by
  unfold lap
  rw [← Sl_add]
  refine Sl_congr fun t _ => ?_
  simp only [flow]
  split
  · omega
  · split <;> omega
theorem lap_sub {ties : Ties} {x y : Nat → Int} {i : Nat} : lap ties (fun j => x j - y j) i = lap ties x i - lap ties y i := by
  unfold lap
  rw [← Sl_sub]
  refine Sl_congr fun t _ => ?_
  simp only [flow]
  split
  · omega
  · split <;> omega
theorem lap_const {ties : Ties} {c : Int} {i : Nat} : lap ties (fun _ => c) i = 0 := by
  refine Sl_zero fun t _ => ?_
  simp only [flow]
  split
  · omega
  · split <;> omega
theorem lap_shift {ties : Ties} {x : Nat → Int} {c : Int} {i : Nat} : lap ties (fun j => x j + c) i = lap ties x i := by
  rw [lap_add (y := fun _ => c), lap_const]; omega
theorem lap_congr {n : Nat} {ties : Ties} {x y : Nat → Int} (ht : TiesOk n ties) (h : ∀ j, j < n → x j = y j) (i : Nat) : lap ties x i = lap ties y i := by
  refine Sl_congr fun t ht' => ?_
  obtain ⟨h1, h2, h3⟩ := ht t ht'
  unfold flow
  rw [h t.1.toNat (by omega), h t.2.toNat (by omega)]
theorem flow_sum {n : Nat} {w x : Nat → Int} {t : Int × Int} (h1 : 0 ≤ t.1) (h2 : t.1 < t.2) (h3 : t.2 < n) : S n (fun i => w i * flow x i t) = (w t.1.toNat - w t.2.toNat) * (x t.1.toNat - x t.2.toNat) := by
  have : ∀ i, w i * flow x i t = (if i = t.1.toNat then w i * (x t.1.toNat - x t.2.toNat) else 0) + (if i = t.2.toNat then w i * (x t.2.toNat - x t.1.toNat) else 0) := fun i => by
    unfold flow
    by_cases e : i = t.1.toNat
    · have e2 : ¬ i = t.2.toNat := by omega
      simp only [if_pos e, if_neg e2]
      omega
    · by_cases e2 : i = t.2.toNat
      · simp only [if_neg e, if_pos e2]
        omega
      · simp [if_neg e, if_neg e2]
  rw [S_congr fun i _ => this i, S_add, S_oneF (h := fun i => w i * (x t.1.toNat - x t.2.toNat)), S_oneF (h := fun i => w i * (x t.2.toNat - x t.1.toNat)), if_pos (by omega), if_pos (by omega), Int.sub_mul]
  simp only [Int.mul_sub]
  omega
theorem lap_pair {n : Nat} {ties : Ties} (ht : TiesOk n ties) {w x : Nat → Int} : S n (fun i => w i * lap ties x i) = Sl ties fun t => (w t.1.toNat - w t.2.toNat) * (x t.1.toNat - x t.2.toNat) := by
  unfold lap
  have : ∀ i, w i * Sl ties (flow x i) = Sl ties fun t => w i * flow x i t := fun i => Sl_mul.symm
  rw [S_congr fun i _ => this i, S_Sl]
  refine Sl_congr fun t h => ?_
  obtain ⟨h1, h2, h3⟩ := ht t h
  exact flow_sum h1 h2 h3
theorem lap_sum {n : Nat} {ties : Ties} (ht : TiesOk n ties) {x : Nat → Int} : S n (lap ties x) = 0 := by
  have := lap_pair ht (w := fun _ => 1) (x := x)
  simp only [Int.one_mul, Int.sub_self, Int.zero_mul] at this
  rw [show S n (lap ties x) = S n fun i => lap ties x i from rfl, this]
  exact Sl_zero fun _ _ => rfl
/-- a row of ties leads from each place to each other one -/
def Conn (n : Int) (ties : Ties) : Prop := ∀ P : Int → Prop, (∀ t ∈ ties, (P t.1 ↔ P t.2)) → ∀ i j, 0 ≤ i → i < n → 0 ≤ j → j < n → P i → P j
/-- times that lead nowhere are alike at all places -/
theorem lap_zero {n : Nat} {ties : Ties} (ht : TiesOk n ties) (hc : Conn n ties) {x : Nat → Int} (h : ∀ i, i < n → lap ties x i = 0) : ∀ i j, i < n → j < n → x i = x j := by
  have q := lap_pair ht (w := x) (x := x)
  rw [S_congr (g := fun _ => 0) fun i hi => by rw [h i hi]; simp, S_zero] at q
  have z := Sl_zero_of (xs := ties) (f := fun t => (x t.1.toNat - x t.2.toNat) * (x t.1.toNat - x t.2.toNat)) (fun t _ => by
    rcases Int.le_total 0 (x t.1.toNat - x t.2.toNat) with h | h
    · exact Int.mul_nonneg h h
    · exact Int.mul_nonneg_of_nonpos_of_nonpos h h) q.symm
  intro i j hi hj
  refine hc (fun k => x i = x k.toNat) (fun t ht' => ?_) i j (by omega) (by omega) (by omega) (by omega) (by simp)
  have := Int.mul_eq_zero.mp (z t ht')
  have : x t.1.toNat = x t.2.toNat := by omega
  simp only [this]
/-- what two dues have in common where times lead the one to the other: alike up to one number -/
theorem lap_inj {n : Nat} {ties : Ties} (ht : TiesOk n ties) (hc : Conn n ties) {x y : Nat → Int} (h : ∀ i, i < n → lap ties x i = lap ties y i) : ∀ i j, i < n → j < n → x i - y i = x j - y j :=
  lap_zero ht hc (x := fun i => x i - y i) fun i hi => by rw [lap_sub, h i hi]; omega
end TY

set_option Elab.async false
set_option linter.all false
set_option maxRecDepth 100000
/-! Typed layer, part 6: lists of unlike things, taking a pair apart, kinds, tuples as lists. -/
namespace TY
open PySem AM
section
variable {α β γ δ σ τ ρ : Type}
/-! lists of unlike things, at written places -/
def k2 (a : α → D) (b : β → D) : α × β → D := fun p => .lst [a p.1, b p.2]
def k3 (a : α → D) (b : β → D) (c : γ → D) : α × β × γ → D := fun p => .lst [a p.1, b p.2.1, c p.2.2]
def k4 (a : α → D) (b : β → D) (c : γ → D) (d : δ → D) : α × β × γ × δ → D := fun p => .lst [a p.1, b p.2.1, c p.2.2.1, d p.2.2.2]
def l2 (a : α → W) (b : β → W) : α × β → W := fun p => .ol [a p.1, b p.2]
def l3 (a : α → W) (b : β → W) (c : γ → W) : α × β × γ → W := fun p => .ol [a p.1, b p.2.1, c p.2.2]
def l4 (a : α → W) (b : β → W) (c : γ → W) (d : δ → W) : α × β × γ × δ → W := fun p => .ol [a p.1, b p.2.1, c p.2.2.1, d p.2.2.2]
def o4 (a : α → W) (b : β → W) (c : γ → W) (d : δ → W) : α × β × γ × δ → W := fun p => .ot [a p.1, b p.2.1, c p.2.2.1, d p.2.2.2]
theorem fz_l2 {a : α → W} {b : β → W} {c : α → D} {d : β → D} (h : Fz a c) (k : Fz b d) : Fz (l2 a b) (k2 c d) := fun p => by
  simp [l2, W.toD, W.toDs, h p.1, k p.2, k2]
theorem fz_l3 {a : α → W} {b : β → W} {g : γ → W} {c : α → D} {d : β → D} {k : γ → D} (h1 : Fz a c) (h2 : Fz b d) (h3 : Fz g k) : Fz (l3 a b g) (k3 c d k) := fun p => by
  simp [l3, W.toD, W.toDs, h1 p.1, h2 p.2.1, h3 p.2.2, k3]
theorem fz_l4 {a : α → W} {b : β → W} {g : γ → W} {q : δ → W} {c : α → D} {d : β → D} {k : γ → D} {l : δ → D} (h1 : Fz a c) (h2 : Fz b d) (h3 : Fz g k) (h4 : Fz q l) : Fz (l4 a b g q) (k4 c d k l) := fun p => by
  simp [l4, W.toD, W.toDs, h1 p.1, h2 p.2.1, h3 p.2.2.1, h4 p.2.2.2, k4]
theorem fz_o4 {a : α → W} {b : β → W} {g : γ → W} {q : δ → W} {c : α → D} {d : β → D} {k : γ → D} {l : δ → D} (h1 : Fz a c) (h2 : Fz b d) (h3 : Fz g k) (h4 : Fz q l) : Fz (o4 a b g q) (t4 c d k l) := fun p => by
  simp [o4, W.toD, W.toDs, h1 p.1, h2 p.2.1, h3 p.2.2.1, h4 p.2.2.2, t4]
theorem cl_l2 {a : α → W} {b : β → W} (h : ∀ x, (a x).closed = true) (k : ∀ x, (b x).closed = true) (p : α × β) : (l2 a b p).closed = true := by simp [l2, W.closed, W.closeds, h, k]
theorem cl_l3 {a : α → W} {b : β → W} {c : γ → W} (h : ∀ x, (a x).closed = true) (k : ∀ x, (b x).closed = true) (l : ∀ x, (c x).closed = true) (p : α × β × γ) : (l3 a b c p).closed = true := by simp [l3, W.closed, W.closeds, h, k, l]
section
variable {t : α → D} {pd : α → PyData} {k : Nat} {u : β → D} {qd : β → PyData} {l : Nat} {v : γ → D} {rd : γ → PyData} {m : Nat}
theorem pl_k2 (h : Pl t pd k) (g : Pl u qd l) : Pl (k2 t u) (fun p => .list [pd p.1, qd p.2]) (max k l + 1) := ⟨fun p => by simp [k2, D.pd, D.pds, h.hpd p.1, g.hpd p.2], fun p => by simp [PyData.canLay0, PyData.canLayAll0, h.lay p.1, g.lay p.2], fun p => by
  have := h.dep p.1
  have := g.dep p.2
  simp only [PyData.depth, PyData.depthAll]
  omega, fun p q => by simp [PyData.eqv, PyData.eqvAll, h.eqv, g.eqv, Prod.ext_iff]⟩
theorem pl_k3 (h : Pl t pd k) (g : Pl u qd l) (f : Pl v rd m) : Pl (k3 t u v) (fun p => .list [pd p.1, qd p.2.1, rd p.2.2]) (max k (max l m) + 1) := ⟨fun p => by simp [k3, D.pd, D.pds, h.hpd p.1, g.hpd p.2.1, f.hpd p.2.2], fun p => by simp [PyData.canLay0, PyData.canLayAll0, h.lay p.1, g.lay p.2.1, f.lay p.2.2], fun p => by
  have := h.dep p.1
  have := g.dep p.2.1
  have := f.dep p.2.2
  simp only [PyData.depth, PyData.depthAll]
  omega, fun p q => by simp [PyData.eqv, PyData.eqvAll, h.eqv, g.eqv, f.eqv, Prod.ext_iff]⟩
end
/-! numbers in written tuples -/
theorem dFlats_I : ∀ xs : List Int, dFlats (xs.map tI) = some (xs.map L2.V.int)
  | [] => rfl
  | x :: xs => by
    have := dFlats_I xs
    simp only [List.map_cons, dFlats, this]
    rfl
theorem inV_I (x : Int) : ∀ xs : List Int, L2.inV (L2.V.int x) (xs.map L2.V.int) = decide (x ∈ xs)
  | [] => rfl
  | y :: xs => by
    have := inV_I x xs
    unfold L2.inV at this ⊢
    simp only [List.map_cons, List.any_cons, this, L2.eqV, List.mem_cons, Bool.decide_or]
    congr 1
    by_cases e : x = y
    · simp [e]
    · have e2 : ¬ y = x := fun z => e z.symm
      simp [e, e2]
theorem shapedT (xs : List Int) : SeqAt.shaped (.tuple (xs.map PyData.int)) = true := by
  have h1 := pl_lays pl_I xs
  have h2 := pl_deps pl_I xs
  simp [SeqAt.shaped, PyData.canLay0, PyData.depth, h1]
  omega
theorem inT_I (x : Int) (xs : List Int) (w : W) (hw : w = .sh (.tup (xs.map tI))) : gIn (eD tI x, w) = some (eD tB (decide (x ∈ xs))) := by
  subst hw
  have pdT : D.pds (xs.map tI) = some (xs.map PyData.int) := pl_pds pl_I xs
  have : gDD fIn (eD tI x, .sh (.tup (xs.map tI))) = none := by
    have e : wPd (.sh (.tup (xs.map tI))) = some (.tuple (xs.map PyData.int)) := by
      unfold wPd
      simp only [W.toD, Option.bind_some, D.pd, pdT, Option.map_some]
      rw [if_pos (shapedT xs)]
    unfold gDD
    simp only [e, wPd_of pl_I (by omega) (fz_sh (t := tI) x), fIn]
    rfl
  simp only [gIn, this, Option.none_or]
  have g2 : gInT false (eD tI x, .sh (.tup (xs.map tI))) = some (eD tB (decide (x ∈ xs))) := by
    show (match dFlat (.int x), dFlats (xs.map tI) with | some x, some xs => some (W.sh (.bl (if false then !L2.inV x xs else L2.inV x xs))) | _, _ => none) = _
    rw [dFlats_I]
    simp only [dFlat, inV_I]
    rfl
  simp [g2]
theorem inT_2 (x : Int) (p : Int × Int) : gIn (eD tI x, eD (t2 tI tI) p) = some (eD tB (decide (x ∈ [p.1, p.2]))) := inT_I x [p.1, p.2] _ rfl
/-! more methods in place -/
section
variable {J : Jd β τ} {e : Env} {κ : W → Env → Option (Res β × Env)} {path : Path} {el : α → W} {xs : List α} {ev : List α → Env} {p : X τ}
theorem i_rev (hg : getE e path = some (eO el xs)) (hs : ∀ ys, setE e path (eO el ys) = some (ev ys)) (k : J.rel (κ (eD tN ()) (ev xs.reverse)) p) : J.rel (inK e path (fun w => onL gRev w []) κ) p := by
  unfold inK
  rw [hg]
  have := hs xs.reverse
  simp only [eO, List.map_reverse] at this
  simp only [opK, onL, eO, gRev, Option.map_some, this]
  exact k
theorem i_clr (hg : getE e path = some (eO el xs)) (hs : ∀ ys, setE e path (eO el ys) = some (ev ys)) (k : J.rel (κ (eD tN ()) (ev [])) p) : J.rel (inK e path (fun w => onL gClr w []) κ) p := by
  unfold inK
  rw [hg]
  have := hs []
  simp only [eO, List.map_nil] at this
  simp only [opK, onL, eO, gClr, Option.map_some, this]
  exact k
end
/-! a def that takes its pair apart -/
/-- how such a def has to end -/
def gU (i j k : Nat) (G : ρ → W → Env → Prop) : ρ → W → Env → Prop := fun a w e => ∃ e', packE i j k e = some e' ∧ G a w e'
def xU (i j k : Nat) (Ex : Env → Prop) : Env → Prop := fun e => ∃ e', packE i j k e = some e' ∧ Ex e'
theorem u_fn {i j k : Nat} {m : MS} {env : Env} {e0 : α → W} {e1 : β → W} {q : α × β} {p : X ρ} {G : ρ → W → Env → Prop} {Ex : Env → Prop} (hg : env[i]? = some (some (o2 e0 e1 q))) (hl : (Nat.blt j env.length && Nat.blt k env.length) = true)
    (h : (jF (gU i j k G) (xU i j k Ex)).rel (m (((env.set i none).set j (some (e0 q.1))).set k (some (e1 q.2)))) p) : (jF G Ex).rel (mUnp i j k m env) p := by
  unfold mUnp
  simp only [hg, o2]
  simp only [Bool.and_eq_true, Nat.blt_eq] at hl
  rw [if_pos hl]
  rcases p with _ | ⟨a | x⟩
  · exact Jd.non _ _
  · obtain ⟨w, e, h, e', h1, h2⟩ := h.h
    refine ⟨⟨w, e', ?_, h2⟩⟩
    rcases h with h | ⟨h, hw⟩
    · rw [h]
      simp only [h1, Option.map_some]
      exact .inl trivial
    · rw [h]
      simp only [h1, Option.map_some]
      exact .inr ⟨trivial, hw⟩
  · obtain ⟨e, h, e', h1, h2⟩ := h.h
    rw [h]
    simp only [h1, Option.map_some]
    exact ⟨⟨e', rfl, h2⟩⟩
/-- an own name let go ahead of a statement -/
theorem s_gz {J : Jd Fl τ} {i : Nat} {m rest : MS} {env : Env} {e : α → W} {t : α → D} {a : α} {p : X τ} (f : Fz e t) (hg : env[i]? = some (some (e a))) (h : J.rel (mSeq m rest (env.set i (some (eD t a)))) p) : J.rel (mSeq (mGz i m) rest env) p := by
  have : mSeq (mGz i m) rest env = mSeq m rest (env.set i (some (eD t a))) := by
    unfold mSeq mGz
    simp only [hg, f a]
    rfl
  rw [this]
  exact h
/-! kinds -/
def isK (T : String) (w : W) : Option Bool := (wTyp w).map fun t => isT t T
end
end TY

set_option Elab.async false
set_option linter.all false
set_option maxRecDepth 100000
/-! Typed layer, part 7: objects. -/
namespace TY
open PySem AM
section
variable {α β γ δ σ τ ρ : Type}
def w0 : Unit → List W := fun _ => []
def w1 (e : α → W) : α → List W := fun a => [e a]
def wc (e : α → W) (l : β → List W) : α × β → List W := fun p => e p.1 :: l p.2
def eB (c : Str) (fs : List Str) (l : α → List W) : α → W := fun a => .ob c fs (l a)
def d0 : Unit → List D := fun _ => []
def d1 (t : α → D) : α → List D := fun a => [t a]
def dc (t : α → D) (l : β → List D) : α × β → List D := fun p => t p.1 :: l p.2
def tO (c : Str) (fs : List Str) (l : α → List D) : α → D := fun a => .obj c fs (l a)
def FzL (l : α → List W) (m : α → List D) : Prop := ∀ a, W.toDs (l a) = some (m a)
theorem fzl_0 : FzL w0 d0 := fun _ => rfl
theorem fzl_1 {e : α → W} {t : α → D} (h : Fz e t) : FzL (w1 e) (d1 t) := fun a => by simp [w1, d1, W.toDs, h a]
theorem fzl_c {e : α → W} {t : α → D} {l : β → List W} {m : β → List D} (h : Fz e t) (k : FzL l m) : FzL (wc e l) (dc t m) := fun p => by simp [wc, dc, W.toDs, h p.1, k p.2]
theorem fz_ob {c : Str} {fs : List Str} {l : α → List W} {m : α → List D} (h : FzL l m) : Fz (eB c fs l) (tO c fs m) := fun a => by
  simp [eB, tO, W.toD, h a]
/-! fields -/
section
variable {J : Jd β τ} {env e e' : Env} {c f : Str} {fs : List Str} {i j : Nat} {ml : ME Path} {path : Path} {ws : List W} {w o o' : W} {ds : List D} {d : D} {κ : W → Env → Option (Res β × Env)} {p : X τ}
theorem lFld_ok (hl : ml env = some (.ok path, env)) (hg : getE env path = some (.ob c fs ws)) (hj : Nat.blt j ws.length = true) : lFld c fs j ml env = some (.ok (path.1, path.2 ++ [j]), env) := by
  have hj : j < ws.length := by simpa using hj
  unfold lFld
  simp only [hl, hg]
  rw [if_pos ⟨trivial, trivial, hj⟩]
theorem pk_ok (hl : ml env = some (.ok path, env)) (hg : getE env path = some w) : mPk ml env = some (.ok w, env) := by
  unfold mPk
  simp only [hl, hg, Option.map_some]
theorem pkS_ok {t : α → D} {a : α} (hl : ml env = some (.ok path, env)) (hg : getE env path = some (eD t a)) : mPkS ml env = some (.ok (eD t a), env) := by
  unfold mPkS
  simp only [hl, hg, eD]
theorem fld_ok (h : ds[j]? = some d) : gFld c fs j (.sh (.obj c fs ds)) = some (.sh d) := by
  simp [gFld, h]
theorem gFs_ok (hj : Nat.blt j ws.length = true) : gFs c fs j (.ob c fs ws) w = some (.ob c fs (ws.set j w)) := by
  have hj : j < ws.length := by simpa using hj
  unfold gFs
  simp only
  rw [if_pos ⟨trivial, trivial, hj⟩]
theorem gFn_ok : gFn c fs f (.ob c fs ws) w = some (.ob c (fs ++ [f]) (ws ++ [w])) := by
  unfold gFn
  simp only
  rw [if_pos ⟨trivial, trivial⟩]
def setK (g : W → W → Option W) (ml : ME Path) (w : W) (e : Env) (rest : MS) : Option (Res Fl × Env) := match ml e with
  | some (.ok path, e) => match getE e path with
    | some o => match g o w with
      | some o' => match setE e path o' with
        | some e' => rest e'
        | none => none
      | none => none
    | none => none
  | _ => none
theorem s_setO {J : Jd Fl τ} {g : W → W → Option W} {m : ME W} {rest : MS} (h : J.rel (aft (m env) fun w e => setK g ml w e rest) p) : J.rel (mSeq (mSetO g m ml) rest env) p := by
  have : mSeq (mSetO g m ml) rest env = aft (m env) fun w e => setK g ml w e rest := by
    unfold mSeq mSetO setK
    rw [bind_aft]
    rcases m env with _ | ⟨w | x, e⟩
    · rfl
    · simp only [aft]
      rcases ml e with _ | ⟨path | x, e2⟩
      · rfl
      · simp only
        rcases getE e2 path with _ | o
        · rfl
        · simp only
          rcases g o w with _ | o'
          · rfl
          · simp only
            rcases setE e2 path o' with _ | e3 <;> rfl
      · rfl
    · rfl
  rw [this]
  exact h
theorem k_setO {J : Jd Fl τ} {g : W → W → Option W} {rest : MS} (hl : ml e = some (.ok path, e)) (hg : getE e path = some o) (hw : g o w = some o') (hs : setE e path o' = some e') (k : J.rel (rest e') p) : J.rel (setK g ml w e rest) p := by
  unfold setK
  simp only [hl, hg, hw, hs]
  exact k
/-! calls of methods -/
theorem on_ob {m : ME W} (h : env[i]? = some (some (.ob c fs ws))) : mOn c fs i m env = m env := by
  unfold mOn
  simp only [h]
  rw [if_pos ⟨trivial, trivial⟩]
theorem on_sh {m : ME W} (h : env[i]? = some (some (.sh (.obj c fs ds)))) : mOn c fs i m env = m env := by
  unfold mOn
  simp only [h]
  rw [if_pos ⟨trivial, trivial⟩]
theorem x_on {m : ME W} (h : mOn c fs i m env = m env) (k : J.rel (aft (m env) κ) p) : J.rel (aft (mOn c fs i m env) κ) p := by
  rw [h]
  exact k
theorem x_nox {Oo : Type} {m : ME W} {ps : X σ} {pk : σ → X τ} (ev : σ → W) (mk : σ → Oo → Env) (h : (jE ev mk (fun _ => False)).rel (m env) ps) (k : ∀ s os, J.rel (κ (ev s) (mk s os)) (pk s)) : J.rel (aft (mNoX m env) κ) (X.bind (X.nx ps) pk) := by
  rcases ps with _ | ⟨s | x⟩
  · exact J.non _
  · obtain ⟨os, h⟩ := h.h
    have : mNoX m env = some (.ok (ev s), mk s os) := by
      unfold mNoX
      rw [h]
    rw [this]
    exact k s os
  · exact J.non _
/-! making -/
def makeK (c : Str) (mf : MF) (as : List AW) (e : Env) (κ : W → Env → Option (Res β × Env)) : Option (Res β × Env) := match ownWs as with
  | none => none
  | some ws => match mf (.ob c [] [] :: ws) with
    | some (.ok (.sh .non), some w' :: _) => κ w' e
    | _ => none
theorem x_make {mf : MF} {ma : ME (List AW)} (h : J.rel (aft (ma env) fun as e => makeK c mf as e κ) p) : J.rel (aft (mMake c mf ma env) κ) p := by
  have : aft (mMake c mf ma env) κ = aft (ma env) fun as e => makeK c mf as e κ := by
    unfold mMake makeK
    rw [bind_aft, aft_aft]
    congr 1
    funext as e
    rcases ownWs as with _ | ws
    · rfl
    · simp only
      rcases mf (.ob c [] [] :: ws) with _ | ⟨r, outs⟩
      · rfl
      · rcases r with w | x
        · rcases outs with _ | ⟨_ | w', rest⟩
          · cases w with
            | sh d => cases d <;> rfl
            | _ => rfl
          · cases w with
            | sh d => cases d <;> rfl
            | _ => rfl
          · cases w with
            | sh d => cases d <;> rfl
            | _ => rfl
        · rfl
  rw [this]
  exact h
theorem k_make {mf : MF} {as : List AW} {pf : X ρ} {pk : ρ → X τ} {er : ρ → W} {eo : ρ → List (Option W)} {Xo : List (Option W) → Prop} {w' : ρ → W} (ha : ownWs as = some ws) (ht : TF (mf (.ob c [] [] :: ws)) pf er eo Xo) (hr : ∀ a, er a = .sh .non) (ho : ∀ a, ∃ r, eo a = some (w' a) :: r) (k : ∀ a, J.rel (κ (w' a) e) (pk a)) :
    J.rel (makeK c mf as e κ) (X.bind (X.nx pf) pk) := by
  unfold makeK
  simp only [ha]
  rcases pf with _ | ⟨a | x⟩
  · exact J.non _
  · obtain ⟨r, hr2⟩ := ho a
    rw [show mf (.ob c [] [] :: ws) = _ from ht.h, hr a, hr2]
    exact k a
  · exact J.non _
/-! an object's end -/
def endB (i j1 j2 : Nat) (as : List AW) : Env → Option (Res (List W) × Env) := fun env => match as with
  | [.bor (a, [b]), .bor (a', [b']), .own w] => if a = i ∧ b = j1 ∧ a' = i ∧ b' = j2 ∧ j1 ≠ j2 then match env[i]? with
      | some (some (.ob _ _ ws)) => match ws[j1]?, ws[j2]? with
        | some w1, some w2 => some (.ok [w1, w2, w], env.set i none)
        | _, _ => none
      | _ => none
    else none
  | _ => none
def endK (i j1 j2 : Nat) (as : List AW) (e : Env) (κ : List W → Env → Option (Res β × Env)) : Option (Res β × Env) := aft (endB i j1 j2 as e) κ
theorem x_endA {j1 j2 : Nat} {ma : ME (List AW)} {κ : List W → Env → Option (Res β × Env)} (h : J.rel (aft (ma env) fun as e => endK i j1 j2 as e κ) p) : J.rel (aft (mEndA i j1 j2 ma env) κ) p := by
  have : aft (mEndA i j1 j2 ma env) κ = aft (ma env) fun as e => endK i j1 j2 as e κ := by
    unfold mEndA
    rw [bind_aft, aft_aft]
    rfl
  rw [this]
  exact h
theorem k_end {j1 j2 : Nat} {a1 a2 w' : W} {κ : List W → Env → Option (Res β × Env)} (hg : e[i]? = some (some (.ob c fs ws))) (h1 : ws[j1]? = some a1) (h2 : ws[j2]? = some a2) (hj : Nat.beq j1 j2 = false) (k : J.rel (κ [a1, a2, w'] (e.set i none)) p) : J.rel (endK i j1 j2 [.bor (i, [j1]), .bor (i, [j2]), .own w'] e κ) p := by
  have hj : j1 ≠ j2 := fun z => by subst z; simp at hj
  have hb : endB i j1 j2 [.bor (i, [j1]), .bor (i, [j2]), .own w'] e = some (.ok [a1, a2, w'], e.set i none) := by
    show (if i = i ∧ j1 = j1 ∧ i = i ∧ j2 = j2 ∧ j1 ≠ j2 then _ else none) = _
    rw [if_pos ⟨rfl, rfl, rfl, rfl, hj⟩, hg]
    show (match ws[j1]?, ws[j2]? with | some w1, some w2 => (some (Res.ok [w1, w2, w'], e.set i none) : Option (Res (List W) × Env)) | _, _ => none) = _
    rw [h1, h2]
  unfold endK
  rw [hb]
  exact k
end
end
/-! tuples of two or three -/
section
variable {α β γ : Type}
def oP (a : α → W) (b : β → W) (c : γ → W) : α × β × Option γ → W := fun p => match p.2.2 with | none => .ot [a p.1, b p.2.1] | some z => .ot [a p.1, b p.2.1, c z]
def tP (a : α → D) (b : β → D) (c : γ → D) : α × β × Option γ → D := fun p => match p.2.2 with | none => .tup [a p.1, b p.2.1] | some z => .tup [a p.1, b p.2.1, c z]
def lenP : Option γ → Int
  | none => 2
  | some _ => 3
theorem fz_oP {a : α → W} {b : β → W} {g : γ → W} {c : α → D} {d : β → D} {k : γ → D} (h1 : Fz a c) (h2 : Fz b d) (h3 : Fz g k) : Fz (oP a b g) (tP c d k) := fun p => by
  obtain ⟨x, y, z⟩ := p
  cases z <;> simp [oP, tP, W.toD, W.toDs, h1 x, h2 y, h3 _]
theorem cl_oP {a : α → W} {b : β → W} {c : γ → W} (h : ∀ x, (a x).closed = true) (k : ∀ x, (b x).closed = true) (l : ∀ x, (c x).closed = true) (p : α × β × Option γ) : (oP a b c p).closed = true := by
  obtain ⟨x, y, z⟩ := p
  cases z <;> simp [oP, W.closed, W.closeds, h, k, l]
section
variable {a : α → W} {b : β → W} {c : γ → W} {t : α → D} {u : β → D} {v : γ → D} (p : α × β × Option γ)
theorem ixP_0 : gIx (oP a b c p, eD tI 0) = some (a p.1) := by
  obtain ⟨x, y, z⟩ := p
  cases z <;> rfl
theorem ixP_1 : gIx (oP a b c p, eD tI 1) = some (b p.2.1) := by
  obtain ⟨x, y, z⟩ := p
  cases z <;> rfl
theorem ixP_2 : gIx (oP a b c p, eD tI 2) = p.2.2.map c := by
  obtain ⟨x, y, z⟩ := p
  cases z <;> rfl
theorem ixPs_0 : gIx (eD (tP t u v) p, eD tI 0) = some (eD t p.1) := by
  obtain ⟨x, y, z⟩ := p
  cases z <;> rfl
theorem ixPs_1 : gIx (eD (tP t u v) p, eD tI 1) = some (eD u p.2.1) := by
  obtain ⟨x, y, z⟩ := p
  cases z <;> rfl
theorem ixPs_2 : gIx (eD (tP t u v) p, eD tI 2) = p.2.2.map (eD v) := by
  obtain ⟨x, y, z⟩ := p
  cases z <;> rfl
theorem len_P : gLen [oP a b c p] = some (eD tI (lenP p.2.2)) := by
  obtain ⟨x, y, z⟩ := p
  cases z <;> rfl
theorem len_Ps : gLen [eD (tP t u v) p] = some (eD tI (lenP p.2.2)) := by
  obtain ⟨x, y, z⟩ := p
  cases z <;> rfl
end
end
end TY

set_option Elab.async false
set_option linter.all false
set_option maxRecDepth 100000
/-! Typed layer, part 12: a thing or None. -/
namespace TY
open PySem AM
section
variable {α β : Type}
def tQ (t : α → D) : Option α → D
  | none => .non
  | some a => t a
theorem isN_Q {t : α → D} (h : ∀ a, wNon (.sh (t a)) = false) (x : Option α) : gIsN (eD (tQ t) x, eD tN ()) = some (eD tB x.isNone) := by
  cases x with
  | none => rfl
  | some a =>
    show some (W.sh (.bl (wNon (.sh (t a))))) = _
    rw [h a]
    rfl
theorem notN_Q {t : α → D} (h : ∀ a, wNon (.sh (t a)) = false) (x : Option α) : gNotN (eD (tQ t) x, eD tN ()) = some (eD tB (!x.isNone)) := by
  cases x with
  | none => rfl
  | some a =>
    show some (W.sh (.bl (!wNon (.sh (t a))))) = _
    rw [h a]
    rfl
theorem isB_B (x y : Bool) : gIsB (eD tB x, eD tB y) = some (eD tB (decide (x = y))) := rfl
theorem notB_B (x y : Bool) : gNotB (eD tB x, eD tB y) = some (eD tB (!decide (x = y))) := rfl
def isQ (x : Option Bool) (y : Bool) : Option Bool := x.map fun z => decide (z = y)
def notQ (x : Option Bool) (y : Bool) : Option Bool := x.map fun z => !decide (z = y)
theorem isB_Q (x : Option Bool) (y : Bool) : gIsB (eD (tQ tB) x, eD tB y) = (isQ x y).map (eD tB) := by cases x <;> rfl
theorem notB_Q (x : Option Bool) (y : Bool) : gNotB (eD (tQ tB) x, eD tB y) = (notQ x y).map (eD tB) := by cases x <;> rfl
def pdQ (pd : α → PyData) : Option α → PyData
  | none => .none
  | some a => pd a
theorem pl_Q {t : α → D} {pd : α → PyData} {k : Nat} (h : Pl t pd k) (n1 : ∀ a, PyData.eqv (pd a) .none = false) (n2 : ∀ a, PyData.eqv .none (pd a) = false) : Pl (tQ t) (pdQ pd) k := by
  refine ⟨fun a => ?_, fun a => ?_, fun a => ?_, fun a b => ?_⟩
  · cases a with
    | none => rfl
    | some a => exact h.hpd a
  · cases a with
    | none => rfl
    | some a => exact h.lay a
  · cases a with
    | none => simp [pdQ, PyData.depth]
    | some a => exact h.dep a
  · cases a with
    | none => cases b with
      | none => simp [pdQ, PyData.eqv]
      | some b => simp [pdQ, n2 b]
    | some a => cases b with
      | none => simp [pdQ, n1 a]
      | some b => simp [pdQ, h.eqv a b]
theorem pl_QB : Pl (tQ tB) (pdQ PyData.bool) 0 := pl_Q pl_B (fun _ => by simp [PyData.eqv]) fun _ => by simp [PyData.eqv]
section
variable {t : α → D} {pd : α → PyData} {k : Nat} {e : α → W} {e' : β → W} [DecidableEq α]
theorem gEq_q (g : β → α) (h : Pl t pd k) (hk : Nat.ble k 64 = true) (f : Fz e t) (f' : ∀ b, (e' b).toD = some (t (g b))) (a : α) (b : β) : gEq (e a, e' b) = some (eD tB (decide (a = g b))) := by
  simp only [gEq, gDD, wPd_of h (by simpa using hk) (f a), wPd_of h (by simpa using hk) (f' b), fEq, pl_dec h]
  rfl
theorem gNe_q (g : β → α) (h : Pl t pd k) (hk : Nat.ble k 64 = true) (f : Fz e t) (f' : ∀ b, (e' b).toD = some (t (g b))) (a : α) (b : β) : gNe (e a, e' b) = some (eD tB (!decide (a = g b))) := by
  simp only [gNe, gDD, wPd_of h (by simpa using hk) (f a), wPd_of h (by simpa using hk) (f' b), fNe, pl_dec h]
  rfl
end
theorem fq_sh {t : α → D} : ∀ b, (eD t b).toD = some (tQ t (some b)) := fun _ => rfl
theorem fq_L {e : List α → W} {t : α → D} (h : Fz e (tL t)) : ∀ b, (e b).toD = some (tL (tQ t) (b.map some)) := fun b => by
  rw [h b]
  simp [tL, tQ, List.map_map, Function.comp_def]
theorem cl_QB (x : Option Bool) : (eD (tQ tB) x).closed = true := by cases x <;> rfl
section
variable {τ : Type} {J : Jd Fl τ} {e : Env} {g : MG} {rest : MS} {t : α → D} {pk : α → X τ}
theorem k_unq (r : Option α) (k : ∀ x, J.rel (gK g (eD t x) e rest) (pk x)) : J.rel (gK g (eD (tQ t) r) e rest) (X.bind (X.ofO r) pk) := by
  cases r with
  | none => exact J.non _
  | some x => exact k x
end
end
theorem k_unP {τ : Type} {J : Jd Fl τ} {env : Env} {g : MG} {rest : MS} {α β γ : Type} {a : α → W} {b : β → W} {c : γ → W} {pk : γ → X τ} (r : α × β × Option γ) (k : ∀ z, J.rel (gK g (o3 a b c (r.1, r.2.1, z)) env rest) (pk z)) : J.rel (gK g (oP a b c r) env rest) (X.bind (X.ofO r.2.2) pk) := by
  obtain ⟨x, y, z⟩ := r
  cases z with
  | none => exact J.non _
  | some z => exact k z
theorem k_unPs {τ : Type} {J : Jd Fl τ} {env : Env} {g : MG} {rest : MS} {α β γ : Type} {a : α → D} {b : β → D} {c : γ → D} {pk : γ → X τ} (r : α × β × Option γ) (k : ∀ z, J.rel (gK g (eD (t3 a b c) (r.1, r.2.1, z)) env rest) (pk z)) : J.rel (gK g (eD (tP a b c) r) env rest) (X.bind (X.ofO r.2.2) pk) := by
  obtain ⟨x, y, z⟩ := r
  cases z with
  | none => exact J.non _
  | some z => exact k z
def insO {α : Type} (xs : List α) (i : Int) (x : α) : Option (List α) := if 0 ≤ i ∧ i ≤ 100000 ∧ xs.length < 100000 then some (xs.take i.toNat ++ [x] ++ xs.drop i.toNat) else none
theorem insO_ok {α : Type} {xs : List α} {i : Int} {x : α} (h0 : 0 ≤ i) (h1 : i ≤ 100000) (h : xs.length < 100000) : insO xs i x = some (xs.take i.toNat ++ [x] ++ xs.drop i.toNat) := if_pos ⟨h0, h1, h⟩
theorem i_ins {α β τ : Type} {J : Jd β τ} {κ : W → Env → Option (Res β × Env)} {e : Env} {path : Path} {el : α → W} {xs : List α} {ev : List α → Env} {pk : List α → X τ} {i : Int} {x : α} (hg : getE e path = some (eO el xs)) (hs : ∀ ys, setE e path (eO el ys) = some (ev ys)) (k : ∀ ys, J.rel (κ (eD tN ()) (ev ys)) (pk ys)) :
    J.rel (inK e path (fun w => onL gIns w [eD tI i, el x]) κ) (X.bind (X.ofO (insO xs i x)) pk) := by
  have wi : wInt (eD tI i) = some i := rfl
  unfold inK
  rw [hg]
  by_cases h : 0 ≤ i ∧ i ≤ 100000 ∧ xs.length < 100000
  · have := hs (xs.take i.toNat ++ [x] ++ xs.drop i.toNat)
    simp only [eO, List.map_append, List.map_cons, List.map_nil, List.map_take, List.map_drop] at this
    simp only [opK, onL, eO, gIns, wi, Option.bind_some, List.length_map, insO, if_pos h, Option.map_some, this]
    exact k _
  · simp only [insO, if_neg h]
    exact J.non _
/-- membership, by one way to tell things apart -/
def inO {α : Type} [DecidableEq α] (a : α) (xs : List α) : Bool := decide (a ∈ xs)
theorem gIn_o {α : Type} [DecidableEq α] {e : α → W} {t : α → D} {pd : α → PyData} {k : Nat} {el : List α → W} (h : Pl t pd k) (hk : Nat.ble (k + 1) 64 = true) (f : Fz e t) (f' : Fz el (tL t)) (a : α) (xs : List α) : gIn (e a, el xs) = some (eD tB (inO a xs)) := gIn_p h hk f f' a xs
theorem gNotIn_o {α : Type} [DecidableEq α] {e : α → W} {t : α → D} {pd : α → PyData} {k : Nat} {el : List α → W} (h : Pl t pd k) (hk : Nat.ble (k + 1) 64 = true) (f : Fz e t) (f' : Fz el (tL t)) (a : α) (xs : List α) : gNotIn (e a, el xs) = some (eD tB (!inO a xs)) := gNotIn_p h hk f f' a xs
theorem k_setIX {τ : Type} {J : Jd Fl τ} {α : Type} {env : Env} {ml : ME Path} {mi : ME W} {e : α → W} {xs : List α} {v : α} {rest : MS} {path : Path} {ev : List α → Env} {pk : List α → X τ} {pi : X Int} (hl : ml env = some (.ok path, env)) (hi : (jE (eD tI) (fun (_ : Int) (_ : Unit) => env) (fun _ => False)).rel (mi env) pi) (hg : getE env path = some (eO e xs)) (hs : ∀ ys, setE env path (eO e ys) = some (ev ys)) (k : ∀ ys, J.rel (rest (ev ys)) (pk ys)) :
    J.rel (gK (gSetI ml mi) (e v) env rest) (X.bind pi fun i => X.bind (X.ofO (setO xs i v)) pk) := by
  rcases pi with _ | ⟨i | x⟩
  · exact J.non _
  · obtain ⟨_, hi⟩ := hi.h
    exact k_setI hl hi hg hs k
  · obtain ⟨_, _, h⟩ := hi.h
    exact h.elim
end TY

set_option Elab.async false
set_option linter.all false
set_option maxRecDepth 100000
set_option maxHeartbeats 4000000
namespace LW
open PySem AM TY
def p__law_pile (a_script : List Int) (a_k : Int) : X (List Int) :=
  X.bind (if (decide (a_k < ((a_script.length : Nat) : Int))) = true then (X.bind (X.ofO (at_  a_script a_k)) fun x1 => X.ok x1) else X.ok 0) fun (s2 : Int) => X.bind (X.ofO (at_  [0, (s2 % 1000000000000000000000000000000000000000000000000000000000000000000000000000000000000000000000000000000000000000000000000000000000000000000000000000000)] (b2i (decide (1000000000000000000 ≤ (absI s2)))))) fun x4 => X.bind (X.ofO (mulO  97 a_k)) fun x5 => X.ok [x4, (s2 % 2147483647), x5]
theorem t__law_pile (a_script : List Int) (a_k : Int) : TF (m__law_pile [(eD tR) a_script, (eD tI) a_k]) (p__law_pile a_script a_k) (fun r => (eO (eD tI)) r) (fun r => [none, none]) xAny :=
  tf_fn rfl (s_asg (x_val (e := _) (a := (eD tI) 0) rfl (k_set rfl (n_env (e' := ([some ((eD tR) a_script), some ((eD tI) a_k), some ((eD tI) 0)] : AM.Env)) rfl (s_sub (fun (s2 : Int) (o3 : Unit) => ([some ((eD tR) a_script), some ((eD tI) a_k), some ((eD tI) s2)] : AM.Env)) (s_last (s_if (x_B (x_op2 (x_val rfl (x_bi (x_cons (x_val rfl (x_nil (o_val (len_scr _) (o_val (lt_I _ _) (o_val (bl_B _) (k_if (s_asg (x_fz (x_ix (x_val rfl (x_val rfl (o_par (ix_scr _ _) fun x1 => (o_val (fzV fz_sh _) (k_set rfl (n_go () rfl))))))))) (s_nx (n_go () rfl))))))))))))))) fun s2 o3 => (n_env (e' := ([some ((eD tR) a_script), some ((eD tI) a_k), some ((eD tI) s2)] : AM.Env)) rfl (s_last (s_ret (x_lst (x_cons (x_ix (x_lst (x_cons (x_val (e := _) (a := (eD tI) 0) rfl (x_cons (x_op2 (x_val rfl (x_op2 (x_op2 (x_op2 (x_val (e := _) (a := (eD tI) 10) rfl (x_val (e := _) (a := (eD tI) 50) rfl (o_val (a := (eD tI) 100000000000000000000000000000000000000000000000000) (pow_c (by decide +kernel) (by decide +kernel)) (x_op2 (x_val (e := _) (a := (eD tI) 10) rfl (x_val (e := _) (a := (eD tI) 50) rfl (o_val (a := (eD tI) 100000000000000000000000000000000000000000000000000) (pow_c (by decide +kernel) (by decide +kernel)) (o_val (a := (eD tI) 10000000000000000000000000000000000000000000000000000000000000000000000000000000000000000000000000000) (mul_c (by decide +kernel) (by decide +kernel)) (x_op2 (x_val (e := _) (a := (eD tI) 10) rfl (x_val (e := _) (a := (eD tI) 50) rfl (o_val (a := (eD tI) 100000000000000000000000000000000000000000000000000) (pow_c (by decide +kernel) (by decide +kernel)) (o_val (a := (eD tI) 1000000000000000000000000000000000000000000000000000000000000000000000000000000000000000000000000000000000000000000000000000000000000000000000000000000) (mul_c (by decide +kernel) (by decide +kernel)) (o_val (mod_c (by decide +kernel)) (x_nil (o_val (lst_2 (e := (eD tI))) (x_bi (x_cons (x_op2 (x_bi (x_cons (x_val rfl (x_nil (o_val (abs_I _) (x_op2 (x_val (e := _) (a := (eD tI) 10) rfl (x_val (e := _) (a := (eD tI) 18) rfl (o_val (a := (eD tI) 1000000000000000000) (pow_c (by decide +kernel) (by decide +kernel)) (o_val (ge_I _ _) (x_nil (o_val (int_B _) (o_par (ix_ol _ _) fun x4 => (x_cons (x_op2 (x_val rfl (x_val (e := _) (a := (eD tI) 2147483647) rfl (o_val (mod_c (by decide +kernel)) (x_cons (x_op2 (x_val (e := _) (a := (eD tI) 97) rfl (x_val rfl (o_par (mul_I _ _) fun x5 => (x_nil (o_val (lst_3 (e := (eD tI))) (n_ret ⟨rfl, rfl, rfl⟩)))))))))))))))))))))))))))))))))))))))))))))))))))))))))))))))))
def p__law_mixed (a_cell : Int) (a_k : Int) : X Int :=
  X.bind (X.ofO (mulO  (a_cell % 2147483647) 48271)) fun x1 => X.bind (X.ofO (mulO  a_k 69621)) fun x2 => X.bind (X.ofO (mulO  (((x1 + x2) + 11) % 2147483647) (((x1 + x2) + 11) % 2147483647))) fun x3 => X.bind (X.ofO (mulO  (x3 % 2147483629) (x3 % 2147483629))) fun x4 => X.ok ((x4 % 2147483587) / 64)
theorem t__law_mixed (a_cell : Int) (a_k : Int) : TF (m__law_mixed [(eD tI) a_cell, (eD tI) a_k]) (p__law_mixed a_cell a_k) (fun r => (eD tI) r) (fun r => [none, none]) xAny :=
  tf_fn rfl (s_asg (x_op2 (x_op2 (x_op2 (x_op2 (x_op2 (x_val rfl (x_val (e := _) (a := (eD tI) 2147483647) rfl (o_val (mod_c (by decide +kernel)) (x_val (e := _) (a := (eD tI) 48271) rfl (o_par (mul_I _ _) fun x1 => (x_op2 (x_val rfl (x_val (e := _) (a := (eD tI) 69621) rfl (o_par (mul_I _ _) fun x2 => (o_val (add_I _ _) (x_val (e := _) (a := (eD tI) 11) rfl (o_val (add_I _ _) (x_val (e := _) (a := (eD tI) 2147483647) rfl (o_val (mod_c (by decide +kernel)) (k_set rfl (n_env (e' := ([some ((eD tI) a_cell), some ((eD tI) a_k), some ((eD tI) (((x1 + x2) + 11) % 2147483647))] : AM.Env)) rfl (s_asg (x_op2 (x_op2 (x_val rfl (x_val rfl (o_par (mul_I _ _) fun x3 => (x_val (e := _) (a := (eD tI) 2147483629) rfl (o_val (mod_c (by decide +kernel)) (k_set rfl (n_env (e' := ([some ((eD tI) a_cell), some ((eD tI) a_k), some ((eD tI) (x3 % 2147483629))] : AM.Env)) rfl (s_last (s_ret (x_op2 (x_op2 (x_op2 (x_val rfl (x_val rfl (o_par (mul_I _ _) fun x4 => (x_val (e := _) (a := (eD tI) 2147483587) rfl (o_val (mod_c (by decide +kernel)) (x_val (e := _) (a := (eD tI) 64) rfl (o_val (div_c (by decide +kernel)) (n_ret ⟨rfl, rfl, rfl⟩)))))))))))))))))))))))))))))))))))))))))))))
def p__law_take (a_pile_here : List Int) (a_many : Int) : X (Int × List Int) :=
  X.bind (X.ofO (at_  a_pile_here 0)) fun x1 => if (decide (x1 ∈ [0, (-1)])) = true then (X.bind (X.ofO (at_  a_pile_here 2)) fun x2 => X.bind (X.ofO (setO a_pile_here 2 (x2 + 1))) fun x3 => X.bind (X.ofO (ixO x3 1)) fun q4 => X.bind (X.ofO (ixO x3 2)) fun q5 => X.bind (p__law_mixed q4.2 q5.2) fun r6 => X.bind (X.ofO (modO  r6 a_many)) fun x7 => X.ok (x7, x3)) else X.bind (X.ofO (at_  a_pile_here 0)) fun x8 => X.bind (X.ofO (modO  x8 a_many)) fun x9 => X.bind (X.ofO (at_  a_pile_here 0)) fun x10 => X.bind (X.ofO (divO  x10 a_many)) fun x11 => X.bind (X.ofO (setO a_pile_here 0 x11)) fun x12 => X.ok (x9, x12)
theorem t__law_take (a_pile_here : List Int) (a_many : Int) : TF (m__law_take [(eO (eD tI)) a_pile_here, (eD tI) a_many]) (p__law_take a_pile_here a_many) (fun r => (eD tI) r.1) (fun r => [some ((eO (eD tI)) r.2), none]) (xIo 0) :=
  tf_fn rfl (s_if (x_B (x_op2 (x_ix (x_val rfl (x_val (e := _) (a := (eD tI) 0) rfl (o_par (ix_ol _ _) fun x1 => (x_lst (x_cons (x_val (e := _) (a := (eD tI) 0) rfl (x_cons (x_op1 (x_val (e := _) (a := (eD tI) 1) rfl (o_val (neg_I _) (x_nil (o_val (lst_2 (e := (eD tI))) (o_val (gIn_p pl_I rfl fz_sh (fz_ol fz_sh) _ _) (o_val (bl_B _) (k_if (s_assoc (s_asg (x_op2 (x_ix (x_val rfl (x_val (e := _) (a := (eD tI) 2) rfl (o_par (ix_ol _ _) fun x2 => (x_val (e := _) (a := (eD tI) 1) rfl (o_val (add_I _ _) (k_setI (v := (x2 + 1)) rfl (v_of (x_all (x_val (e := _) (a := (eD tI) 2) rfl (e_end () rfl rfl)))) rfl (fun _ => rfl) fun x3 => (s_ret (x_op2 (x_K0 (p_ix rfl (v_of (x_all (x_val (e := _) (a := (eD tI) 1) rfl (e_end () rfl rfl)))) rfl fun jq4 xq4 hlq4 hgq4 hsq4 => (xa_bor hlq4 (p_ix rfl (v_of (x_all (x_val (e := _) (a := (eD tI) 2) rfl (e_end () rfl rfl)))) rfl fun jq5 xq5 hlq5 hgq5 hsq5 => (xa_bor hlq5 (xa_nil (k_call0b (aw_bor fz_sh hgq4 (aw_bor fz_sh hgq5 aw_nil)) (t__law_mixed xq4 xq5) rfl (fun a => cl_I _) ⟨rfl, _, rfl⟩ fun r6 => (x_val rfl (o_par (mod_I _ _) fun x7 => (n_ret ⟨rfl, rfl, rfl⟩)))))))))))))))))))))) (s_nx (s_asg (x_op2 (x_ix (x_val rfl (x_val (e := _) (a := (eD tI) 0) rfl (o_par (ix_ol _ _) fun x8 => (x_val rfl (o_par (mod_I _ _) fun x9 => (k_set rfl (n_env (e' := ([some ((eO (eD tI)) a_pile_here), some ((eD tI) a_many), some ((eD tI) x9)] : AM.Env)) rfl (s_asg (x_op2 (x_ix (x_val rfl (x_val (e := _) (a := (eD tI) 0) rfl (o_par (ix_ol _ _) fun x10 => (x_val rfl (o_par (div_I _ _) fun x11 => (k_setI (v := x11) rfl (v_of (x_all (x_val (e := _) (a := (eD tI) 0) rfl (e_end () rfl rfl)))) rfl (fun _ => rfl) fun x12 => (n_env (e' := ([some ((eO (eD tI)) x12), some ((eD tI) a_many), some ((eD tI) x9)] : AM.Env)) rfl (s_last (s_ret (x_val rfl (n_ret ⟨rfl, rfl, rfl⟩))))))))))))))))))))))))))))))))))))))))))))
def p__law_web (fu : Nat) (a_pile_here : List Int) (a_least : Int) (a_most : Int) (a_many : Int) : X ((Int × (List (Int × Int))) × List Int) :=
  X.bind (p__law_take a_pile_here ((a_most + 1) - a_least)) fun r1 => X.bind (X.ofO (rgdO 0  (a_least + r1.1))) fun x2 => X.bind (X.whP (fun (s3 : List Int × List Int × List Int) => X.ok (!decide (s3.2.1 = []))) (fun (s3 : List Int × List Int × List Int) => X.bind (p__law_take s3.1 ((s3.2.1.length : Nat) : Int)) fun r5 => X.bind (X.ofO (popO s3.2.1 r5.1)) fun x6 => X.bind (X.ofO (appO s3.2.2 x6.2)) fun x7 => X.ok (r5.2, x6.1, x7)) fu (r1.2, x2, [])) fun (s3 : List Int × List Int × List Int) => X.bind (X.ofO (rg2 1 (a_least + r1.1))) fun x8 => X.bind (X.forP (fun (x9 : Int) (s10 : List Int × (List (Int × Int))) => X.bind (X.ofO (at_  s3.2.2 x9)) fun x12 => X.bind (p__law_take s10.1 x9) fun r13 => X.bind (X.ofO (at_ s3.2.2 r13.1)) fun x14 => X.bind (X.ofO (appO s10.2 ((min2 x12 x14), (max2 x12 x14)))) fun x15 => X.ok (r13.2, x15)) x8 (s3.1, [])) fun (s10 : List Int × (List (Int × Int))) => X.bind (if (decide (1 < (a_least + r1.1))) = true then (X.bind (p__law_take s10.1 ((a_many + 2) - (a_least + r1.1))) fun r16 => X.bind (X.ofO (rg1 r16.1)) fun x17 => X.bind (X.forP (fun (x18 : Int) (s19 : List Int × (List (Int × Int))) => X.bind (p__law_take s19.1 ((a_least + r1.1) - 1)) fun r21 => X.bind (p__law_take r21.2 (((a_least + r1.1) - 1) - r21.1)) fun r22 => X.bind (X.ofO (appO s19.2 (r21.1, ((r21.1 + 1) + r22.1)))) fun x23 => X.ok (r22.2, x23)) x17 (r16.2, s10.2)) fun (s19 : List Int × (List (Int × Int))) => X.ok (s19.1, s19.2)) else X.ok (s10.1, s10.2)) fun (s24 : List Int × (List (Int × Int))) => X.bind (X.whP (fun (s26 : List Int × (List (Int × Int)) × (List (Int × Int))) => X.ok (!decide (s26.2.1 = []))) (fun (s26 : List Int × (List (Int × Int)) × (List (Int × Int))) => X.bind (p__law_take s26.1 ((s26.2.1.length : Nat) : Int)) fun r28 => X.bind (X.ofO (popO s26.2.1 r28.1)) fun x29 => X.bind (X.ofO (appO s26.2.2 x29.2)) fun x30 => X.ok (r28.2, x29.1, x30)) fu (s24.1, s24.2, [])) fun (s26 : List Int × (List (Int × Int)) × (List (Int × Int))) => X.ok (((a_least + r1.1), s26.2.2), s26.1)
theorem t__law_web (fu : Nat) (a_pile_here : List Int) (a_least : Int) (a_most : Int) (a_many : Int) : TF ((m__law_web fu) [(eO (eD tI)) a_pile_here, (eD tI) a_least, (eD tI) a_most, (eD tI) a_many]) (p__law_web fu a_pile_here a_least a_most a_many) (fun r => (o2 (eD tI) (eO (eD (t2 tI tI)))) r.1) (fun r => [some ((eO (eD tI)) r.2), none, none, none]) (xIo 0) :=
  tf_fn rfl (s_asg (x_fz (x_op2 (x_val rfl (x_K1 (xa_io rfl (xa_own (x_op2 (x_op2 (x_val rfl (x_val (e := _) (a := (eD tI) 1) rfl (o_val (add_I _ _) (x_val rfl (o_val (sub_I _ _) (xa_nil (k_call1 rfl rfl rfl (aw_io (aw_own aw_nil)) (t__law_take a_pile_here ((a_most + 1) - a_least)) rfl (fun _ => rfl) (fun _ => rfl) (fun _ ⟨v, h⟩ => ⟨v, _, h, rfl, ⟨rfl, _, rfl⟩⟩) fun r1 => (o_val (add_I _ _) (o_val (fzV fz_sh _) (k_set rfl (n_env (e' := ([some ((eO (eD tI)) r1.2), some ((eD tI) a_least), some ((eD tI) a_most), some ((eD tI) a_many), some ((eD tI) (a_least + r1.1)), none, none, none, none, none, none, none] : AM.Env)) rfl (s_asg (x_op1 (x_val rfl (o_par (rgL_1 _) fun x2 => (k_set rfl (n_env (e' := ([some ((eO (eD tI)) r1.2), some ((eD tI) a_least), some ((eD tI) a_most), some ((eD tI) a_many), some ((eD tI) (a_least + r1.1)), some ((eO (eD tI)) x2), none, none, none, none, none, none] : AM.Env)) rfl (s_asg (x_lst (x_nil (o_val (lst_0 (e := (eD tI))) (k_set rfl (n_env (e' := ([some ((eO (eD tI)) r1.2), some ((eD tI) a_least), some ((eD tI) a_most), some ((eD tI) a_many), some ((eD tI) (a_least + r1.1)), some ((eO (eD tI)) x2), some ((eO (eD tI)) []), none, none, none, none, none] : AM.Env)) rfl (s_wh (fun (s3 : List Int × List Int × List Int) (o4 : Unit) => ([some ((eO (eD tI)) s3.1), some ((eD tI) a_least), some ((eD tI) a_most), some ((eD tI) a_many), some ((eD tI) (a_least + r1.1)), some ((eO (eD tI)) s3.2.1), some ((eO (eD tI)) s3.2.2), none, none, none, none, none] : AM.Env)) (r1.2, x2, []) () rfl (fun s3 o4 => (x_all (x_B (x_op2 (x_val rfl (x_lst (x_nil (o_val (lst_0 (e := (eD tI))) (o_val (gNe_p (pl_L pl_I) rfl (fz_ol fz_sh) (fz_ol fz_sh) _ _) (o_val (bl_B _) (e_end () rfl rfl))))))))))) (fun s3 o4 => (s_last (s_drop (x_in (chk_ol rfl rfl) (x_cons (x_in (chk_ol rfl rfl) (x_cons (x_K1 (xa_io rfl (xa_own (x_bi (x_cons (x_val rfl (x_nil (o_val (len_ol _) (xa_nil (k_call1 rfl rfl rfl (aw_io (aw_own aw_nil)) (t__law_take s3.1 ((s3.2.1.length : Nat) : Int)) rfl (fun _ => rfl) (fun _ => rfl) (fun _ ⟨v, h⟩ => ⟨v, _, h, rfl, ⟨rfl, _, rfl⟩⟩) fun r5 => (x_nil (i_popAt (el := (eD tI)) rfl (fun _ => rfl) fun x6 => (x_nil (i_app (el := (eD tI)) rfl (fun _ => rfl) fun x7 => (n_go () rfl)))))))))))))))))))))) fun s3 o4 => (n_env (e' := ([some ((eO (eD tI)) s3.1), some ((eD tI) a_least), some ((eD tI) a_most), some ((eD tI) a_many), some ((eD tI) (a_least + r1.1)), some ((eO (eD tI)) s3.2.1), some ((eO (eD tI)) s3.2.2), none, none, none, none, none] : AM.Env)) rfl (s_asg (x_lst (x_nil (o_val (lst_0 (e := (eD (t2 tI tI)))) (k_set rfl (n_env (e' := ([some ((eO (eD tI)) s3.1), some ((eD tI) a_least), some ((eD tI) a_most), some ((eD tI) a_many), some ((eD tI) (a_least + r1.1)), some ((eO (eD tI)) s3.2.1), some ((eO (eD tI)) s3.2.2), some ((eO (eD (t2 tI tI))) []), none, none, none, none] : AM.Env)) rfl (s_for (x_itR (x_cons (x_val (e := _) (a := (eD tI) 1) rfl (x_cons (x_val rfl (x_nil (o_par (rg_2 _ _) fun x8 => (k_for (fun (s10 : List Int × (List (Int × Int))) (o11 : Option W × Option W × Option W × Unit) => ([some ((eO (eD tI)) s10.1), some ((eD tI) a_least), some ((eD tI) a_most), some ((eD tI) a_many), some ((eD tI) (a_least + r1.1)), some ((eO (eD tI)) s3.2.1), some ((eO (eD tI)) s3.2.2), some ((eO (eD (t2 tI tI))) s10.2), o11.1, none, o11.2.1, o11.2.2.1] : AM.Env)) (s3.1, []) (_, _, _, ()) rfl rfl (fun x9 s10 o11 => (k_set rfl (s_par (x_cons (x_sh (x_ix (x_val rfl (x_val rfl (o_par (ix_ol _ _) fun x12 => (o_val rfl (x_cons (x_fz (x_ixI rfl (x_K1 (xa_io rfl (xa_own (x_val rfl (xa_nil (k_call1 rfl rfl rfl (aw_io (aw_own aw_nil)) (t__law_take s10.1 x9) rfl (fun _ => rfl) (fun _ => rfl) (fun _ ⟨v, h⟩ => ⟨v, _, h, rfl, ⟨rfl, _, rfl⟩⟩) fun r13 => (k_ixO rfl (fun _ => rfl) fun x14 => (o_val (fzV fz_sh _) (x_nil (k_par rfl rfl (n_env (e' := ([some ((eO (eD tI)) r13.2), some ((eD tI) a_least), some ((eD tI) a_most), some ((eD tI) a_many), some ((eD tI) (a_least + r1.1)), some ((eO (eD tI)) s3.2.1), some ((eO (eD tI)) s3.2.2), some ((eO (eD (t2 tI tI))) s10.2), some ((eD tI) x9), none, some ((eD tI) x12), some ((eD tI) x14)] : AM.Env)) rfl (s_last (s_drop (x_in (chk_ol rfl rfl) (x_cons (x_tup (x_cons (x_bi (x_cons (x_val rfl (x_cons (x_val rfl (x_nil (o_val (min_2 _ _) (x_cons (x_bi (x_cons (x_val rfl (x_cons (x_val rfl (x_nil (o_val (max_2 _ _) (x_nil (o_val (a := (eD (t2 tI tI)) ((min2 x12 x14), (max2 x12 x14))) rfl (x_nil (i_app (el := (eD (t2 tI tI))) rfl (fun _ => rfl) fun x15 => (n_go (_, _, _, ()) rfl)))))))))))))))))))))))))))))))))))))))))))))))))) fun s10 o11 => (n_env (e' := ([some ((eO (eD tI)) s10.1), some ((eD tI) a_least), some ((eD tI) a_most), some ((eD tI) a_many), some ((eD tI) (a_least + r1.1)), some ((eO (eD tI)) s3.2.1), some ((eO (eD tI)) s3.2.2), some ((eO (eD (t2 tI tI))) s10.2), o11.1, none, o11.2.1, o11.2.2.1] : AM.Env)) rfl (s_sub (fun (s24 : List Int × (List (Int × Int))) (o25 : Option W × Option W × Unit) => ([some ((eO (eD tI)) s24.1), some ((eD tI) a_least), some ((eD tI) a_most), some ((eD tI) a_many), some ((eD tI) (a_least + r1.1)), some ((eO (eD tI)) s3.2.1), some ((eO (eD tI)) s3.2.2), some ((eO (eD (t2 tI tI))) s24.2), o25.1, none, o25.2.1, o11.2.2.1] : AM.Env)) (s_last (s_if (x_B (x_op2 (x_val rfl (x_val (e := _) (a := (eD tI) 1) rfl (o_val (gt_I _ _) (o_val (bl_B _) (k_if (s_for (x_itR (x_cons (x_K1 (xa_io rfl (xa_own (x_op2 (x_op2 (x_val rfl (x_val (e := _) (a := (eD tI) 2) rfl (o_val (add_I _ _) (x_val rfl (o_val (sub_I _ _) (xa_nil (k_call1 rfl rfl rfl (aw_io (aw_own aw_nil)) (t__law_take s10.1 ((a_many + 2) - (a_least + r1.1))) rfl (fun _ => rfl) (fun _ => rfl) (fun _ ⟨v, h⟩ => ⟨v, _, h, rfl, ⟨rfl, _, rfl⟩⟩) fun r16 => (x_nil (o_par (rg_1 _) fun x17 => (k_for (fun (s19 : List Int × (List (Int × Int))) (o20 : Option W × Option W × Unit) => ([some ((eO (eD tI)) s19.1), some ((eD tI) a_least), some ((eD tI) a_most), some ((eD tI) a_many), some ((eD tI) (a_least + r1.1)), some ((eO (eD tI)) s3.2.1), some ((eO (eD tI)) s3.2.2), some ((eO (eD (t2 tI tI))) s19.2), o20.1, none, o20.2.1, o11.2.2.1] : AM.Env)) (r16.2, s10.2) (_, _, ()) rfl rfl (fun x18 s19 o20 => (k_set rfl (s_asg (x_fz (x_K1 (xa_io rfl (xa_own (x_op2 (x_val rfl (x_val (e := _) (a := (eD tI) 1) rfl (o_val (sub_I _ _) (xa_nil (k_call1 rfl rfl rfl (aw_io (aw_own aw_nil)) (t__law_take s19.1 ((a_least + r1.1) - 1)) rfl (fun _ => rfl) (fun _ => rfl) (fun _ ⟨v, h⟩ => ⟨v, _, h, rfl, ⟨rfl, _, rfl⟩⟩) fun r21 => (o_val (fzV fz_sh _) (k_set rfl (n_env (e' := ([some ((eO (eD tI)) r21.2), some ((eD tI) a_least), some ((eD tI) a_most), some ((eD tI) a_many), some ((eD tI) (a_least + r1.1)), some ((eO (eD tI)) s3.2.1), some ((eO (eD tI)) s3.2.2), some ((eO (eD (t2 tI tI))) s19.2), some ((eD tI) x18), none, some ((eD tI) r21.1), o11.2.2.1] : AM.Env)) rfl (s_last (s_drop (x_in (chk_ol rfl rfl) (x_cons (x_tup (x_cons (x_val rfl (x_cons (x_op2 (x_op2 (x_val rfl (x_val (e := _) (a := (eD tI) 1) rfl (o_val (add_I _ _) (x_K1 (xa_io rfl (xa_own (x_op2 (x_op2 (x_val rfl (x_val (e := _) (a := (eD tI) 1) rfl (o_val (sub_I _ _) (x_val rfl (o_val (sub_I _ _) (xa_nil (k_call1 rfl rfl rfl (aw_io (aw_own aw_nil)) (t__law_take r21.2 (((a_least + r1.1) - 1) - r21.1)) rfl (fun _ => rfl) (fun _ => rfl) (fun _ ⟨v, h⟩ => ⟨v, _, h, rfl, ⟨rfl, _, rfl⟩⟩) fun r22 => (o_val (add_I _ _) (x_nil (o_val (a := (eD (t2 tI tI)) (r21.1, ((r21.1 + 1) + r22.1))) rfl (x_nil (i_app (el := (eD (t2 tI tI))) rfl (fun _ => rfl) fun x23 => (n_go (_, _, ()) rfl))))))))))))))))))))))))))))))))))))))))))))))) fun s19 o20 => (n_go (_, _, ()) rfl))))))))))))))))))) (s_nx (n_go (_, _, ()) rfl))))))))))) fun s24 o25 => (n_env (e' := ([some ((eO (eD tI)) s24.1), some ((eD tI) a_least), some ((eD tI) a_most), some ((eD tI) a_many), some ((eD tI) (a_least + r1.1)), some ((eO (eD tI)) s3.2.1), some ((eO (eD tI)) s3.2.2), some ((eO (eD (t2 tI tI))) s24.2), o25.1, none, o25.2.1, o11.2.2.1] : AM.Env)) rfl (s_asg (x_lst (x_nil (o_val (lst_0 (e := (eD (t2 tI tI)))) (k_set rfl (n_env (e' := ([some ((eO (eD tI)) s24.1), some ((eD tI) a_least), some ((eD tI) a_most), some ((eD tI) a_many), some ((eD tI) (a_least + r1.1)), some ((eO (eD tI)) s3.2.1), some ((eO (eD tI)) s3.2.2), some ((eO (eD (t2 tI tI))) s24.2), o25.1, some ((eO (eD (t2 tI tI))) []), o25.2.1, o11.2.2.1] : AM.Env)) rfl (s_wh (fun (s26 : List Int × (List (Int × Int)) × (List (Int × Int))) (o27 : Unit) => ([some ((eO (eD tI)) s26.1), some ((eD tI) a_least), some ((eD tI) a_most), some ((eD tI) a_many), some ((eD tI) (a_least + r1.1)), some ((eO (eD tI)) s3.2.1), some ((eO (eD tI)) s3.2.2), some ((eO (eD (t2 tI tI))) s26.2.1), o25.1, some ((eO (eD (t2 tI tI))) s26.2.2), o25.2.1, o11.2.2.1] : AM.Env)) (s24.1, s24.2, []) () rfl (fun s26 o27 => (x_all (x_B (x_op2 (x_val rfl (x_lst (x_nil (o_val (lst_0 (e := (eD (t2 tI tI)))) (o_val (gNe_p (pl_L (pl_2 pl_I pl_I)) rfl (fz_ol fz_sh) (fz_ol fz_sh) _ _) (o_val (bl_B _) (e_end () rfl rfl))))))))))) (fun s26 o27 => (s_last (s_drop (x_in (chk_ol rfl rfl) (x_cons (x_in (chk_ol rfl rfl) (x_cons (x_K1 (xa_io rfl (xa_own (x_bi (x_cons (x_val rfl (x_nil (o_val (len_ol _) (xa_nil (k_call1 rfl rfl rfl (aw_io (aw_own aw_nil)) (t__law_take s26.1 ((s26.2.1.length : Nat) : Int)) rfl (fun _ => rfl) (fun _ => rfl) (fun _ ⟨v, h⟩ => ⟨v, _, h, rfl, ⟨rfl, _, rfl⟩⟩) fun r28 => (x_nil (i_popAt (el := (eD (t2 tI tI))) rfl (fun _ => rfl) fun x29 => (x_nil (i_app (el := (eD (t2 tI tI))) rfl (fun _ => rfl) fun x30 => (n_go () rfl)))))))))))))))))))))) fun s26 o27 => (n_env (e' := ([some ((eO (eD tI)) s26.1), some ((eD tI) a_least), some ((eD tI) a_most), some ((eD tI) a_many), some ((eD tI) (a_least + r1.1)), some ((eO (eD tI)) s3.2.1), some ((eO (eD tI)) s3.2.2), some ((eO (eD (t2 tI tI))) s26.2.1), o25.1, some ((eO (eD (t2 tI tI))) s26.2.2), o25.2.1, o11.2.2.1] : AM.Env)) rfl (s_last (s_ret (x_tup (x_cons (x_val rfl (x_cons (x_val rfl (x_nil (o_val (a := (o2 (eD tI) (eO (eD (t2 tI tI)))) ((a_least + r1.1), s26.2.2)) rfl (n_ret ⟨rfl, rfl, rfl⟩))))))))))))))))))))))))))))))))))))))))))))))))))))))))))))))))))))))
def p__law_number (a_pile_here : List Int) : X (Int × List Int) :=
  X.bind (p__law_take a_pile_here 8) fun r1 => if (decide (r1.1 < 2)) = true then (X.bind (X.ofO (rg1 7)) fun x2 => X.bind (X.forP (fun (x3 : Int) (s4 : List Int × Int) => X.bind (X.ofO (mulO  s4.2 100000)) fun x6 => X.bind (p__law_take s4.1 100000) fun r7 => X.ok (r7.2, (x6 + r7.1))) x2 (r1.2, 0)) fun (s4 : List Int × Int) => X.bind (X.ofO (at_  [s4.2, (-s4.2)] r1.1)) fun x8 => X.ok (x8, s4.1)) else X.bind (X.ofO (at_  [9, 25] (r1.1 % 2))) fun x9 => X.bind (p__law_take r1.2 x9) fun r10 => X.bind (X.ofO (at_  [3, 12] (r1.1 % 2))) fun x11 => X.ok ((r10.1 - x11), r10.2)
theorem t__law_number (a_pile_here : List Int) : TF (m__law_number [(eO (eD tI)) a_pile_here]) (p__law_number a_pile_here) (fun r => (eD tI) r.1) (fun r => [some ((eO (eD tI)) r.2)]) (xIo 0) :=
  tf_fn rfl (s_asg (x_fz (x_K1 (xa_io rfl (xa_own (x_val (e := _) (a := (eD tI) 8) rfl (xa_nil (k_call1 rfl rfl rfl (aw_io (aw_own aw_nil)) (t__law_take a_pile_here 8) rfl (fun _ => rfl) (fun _ => rfl) (fun _ ⟨v, h⟩ => ⟨v, _, h, rfl, ⟨rfl, _, rfl⟩⟩) fun r1 => (o_val (fzV fz_sh _) (k_set rfl (n_env (e' := ([some ((eO (eD tI)) r1.2), some ((eD tI) r1.1), none, none] : AM.Env)) rfl (s_if (x_B (x_op2 (x_val rfl (x_val (e := _) (a := (eD tI) 2) rfl (o_val (lt_I _ _) (o_val (bl_B _) (k_if (s_assoc (s_asg (x_val (e := _) (a := (eD tI) 0) rfl (k_set rfl (s_assoc (s_for (x_itR (x_cons (x_val (e := _) (a := (eD tI) 7) rfl (x_nil (o_par (rg_1 _) fun x2 => (k_for (fun (s4 : List Int × Int) (o5 : Option W × Unit) => ([some ((eO (eD tI)) s4.1), some ((eD tI) r1.1), some ((eD tI) s4.2), o5.1] : AM.Env)) (r1.2, 0) (_, ()) rfl rfl (fun x3 s4 o5 => (k_set rfl (s_last (s_asg (x_fz (x_op2 (x_op2 (x_val rfl (x_op2 (x_val (e := _) (a := (eD tI) 10) rfl (x_val (e := _) (a := (eD tI) 5) rfl (o_val (a := (eD tI) 100000) (pow_c (by decide +kernel) (by decide +kernel)) (o_par (mul_I _ _) fun x6 => (x_K1 (xa_io rfl (xa_own (x_op2 (x_val (e := _) (a := (eD tI) 10) rfl (x_val (e := _) (a := (eD tI) 5) rfl (o_val (a := (eD tI) 100000) (pow_c (by decide +kernel) (by decide +kernel)) (xa_nil (k_call1 rfl rfl rfl (aw_io (aw_own aw_nil)) (t__law_take s4.1 100000) rfl (fun _ => rfl) (fun _ => rfl) (fun _ ⟨v, h⟩ => ⟨v, _, h, rfl, ⟨rfl, _, rfl⟩⟩) fun r7 => (o_val (add_I _ _) (o_val (fzV fz_sh _) (k_set rfl (n_go (_, ()) rfl)))))))))))))))))))))))))) fun s4 o5 => (s_ret (x_ix (x_lst (x_cons (x_val rfl (x_cons (x_op1 (x_val rfl (o_val (neg_I _) (x_nil (o_val (lst_2 (e := (eD tI))) (x_val rfl (o_par (ix_ol _ _) fun x8 => (n_ret ⟨rfl, rfl, rfl⟩)))))))))))))))))))))))))) (s_nx (s_last (s_ret (x_op2 (x_K1 (xa_io rfl (xa_own (x_fz (x_ix (x_lst (x_cons (x_val (e := _) (a := (eD tI) 9) rfl (x_cons (x_val (e := _) (a := (eD tI) 25) rfl (x_nil (o_val (lst_2 (e := (eD tI))) (x_op2 (x_val rfl (x_val (e := _) (a := (eD tI) 2) rfl (o_val (mod_c (by decide +kernel)) (o_par (ix_ol _ _) fun x9 => (o_val (fzV fz_sh _) (xa_nil (k_call1 rfl rfl rfl (aw_io (aw_own aw_nil)) (t__law_take r1.2 x9) rfl (fun _ => rfl) (fun _ => rfl) (fun _ ⟨v, h⟩ => ⟨v, _, h, rfl, ⟨rfl, _, rfl⟩⟩) fun r10 => (x_ix (x_lst (x_cons (x_val (e := _) (a := (eD tI) 3) rfl (x_cons (x_val (e := _) (a := (eD tI) 12) rfl (x_nil (o_val (lst_2 (e := (eD tI))) (x_op2 (x_val rfl (x_val (e := _) (a := (eD tI) 2) rfl (o_val (mod_c (by decide +kernel)) (o_par (ix_ol _ _) fun x11 => (o_val (sub_I _ _) (n_ret ⟨rfl, rfl, rfl⟩))))))))))))))))))))))))))))))))))))))))))))))))))))))))))
def p__law_numbers (a_pile_here : List Int) (a_n : Int) : X (List Int × List Int) :=
  X.bind (p__law_take a_pile_here 3) fun r1 => if (decide (0 < r1.1)) = true then (X.bind (X.ofO (rg1 a_n)) fun x2 => X.bind (X.lcSX (fun (x5 : Int) (s3 : List Int) => X.bind (X.nx (p__law_take s3 9)) fun r6 => X.ok ((r6.1 - 3), r6.2)) x2 r1.2) fun x7 => X.ok (x7.1, x7.2)) else X.bind (X.ofO (rg1 a_n)) fun x8 => X.bind (X.lcSX (fun (x11 : Int) (s9 : List Int) => X.bind (X.nx (p__law_number s9)) fun r12 => X.ok (r12.1, r12.2)) x8 r1.2) fun x13 => X.ok (x13.1, x13.2)
theorem t__law_numbers (a_pile_here : List Int) (a_n : Int) : TF (m__law_numbers [(eO (eD tI)) a_pile_here, (eD tI) a_n]) (p__law_numbers a_pile_here a_n) (fun r => (eO (eD tI)) r.1) (fun r => [some ((eO (eD tI)) r.2), none]) (xIo 0) :=
  tf_fn rfl (s_asg (x_op2 (x_K1 (xa_io rfl (xa_own (x_val (e := _) (a := (eD tI) 3) rfl (xa_nil (k_call1 rfl rfl rfl (aw_io (aw_own aw_nil)) (t__law_take a_pile_here 3) rfl (fun _ => rfl) (fun _ => rfl) (fun _ ⟨v, h⟩ => ⟨v, _, h, rfl, ⟨rfl, _, rfl⟩⟩) fun r1 => (x_val (e := _) (a := (eD tI) 0) rfl (o_val (gt_I _ _) (k_set rfl (n_env (e' := ([some ((eO (eD tI)) r1.2), some ((eD tI) a_n), some ((eD tB) (decide (0 < r1.1))), none] : AM.Env)) rfl (s_if (x_B (x_val rfl (o_val (bl_B _) (k_if (s_ret (x_cs (x_itR (x_cons (x_val rfl (x_nil (o_par (rg_1 _) fun x2 => (k_cs (en := (eD tI)) (fun (s3 : List Int) (o4 : Unit) => ([some ((eO (eD tI)) s3), some ((eD tI) a_n), some ((eD tB) (decide (0 < r1.1))), none] : AM.Env)) (fun (s3 : List Int) (o4 : Option W × Unit) => ([some ((eO (eD tI)) s3), some ((eD tI) a_n), some ((eD tB) (decide (0 < r1.1))), o4.1] : AM.Env)) (fun x5 s3 o4 => ([some ((eO (eD tI)) s3), some ((eD tI) a_n), some ((eD tB) (decide (0 < r1.1))), some ((eD tI) x5)] : AM.Env)) r1.2 () rfl rfl (fun _ _ _ => rfl) (fun _ _ => ⟨(), rfl⟩) (fun x5 s3 o4 => (x_all (x_op2 (x_K1 (xa_io rfl (xa_own (x_val (e := _) (a := (eD tI) 9) rfl (xa_nil (k_call1n rfl rfl rfl (aw_io (aw_own aw_nil)) (t__law_take s3 9) rfl (fun _ => rfl) (fun _ => rfl) fun r6 => (x_val (e := _) (a := (eD tI) 3) rfl (o_val (sub_I _ _) (e_end (_, ()) rfl rfl)))))))))))) fun x7 _ => (n_ret ⟨rfl, rfl, rfl⟩))))))))) (s_nx (s_last (s_ret (x_cs (x_itR (x_cons (x_val rfl (x_nil (o_par (rg_1 _) fun x8 => (k_cs (en := (eD tI)) (fun (s9 : List Int) (o10 : Unit) => ([some ((eO (eD tI)) s9), some ((eD tI) a_n), some ((eD tB) (decide (0 < r1.1))), none] : AM.Env)) (fun (s9 : List Int) (o10 : Option W × Unit) => ([some ((eO (eD tI)) s9), some ((eD tI) a_n), some ((eD tB) (decide (0 < r1.1))), o10.1] : AM.Env)) (fun x11 s9 o10 => ([some ((eO (eD tI)) s9), some ((eD tI) a_n), some ((eD tB) (decide (0 < r1.1))), some ((eD tI) x11)] : AM.Env)) r1.2 () rfl rfl (fun _ _ _ => rfl) (fun _ _ => ⟨(), rfl⟩) (fun x11 s9 o10 => (x_all (x_K1 (xa_io rfl (xa_nil (k_call1n rfl rfl rfl (aw_io aw_nil) (t__law_number s9) rfl (fun _ => rfl) (fun _ => rfl) fun r12 => (e_end (_, ()) rfl rfl))))))) fun x13 _ => (n_ret ⟨rfl, rfl, rfl⟩))))))))))))))))))))))))))))
def p_look_at_dues (a_web : Int × (List (Int × Int))) (a_dues : List Int) : X Unit :=
  if (!decide (((a_dues.length : Nat) : Int) = a_web.1)) = true then (X.ex ⟨"NoDues", []⟩) else X.ok ()
theorem t_look_at_dues (a_web : Int × (List (Int × Int))) (a_dues : List Int) : TF (m_look_at_dues [(eD (t2 tI (tL (t2 tI tI)))) a_web, (eD (tL tI)) a_dues]) (p_look_at_dues a_web a_dues) (fun r => (eD tN) r) (fun r => [none, none]) xAny :=
  tf_fn rfl (s_last (s_if (x_B (x_op2 (x_bi (x_cons (x_val rfl (x_nil (o_val (len_sh _) (x_ix (x_val rfl (x_val (e := _) (a := (eD tI) 0) rfl (o_val (a := (eD tI) a_web.1) rfl (o_val (gNe_p pl_I rfl fz_sh fz_sh _ _) (o_val (bl_B _) (k_if (s_raise ⟨rfl, trivial⟩) (s_nx (n_goF ⟨rfl, rfl, rfl⟩))))))))))))))))))
def p_look_at_place (a_web : Int × (List (Int × Int))) (a_place : Int) : X Unit :=
  if ((decide (a_place < 0)) || (decide (a_web.1 ≤ a_place))) = true then (X.bad) else X.ok ()
theorem t_look_at_place (a_web : Int × (List (Int × Int))) (a_place : Int) : TF (m_look_at_place [(eD (t2 tI (tL (t2 tI tI)))) a_web, (eD tI) a_place]) (p_look_at_place a_web a_place) (fun r => (eD tN) r) (fun r => [none, none]) xAny :=
  tf_fn rfl (s_last (s_if (x_or (x_B (x_op2 (x_val rfl (x_val (e := _) (a := (eD tI) 0) rfl (o_val (lt_I _ _) (o_val (bl_B _) (k_or (v_of (x_all (x_B (x_op2 (x_val rfl (x_ix (x_val rfl (x_val (e := _) (a := (eD tI) 0) rfl (o_val (a := (eD tI) a_web.1) rfl (o_val (ge_I _ _) (o_val (bl_B _) (e_end () rfl rfl)))))))))))) (k_if (Jd.non _ _) (s_nx (n_goF ⟨rfl, rfl, rfl⟩)))))))))))))
def p_near_of (a_web : Int × (List (Int × Int))) : X (List (List Int)) :=
  X.bind (X.ofO (rg1 a_web.1)) fun x1 => X.bind (X.lcX (fun (x2 : Int) => X.ok true) (fun (x2 : Int) => X.bind (X.ofO (repO  [0] a_web.1)) fun x4 => X.ok x4) x1) fun x3 => X.bind (X.forP (fun (x5 : Int × Int) (s6 : List (List Int)) => X.bind (X.ofO (ixO s6 x5.1)) fun q8 => X.bind (X.ofO (updO q8.2 x5.2 fun x => x + 1)) fun x9 => X.bind (X.ofO (ixO (List.set s6 q8.1 x9) x5.2)) fun q10 => X.bind (X.ofO (updO q10.2 x5.1 fun x => x + 1)) fun x11 => X.ok (List.set (List.set s6 q8.1 x9) q10.1 x11)) a_web.2 x3) fun (s6 : List (List Int)) => X.ok s6
theorem t_near_of (a_web : Int × (List (Int × Int))) : TF (m_near_of [(eD (t2 tI (tL (t2 tI tI)))) a_web]) (p_near_of a_web) (fun r => (eO (eO (eD tI))) r) (fun r => [none]) xAny :=
  tf_fn rfl (s_asg (x_val rfl (k_G rfl (n_env (e' := ([some ((eD (t2 tI (tL (t2 tI tI)))) a_web), none, some ((eD tI) a_web.1), some ((eD (tL (t2 tI tI))) a_web.2), none, none, none] : AM.Env)) rfl (s_asg (x_cp (x_itR (x_cons (x_val rfl (x_nil (o_par (rg_1 _) fun x1 => (k_cpX (en := (eO (eD tI))) rfl (fun _ => rfl) (fun x2 => e_true) (fun x2 => (x_all (x_op2 (x_lst (x_cons (x_val (e := _) (a := (eD tI) 0) rfl (x_nil (o_val (lst_1 (e := (eD tI))) (x_val rfl (o_par (rep_L le_ol _ _) fun x4 => (e_end () rfl rfl))))))))))) fun x3 => (k_set rfl (n_env (e' := ([some ((eD (t2 tI (tL (t2 tI tI)))) a_web), some ((eO (eO (eD tI))) x3), some ((eD tI) a_web.1), some ((eD (tL (t2 tI tI))) a_web.2), none, none, none] : AM.Env)) rfl (s_for (x_itL (x_val rfl (o_val (le_sh _) (k_for (fun (s6 : List (List Int)) (o7 : Option W × Option W × Unit) => ([some ((eD (t2 tI (tL (t2 tI tI)))) a_web), some ((eO (eO (eD tI))) s6), some ((eD tI) a_web.1), some ((eD (tL (t2 tI tI))) a_web.2), o7.1, o7.2.1, none] : AM.Env)) x3 (_, _, ()) rfl rfl (fun x5 s6 o7 => (k_G rfl (p_ix rfl (v_of (x_all (x_val rfl (e_end () rfl rfl)))) rfl fun jq8 xq8 hlq8 hgq8 hsq8 => (s_augI hlq8 (v_of (x_all (x_val rfl (e_end () rfl rfl)))) hgq8 (v_of (x_all (x_val (e := _) (a := (eD tI) 1) rfl (e_end () rfl rfl)))) (fun y => (hsq8 y).trans ((fun _ => rfl) _)) fun x9 => (n_env (e' := ([some ((eD (t2 tI (tL (t2 tI tI)))) a_web), some ((eO (eO (eD tI))) (List.set s6 jq8 x9)), some ((eD tI) a_web.1), some ((eD (tL (t2 tI tI))) a_web.2), some ((eD tI) x5.1), some ((eD tI) x5.2), none] : AM.Env)) rfl (s_last (p_ix rfl (v_of (x_all (x_val rfl (e_end () rfl rfl)))) rfl fun jq10 xq10 hlq10 hgq10 hsq10 => (s_augI hlq10 (v_of (x_all (x_val rfl (e_end () rfl rfl)))) hgq10 (v_of (x_all (x_val (e := _) (a := (eD tI) 1) rfl (e_end () rfl rfl)))) (fun y => (hsq10 y).trans ((fun _ => rfl) _)) fun x11 => (n_go (_, _, ()) rfl))))))))) fun s6 o7 => (n_env (e' := ([some ((eD (t2 tI (tL (t2 tI tI)))) a_web), some ((eO (eO (eD tI))) s6), some ((eD tI) a_web.1), some ((eD (tL (t2 tI tI))) a_web.2), o7.1, o7.2.1, none] : AM.Env)) rfl (s_last (s_ret (x_val rfl (n_ret ⟨rfl, rfl, rfl⟩))))))))))))))))))))))))
def p_Bringing_init (a_self : Unit) (a_web : Int × (List (Int × Int))) (a_dues : List Int) (a_place : Int) : X (Unit × ((Int × (List (Int × Int))) × List (List Int) × Int × List Int × List Int)) :=
  X.bind (p_near_of a_web) fun r1 => X.bind (X.ofO (repO  [0] a_web.1)) fun x2 => X.ok ((), (a_web, r1, a_place, a_dues, x2))
theorem t_Bringing_init (a_self : Unit) (a_web : Int × (List (Int × Int))) (a_dues : List Int) (a_place : Int) : TF (m_Bringing_init [(eB "Bringing" [] w0) a_self, (eD (t2 tI (tL (t2 tI tI)))) a_web, (eD (tL tI)) a_dues, (eD tI) a_place]) (p_Bringing_init a_self a_web a_dues a_place) (fun r => (eD tN) r.1) (fun r => [some ((eB "Bringing" fs_Bringing (wc (eD (t2 tI (tL (t2 tI tI)))) (wc (eO (eO (eD tI))) (wc (eD tI) (wc (eO (eD tI)) (w1 (eO (eD tI)))))))) r.2), none, none, none]) (xIo 0) :=
  tf_fn rfl (s_setO (x_val rfl (k_setO (e' := ([some ((eB "Bringing" ["web"] (w1 (eD (t2 tI (tL (t2 tI tI)))))) a_web), some ((eD (t2 tI (tL (t2 tI tI)))) a_web), some ((eD (tL tI)) a_dues), some ((eD tI) a_place)] : AM.Env)) rfl rfl gFn_ok rfl (n_env (e' := ([some ((eB "Bringing" ["web"] (w1 (eD (t2 tI (tL (t2 tI tI)))))) a_web), some ((eD (t2 tI (tL (t2 tI tI)))) a_web), some ((eD (tL tI)) a_dues), some ((eD tI) a_place)] : AM.Env)) rfl (s_setO (x_K0 (xa_own (x_val rfl (xa_nil (k_call0 (aw_own aw_nil) (t_near_of a_web) rfl rfl ⟨rfl, _, rfl⟩ fun r1 => (k_setO (e' := ([some ((eB "Bringing" ["web", "near"] (wc (eD (t2 tI (tL (t2 tI tI)))) (w1 (eO (eO (eD tI)))))) (a_web, r1)), some ((eD (t2 tI (tL (t2 tI tI)))) a_web), some ((eD (tL tI)) a_dues), some ((eD tI) a_place)] : AM.Env)) rfl rfl gFn_ok rfl (n_env (e' := ([some ((eB "Bringing" ["web", "near"] (wc (eD (t2 tI (tL (t2 tI tI)))) (w1 (eO (eO (eD tI)))))) (a_web, r1)), some ((eD (t2 tI (tL (t2 tI tI)))) a_web), some ((eD (tL tI)) a_dues), some ((eD tI) a_place)] : AM.Env)) rfl (s_setO (x_val rfl (k_setO (e' := ([some ((eB "Bringing" ["web", "near", "place"] (wc (eD (t2 tI (tL (t2 tI tI)))) (wc (eO (eO (eD tI))) (w1 (eD tI))))) (a_web, r1, a_place)), some ((eD (t2 tI (tL (t2 tI tI)))) a_web), some ((eD (tL tI)) a_dues), some ((eD tI) a_place)] : AM.Env)) rfl rfl gFn_ok rfl (n_env (e' := ([some ((eB "Bringing" ["web", "near", "place"] (wc (eD (t2 tI (tL (t2 tI tI)))) (wc (eO (eO (eD tI))) (w1 (eD tI))))) (a_web, r1, a_place)), some ((eD (t2 tI (tL (t2 tI tI)))) a_web), some ((eD (tL tI)) a_dues), some ((eD tI) a_place)] : AM.Env)) rfl (s_setO (x_bi (x_cons (x_val rfl (x_nil (o_val (list_L le_sh _) (k_setO (e' := ([some ((eB "Bringing" ["web", "near", "place", "dues"] (wc (eD (t2 tI (tL (t2 tI tI)))) (wc (eO (eO (eD tI))) (wc (eD tI) (w1 (eO (eD tI))))))) (a_web, r1, a_place, a_dues)), some ((eD (t2 tI (tL (t2 tI tI)))) a_web), some ((eD (tL tI)) a_dues), some ((eD tI) a_place)] : AM.Env)) rfl rfl gFn_ok rfl (n_env (e' := ([some ((eB "Bringing" ["web", "near", "place", "dues"] (wc (eD (t2 tI (tL (t2 tI tI)))) (wc (eO (eO (eD tI))) (wc (eD tI) (w1 (eO (eD tI))))))) (a_web, r1, a_place, a_dues)), some ((eD (t2 tI (tL (t2 tI tI)))) a_web), some ((eD (tL tI)) a_dues), some ((eD tI) a_place)] : AM.Env)) rfl (s_last (s_setO (x_op2 (x_lst (x_cons (x_val (e := _) (a := (eD tI) 0) rfl (x_nil (o_val (lst_1 (e := (eD tI))) (x_ix (x_val rfl (x_val (e := _) (a := (eD tI) 0) rfl (o_val (a := (eD tI) a_web.1) rfl (o_par (rep_L le_ol _ _) fun x2 => (k_setO (e' := ([some ((eB "Bringing" fs_Bringing (wc (eD (t2 tI (tL (t2 tI tI)))) (wc (eO (eO (eD tI))) (wc (eD tI) (wc (eO (eD tI)) (w1 (eO (eD tI)))))))) (a_web, r1, a_place, a_dues, x2)), some ((eD (t2 tI (tL (t2 tI tI)))) a_web), some ((eD (tL tI)) a_dues), some ((eD tI) a_place)] : AM.Env)) rfl rfl gFn_ok rfl (n_goF ⟨rfl, rfl, rfl⟩)))))))))))))))))))))))))))))))))))))))
def p_look_at_times (a_web : Int × (List (Int × Int))) (a_times : List Int) : X Unit :=
  if (!decide (((a_times.length : Nat) : Int) = a_web.1)) = true then (X.ex ⟨"NoTimes", []⟩) else X.ok ()
theorem t_look_at_times (a_web : Int × (List (Int × Int))) (a_times : List Int) : TF (m_look_at_times [(eD (t2 tI (tL (t2 tI tI)))) a_web, (eD (tL tI)) a_times]) (p_look_at_times a_web a_times) (fun r => (eD tN) r) (fun r => [none, none]) xAny :=
  tf_fn rfl (s_last (s_if (x_B (x_op2 (x_bi (x_cons (x_val rfl (x_nil (o_val (len_sh _) (x_ix (x_val rfl (x_val (e := _) (a := (eD tI) 0) rfl (o_val (a := (eD tI) a_web.1) rfl (o_val (gNe_p pl_I rfl fz_sh fz_sh _ _) (o_val (bl_B _) (k_if (s_raise ⟨rfl, trivial⟩) (s_nx (n_goF ⟨rfl, rfl, rfl⟩))))))))))))))))))
def p_lent (a_web : Int × (List (Int × Int))) (a_dues : List Int) (a_times : List Int) : X (List Int) :=
  X.bind (p_look_at_dues a_web a_dues) fun r1 => X.bind (p_look_at_times a_web a_times) fun r2 => X.bind (X.forP (fun (x3 : Int × Int) (s4 : List Int) => X.bind (X.ofO (at_  a_times x3.1)) fun x6 => X.bind (X.ofO (at_  a_times x3.2)) fun x7 => X.bind (X.ofO (updO s4 x3.1 fun x => x - (x6 - x7))) fun x8 => X.bind (X.ofO (updO x8 x3.2 fun x => x + (x6 - x7))) fun x9 => X.ok x9) a_web.2 a_dues) fun (s4 : List Int) => X.ok s4
theorem t_lent (a_web : Int × (List (Int × Int))) (a_dues : List Int) (a_times : List Int) : TF (m_lent [(eD (t2 tI (tL (t2 tI tI)))) a_web, (eD (tL tI)) a_dues, (eD (tL tI)) a_times]) (p_lent a_web a_dues a_times) (fun r => (eO (eD tI)) r) (fun r => [none, none, none]) xAny :=
  tf_fn rfl (s_drop (x_K0 (xa_own (x_val rfl (xa_own (x_val rfl (xa_nil (k_call0 (aw_own (aw_own aw_nil)) (t_look_at_dues a_web a_dues) rfl rfl ⟨rfl, trivial⟩ fun r1 => (s_drop (x_K0 (xa_own (x_val rfl (xa_own (x_val rfl (xa_nil (k_call0 (aw_own (aw_own aw_nil)) (t_look_at_times a_web a_times) rfl rfl ⟨rfl, trivial⟩ fun r2 => (s_asg (x_bi (x_cons (x_val rfl (x_nil (o_val (list_L le_sh _) (k_set rfl (n_env (e' := ([some ((eD (t2 tI (tL (t2 tI tI)))) a_web), some ((eD (tL tI)) a_dues), some ((eD (tL tI)) a_times), some ((eO (eD tI)) a_dues), none, none, none] : AM.Env)) rfl (s_for (x_itL (x_ix (x_val rfl (x_val (e := _) (a := (eD tI) 1) rfl (o_val (a := (eD (tL (t2 tI tI))) a_web.2) rfl (o_val (le_sh _) (k_for (fun (s4 : List Int) (o5 : Option W × Option W × Option W × Unit) => ([some ((eD (t2 tI (tL (t2 tI tI)))) a_web), some ((eD (tL tI)) a_dues), some ((eD (tL tI)) a_times), some ((eO (eD tI)) s4), o5.1, o5.2.1, o5.2.2.1] : AM.Env)) a_dues (_, _, _, ()) rfl rfl (fun x3 s4 o5 => (k_G rfl (s_asg (x_op2 (x_ix (x_val rfl (x_val rfl (o_par (ix_sh _ _) fun x6 => (x_ix (x_val rfl (x_val rfl (o_par (ix_sh _ _) fun x7 => (o_val (sub_I _ _) (k_set rfl (n_env (e' := ([some ((eD (t2 tI (tL (t2 tI tI)))) a_web), some ((eD (tL tI)) a_dues), some ((eD (tL tI)) a_times), some ((eO (eD tI)) s4), some ((eD tI) x3.1), some ((eD tI) x3.2), some ((eD tI) (x6 - x7))] : AM.Env)) rfl (s_augI rfl (v_of (x_all (x_val rfl (e_end () rfl rfl)))) rfl (v_of (x_all (x_val rfl (e_end () rfl rfl)))) (fun _ => rfl) fun x8 => (n_env (e' := ([some ((eD (t2 tI (tL (t2 tI tI)))) a_web), some ((eD (tL tI)) a_dues), some ((eD (tL tI)) a_times), some ((eO (eD tI)) x8), some ((eD tI) x3.1), some ((eD tI) x3.2), some ((eD tI) (x6 - x7))] : AM.Env)) rfl (s_last (s_augI rfl (v_of (x_all (x_val rfl (e_end () rfl rfl)))) rfl (v_of (x_all (x_val rfl (e_end () rfl rfl)))) (fun _ => rfl) fun x9 => (n_go (_, _, _, ()) rfl)))))))))))))))))))) fun s4 o5 => (n_env (e' := ([some ((eD (t2 tI (tL (t2 tI tI)))) a_web), some ((eD (tL tI)) a_dues), some ((eD (tL tI)) a_times), some ((eO (eD tI)) s4), o5.1, o5.2.1, o5.2.2.1] : AM.Env)) rfl (s_last (s_ret (x_val rfl (n_ret ⟨rfl, rfl, rfl⟩)))))))))))))))))))))))))))))))))))))
def p_Bringing_ties_to (a_self : (Int × (List (Int × Int))) × List (List Int) × Int × List Int × List Int) (a_place : Int) (a_lot : List Int) : X Int :=
  X.bind (X.lcX (fun (x1 : Int) => X.ok true) (fun (x1 : Int) => X.bind (X.ofO (at_  a_self.2.1 a_place)) fun x3 => X.bind (X.ofO (at_  x3 x1)) fun x4 => X.ok x4) a_lot) fun x2 => X.ok (List.sum x2)
theorem t_Bringing_ties_to (a_self : (Int × (List (Int × Int))) × List (List Int) × Int × List Int × List Int) (a_place : Int) (a_lot : List Int) : TF (m_Bringing_ties_to [(eD (tO "Bringing" fs_Bringing (dc (t2 tI (tL (t2 tI tI))) (dc (tL (tL tI)) (dc tI (dc (tL tI) (d1 (tL tI)))))))) a_self, (eD tI) a_place, (eD (tL tI)) a_lot]) (p_Bringing_ties_to a_self a_place a_lot) (fun r => (eD tI) r) (fun r => [none, none, none]) xAny :=
  tf_fn rfl (s_last (s_ret (x_bi (x_cons (x_cp (x_itL (x_val rfl (o_val (le_sh _) (k_cpX (en := (eD tI)) rfl (fun _ => rfl) (fun x1 => e_true) (fun x1 => (x_all (x_ix (x_ix (x_op1 (x_val rfl (o_val (a := (eD (tL (tL tI))) a_self.2.1) (fld_ok rfl) (x_val rfl (o_par (ix_sh _ _) fun x3 => (x_val rfl (o_par (ix_sh _ _) fun x4 => (e_end () rfl rfl)))))))))))) fun x2 => (x_nil (o_val (sum_I le_ol _) (n_ret ⟨rfl, rfl, rfl⟩))))))))))))
def p_Bringing_layers (fu : Nat) (a_self : (Int × (List (Int × Int))) × List (List Int) × Int × List Int × List Int) : X (List (List Int) × ((Int × (List (Int × Int))) × List (List Int) × Int × List Int × List Int)) :=
  X.bind (X.whP (fun (s1 : List (List Int) × List Int) => X.ok (decide (((s1.2.length : Nat) : Int) < a_self.1.1))) (fun (s1 : List (List Int) × List Int) => X.bind (X.ofO (rg1 a_self.1.1)) fun x3 => X.bind (X.lcX (fun (x4 : Int) => X.bind (if (!decide (x4 ∈ s1.2)) = true then (X.bind (X.nx (X.bind (X.ofO (ixO s1.1 (-1))) fun q6 => X.bind (X.nx (p_Bringing_ties_to a_self x4 q6.2)) fun r7 => X.ok r7 : X (Int))) fun (y8 : Int) => X.ok (decide (0 < y8))) else X.ok false) fun b9 => X.ok b9) (fun (x4 : Int) => X.ok x4) x3) fun x5 => X.bind (X.ofO (appO s1.1 x5)) fun x10 => X.bind (X.ofO (extO s1.2 x5)) fun x11 => X.ok (x10, x11)) fu ([[a_self.2.2.1]], [a_self.2.2.1])) fun (s1 : List (List Int) × List Int) => X.ok (s1.1, a_self)
theorem t_Bringing_layers (fu : Nat) (a_self : (Int × (List (Int × Int))) × List (List Int) × Int × List Int × List Int) : TF ((m_Bringing_layers fu) [(eB "Bringing" fs_Bringing (wc (eD (t2 tI (tL (t2 tI tI)))) (wc (eO (eO (eD tI))) (wc (eD tI) (wc (eO (eD tI)) (w1 (eO (eD tI)))))))) a_self]) (p_Bringing_layers fu a_self) (fun r => (eO (eD (tL tI))) r.1) (fun r => [some ((eB "Bringing" fs_Bringing (wc (eD (t2 tI (tL (t2 tI tI)))) (wc (eO (eO (eD tI))) (wc (eD tI) (wc (eO (eD tI)) (w1 (eO (eD tI)))))))) r.2)]) (xIo 0) :=
  tf_fn rfl (s_asg (x_lst (x_cons (x_fz (x_lst (x_cons (x_val (pkS_ok (t := tI) (a := a_self.2.2.1) (lFld_ok rfl rfl rfl) rfl) (x_nil (o_val (lst_1 (e := (eD tI))) (o_val (fzV (fz_ol fz_sh) _) (x_nil (o_val (lst_1 (e := (eD (tL tI)))) (k_set rfl (n_env (e' := ([some ((eB "Bringing" fs_Bringing (wc (eD (t2 tI (tL (t2 tI tI)))) (wc (eO (eO (eD tI))) (wc (eD tI) (wc (eO (eD tI)) (w1 (eO (eD tI)))))))) a_self), some ((eO (eD (tL tI))) [[a_self.2.2.1]]), none, none, none] : AM.Env)) rfl (s_asg (x_lst (x_cons (x_val (pkS_ok (t := tI) (a := a_self.2.2.1) (lFld_ok rfl rfl rfl) rfl) (x_nil (o_val (lst_1 (e := (eD tI))) (k_set rfl (n_env (e' := ([some ((eB "Bringing" fs_Bringing (wc (eD (t2 tI (tL (t2 tI tI)))) (wc (eO (eO (eD tI))) (wc (eD tI) (wc (eO (eD tI)) (w1 (eO (eD tI)))))))) a_self), some ((eO (eD (tL tI))) [[a_self.2.2.1]]), some ((eO (eD tI)) [a_self.2.2.1]), none, none] : AM.Env)) rfl (s_wh (fun (s1 : List (List Int) × List Int) (o2 : Option W × Option W × Unit) => ([some ((eB "Bringing" fs_Bringing (wc (eD (t2 tI (tL (t2 tI tI)))) (wc (eO (eO (eD tI))) (wc (eD tI) (wc (eO (eD tI)) (w1 (eO (eD tI)))))))) a_self), some ((eO (eD (tL tI))) s1.1), some ((eO (eD tI)) s1.2), o2.1, o2.2.1] : AM.Env)) ([[a_self.2.2.1]], [a_self.2.2.1]) (_, _, ()) rfl (fun s1 o2 => (x_all (x_B (x_op2 (x_bi (x_cons (x_val rfl (x_nil (o_val (len_ol _) (x_ix (x_val (pkS_ok (t := (t2 tI (tL (t2 tI tI)))) (a := a_self.1) (lFld_ok rfl rfl rfl) rfl) (x_val (e := _) (a := (eD tI) 0) rfl (o_val (a := (eD tI) a_self.1.1) rfl (o_val (lt_I _ _) (o_val (bl_B _) (e_end () rfl rfl)))))))))))))))) (fun s1 o2 => (s_asg (x_fz (x_cp (x_itR (x_cons (x_ix (x_val (pkS_ok (t := (t2 tI (tL (t2 tI tI)))) (a := a_self.1) (lFld_ok rfl rfl rfl) rfl) (x_val (e := _) (a := (eD tI) 0) rfl (o_val (a := (eD tI) a_self.1.1) rfl (x_nil (o_par (rg_1 _) fun x3 => (k_cpX (en := (eD tI)) rfl (fun _ => rfl) (fun x4 => (x_all (x_and (x_B (x_op2 (x_val rfl (x_val rfl (o_val (gNotIn_p pl_I rfl fz_sh (fz_ol fz_sh) _ _) (o_val (bl_B _) (k_andX id (fun (_ : Bool) (_ : Unit) => ([some ((eB "Bringing" fs_Bringing (wc (eD (t2 tI (tL (t2 tI tI)))) (wc (eO (eO (eD tI))) (wc (eD tI) (wc (eO (eD tI)) (w1 (eO (eD tI)))))))) a_self), some ((eO (eD (tL tI))) s1.1), some ((eO (eD tI)) s1.2), o2.1, some ((eD tI) x4)] : AM.Env)) false () (x_all (x_B (x_op2 (x_on (on_ob rfl) (x_nox (fun (y8 : Int) => (eD tI) y8) (fun (y8 : Int) (_ : Unit) => ([some ((eB "Bringing" fs_Bringing (wc (eD (t2 tI (tL (t2 tI tI)))) (wc (eO (eO (eD tI))) (wc (eD tI) (wc (eO (eD tI)) (w1 (eO (eD tI)))))))) a_self), some ((eO (eD (tL tI))) s1.1), some ((eO (eD tI)) s1.2), o2.1, some ((eD tI) x4)] : AM.Env)) (x_all (x_K0 (xa_bor rfl (xa_own (x_val rfl (p_ix rfl (v_of (x_all (x_op1 (x_val (e := _) (a := (eD tI) 1) rfl (o_val (neg_I _) (e_end () rfl rfl)))))) rfl fun jq6 xq6 hlq6 hgq6 hsq6 => (xa_bor hlq6 (xa_nil (k_call0bn (aw_bor (fz_ob (fzl_c fz_sh (fzl_c (fz_ol (fz_ol fz_sh)) (fzl_c fz_sh (fzl_c (fz_ol fz_sh) (fzl_1 (fz_ol fz_sh))))))) rfl (aw_own (aw_bor fz_sh hgq6 aw_nil))) (t_Bringing_ties_to a_self x4 xq6) rfl (fun a => cl_I _) fun r7 => (e_end () rfl rfl)))))))))) fun y8 _ => (x_val (e := _) (a := (eD tI) 0) rfl (o_val (gt_I _ _) (o_val (bl_B _) (e_end () rfl rfl))))))))) rfl rfl fun b9 _ => (e_end () rfl rfl))))))))))) (fun x4 => (x_all (x_val rfl (e_end () rfl rfl)))) fun x5 => (o_val (fzV (fz_ol fz_sh) _) (k_set rfl (n_env (e' := ([some ((eB "Bringing" fs_Bringing (wc (eD (t2 tI (tL (t2 tI tI)))) (wc (eO (eO (eD tI))) (wc (eD tI) (wc (eO (eD tI)) (w1 (eO (eD tI)))))))) a_self), some ((eO (eD (tL tI))) s1.1), some ((eO (eD tI)) s1.2), some ((eD (tL tI)) x5), o2.2.1] : AM.Env)) rfl (s_drop (x_in (chk_ol rfl rfl) (x_cons (x_val rfl (x_nil (i_app (el := (eD (tL tI))) rfl (fun _ => rfl) fun x10 => (n_env (e' := ([some ((eB "Bringing" fs_Bringing (wc (eD (t2 tI (tL (t2 tI tI)))) (wc (eO (eO (eD tI))) (wc (eD tI) (wc (eO (eD tI)) (w1 (eO (eD tI)))))))) a_self), some ((eO (eD (tL tI))) x10), some ((eO (eD tI)) s1.2), some ((eD (tL tI)) x5), o2.2.1] : AM.Env)) rfl (s_last (s_drop (x_in (chk_ol rfl rfl) (x_cons (x_val rfl (x_nil (i_ext (el := (eD tI)) tk_sh rfl (fun _ => rfl) fun x11 => (n_go (_, _, ()) rfl))))))))))))))))))))))))))))))) fun s1 o2 => (n_env (e' := ([some ((eB "Bringing" fs_Bringing (wc (eD (t2 tI (tL (t2 tI tI)))) (wc (eO (eO (eD tI))) (wc (eD tI) (wc (eO (eD tI)) (w1 (eO (eD tI)))))))) a_self), some ((eO (eD (tL tI))) s1.1), some ((eO (eD tI)) s1.2), o2.1, o2.2.1] : AM.Env)) rfl (s_last (s_ret (x_val rfl (n_ret ⟨rfl, rfl, rfl⟩))))))))))))))))))))))))))))
def p_put_together (a_one : List Int) (a_other : List Int) : X (List Int) :=
  X.bind (X.ofO (rg1 ((a_one.length : Nat) : Int))) fun x1 => X.bind (X.lcX (fun (x2 : Int) => X.ok true) (fun (x2 : Int) => X.bind (X.ofO (at_  a_one x2)) fun x4 => X.bind (X.ofO (at_  a_other x2)) fun x5 => X.ok (x4 + x5)) x1) fun x3 => X.ok x3
theorem t_put_together (a_one : List Int) (a_other : List Int) : TF (m_put_together [(eD (tL tI)) a_one, (eD (tL tI)) a_other]) (p_put_together a_one a_other) (fun r => (eO (eD tI)) r) (fun r => [none, none]) xAny :=
  tf_fn rfl (s_last (s_ret (x_cp (x_itR (x_cons (x_bi (x_cons (x_val rfl (x_nil (o_val (len_sh _) (x_nil (o_par (rg_1 _) fun x1 => (k_cpX (en := (eD tI)) rfl (fun _ => rfl) (fun x2 => e_true) (fun x2 => (x_all (x_op2 (x_ix (x_val rfl (x_val rfl (o_par (ix_sh _ _) fun x4 => (x_ix (x_val rfl (x_val rfl (o_par (ix_sh _ _) fun x5 => (o_val (add_I _ _) (e_end () rfl rfl))))))))))))) fun x3 => (n_ret ⟨rfl, rfl, rfl⟩))))))))))))))
def p_Bringing_lend (a_self : (Int × (List (Int × Int))) × List (List Int) × Int × List Int × List Int) (a_lot : List Int) (a_number : Int) : X (Unit × ((Int × (List (Int × Int))) × List (List Int) × Int × List Int × List Int)) :=
  X.bind (X.ofO (rg1 a_self.1.1)) fun x1 => X.bind (X.lcX (fun (x2 : Int) => X.ok true) (fun (x2 : Int) => X.bind (X.ofO (mulO  a_number (b2i (decide (x2 ∈ a_lot))))) fun x4 => X.ok x4) x1) fun x3 => X.bind (p_lent a_self.1 a_self.2.2.2.1 x3) fun r5 => X.bind (p_put_together a_self.2.2.2.2 x3) fun r6 => X.ok ((), (a_self.1, a_self.2.1, a_self.2.2.1, r5, r6))
theorem t_Bringing_lend (a_self : (Int × (List (Int × Int))) × List (List Int) × Int × List Int × List Int) (a_lot : List Int) (a_number : Int) : TF (m_Bringing_lend [(eB "Bringing" fs_Bringing (wc (eD (t2 tI (tL (t2 tI tI)))) (wc (eO (eO (eD tI))) (wc (eD tI) (wc (eO (eD tI)) (w1 (eO (eD tI)))))))) a_self, (eD (tL tI)) a_lot, (eD tI) a_number]) (p_Bringing_lend a_self a_lot a_number) (fun r => (eD tN) r.1) (fun r => [some ((eB "Bringing" fs_Bringing (wc (eD (t2 tI (tL (t2 tI tI)))) (wc (eO (eO (eD tI))) (wc (eD tI) (wc (eO (eD tI)) (w1 (eO (eD tI)))))))) r.2), none, none]) (xIo 0) :=
  tf_fn rfl (s_asg (x_fz (x_cp (x_itR (x_cons (x_ix (x_val (pkS_ok (t := (t2 tI (tL (t2 tI tI)))) (a := a_self.1) (lFld_ok rfl rfl rfl) rfl) (x_val (e := _) (a := (eD tI) 0) rfl (o_val (a := (eD tI) a_self.1.1) rfl (x_nil (o_par (rg_1 _) fun x1 => (k_cpX (en := (eD tI)) rfl (fun _ => rfl) (fun x2 => e_true) (fun x2 => (x_all (x_op2 (x_val rfl (x_bi (x_cons (x_op2 (x_val rfl (x_val rfl (o_val (gIn_p pl_I rfl fz_sh fz_sh _ _) (x_nil (o_val (int_B _) (o_par (mul_I _ _) fun x4 => (e_end () rfl rfl)))))))))))))) fun x3 => (o_val (fzV (fz_ol fz_sh) _) (k_set rfl (n_env (e' := ([some ((eB "Bringing" fs_Bringing (wc (eD (t2 tI (tL (t2 tI tI)))) (wc (eO (eO (eD tI))) (wc (eD tI) (wc (eO (eD tI)) (w1 (eO (eD tI)))))))) a_self), some ((eD (tL tI)) a_lot), some ((eD tI) a_number), some ((eD (tL tI)) x3), none] : AM.Env)) rfl (s_setO (x_K0 (xa_bor (lFld_ok rfl rfl rfl) (xa_bor (lFld_ok rfl rfl rfl) (xa_own (x_val rfl (xa_nil (k_call0b (aw_bor fz_sh rfl (aw_bor (fz_ol fz_sh) rfl (aw_own aw_nil))) (t_lent a_self.1 a_self.2.2.2.1 x3) rfl (fun a => (cl_ol cl_I) _) ⟨rfl, _, rfl⟩ fun r5 => (k_setO (e' := ([some ((eB "Bringing" fs_Bringing (wc (eD (t2 tI (tL (t2 tI tI)))) (wc (eO (eO (eD tI))) (wc (eD tI) (wc (eO (eD tI)) (w1 (eO (eD tI)))))))) (a_self.1, a_self.2.1, a_self.2.2.1, r5, a_self.2.2.2.2)), some ((eD (tL tI)) a_lot), some ((eD tI) a_number), some ((eD (tL tI)) x3), none] : AM.Env)) rfl rfl (gFs_ok rfl) rfl (n_env (e' := ([some ((eB "Bringing" fs_Bringing (wc (eD (t2 tI (tL (t2 tI tI)))) (wc (eO (eO (eD tI))) (wc (eD tI) (wc (eO (eD tI)) (w1 (eO (eD tI)))))))) (a_self.1, a_self.2.1, a_self.2.2.1, r5, a_self.2.2.2.2)), some ((eD (tL tI)) a_lot), some ((eD tI) a_number), some ((eD (tL tI)) x3), none] : AM.Env)) rfl (s_last (s_setO (x_K0 (xa_bor (lFld_ok rfl rfl rfl) (xa_own (x_val rfl (xa_nil (k_call0b (aw_bor (fz_ol fz_sh) rfl (aw_own aw_nil)) (t_put_together a_self.2.2.2.2 x3) rfl (fun a => (cl_ol cl_I) _) ⟨rfl, _, rfl⟩ fun r6 => (k_setO (e' := ([some ((eB "Bringing" fs_Bringing (wc (eD (t2 tI (tL (t2 tI tI)))) (wc (eO (eO (eD tI))) (wc (eD tI) (wc (eO (eD tI)) (w1 (eO (eD tI)))))))) (a_self.1, a_self.2.1, a_self.2.2.1, r5, r6)), some ((eD (tL tI)) a_lot), some ((eD tI) a_number), some ((eD (tL tI)) x3), none] : AM.Env)) rfl rfl (gFs_ok rfl) rfl (n_goF ⟨rfl, rfl, rfl⟩)))))))))))))))))))))))))))))))))))
def p_Bringing_pay (fu : Nat) (a_self : (Int × (List (Int × Int))) × List (List Int) × Int × List Int × List Int) : X (Unit × ((Int × (List (Int × Int))) × List (List Int) × Int × List Int × List Int)) :=
  X.bind (X.nx (X.bind (X.nx (p_Bringing_layers fu a_self)) fun r1 => X.ok (r1.1, r1.2) : X (List (List Int) × ((Int × (List (Int × Int))) × List (List Int) × Int × List Int × List Int)))) fun (y2 : List (List Int) × ((Int × (List (Int × Int))) × List (List Int) × Int × List Int × List Int)) => X.bind (X.ofO (rg3 (((y2.1.length : Nat) : Int) - 1) 0 (-1))) fun x3 => X.bind (X.forP (fun (x4 : Int) (s5 : ((Int × (List (Int × Int))) × List (List Int) × Int × List Int × List Int)) => X.bind (X.ofO (at_  y2.1 x4)) fun x7 => X.bind (X.lcX (fun (x8 : Int) => X.ok true) (fun (x8 : Int) => X.bind (X.ofO (at_  s5.2.2.2.1 x8)) fun x10 => X.ok (-x10)) x7) fun x9 => X.bind (X.ofO (maxO  x9)) fun x11 => X.bind (if (decide (0 < x11)) = true then (X.bind (X.forP (fun (x12 : List Int) (s13 : List Int) => X.bind (X.ofO (extO s13 x12)) fun x15 => X.ok x15) (cutL y2.1 none (some x4)) []) fun (s13 : List Int) => X.bind (X.nx (X.bind (X.nx (p_Bringing_lend s5 s13 x11)) fun r16 => X.ok (r16.1, r16.2, s13) : X (Unit × ((Int × (List (Int × Int))) × List (List Int) × Int × List Int × List Int) × List Int))) fun (y17 : Unit × ((Int × (List (Int × Int))) × List (List Int) × Int × List Int × List Int) × List Int) => X.ok y17.2.1) else X.ok s5) fun (s18 : ((Int × (List (Int × Int))) × List (List Int) × Int × List Int × List Int)) => X.ok s18) x3 y2.2) fun (s5 : ((Int × (List (Int × Int))) × List (List Int) × Int × List Int × List Int)) => X.ok ((), s5)
theorem t_Bringing_pay (fu : Nat) (a_self : (Int × (List (Int × Int))) × List (List Int) × Int × List Int × List Int) : TF ((m_Bringing_pay fu) [(eB "Bringing" fs_Bringing (wc (eD (t2 tI (tL (t2 tI tI)))) (wc (eO (eO (eD tI))) (wc (eD tI) (wc (eO (eD tI)) (w1 (eO (eD tI)))))))) a_self]) (p_Bringing_pay fu a_self) (fun r => (eD tN) r.1) (fun r => [some ((eB "Bringing" fs_Bringing (wc (eD (t2 tI (tL (t2 tI tI)))) (wc (eO (eO (eD tI))) (wc (eD tI) (wc (eO (eD tI)) (w1 (eO (eD tI)))))))) r.2)]) (xIo 0) :=
  tf_fn rfl (s_asg (x_fz (x_on (on_ob rfl) (x_nox (fun (y2 : List (List Int) × ((Int × (List (Int × Int))) × List (List Int) × Int × List Int × List Int)) => (eO (eD (tL tI))) y2.1) (fun (y2 : List (List Int) × ((Int × (List (Int × Int))) × List (List Int) × Int × List Int × List Int)) (_ : Unit) => ([some ((eB "Bringing" fs_Bringing (wc (eD (t2 tI (tL (t2 tI tI)))) (wc (eO (eO (eD tI))) (wc (eD tI) (wc (eO (eD tI)) (w1 (eO (eD tI)))))))) y2.2), none, none, none, none, none, none] : AM.Env)) (x_all (x_K1 (xa_io rfl (xa_nil (k_call1n rfl rfl rfl (aw_io aw_nil) (t_Bringing_layers fu a_self) rfl (fun _ => rfl) (fun _ => rfl) fun r1 => (e_end () rfl rfl)))))) fun y2 _ => (o_val (fzV (fz_ol fz_sh) _) (k_set rfl (n_env (e' := ([some ((eB "Bringing" fs_Bringing (wc (eD (t2 tI (tL (t2 tI tI)))) (wc (eO (eO (eD tI))) (wc (eD tI) (wc (eO (eD tI)) (w1 (eO (eD tI)))))))) y2.2), some ((eD (tL (tL tI))) y2.1), none, none, none, none, none] : AM.Env)) rfl (s_last (s_for (x_itR (x_cons (x_op2 (x_bi (x_cons (x_val rfl (x_nil (o_val (len_sh _) (x_val (e := _) (a := (eD tI) 1) rfl (o_val (sub_I _ _) (x_cons (x_val (e := _) (a := (eD tI) 0) rfl (x_cons (x_op1 (x_val (e := _) (a := (eD tI) 1) rfl (o_val (neg_I _) (x_nil (o_par (rg_3 _ _ _) fun x3 => (k_for (fun (s5 : ((Int × (List (Int × Int))) × List (List Int) × Int × List Int × List Int)) (o6 : Option W × Option W × Option W × Option W × Option W × Unit) => ([some ((eB "Bringing" fs_Bringing (wc (eD (t2 tI (tL (t2 tI tI)))) (wc (eO (eO (eD tI))) (wc (eD tI) (wc (eO (eD tI)) (w1 (eO (eD tI)))))))) s5), some ((eD (tL (tL tI))) y2.1), o6.1, o6.2.1, o6.2.2.1, o6.2.2.2.1, o6.2.2.2.2.1] : AM.Env)) y2.2 (_, _, _, _, _, ()) rfl rfl (fun x4 s5 o6 => (k_set rfl (s_asg (x_fz (x_bi (x_cons (x_cp (x_itL (x_ix (x_val rfl (x_val rfl (o_par (ix_sh _ _) fun x7 => (o_val (le_sh _) (k_cpX (en := (eD tI)) rfl (fun _ => rfl) (fun x8 => e_true) (fun x8 => (x_all (x_op1 (x_ix (x_val (pk_ok (w := (eO (eD tI)) s5.2.2.2.1) (lFld_ok rfl rfl rfl) rfl) (x_val rfl (o_par (ix_ol _ _) fun x10 => (o_val (neg_I _) (e_end () rfl rfl))))))))) fun x9 => (x_nil (o_par (max_L le_ol _) fun x11 => (o_val (fzV fz_sh _) (k_set rfl (n_env (e' := ([some ((eB "Bringing" fs_Bringing (wc (eD (t2 tI (tL (t2 tI tI)))) (wc (eO (eO (eD tI))) (wc (eD tI) (wc (eO (eD tI)) (w1 (eO (eD tI)))))))) s5), some ((eD (tL (tL tI))) y2.1), some ((eD tI) x4), some ((eD tI) x11), o6.2.2.1, o6.2.2.2.1, o6.2.2.2.2.1] : AM.Env)) rfl (s_last (s_sub (fun (s18 : ((Int × (List (Int × Int))) × List (List Int) × Int × List Int × List Int)) (o19 : Option W × Option W × Unit) => ([some ((eB "Bringing" fs_Bringing (wc (eD (t2 tI (tL (t2 tI tI)))) (wc (eO (eO (eD tI))) (wc (eD tI) (wc (eO (eD tI)) (w1 (eO (eD tI)))))))) s18), some ((eD (tL (tL tI))) y2.1), some ((eD tI) x4), some ((eD tI) x11), o19.1, o19.2.1, o6.2.2.2.2.1] : AM.Env)) (s_last (s_if (x_B (x_op2 (x_val rfl (x_val (e := _) (a := (eD tI) 0) rfl (o_val (gt_I _ _) (o_val (bl_B _) (k_if (s_assoc (s_asg (x_lst (x_nil (o_val (lst_0 (e := (eD tI))) (k_set rfl (s_assoc (s_for (x_itL (x_sl (x_val rfl (x_noPart (x_part (x_val rfl (o_val rfl (o_val (sl_L le_sh _ _ _) (o_val (le_ol _) (k_for (fun (s13 : List Int) (o14 : Option W × Unit) => ([some ((eB "Bringing" fs_Bringing (wc (eD (t2 tI (tL (t2 tI tI)))) (wc (eO (eO (eD tI))) (wc (eD tI) (wc (eO (eD tI)) (w1 (eO (eD tI)))))))) s5), some ((eD (tL (tL tI))) y2.1), some ((eD tI) x4), some ((eD tI) x11), some ((eO (eD tI)) s13), o14.1, o6.2.2.2.2.1] : AM.Env)) [] (_, ()) rfl rfl (fun x12 s13 o14 => (k_set rfl (s_last (s_drop (x_in (chk_ol rfl rfl) (x_cons (x_val rfl (x_nil (i_ext (el := (eD tI)) tk_sh rfl (fun _ => rfl) fun x15 => (n_go (_, ()) rfl)))))))))) fun s13 o14 => (s_drop (x_on (on_ob rfl) (x_nox (fun (y17 : Unit × ((Int × (List (Int × Int))) × List (List Int) × Int × List Int × List Int) × List Int) => (eD tN) y17.1) (fun (y17 : Unit × ((Int × (List (Int × Int))) × List (List Int) × Int × List Int × List Int) × List Int) (_ : Unit) => ([some ((eB "Bringing" fs_Bringing (wc (eD (t2 tI (tL (t2 tI tI)))) (wc (eO (eO (eD tI))) (wc (eD tI) (wc (eO (eD tI)) (w1 (eO (eD tI)))))))) y17.2.1), some ((eD (tL (tL tI))) y2.1), some ((eD tI) x4), some ((eD tI) x11), some ((eD (tL tI)) y17.2.2), o14.1, o6.2.2.2.2.1] : AM.Env)) (x_all (x_K1 (xa_io rfl (xa_own (x_val (frzV (fz_ol fz_sh) rfl) (xa_own (x_val rfl (xa_nil (k_call1n rfl rfl rfl (aw_io (aw_own (aw_own aw_nil))) (t_Bringing_lend s5 s13 x11) rfl (fun _ => rfl) (fun _ => rfl) fun r16 => (e_end () rfl rfl)))))))))) fun y17 _ => (n_go (_, _, ()) rfl)))))))))))))))))))))) (s_nx (n_go (_, _, ()) rfl))))))))))) fun s18 o19 => (n_go (_, _, _, _, _, ()) rfl)))))))))))))))))))))) fun s5 o6 => (n_goF ⟨rfl, rfl, rfl⟩)))))))))))))))))))))))))))))
def p_Bringing_order (fu : Nat) (a_self : (Int × (List (Int × Int))) × List (List Int) × Int × List Int × List Int) : X (List Int) :=
  X.bind (X.whP (fun (s1 : List Int × List Int) => X.ok (!decide (s1.2 = []))) (fun (s1 : List Int × List Int) => X.bind (X.ofO (rg1 a_self.1.1)) fun x3 => X.bind (X.forP (fun (x4 : Int) (s5 : List Int × List Int) => X.bind (X.bind (if (!decide (x4 ∈ s5.1)) = true then (X.bind (X.ofO (at_  a_self.2.2.2.1 x4)) fun x7 => X.bind (X.nx (X.bind (X.nx (p_Bringing_ties_to a_self x4 s5.1)) fun r8 => X.ok r8 : X (Int))) fun (y9 : Int) => X.ok (decide (x7 < y9))) else X.ok false) fun b10 => if b10 = true then (X.bind (X.ofO (appO s5.1 x4)) fun x11 => X.bind (X.ofO (appO s5.2 x4)) fun x12 => X.ok (x11, x12)) else X.ok (s5.1, s5.2)) fun (s13 : List Int × List Int) => X.ok (s13.1, s13.2)) x3 (s1.1, [])) fun (s5 : List Int × List Int) => X.ok (s5.1, s5.2)) fu ([a_self.2.2.1], [a_self.2.2.1])) fun (s1 : List Int × List Int) => X.ok s1.1
theorem t_Bringing_order (fu : Nat) (a_self : (Int × (List (Int × Int))) × List (List Int) × Int × List Int × List Int) : TF ((m_Bringing_order fu) [(eD (tO "Bringing" fs_Bringing (dc (t2 tI (tL (t2 tI tI))) (dc (tL (tL tI)) (dc tI (dc (tL tI) (d1 (tL tI)))))))) a_self]) (p_Bringing_order fu a_self) (fun r => (eO (eD tI)) r) (fun r => [none]) xAny :=
  tf_fn rfl (s_asg (x_lst (x_cons (x_op1 (x_val rfl (o_val (a := (eD tI) a_self.2.2.1) (fld_ok rfl) (x_nil (o_val (lst_1 (e := (eD tI))) (k_set rfl (n_env (e' := ([some ((eD (tO "Bringing" fs_Bringing (dc (t2 tI (tL (t2 tI tI))) (dc (tL (tL tI)) (dc tI (dc (tL tI) (d1 (tL tI)))))))) a_self), some ((eO (eD tI)) [a_self.2.2.1]), none, none] : AM.Env)) rfl (s_asg (x_lst (x_cons (x_op1 (x_val rfl (o_val (a := (eD tI) a_self.2.2.1) (fld_ok rfl) (x_nil (o_val (lst_1 (e := (eD tI))) (k_set rfl (n_env (e' := ([some ((eD (tO "Bringing" fs_Bringing (dc (t2 tI (tL (t2 tI tI))) (dc (tL (tL tI)) (dc tI (dc (tL tI) (d1 (tL tI)))))))) a_self), some ((eO (eD tI)) [a_self.2.2.1]), some ((eO (eD tI)) [a_self.2.2.1]), none] : AM.Env)) rfl (s_wh (fun (s1 : List Int × List Int) (o2 : Option W × Unit) => ([some ((eD (tO "Bringing" fs_Bringing (dc (t2 tI (tL (t2 tI tI))) (dc (tL (tL tI)) (dc tI (dc (tL tI) (d1 (tL tI)))))))) a_self), some ((eO (eD tI)) s1.1), some ((eO (eD tI)) s1.2), o2.1] : AM.Env)) ([a_self.2.2.1], [a_self.2.2.1]) (_, ()) rfl (fun s1 o2 => (x_all (x_B (x_op2 (x_val rfl (x_lst (x_nil (o_val (lst_0 (e := (eD tI))) (o_val (gNe_p (pl_L pl_I) rfl (fz_ol fz_sh) (fz_ol fz_sh) _ _) (o_val (bl_B _) (e_end () rfl rfl))))))))))) (fun s1 o2 => (s_asg (x_lst (x_nil (o_val (lst_0 (e := (eD tI))) (k_set rfl (n_env (e' := ([some ((eD (tO "Bringing" fs_Bringing (dc (t2 tI (tL (t2 tI tI))) (dc (tL (tL tI)) (dc tI (dc (tL tI) (d1 (tL tI)))))))) a_self), some ((eO (eD tI)) s1.1), some ((eO (eD tI)) []), o2.1] : AM.Env)) rfl (s_last (s_for (x_itR (x_cons (x_ix (x_op1 (x_val rfl (o_val (a := (eD (t2 tI (tL (t2 tI tI)))) a_self.1) (fld_ok rfl) (x_val (e := _) (a := (eD tI) 0) rfl (o_val (a := (eD tI) a_self.1.1) rfl (x_nil (o_par (rg_1 _) fun x3 => (k_for (fun (s5 : List Int × List Int) (o6 : Option W × Unit) => ([some ((eD (tO "Bringing" fs_Bringing (dc (t2 tI (tL (t2 tI tI))) (dc (tL (tL tI)) (dc tI (dc (tL tI) (d1 (tL tI)))))))) a_self), some ((eO (eD tI)) s5.1), some ((eO (eD tI)) s5.2), o6.1] : AM.Env)) (s1.1, []) (_, ()) rfl rfl (fun x4 s5 o6 => (k_set rfl (s_last (s_sub (fun (s13 : List Int × List Int) (o14 : Unit) => ([some ((eD (tO "Bringing" fs_Bringing (dc (t2 tI (tL (t2 tI tI))) (dc (tL (tL tI)) (dc tI (dc (tL tI) (d1 (tL tI)))))))) a_self), some ((eO (eD tI)) s13.1), some ((eO (eD tI)) s13.2), some ((eD tI) x4)] : AM.Env)) (s_last (s_if (x_and (x_B (x_op2 (x_val rfl (x_val rfl (o_val (gNotIn_p pl_I rfl fz_sh (fz_ol fz_sh) _ _) (o_val (bl_B _) (k_andX id (fun (_ : Bool) (_ : Unit) => ([some ((eD (tO "Bringing" fs_Bringing (dc (t2 tI (tL (t2 tI tI))) (dc (tL (tL tI)) (dc tI (dc (tL tI) (d1 (tL tI)))))))) a_self), some ((eO (eD tI)) s5.1), some ((eO (eD tI)) s5.2), some ((eD tI) x4)] : AM.Env)) false () (x_all (x_B (x_op2 (x_ix (x_op1 (x_val rfl (o_val (a := (eD (tL tI)) a_self.2.2.2.1) (fld_ok rfl) (x_val rfl (o_par (ix_sh _ _) fun x7 => (x_on (on_sh rfl) (x_nox (fun (y9 : Int) => (eD tI) y9) (fun (y9 : Int) (_ : Unit) => ([some ((eD (tO "Bringing" fs_Bringing (dc (t2 tI (tL (t2 tI tI))) (dc (tL (tL tI)) (dc tI (dc (tL tI) (d1 (tL tI)))))))) a_self), some ((eO (eD tI)) s5.1), some ((eO (eD tI)) s5.2), some ((eD tI) x4)] : AM.Env)) (x_all (x_K0 (xa_own (x_val rfl (xa_own (x_val rfl (xa_bor rfl (xa_nil (k_call0bn (aw_own (aw_own (aw_bor (fz_ol fz_sh) rfl aw_nil))) (t_Bringing_ties_to a_self x4 s5.1) rfl (fun a => cl_I _) fun r8 => (e_end () rfl rfl)))))))))) fun y9 _ => (o_val (lt_I _ _) (o_val (bl_B _) (e_end () rfl rfl)))))))))))))) rfl rfl fun b10 _ => (k_if (s_assoc (s_drop (x_in (chk_ol rfl rfl) (x_cons (x_val rfl (x_nil (i_app (el := (eD tI)) rfl (fun _ => rfl) fun x11 => (s_drop (x_in (chk_ol rfl rfl) (x_cons (x_val rfl (x_nil (i_app (el := (eD tI)) rfl (fun _ => rfl) fun x12 => (n_go () rfl)))))))))))))) (s_nx (n_go () rfl))))))))))))) fun s13 o14 => (n_go (_, ()) rfl))))) fun s5 o6 => (n_go (_, ()) rfl))))))))))))))))))))) fun s1 o2 => (n_env (e' := ([some ((eD (tO "Bringing" fs_Bringing (dc (t2 tI (tL (t2 tI tI))) (dc (tL (tL tI)) (dc tI (dc (tL tI) (d1 (tL tI)))))))) a_self), some ((eO (eD tI)) s1.1), some ((eO (eD tI)) s1.2), o2.1] : AM.Env)) rfl (s_last (s_ret (x_val rfl (n_ret ⟨rfl, rfl, rfl⟩))))))))))))))))))))))))))
def p_Bringing_draw_in (fu : Nat) (a_self : (Int × (List (Int × Int))) × List (List Int) × Int × List Int × List Int) : X (Unit × ((Int × (List (Int × Int))) × List (List Int) × Int × List Int × List Int)) :=
  X.bind (X.nx (X.bind (X.nx (p_Bringing_order fu a_self)) fun r1 => X.ok r1 : X (List Int))) fun (y2 : List Int) => X.bind (X.whP (fun (s3 : ((Int × (List (Int × Int))) × List (List Int) × Int × List Int × List Int) × List Int) => X.ok (decide (((s3.2.length : Nat) : Int) < s3.1.1.1))) (fun (s3 : ((Int × (List (Int × Int))) × List (List Int) × Int × List Int × List Int) × List Int) => X.bind (X.ofO (rg1 s3.1.1.1)) fun x5 => X.bind (X.ofO (lcFO (fun (x6 : Int) => (!decide (x6 ∈ s3.2))) (fun (x6 : Int) => (x6 : Int)) x5)) fun x7 => X.bind (X.lcX (fun (x8 : Int) => X.ok true) (fun (x8 : Int) => X.bind (X.nx (X.bind (X.nx (p_Bringing_ties_to s3.1 x8 s3.2)) fun r10 => X.ok r10 : X (Int))) fun (y11 : Int) => X.ok (x8, y11)) x7) fun x9 => X.bind (X.nx (X.bind (X.lcX (fun (x12 : Int × Int) => X.ok (decide (0 < x12.2))) (fun (x12 : Int × Int) => X.bind (X.ofO (at_  s3.1.2.2.2.1 x12.1)) fun x14 => X.bind (X.ofO (divO  x14 x12.2)) fun x15 => X.ok x15) x9) fun x13 => X.bind (X.ofO (minO  x13)) fun x16 => X.bind (X.nx (p_Bringing_lend s3.1 x7 x16)) fun r17 => X.ok (r17.1, r17.2) : X (Unit × ((Int × (List (Int × Int))) × List (List Int) × Int × List Int × List Int)))) fun (y18 : Unit × ((Int × (List (Int × Int))) × List (List Int) × Int × List Int × List Int)) => X.bind (X.nx (X.bind (X.nx (p_Bringing_order fu y18.2)) fun r19 => X.ok r19 : X (List Int))) fun (y20 : List Int) => X.ok (y18.2, y20)) fu (a_self, y2)) fun (s3 : ((Int × (List (Int × Int))) × List (List Int) × Int × List Int × List Int) × List Int) => X.ok ((), s3.1)
theorem t_Bringing_draw_in (fu : Nat) (a_self : (Int × (List (Int × Int))) × List (List Int) × Int × List Int × List Int) : TF ((m_Bringing_draw_in fu) [(eB "Bringing" fs_Bringing (wc (eD (t2 tI (tL (t2 tI tI)))) (wc (eO (eO (eD tI))) (wc (eD tI) (wc (eO (eD tI)) (w1 (eO (eD tI)))))))) a_self]) (p_Bringing_draw_in fu a_self) (fun r => (eD tN) r.1) (fun r => [some ((eB "Bringing" fs_Bringing (wc (eD (t2 tI (tL (t2 tI tI)))) (wc (eO (eO (eD tI))) (wc (eD tI) (wc (eO (eD tI)) (w1 (eO (eD tI)))))))) r.2)]) (xIo 0) :=
  tf_fn rfl (s_asg (x_fz (x_on (on_ob rfl) (x_nox (fun (y2 : List Int) => (eO (eD tI)) y2) (fun (y2 : List Int) (_ : Unit) => ([some ((eB "Bringing" fs_Bringing (wc (eD (t2 tI (tL (t2 tI tI)))) (wc (eO (eO (eD tI))) (wc (eD tI) (wc (eO (eD tI)) (w1 (eO (eD tI)))))))) a_self), none, none, none, none, none] : AM.Env)) (x_all (x_K0 (xa_bor rfl (xa_nil (k_call0bn (aw_bor (fz_ob (fzl_c fz_sh (fzl_c (fz_ol (fz_ol fz_sh)) (fzl_c fz_sh (fzl_c (fz_ol fz_sh) (fzl_1 (fz_ol fz_sh))))))) rfl aw_nil) (t_Bringing_order fu a_self) rfl (fun a => (cl_ol cl_I) _) fun r1 => (e_end () rfl rfl)))))) fun y2 _ => (o_val (fzV (fz_ol fz_sh) _) (k_set rfl (n_env (e' := ([some ((eB "Bringing" fs_Bringing (wc (eD (t2 tI (tL (t2 tI tI)))) (wc (eO (eO (eD tI))) (wc (eD tI) (wc (eO (eD tI)) (w1 (eO (eD tI)))))))) a_self), some ((eD (tL tI)) y2), none, none, none, none] : AM.Env)) rfl (s_last (s_wh (fun (s3 : ((Int × (List (Int × Int))) × List (List Int) × Int × List Int × List Int) × List Int) (o4 : Option W × Option W × Option W × Option W × Unit) => ([some ((eB "Bringing" fs_Bringing (wc (eD (t2 tI (tL (t2 tI tI)))) (wc (eO (eO (eD tI))) (wc (eD tI) (wc (eO (eD tI)) (w1 (eO (eD tI)))))))) s3.1), some ((eD (tL tI)) s3.2), o4.1, o4.2.1, o4.2.2.1, o4.2.2.2.1] : AM.Env)) (a_self, y2) (_, _, _, _, ()) rfl (fun s3 o4 => (x_all (x_B (x_op2 (x_bi (x_cons (x_val rfl (x_nil (o_val (len_sh _) (x_ix (x_val (pkS_ok (t := (t2 tI (tL (t2 tI tI)))) (a := s3.1.1) (lFld_ok rfl rfl rfl) rfl) (x_val (e := _) (a := (eD tI) 0) rfl (o_val (a := (eD tI) s3.1.1.1) rfl (o_val (lt_I _ _) (o_val (bl_B _) (e_end () rfl rfl)))))))))))))))) (fun s3 o4 => (s_asg (x_fz (x_cp (x_itR (x_cons (x_ix (x_val (pkS_ok (t := (t2 tI (tL (t2 tI tI)))) (a := s3.1.1) (lFld_ok rfl rfl rfl) rfl) (x_val (e := _) (a := (eD tI) 0) rfl (o_val (a := (eD tI) s3.1.1.1) rfl (x_nil (o_par (rg_1 _) fun x5 => (k_cpF (en := (eD tI)) (ct := (fun (x6 : Int) => (!decide (x6 ∈ s3.2)))) (f := (fun (x6 : Int) => (x6 : Int))) rfl (fun _ => rfl) (fun x6 => (v_of (x_all (x_B (x_op2 (x_val rfl (x_val rfl (o_val (gNotIn_p pl_I rfl fz_sh fz_sh _ _) (o_val (bl_B _) (e_end () rfl rfl)))))))))) (fun x6 => (v_of (x_all (x_val rfl (e_end () rfl rfl))))) fun x7 => (o_val (fzV (fz_ol fz_sh) _) (k_set rfl (n_env (e' := ([some ((eB "Bringing" fs_Bringing (wc (eD (t2 tI (tL (t2 tI tI)))) (wc (eO (eO (eD tI))) (wc (eD tI) (wc (eO (eD tI)) (w1 (eO (eD tI)))))))) s3.1), some ((eD (tL tI)) s3.2), some ((eD (tL tI)) x7), o4.2.1, o4.2.2.1, o4.2.2.2.1] : AM.Env)) rfl (s_asg (x_fz (x_cp (x_itL (x_val rfl (o_val (le_sh _) (k_cpX (en := (eD (t2 tI tI))) rfl (fun _ => rfl) (fun x8 => e_true) (fun x8 => (x_all (x_tup (x_cons (x_val rfl (x_cons (x_on (on_ob rfl) (x_nox (fun (y11 : Int) => (eD tI) y11) (fun (y11 : Int) (_ : Unit) => ([some ((eB "Bringing" fs_Bringing (wc (eD (t2 tI (tL (t2 tI tI)))) (wc (eO (eO (eD tI))) (wc (eD tI) (wc (eO (eD tI)) (w1 (eO (eD tI)))))))) s3.1), some ((eD (tL tI)) s3.2), some ((eD (tL tI)) x7), o4.2.1, some ((eD tI) x8), o4.2.2.2.1] : AM.Env)) (x_all (x_K0 (xa_bor rfl (xa_own (x_val rfl (xa_own (x_val rfl (xa_nil (k_call0bn (aw_bor (fz_ob (fzl_c fz_sh (fzl_c (fz_ol (fz_ol fz_sh)) (fzl_c fz_sh (fzl_c (fz_ol fz_sh) (fzl_1 (fz_ol fz_sh))))))) rfl (aw_own (aw_own aw_nil))) (t_Bringing_ties_to s3.1 x8 s3.2) rfl (fun a => cl_I _) fun r10 => (e_end () rfl rfl)))))))))) fun y11 _ => (x_nil (o_val (a := (eD (t2 tI tI)) (x8, y11)) rfl (e_end () rfl rfl))))))))))) fun x9 => (o_val (fzV (fz_ol fz_sh) _) (k_set rfl (n_env (e' := ([some ((eB "Bringing" fs_Bringing (wc (eD (t2 tI (tL (t2 tI tI)))) (wc (eO (eO (eD tI))) (wc (eD tI) (wc (eO (eD tI)) (w1 (eO (eD tI)))))))) s3.1), some ((eD (tL tI)) s3.2), some ((eD (tL tI)) x7), some ((eD (tL (t2 tI tI))) x9), o4.2.2.1, o4.2.2.2.1] : AM.Env)) rfl (s_drop (x_on (on_ob rfl) (x_nox (fun (y18 : Unit × ((Int × (List (Int × Int))) × List (List Int) × Int × List Int × List Int)) => (eD tN) y18.1) (fun (y18 : Unit × ((Int × (List (Int × Int))) × List (List Int) × Int × List Int × List Int)) (_ : Unit) => ([some ((eB "Bringing" fs_Bringing (wc (eD (t2 tI (tL (t2 tI tI)))) (wc (eO (eO (eD tI))) (wc (eD tI) (wc (eO (eD tI)) (w1 (eO (eD tI)))))))) y18.2), some ((eD (tL tI)) s3.2), some ((eD (tL tI)) x7), some ((eD (tL (t2 tI tI))) x9), o4.2.2.1, o4.2.2.2.1] : AM.Env)) (x_all (x_K1 (xa_io rfl (xa_own (x_val rfl (xa_own (x_fz (x_bi (x_cons (x_cp (x_itL (x_val rfl (o_val (le_sh _) (k_cpX (en := (eD tI)) rfl (fun _ => rfl) (fun x12 => (x_all (x_B (x_op2 (x_val rfl (x_val (e := _) (a := (eD tI) 0) rfl (o_val (gt_I _ _) (o_val (bl_B _) (e_end () rfl rfl))))))))) (fun x12 => (x_all (x_op2 (x_ix (x_val (pk_ok (w := (eO (eD tI)) s3.1.2.2.2.1) (lFld_ok rfl rfl rfl) rfl) (x_val rfl (o_par (ix_ol _ _) fun x14 => (x_val rfl (o_par (div_I _ _) fun x15 => (e_end () rfl rfl)))))))))) fun x13 => (x_nil (o_par (min_L le_ol _) fun x16 => (o_val (fzV fz_sh _) (xa_nil (k_call1n rfl rfl rfl (aw_io (aw_own (aw_own aw_nil))) (t_Bringing_lend s3.1 x7 x16) rfl (fun _ => rfl) (fun _ => rfl) fun r17 => (e_end () rfl rfl)))))))))))))))))))) fun y18 _ => (n_env (e' := ([some ((eB "Bringing" fs_Bringing (wc (eD (t2 tI (tL (t2 tI tI)))) (wc (eO (eO (eD tI))) (wc (eD tI) (wc (eO (eD tI)) (w1 (eO (eD tI)))))))) y18.2), some ((eD (tL tI)) s3.2), some ((eD (tL tI)) x7), some ((eD (tL (t2 tI tI))) x9), o4.2.2.1, o4.2.2.2.1] : AM.Env)) rfl (s_last (s_asg (x_fz (x_on (on_ob rfl) (x_nox (fun (y20 : List Int) => (eO (eD tI)) y20) (fun (y20 : List Int) (_ : Unit) => ([some ((eB "Bringing" fs_Bringing (wc (eD (t2 tI (tL (t2 tI tI)))) (wc (eO (eO (eD tI))) (wc (eD tI) (wc (eO (eD tI)) (w1 (eO (eD tI)))))))) y18.2), some ((eD (tL tI)) s3.2), some ((eD (tL tI)) x7), some ((eD (tL (t2 tI tI))) x9), o4.2.2.1, o4.2.2.2.1] : AM.Env)) (x_all (x_K0 (xa_bor rfl (xa_nil (k_call0bn (aw_bor (fz_ob (fzl_c fz_sh (fzl_c (fz_ol (fz_ol fz_sh)) (fzl_c fz_sh (fzl_c (fz_ol fz_sh) (fzl_1 (fz_ol fz_sh))))))) rfl aw_nil) (t_Bringing_order fu y18.2) rfl (fun a => (cl_ol cl_I) _) fun r19 => (e_end () rfl rfl)))))) fun y20 _ => (o_val (fzV (fz_ol fz_sh) _) (k_set rfl (n_go (_, _, _, _, ()) rfl)))))))))))))))))))))))))))))))))))))) fun s3 o4 => (n_goF ⟨rfl, rfl, rfl⟩))))))))))
def p_brought (fu : Nat) : Nat → (Int × (List (Int × Int))) → (List Int) → Int → X ((List Int × List Int × List Int))
  | 0, _, _, _ => X.bad
  | d + 1, a_web, a_dues, a_place =>
  X.bind (X.nx (p_Bringing_init () a_web a_dues a_place)) fun r1 => X.bind (X.ofO (lcFO (fun (x2 : Int × Int) => (!decide (x2.1 = a_place))) (fun (x2 : Int × Int) => (x2.2 : Int)) (enumT a_dues))) fun x3 => X.bind (X.bind (if (!decide (x3 = [])) = true then (X.bind (X.ofO (maxO  x3)) fun x4 => X.bind (if (decide (20 < x4)) = true then X.ok true else X.bind (X.ofO (minO  x3)) fun x5 => X.ok (decide (x5 < (-20)))) fun b6 => X.ok b6) else X.ok false) fun b7 => if b7 = true then (X.bind (X.ofO (lcO (fun (x8 : Int) => ((x8 / 2) : Int)) a_dues)) fun x9 => X.bind (p_brought fu d a_web x9 a_place) fun r10 => X.bind (X.lcX (fun (x11 : Int) => X.ok true) (fun (x11 : Int) => X.bind (X.ofO (mulO  2 x11)) fun x13 => X.ok x13) r10.1) fun x12 => X.bind (p_lent a_web a_dues x12) fun r14 => X.ok (r1.2.1, r1.2.2.1, r1.2.2.2.1, r14, x12)) else X.ok r1.2) fun (s15 : ((Int × (List (Int × Int))) × List (List Int) × Int × List Int × List Int)) => X.bind (X.nx (X.bind (X.nx (p_Bringing_pay fu s15)) fun r17 => X.ok (r17.1, r17.2) : X (Unit × ((Int × (List (Int × Int))) × List (List Int) × Int × List Int × List Int)))) fun (y18 : Unit × ((Int × (List (Int × Int))) × List (List Int) × Int × List Int × List Int)) => X.bind (X.nx (X.bind (X.nx (p_Bringing_draw_in fu y18.2)) fun r19 => X.ok (r19.1, r19.2) : X (Unit × ((Int × (List (Int × Int))) × List (List Int) × Int × List Int × List Int)))) fun (y20 : Unit × ((Int × (List (Int × Int))) × List (List Int) × Int × List Int × List Int)) => X.bind (X.nx (X.bind (X.nx (p_Bringing_order fu y20.2)) fun r21 => X.ok r21 : X (List Int))) fun (y22 : List Int) => X.ok (y20.2.2.2.2.2, y20.2.2.2.2.1, y22)
theorem t_brought (fu : Nat) : ∀ (d : Nat) (a_web : Int × (List (Int × Int))) (a_dues : List Int) (a_place : Int), TF ((m_brought fu d) [(eD (t2 tI (tL (t2 tI tI)))) a_web, (eD (tL tI)) a_dues, (eD tI) a_place]) (p_brought fu d a_web a_dues a_place) (fun r => (o3 (eO (eD tI)) (eO (eD tI)) (eO (eD tI))) r) (fun r => [none, none, none]) xAny
  | 0, _, _, _ => (show TF _ X.bad _ _ _ from ⟨trivial⟩)
  | d + 1, a_web, a_dues, a_place =>
  tf_fn rfl (s_asg (x_make (xa_own (x_val rfl (xa_own (x_val rfl (xa_own (x_val rfl (xa_nil (k_make rfl (t_Bringing_init () a_web a_dues a_place) (fun _ => rfl) (fun _ => ⟨_, rfl⟩) fun r1 => (k_set rfl (n_env (e' := ([some ((eD (t2 tI (tL (t2 tI tI)))) a_web), some ((eD (tL tI)) a_dues), some ((eD tI) a_place), some ((eB "Bringing" fs_Bringing (wc (eD (t2 tI (tL (t2 tI tI)))) (wc (eO (eO (eD tI))) (wc (eD tI) (wc (eO (eD tI)) (w1 (eO (eD tI)))))))) r1.2), none, none, none, none, none] : AM.Env)) rfl (s_asg (x_fz (x_cp (x_itR (x_cons (x_val rfl (x_nil (o_val (enum_L le_sh _) (k_cpF (en := (eD tI)) (ct := (fun (x2 : Int × Int) => (!decide (x2.1 = a_place)))) (f := (fun (x2 : Int × Int) => (x2.2 : Int))) rfl (fun _ => rfl) (fun x2 => (v_of (x_all (x_B (x_op2 (x_val rfl (x_val rfl (o_val (gNe_p pl_I rfl fz_sh fz_sh _ _) (o_val (bl_B _) (e_end () rfl rfl)))))))))) (fun x2 => (v_of (x_all (x_val rfl (e_end () rfl rfl))))) fun x3 => (o_val (fzV (fz_ol fz_sh) _) (k_set rfl (n_env (e' := ([some ((eD (t2 tI (tL (t2 tI tI)))) a_web), some ((eD (tL tI)) a_dues), some ((eD tI) a_place), some ((eB "Bringing" fs_Bringing (wc (eD (t2 tI (tL (t2 tI tI)))) (wc (eO (eO (eD tI))) (wc (eD tI) (wc (eO (eD tI)) (w1 (eO (eD tI)))))))) r1.2), some ((eD (tL tI)) x3), none, none, none, none] : AM.Env)) rfl (s_sub (fun (s15 : ((Int × (List (Int × Int))) × List (List Int) × Int × List Int × List Int)) (o16 : Option W × Unit) => ([some ((eD (t2 tI (tL (t2 tI tI)))) a_web), some ((eD (tL tI)) a_dues), some ((eD tI) a_place), some ((eB "Bringing" fs_Bringing (wc (eD (t2 tI (tL (t2 tI tI)))) (wc (eO (eO (eD tI))) (wc (eD tI) (wc (eO (eD tI)) (w1 (eO (eD tI)))))))) s15), some ((eD (tL tI)) x3), o16.1, none, none, none] : AM.Env)) (s_last (s_if (x_and (x_B (x_op2 (x_val rfl (x_lst (x_nil (o_val (lst_0 (e := (eD tI))) (o_val (gNe_p (pl_L pl_I) rfl fz_sh (fz_ol fz_sh) _ _) (o_val (bl_B _) (k_andX id (fun (_ : Bool) (_ : Unit) => ([some ((eD (t2 tI (tL (t2 tI tI)))) a_web), some ((eD (tL tI)) a_dues), some ((eD tI) a_place), some ((eB "Bringing" fs_Bringing (wc (eD (t2 tI (tL (t2 tI tI)))) (wc (eO (eO (eD tI))) (wc (eD tI) (wc (eO (eD tI)) (w1 (eO (eD tI)))))))) r1.2), some ((eD (tL tI)) x3), none, none, none, none] : AM.Env)) false () (x_all (x_or (x_B (x_op2 (x_bi (x_cons (x_val rfl (x_nil (o_par (max_L le_sh _) fun x4 => (x_val (e := _) (a := (eD tI) 20) rfl (o_val (gt_I _ _) (o_val (bl_B _) (k_orX id (fun (_ : Bool) (_ : Unit) => ([some ((eD (t2 tI (tL (t2 tI tI)))) a_web), some ((eD (tL tI)) a_dues), some ((eD tI) a_place), some ((eB "Bringing" fs_Bringing (wc (eD (t2 tI (tL (t2 tI tI)))) (wc (eO (eO (eD tI))) (wc (eD tI) (wc (eO (eD tI)) (w1 (eO (eD tI)))))))) r1.2), some ((eD (tL tI)) x3), none, none, none, none] : AM.Env)) true () (x_all (x_B (x_op2 (x_bi (x_cons (x_val rfl (x_nil (o_par (min_L le_sh _) fun x5 => (x_op1 (x_val (e := _) (a := (eD tI) 20) rfl (o_val (neg_I _) (o_val (lt_I _ _) (o_val (bl_B _) (e_end () rfl rfl)))))))))))))) rfl rfl fun b6 _ => (e_end () rfl rfl)))))))))))))) rfl rfl fun b7 _ => (k_if (s_assoc (s_asg (x_fz (x_ix (x_K0 (xa_own (x_val rfl (xa_own (x_fz (x_cp (x_itL (x_val rfl (o_val (le_sh _) (k_cp (en := (eD tI)) (f := (fun (x8 : Int) => ((x8 / 2) : Int))) rfl (fun _ => rfl) (fun x8 => (v_of (x_all (x_op2 (x_val rfl (x_val (e := _) (a := (eD tI) 2) rfl (o_val (div_c (by decide +kernel)) (e_end () rfl rfl)))))))) fun x9 => (o_val (fzV (fz_ol fz_sh) _) (xa_own (x_val rfl (xa_nil (k_call0 (aw_own (aw_own (aw_own aw_nil))) (t_brought fu d a_web x9 a_place) rfl rfl ⟨rfl, trivial⟩ fun r10 => (x_val (e := _) (a := (eD tI) 0) rfl (o_val (a := (eO (eD tI)) r10.1) rfl (o_val (fzV (fz_ol fz_sh) _) (k_set rfl (s_assoc (s_setO (x_cp (x_itL (x_val rfl (o_val (le_sh _) (k_cpX (en := (eD tI)) rfl (fun _ => rfl) (fun x11 => e_true) (fun x11 => (x_all (x_op2 (x_val (e := _) (a := (eD tI) 2) rfl (x_val rfl (o_par (mul_I _ _) fun x13 => (e_end () rfl rfl))))))) fun x12 => (k_setO (e' := ([some ((eD (t2 tI (tL (t2 tI tI)))) a_web), some ((eD (tL tI)) a_dues), some ((eD tI) a_place), some ((eB "Bringing" fs_Bringing (wc (eD (t2 tI (tL (t2 tI tI)))) (wc (eO (eO (eD tI))) (wc (eD tI) (wc (eO (eD tI)) (w1 (eO (eD tI)))))))) (r1.2.1, r1.2.2.1, r1.2.2.2.1, r1.2.2.2.2.1, x12)), some ((eD (tL tI)) x3), some ((eD (tL tI)) r10.1), none, none, none] : AM.Env)) rfl rfl (gFs_ok rfl) rfl (s_setO (x_K0 (xa_own (x_val rfl (xa_own (x_val rfl (xa_bor (lFld_ok rfl rfl rfl) (xa_nil (k_call0b (aw_own (aw_own (aw_bor (fz_ol fz_sh) rfl aw_nil))) (t_lent a_web a_dues x12) rfl (fun a => (cl_ol cl_I) _) ⟨rfl, trivial⟩ fun r14 => (k_setO (e' := ([some ((eD (t2 tI (tL (t2 tI tI)))) a_web), some ((eD (tL tI)) a_dues), some ((eD tI) a_place), some ((eB "Bringing" fs_Bringing (wc (eD (t2 tI (tL (t2 tI tI)))) (wc (eO (eO (eD tI))) (wc (eD tI) (wc (eO (eD tI)) (w1 (eO (eD tI)))))))) (r1.2.1, r1.2.2.1, r1.2.2.2.1, r14, x12)), some ((eD (tL tI)) x3), some ((eD (tL tI)) r10.1), none, none, none] : AM.Env)) rfl rfl (gFs_ok rfl) rfl (n_go (_, ()) rfl)))))))))))))))))))))))))))))))))))))))))) (s_nx (n_go (_, ()) rfl))))))))))))))) fun s15 o16 => (n_env (e' := ([some ((eD (t2 tI (tL (t2 tI tI)))) a_web), some ((eD (tL tI)) a_dues), some ((eD tI) a_place), some ((eB "Bringing" fs_Bringing (wc (eD (t2 tI (tL (t2 tI tI)))) (wc (eO (eO (eD tI))) (wc (eD tI) (wc (eO (eD tI)) (w1 (eO (eD tI)))))))) s15), some ((eD (tL tI)) x3), o16.1, none, none, none] : AM.Env)) rfl (s_drop (x_on (on_ob rfl) (x_nox (fun (y18 : Unit × ((Int × (List (Int × Int))) × List (List Int) × Int × List Int × List Int)) => (eD tN) y18.1) (fun (y18 : Unit × ((Int × (List (Int × Int))) × List (List Int) × Int × List Int × List Int)) (_ : Unit) => ([some ((eD (t2 tI (tL (t2 tI tI)))) a_web), some ((eD (tL tI)) a_dues), some ((eD tI) a_place), some ((eB "Bringing" fs_Bringing (wc (eD (t2 tI (tL (t2 tI tI)))) (wc (eO (eO (eD tI))) (wc (eD tI) (wc (eO (eD tI)) (w1 (eO (eD tI)))))))) y18.2), some ((eD (tL tI)) x3), o16.1, none, none, none] : AM.Env)) (x_all (x_K1 (xa_io rfl (xa_nil (k_call1n rfl rfl rfl (aw_io aw_nil) (t_Bringing_pay fu s15) rfl (fun _ => rfl) (fun _ => rfl) fun r17 => (e_end () rfl rfl)))))) fun y18 _ => (n_env (e' := ([some ((eD (t2 tI (tL (t2 tI tI)))) a_web), some ((eD (tL tI)) a_dues), some ((eD tI) a_place), some ((eB "Bringing" fs_Bringing (wc (eD (t2 tI (tL (t2 tI tI)))) (wc (eO (eO (eD tI))) (wc (eD tI) (wc (eO (eD tI)) (w1 (eO (eD tI)))))))) y18.2), some ((eD (tL tI)) x3), o16.1, none, none, none] : AM.Env)) rfl (s_drop (x_on (on_ob rfl) (x_nox (fun (y20 : Unit × ((Int × (List (Int × Int))) × List (List Int) × Int × List Int × List Int)) => (eD tN) y20.1) (fun (y20 : Unit × ((Int × (List (Int × Int))) × List (List Int) × Int × List Int × List Int)) (_ : Unit) => ([some ((eD (t2 tI (tL (t2 tI tI)))) a_web), some ((eD (tL tI)) a_dues), some ((eD tI) a_place), some ((eB "Bringing" fs_Bringing (wc (eD (t2 tI (tL (t2 tI tI)))) (wc (eO (eO (eD tI))) (wc (eD tI) (wc (eO (eD tI)) (w1 (eO (eD tI)))))))) y20.2), some ((eD (tL tI)) x3), o16.1, none, none, none] : AM.Env)) (x_all (x_K1 (xa_io rfl (xa_nil (k_call1n rfl rfl rfl (aw_io aw_nil) (t_Bringing_draw_in fu y18.2) rfl (fun _ => rfl) (fun _ => rfl) fun r19 => (e_end () rfl rfl)))))) fun y20 _ => (n_env (e' := ([some ((eD (t2 tI (tL (t2 tI tI)))) a_web), some ((eD (tL tI)) a_dues), some ((eD tI) a_place), some ((eB "Bringing" fs_Bringing (wc (eD (t2 tI (tL (t2 tI tI)))) (wc (eO (eO (eD tI))) (wc (eD tI) (wc (eO (eD tI)) (w1 (eO (eD tI)))))))) y20.2), some ((eD (tL tI)) x3), o16.1, none, none, none] : AM.Env)) rfl (s_last (s_ret (x_tup (x_endA (xa_bor (lFld_ok rfl rfl rfl) (xa_bor (lFld_ok rfl rfl rfl) (xa_own (x_on (on_ob rfl) (x_nox (fun (y22 : List Int) => (eO (eD tI)) y22) (fun (y22 : List Int) (_ : Unit) => ([some ((eD (t2 tI (tL (t2 tI tI)))) a_web), some ((eD (tL tI)) a_dues), some ((eD tI) a_place), some ((eB "Bringing" fs_Bringing (wc (eD (t2 tI (tL (t2 tI tI)))) (wc (eO (eO (eD tI))) (wc (eD tI) (wc (eO (eD tI)) (w1 (eO (eD tI)))))))) y20.2), some ((eD (tL tI)) x3), o16.1, none, none, none] : AM.Env)) (x_all (x_K0 (xa_bor rfl (xa_nil (k_call0bn (aw_bor (fz_ob (fzl_c fz_sh (fzl_c (fz_ol (fz_ol fz_sh)) (fzl_c fz_sh (fzl_c (fz_ol fz_sh) (fzl_1 (fz_ol fz_sh))))))) rfl aw_nil) (t_Bringing_order fu y20.2) rfl (fun a => (cl_ol cl_I) _) fun r21 => (e_end () rfl rfl)))))) fun y22 _ => (xa_nil (k_end rfl rfl rfl rfl (o_val (a := (o3 (eO (eD tI)) (eO (eD tI)) (eO (eD tI))) (y20.2.2.2.2.2, y20.2.2.2.2.1, y22)) rfl (n_ret ⟨rfl, rfl, rfl⟩)))))))))))))))))))))))))))))))))))))))))))))))
def p_draw (fu : Nat) (a_web : Int × (List (Int × Int))) (a_dues : List Int) (a_place : Int) : X ((Int × List Int × (List Int × List Int))) :=
  X.bind (p_look_at_dues a_web a_dues) fun r1 => X.bind (p_look_at_place a_web a_place) fun r2 => X.bind (p_brought fu 200 a_web a_dues a_place) fun r3 => X.bind (X.ofO (at_  r3.2.1 a_place)) fun x4 => X.ok (x4, r3.1, (r3.1, r3.2.2))
theorem t_draw (fu : Nat) (a_web : Int × (List (Int × Int))) (a_dues : List Int) (a_place : Int) : TF ((m_draw fu) [(eD (t2 tI (tL (t2 tI tI)))) a_web, (eD (tL tI)) a_dues, (eD tI) a_place]) (p_draw fu a_web a_dues a_place) (fun r => (o3 (eD tI) (eD (tL tI)) (o2 (eO (eD tI)) (eO (eD tI)))) r) (fun r => [none, none, none]) xAny :=
  tf_fn rfl (s_drop (x_K0 (xa_own (x_val rfl (xa_own (x_val rfl (xa_nil (k_call0 (aw_own (aw_own aw_nil)) (t_look_at_dues a_web a_dues) rfl rfl ⟨rfl, trivial⟩ fun r1 => (s_drop (x_K0 (xa_own (x_val rfl (xa_own (x_val rfl (xa_nil (k_call0 (aw_own (aw_own aw_nil)) (t_look_at_place a_web a_place) rfl rfl ⟨rfl, trivial⟩ fun r2 => (s_asg (x_K0 (xa_own (x_val rfl (xa_own (x_val rfl (xa_own (x_val rfl (xa_nil (k_call0 (aw_own (aw_own (aw_own aw_nil))) (t_brought fu 200 a_web a_dues a_place) rfl rfl ⟨rfl, trivial⟩ fun r3 => (k_G rfl (n_env (e' := ([some ((eD (t2 tI (tL (t2 tI tI)))) a_web), some ((eD (tL tI)) a_dues), some ((eD tI) a_place), some ((eO (eD tI)) r3.1), some ((eO (eD tI)) r3.2.1), some ((eO (eD tI)) r3.2.2)] : AM.Env)) rfl (s_last (s_ret (x_tup (x_cons (x_sh (x_ix (x_val rfl (x_val rfl (o_par (ix_ol _ _) fun x4 => (o_val rfl (x_cons (x_val (frzV (fz_ol fz_sh) rfl) (x_cons (x_tup (x_cons (x_bi (x_cons (x_val rfl (x_nil (o_val (list_L le_sh _) (x_cons (x_val rfl (x_nil (o_val (a := (o2 (eO (eD tI)) (eO (eD tI))) (r3.1, r3.2.2)) rfl (x_nil (o_val (a := (o3 (eD tI) (eD (tL tI)) (o2 (eO (eD tI)) (eO (eD tI)))) (x4, r3.1, (r3.1, r3.2.2))) rfl (n_ret ⟨rfl, rfl, rfl⟩)))))))))))))))))))))))))))))))))))))))))))))))))))))))
def p__law_draw (fu : Nat) (a_web_here : Int × (List (Int × Int))) (a_dues : List Int) (a_place : Int) : X Int :=
  X.bind (p_draw fu a_web_here a_dues a_place) fun r1 => X.ok r1.1
theorem t__law_draw (fu : Nat) (a_web_here : Int × (List (Int × Int))) (a_dues : List Int) (a_place : Int) : TF ((m__law_draw fu) [(eD (t2 tI (tL (t2 tI tI)))) a_web_here, (eD (tL tI)) a_dues, (eD tI) a_place]) (p__law_draw fu a_web_here a_dues a_place) (fun r => (eD tI) r) (fun r => [none, none, none]) xAny :=
  tf_fn rfl (s_last (s_ret (x_ix (x_K0 (xa_own (x_val rfl (xa_own (x_fz (x_bi (x_cons (x_val rfl (x_nil (o_val (list_L le_sh _) (o_val (fzV (fz_ol fz_sh) _) (xa_own (x_val rfl (xa_nil (k_call0 (aw_own (aw_own (aw_own aw_nil))) (t_draw fu a_web_here a_dues a_place) rfl rfl ⟨rfl, trivial⟩ fun r1 => (x_val (e := _) (a := (eD tI) 0) rfl (o_val (a := (eD tI) r1.1) rfl (n_ret ⟨rfl, rfl, rfl⟩)))))))))))))))))))))
def p_loose (a_web : Int × (List (Int × Int))) : X Int :=
  X.ok ((((a_web.2.length : Nat) : Int) + 1) - a_web.1)
theorem t_loose (a_web : Int × (List (Int × Int))) : TF (m_loose [(eD (t2 tI (tL (t2 tI tI)))) a_web]) (p_loose a_web) (fun r => (eD tI) r) (fun r => [none]) xAny :=
  tf_fn rfl (s_last (s_ret (x_op2 (x_op2 (x_bi (x_cons (x_ix (x_val rfl (x_val (e := _) (a := (eD tI) 1) rfl (o_val (a := (eD (tL (t2 tI tI))) a_web.2) rfl (x_nil (o_val (len_sh _) (x_val (e := _) (a := (eD tI) 1) rfl (o_val (add_I _ _) (x_ix (x_val rfl (x_val (e := _) (a := (eD tI) 0) rfl (o_val (a := (eD tI) a_web.1) rfl (o_val (sub_I _ _) (n_ret ⟨rfl, rfl, rfl⟩))))))))))))))))))))
def p__law_more (a_dues : List Int) (a_place : Int) (a_number_here : Int) : X (List Int) :=
  X.bind (X.ofO (at_  a_dues a_place)) fun x1 => X.bind (X.ofO (setO a_dues a_place (x1 + a_number_here))) fun x2 => X.ok x2
theorem t__law_more (a_dues : List Int) (a_place : Int) (a_number_here : Int) : TF (m__law_more [(eD (tL tI)) a_dues, (eD tI) a_place, (eD tI) a_number_here]) (p__law_more a_dues a_place a_number_here) (fun r => (eO (eD tI)) r) (fun r => [none, none, none]) xAny :=
  tf_fn rfl (s_asg (x_bi (x_cons (x_val rfl (x_nil (o_val (list_L le_sh _) (k_set rfl (n_env (e' := ([some ((eD (tL tI)) a_dues), some ((eD tI) a_place), some ((eD tI) a_number_here), some ((eO (eD tI)) a_dues)] : AM.Env)) rfl (s_asg (x_op2 (x_ix (x_val rfl (x_val rfl (o_par (ix_ol _ _) fun x1 => (x_val rfl (o_val (add_I _ _) (k_setI (v := (x1 + a_number_here)) rfl (v_of (x_all (x_val rfl (e_end () rfl rfl)))) rfl (fun _ => rfl) fun x2 => (n_env (e' := ([some ((eD (tL tI)) a_dues), some ((eD tI) a_place), some ((eD tI) a_number_here), some ((eO (eD tI)) x2)] : AM.Env)) rfl (s_last (s_ret (x_val rfl (n_ret ⟨rfl, rfl, rfl⟩))))))))))))))))))))))
def p_is_clear (a_dues : List Int) : X Bool :=
  X.bind (X.ofO (minO  a_dues)) fun x1 => X.ok (decide (0 ≤ x1))
theorem t_is_clear (a_dues : List Int) : TF (m_is_clear [(eD (tL tI)) a_dues]) (p_is_clear a_dues) (fun r => (eD tB) r) (fun r => [none]) xAny :=
  tf_fn rfl (s_last (s_ret (x_op2 (x_bi (x_cons (x_val rfl (x_nil (o_par (min_L le_sh _) fun x1 => (x_val (e := _) (a := (eD tI) 0) rfl (o_val (ge_I _ _) (n_ret ⟨rfl, rfl, rfl⟩)))))))))))
def p_cleared (fu : Nat) (a_web : Int × (List (Int × Int))) (a_dues : List Int) : X ((Bool × List Int × Option (List Int))) :=
  X.bind (p_look_at_dues a_web a_dues) fun r1 => X.bind (p_brought fu 200 a_web a_dues 0) fun r2 => X.bind (p_is_clear r2.2.1) fun r3 => if r3 = true then (X.ok (true, r2.1, none)) else X.ok (false, r2.1, (some r2.2.2))
theorem t_cleared (fu : Nat) (a_web : Int × (List (Int × Int))) (a_dues : List Int) : TF ((m_cleared fu) [(eD (t2 tI (tL (t2 tI tI)))) a_web, (eD (tL tI)) a_dues]) (p_cleared fu a_web a_dues) (fun r => (oP (eD tB) (eO (eD tI)) (eO (eD tI))) r) (fun r => [none, none]) xAny :=
  tf_fn rfl (s_drop (x_K0 (xa_own (x_val rfl (xa_own (x_val rfl (xa_nil (k_call0 (aw_own (aw_own aw_nil)) (t_look_at_dues a_web a_dues) rfl rfl ⟨rfl, trivial⟩ fun r1 => (s_asg (x_K0 (xa_own (x_val rfl (xa_own (x_val rfl (xa_own (x_val (e := _) (a := (eD tI) 0) rfl (xa_nil (k_call0 (aw_own (aw_own (aw_own aw_nil))) (t_brought fu 200 a_web a_dues 0) rfl rfl ⟨rfl, trivial⟩ fun r2 => (k_G rfl (n_env (e' := ([some ((eD (t2 tI (tL (t2 tI tI)))) a_web), some ((eD (tL tI)) a_dues), some ((eO (eD tI)) r2.1), some ((eO (eD tI)) r2.2.1), some ((eO (eD tI)) r2.2.2)] : AM.Env)) rfl (s_if (x_B (x_K0 (xa_bor rfl (xa_nil (k_call0b (aw_bor (fz_ol fz_sh) rfl aw_nil) (t_is_clear r2.2.1) rfl (fun a => cl_B _) ⟨rfl, trivial⟩ fun r3 => (o_val (bl_B _) (k_if (s_ret (x_tup (x_cons (x_val (e := _) (a := (eD tB) true) rfl (x_cons (x_val rfl (x_nil (o_val (a := (o2 (eD tB) (eO (eD tI))) (true, r2.1)) rfl (n_ret ⟨rfl, rfl, rfl⟩))))))))) (s_nx (s_last (s_ret (x_tup (x_cons (x_val (e := _) (a := (eD tB) false) rfl (x_cons (x_val rfl (x_cons (x_val rfl (x_nil (o_val (a := (o3 (eD tB) (eO (eD tI)) (eO (eD tI))) (false, r2.1, r2.2.2)) rfl (n_ret ⟨rfl, rfl, rfl⟩)))))))))))))))))))))))))))))))))))))))))
def p_law (fu : Nat) (a_script : List Int) : X Bool :=
  X.bind (X.ofO (rg3 0 12 3)) fun x1 => X.bindR (X.forL (fun (x2 : Int) (s3 : Unit) => X.bind (p__law_pile a_script x2) fun r5 => X.bind (p__law_web fu r5 1 6 10) fun r6 => X.bind (p__law_pile a_script (x2 + 1)) fun r7 => X.bind (p__law_numbers r7 r6.1.1) fun r8 => X.bind (p__law_take r8.2 r6.1.1) fun r9 => X.bind (p__law_take r9.2 r6.1.1) fun r10 => X.bind (p__law_pile a_script (x2 + 2)) fun r11 => X.bind (p__law_numbers r11 r6.1.1) fun r12 => X.bind (p__law_number r12.2) fun r13 => X.bind (p__law_draw fu r6.1 r8.1 r9.1) fun r14 => X.bind (p_lent r6.1 r8.1 r12.1) fun r15 => X.bind (p__law_draw fu r6.1 r15 r9.1) fun r16 => X.bind (if (!decide (r16 = r14)) = true then X.ok true else X.bind (if (decide ((List.sum r8.1) < r14)) = true then X.ok true else X.bind (p_loose r6.1) fun r17 => X.ok (decide (r14 < ((List.sum r8.1) - r17)))) fun b18 => X.ok b18) fun b19 => if b19 = true then (X.ok (.rt false)) else X.bind (p__law_more r8.1 r9.1 r13.1) fun r20 => X.bind (p__law_draw fu r6.1 r20 r9.1) fun r21 => if (!decide (r21 = (r14 + r13.1))) = true then (X.ok (.rt false)) else X.bind (p__law_more r8.1 r10.1 1) fun r22 => X.bind (p__law_draw fu r6.1 r22 r9.1) fun r23 => if (decide (r23 < (r14 + (b2i (decide (r10.1 = r9.1)))))) = true then (X.ok (.rt false)) else X.bind (p_cleared fu r6.1 r8.1) fun r24 => X.bind (if (!decide (r24.1 = (decide (0 ≤ r14)))) = true then X.ok true else X.bind (p__law_draw fu r6.1 r8.1 r10.1) fun r25 => X.ok (!decide ((decide (0 ≤ r14)) = (decide (0 ≤ r25))))) fun b26 => if b26 = true then (X.ok (.rt false)) else X.bind (p__law_more r8.1 r9.1 (-r14)) fun r27 => X.bind (p__law_draw fu r6.1 r27 r9.1) fun r28 => if (!decide (r28 = 0)) = true then (X.ok (.rt false)) else X.bind (X.ofO (lcO (fun (x29 : Int × Int) => ((((r6.1.1 - 1) - x29.2), ((r6.1.1 - 1) - x29.1)) : Int × Int)) r6.1.2)) fun x30 => X.bind (p__law_draw fu (r6.1.1, x30) (List.reverse r8.1) ((r6.1.1 - 1) - r9.1)) fun r31 => if (!decide (r31 = r14)) = true then (X.ok (.rt false)) else X.bind (X.ofO (repO  [0] r6.1.1)) fun x32 => X.bind (p__law_more x32 r9.1 (List.sum r8.1)) fun r33 => X.bind (p__law_draw fu r6.1 r33 r9.1) fun r34 => if (!decide (r34 = (List.sum r8.1))) = true then (X.ok (.rt false)) else X.ok (.go ())) x1 ()) fun (s3 : Unit) => X.ok true
theorem t_law (fu : Nat) (a_script : List Int) : TF ((m_law fu) [(eD tR) a_script]) (p_law fu a_script) (fun r => (eD tB) r) (fun r => [none]) xAny :=
  tf_fn rfl (s_for (x_itR (x_cons (x_val (e := _) (a := (eD tI) 0) rfl (x_cons (x_val (e := _) (a := (eD tI) 12) rfl (x_cons (x_val (e := _) (a := (eD tI) 3) rfl (x_nil (o_par (rg_3 _ _ _) fun x1 => (k_forR (fun (s3 : Unit) (o4 : Option W × Option W × Option W × Option W × Option W × Option W × Option W × Option W × Option W × Option W × Option W × Option W × Option W × Option W × Option W × Unit) => ([some ((eD tR) a_script), o4.1, o4.2.1, o4.2.2.1, o4.2.2.2.1, o4.2.2.2.2.1, o4.2.2.2.2.2.1, o4.2.2.2.2.2.2.1, o4.2.2.2.2.2.2.2.1, o4.2.2.2.2.2.2.2.2.1, o4.2.2.2.2.2.2.2.2.2.1, o4.2.2.2.2.2.2.2.2.2.2.1, o4.2.2.2.2.2.2.2.2.2.2.2.1, o4.2.2.2.2.2.2.2.2.2.2.2.2.1, o4.2.2.2.2.2.2.2.2.2.2.2.2.2.1, o4.2.2.2.2.2.2.2.2.2.2.2.2.2.2.1] : AM.Env)) () (_, _, _, _, _, _, _, _, _, _, _, _, _, _, _, ()) rfl rfl (fun x2 s3 o4 => (k_set rfl (s_asg (x_fz (x_K0 (xa_own (x_K0 (xa_own (x_val rfl (xa_own (x_val rfl (xa_nil (k_call0 (aw_own (aw_own aw_nil)) (t__law_pile a_script x2) rfl rfl ⟨rfl, trivial⟩ fun r5 => (xa_own (x_val (e := _) (a := (eD tI) 1) rfl (xa_own (x_val (e := _) (a := (eD tI) 6) rfl (xa_own (x_val (e := _) (a := (eD tI) 10) rfl (xa_nil (k_call0 (aw_own (aw_own (aw_own (aw_own aw_nil)))) (t__law_web fu r5 1 6 10) rfl rfl ⟨rfl, trivial⟩ fun r6 => (o_val (fzV (fz_o2 fz_sh (fz_ol fz_sh)) _) (k_set rfl (n_env (e' := ([some ((eD tR) a_script), some ((eD tI) x2), some ((eD (t2 tI (tL (t2 tI tI)))) r6.1), o4.2.2.1, o4.2.2.2.1, o4.2.2.2.2.1, o4.2.2.2.2.2.1, o4.2.2.2.2.2.2.1, o4.2.2.2.2.2.2.2.1, o4.2.2.2.2.2.2.2.2.1, o4.2.2.2.2.2.2.2.2.2.1, o4.2.2.2.2.2.2.2.2.2.2.1, o4.2.2.2.2.2.2.2.2.2.2.2.1, o4.2.2.2.2.2.2.2.2.2.2.2.2.1, o4.2.2.2.2.2.2.2.2.2.2.2.2.2.1, o4.2.2.2.2.2.2.2.2.2.2.2.2.2.2.1] : AM.Env)) rfl (s_asg (x_val rfl (k_G rfl (n_env (e' := ([some ((eD tR) a_script), some ((eD tI) x2), some ((eD (t2 tI (tL (t2 tI tI)))) r6.1), o4.2.2.1, o4.2.2.2.1, o4.2.2.2.2.1, o4.2.2.2.2.2.1, o4.2.2.2.2.2.2.1, o4.2.2.2.2.2.2.2.1, o4.2.2.2.2.2.2.2.2.1, o4.2.2.2.2.2.2.2.2.2.1, o4.2.2.2.2.2.2.2.2.2.2.1, some ((eD tI) r6.1.1), some ((eD (tL (t2 tI tI))) r6.1.2), o4.2.2.2.2.2.2.2.2.2.2.2.2.2.1, o4.2.2.2.2.2.2.2.2.2.2.2.2.2.2.1] : AM.Env)) rfl (s_asg (x_K0 (xa_own (x_val rfl (xa_own (x_op2 (x_val rfl (x_val (e := _) (a := (eD tI) 1) rfl (o_val (add_I _ _) (xa_nil (k_call0 (aw_own (aw_own aw_nil)) (t__law_pile a_script (x2 + 1)) rfl rfl ⟨rfl, trivial⟩ fun r7 => (k_set rfl (n_env (e' := ([some ((eD tR) a_script), some ((eD tI) x2), some ((eD (t2 tI (tL (t2 tI tI)))) r6.1), some ((eO (eD tI)) r7), o4.2.2.2.1, o4.2.2.2.2.1, o4.2.2.2.2.2.1, o4.2.2.2.2.2.2.1, o4.2.2.2.2.2.2.2.1, o4.2.2.2.2.2.2.2.2.1, o4.2.2.2.2.2.2.2.2.2.1, o4.2.2.2.2.2.2.2.2.2.2.1, some ((eD tI) r6.1.1), some ((eD (tL (t2 tI tI))) r6.1.2), o4.2.2.2.2.2.2.2.2.2.2.2.2.2.1, o4.2.2.2.2.2.2.2.2.2.2.2.2.2.2.1] : AM.Env)) rfl (s_asg (x_fz (x_K1 (xa_io rfl (xa_own (x_val rfl (xa_nil (k_call1 rfl rfl rfl (aw_io (aw_own aw_nil)) (t__law_numbers r7 r6.1.1) rfl (fun _ => rfl) (fun _ => rfl) (fun _ ⟨v, h⟩ => ⟨v, _, h, rfl, ⟨rfl, trivial⟩⟩) fun r8 => (o_val (fzV (fz_ol fz_sh) _) (k_set rfl (n_env (e' := ([some ((eD tR) a_script), some ((eD tI) x2), some ((eD (t2 tI (tL (t2 tI tI)))) r6.1), some ((eO (eD tI)) r8.2), some ((eD (tL tI)) r8.1), o4.2.2.2.2.1, o4.2.2.2.2.2.1, o4.2.2.2.2.2.2.1, o4.2.2.2.2.2.2.2.1, o4.2.2.2.2.2.2.2.2.1, o4.2.2.2.2.2.2.2.2.2.1, o4.2.2.2.2.2.2.2.2.2.2.1, some ((eD tI) r6.1.1), some ((eD (tL (t2 tI tI))) r6.1.2), o4.2.2.2.2.2.2.2.2.2.2.2.2.2.1, o4.2.2.2.2.2.2.2.2.2.2.2.2.2.2.1] : AM.Env)) rfl (s_asg (x_fz (x_K1 (xa_io rfl (xa_own (x_val rfl (xa_nil (k_call1 rfl rfl rfl (aw_io (aw_own aw_nil)) (t__law_take r8.2 r6.1.1) rfl (fun _ => rfl) (fun _ => rfl) (fun _ ⟨v, h⟩ => ⟨v, _, h, rfl, ⟨rfl, trivial⟩⟩) fun r9 => (o_val (fzV fz_sh _) (k_set rfl (n_env (e' := ([some ((eD tR) a_script), some ((eD tI) x2), some ((eD (t2 tI (tL (t2 tI tI)))) r6.1), some ((eO (eD tI)) r9.2), some ((eD (tL tI)) r8.1), some ((eD tI) r9.1), o4.2.2.2.2.2.1, o4.2.2.2.2.2.2.1, o4.2.2.2.2.2.2.2.1, o4.2.2.2.2.2.2.2.2.1, o4.2.2.2.2.2.2.2.2.2.1, o4.2.2.2.2.2.2.2.2.2.2.1, some ((eD tI) r6.1.1), some ((eD (tL (t2 tI tI))) r6.1.2), o4.2.2.2.2.2.2.2.2.2.2.2.2.2.1, o4.2.2.2.2.2.2.2.2.2.2.2.2.2.2.1] : AM.Env)) rfl (s_asg (x_fz (x_K1 (xa_io rfl (xa_own (x_val rfl (xa_nil (k_call1 rfl rfl rfl (aw_io (aw_own aw_nil)) (t__law_take r9.2 r6.1.1) rfl (fun _ => rfl) (fun _ => rfl) (fun _ ⟨v, h⟩ => ⟨v, _, h, rfl, ⟨rfl, trivial⟩⟩) fun r10 => (o_val (fzV fz_sh _) (k_set rfl (n_env (e' := ([some ((eD tR) a_script), some ((eD tI) x2), some ((eD (t2 tI (tL (t2 tI tI)))) r6.1), some ((eO (eD tI)) r10.2), some ((eD (tL tI)) r8.1), some ((eD tI) r9.1), some ((eD tI) r10.1), o4.2.2.2.2.2.2.1, o4.2.2.2.2.2.2.2.1, o4.2.2.2.2.2.2.2.2.1, o4.2.2.2.2.2.2.2.2.2.1, o4.2.2.2.2.2.2.2.2.2.2.1, some ((eD tI) r6.1.1), some ((eD (tL (t2 tI tI))) r6.1.2), o4.2.2.2.2.2.2.2.2.2.2.2.2.2.1, o4.2.2.2.2.2.2.2.2.2.2.2.2.2.2.1] : AM.Env)) rfl (s_asg (x_K0 (xa_own (x_val rfl (xa_own (x_op2 (x_val rfl (x_val (e := _) (a := (eD tI) 2) rfl (o_val (add_I _ _) (xa_nil (k_call0 (aw_own (aw_own aw_nil)) (t__law_pile a_script (x2 + 2)) rfl rfl ⟨rfl, trivial⟩ fun r11 => (k_set rfl (n_env (e' := ([some ((eD tR) a_script), some ((eD tI) x2), some ((eD (t2 tI (tL (t2 tI tI)))) r6.1), some ((eO (eD tI)) r11), some ((eD (tL tI)) r8.1), some ((eD tI) r9.1), some ((eD tI) r10.1), o4.2.2.2.2.2.2.1, o4.2.2.2.2.2.2.2.1, o4.2.2.2.2.2.2.2.2.1, o4.2.2.2.2.2.2.2.2.2.1, o4.2.2.2.2.2.2.2.2.2.2.1, some ((eD tI) r6.1.1), some ((eD (tL (t2 tI tI))) r6.1.2), o4.2.2.2.2.2.2.2.2.2.2.2.2.2.1, o4.2.2.2.2.2.2.2.2.2.2.2.2.2.2.1] : AM.Env)) rfl (s_asg (x_fz (x_K1 (xa_io rfl (xa_own (x_val rfl (xa_nil (k_call1 rfl rfl rfl (aw_io (aw_own aw_nil)) (t__law_numbers r11 r6.1.1) rfl (fun _ => rfl) (fun _ => rfl) (fun _ ⟨v, h⟩ => ⟨v, _, h, rfl, ⟨rfl, trivial⟩⟩) fun r12 => (o_val (fzV (fz_ol fz_sh) _) (k_set rfl (n_env (e' := ([some ((eD tR) a_script), some ((eD tI) x2), some ((eD (t2 tI (tL (t2 tI tI)))) r6.1), some ((eO (eD tI)) r12.2), some ((eD (tL tI)) r8.1), some ((eD tI) r9.1), some ((eD tI) r10.1), some ((eD (tL tI)) r12.1), o4.2.2.2.2.2.2.2.1, o4.2.2.2.2.2.2.2.2.1, o4.2.2.2.2.2.2.2.2.2.1, o4.2.2.2.2.2.2.2.2.2.2.1, some ((eD tI) r6.1.1), some ((eD (tL (t2 tI tI))) r6.1.2), o4.2.2.2.2.2.2.2.2.2.2.2.2.2.1, o4.2.2.2.2.2.2.2.2.2.2.2.2.2.2.1] : AM.Env)) rfl (s_asg (x_fz (x_K1 (xa_io rfl (xa_nil (k_call1 rfl rfl rfl (aw_io aw_nil) (t__law_number r12.2) rfl (fun _ => rfl) (fun _ => rfl) (fun _ ⟨v, h⟩ => ⟨v, _, h, rfl, ⟨rfl, trivial⟩⟩) fun r13 => (o_val (fzV fz_sh _) (k_set rfl (n_env (e' := ([some ((eD tR) a_script), some ((eD tI) x2), some ((eD (t2 tI (tL (t2 tI tI)))) r6.1), some ((eO (eD tI)) r13.2), some ((eD (tL tI)) r8.1), some ((eD tI) r9.1), some ((eD tI) r10.1), some ((eD (tL tI)) r12.1), some ((eD tI) r13.1), o4.2.2.2.2.2.2.2.2.1, o4.2.2.2.2.2.2.2.2.2.1, o4.2.2.2.2.2.2.2.2.2.2.1, some ((eD tI) r6.1.1), some ((eD (tL (t2 tI tI))) r6.1.2), o4.2.2.2.2.2.2.2.2.2.2.2.2.2.1, o4.2.2.2.2.2.2.2.2.2.2.2.2.2.2.1] : AM.Env)) rfl (s_asg (x_fz (x_K0 (xa_own (x_val rfl (xa_own (x_val rfl (xa_own (x_val rfl (xa_nil (k_call0 (aw_own (aw_own (aw_own aw_nil))) (t__law_draw fu r6.1 r8.1 r9.1) rfl rfl ⟨rfl, trivial⟩ fun r14 => (o_val (fzV fz_sh _) (k_set rfl (n_env (e' := ([some ((eD tR) a_script), some ((eD tI) x2), some ((eD (t2 tI (tL (t2 tI tI)))) r6.1), some ((eO (eD tI)) r13.2), some ((eD (tL tI)) r8.1), some ((eD tI) r9.1), some ((eD tI) r10.1), some ((eD (tL tI)) r12.1), some ((eD tI) r13.1), some ((eD tI) r14), o4.2.2.2.2.2.2.2.2.2.1, o4.2.2.2.2.2.2.2.2.2.2.1, some ((eD tI) r6.1.1), some ((eD (tL (t2 tI tI))) r6.1.2), o4.2.2.2.2.2.2.2.2.2.2.2.2.2.1, o4.2.2.2.2.2.2.2.2.2.2.2.2.2.2.1] : AM.Env)) rfl (s_if (x_or (x_B (x_op2 (x_K0 (xa_own (x_val rfl (xa_own (x_fz (x_K0 (xa_own (x_val rfl (xa_own (x_val rfl (xa_own (x_val rfl (xa_nil (k_call0 (aw_own (aw_own (aw_own aw_nil))) (t_lent r6.1 r8.1 r12.1) rfl rfl ⟨rfl, trivial⟩ fun r15 => (o_val (fzV (fz_ol fz_sh) _) (xa_own (x_val rfl (xa_nil (k_call0 (aw_own (aw_own (aw_own aw_nil))) (t__law_draw fu r6.1 r15 r9.1) rfl rfl ⟨rfl, trivial⟩ fun r16 => (x_val rfl (o_val (gNe_p pl_I rfl fz_sh fz_sh _ _) (o_val (bl_B _) (k_orX id (fun (_ : Bool) (_ : Unit) => ([some ((eD tR) a_script), some ((eD tI) x2), some ((eD (t2 tI (tL (t2 tI tI)))) r6.1), some ((eO (eD tI)) r13.2), some ((eD (tL tI)) r8.1), some ((eD tI) r9.1), some ((eD tI) r10.1), some ((eD (tL tI)) r12.1), some ((eD tI) r13.1), some ((eD tI) r14), o4.2.2.2.2.2.2.2.2.2.1, o4.2.2.2.2.2.2.2.2.2.2.1, some ((eD tI) r6.1.1), some ((eD (tL (t2 tI tI))) r6.1.2), o4.2.2.2.2.2.2.2.2.2.2.2.2.2.1, o4.2.2.2.2.2.2.2.2.2.2.2.2.2.2.1] : AM.Env)) true () (x_all (x_or (x_B (x_op2 (x_val rfl (x_bi (x_cons (x_val rfl (x_nil (o_val (sum_I le_sh _) (o_val (gt_I _ _) (o_val (bl_B _) (k_orX id (fun (_ : Bool) (_ : Unit) => ([some ((eD tR) a_script), some ((eD tI) x2), some ((eD (t2 tI (tL (t2 tI tI)))) r6.1), some ((eO (eD tI)) r13.2), some ((eD (tL tI)) r8.1), some ((eD tI) r9.1), some ((eD tI) r10.1), some ((eD (tL tI)) r12.1), some ((eD tI) r13.1), some ((eD tI) r14), o4.2.2.2.2.2.2.2.2.2.1, o4.2.2.2.2.2.2.2.2.2.2.1, some ((eD tI) r6.1.1), some ((eD (tL (t2 tI tI))) r6.1.2), o4.2.2.2.2.2.2.2.2.2.2.2.2.2.1, o4.2.2.2.2.2.2.2.2.2.2.2.2.2.2.1] : AM.Env)) true () (x_all (x_B (x_op2 (x_val rfl (x_op2 (x_bi (x_cons (x_val rfl (x_nil (o_val (sum_I le_sh _) (x_K0 (xa_own (x_val rfl (xa_nil (k_call0 (aw_own aw_nil) (t_loose r6.1) rfl rfl ⟨rfl, trivial⟩ fun r17 => (o_val (sub_I _ _) (o_val (lt_I _ _) (o_val (bl_B _) (e_end () rfl rfl))))))))))))))))))) rfl rfl fun b18 _ => (e_end () rfl rfl)))))))))))))) rfl rfl fun b19 _ => (k_if (s_ret (x_val (e := _) (a := (eD tB) false) rfl (n_retS ⟨rfl, rfl, rfl⟩))) (s_nx (s_if (x_B (x_op2 (x_K0 (xa_own (x_val rfl (xa_own (x_fz (x_K0 (xa_own (x_val rfl (xa_own (x_val rfl (xa_own (x_val rfl (xa_nil (k_call0 (aw_own (aw_own (aw_own aw_nil))) (t__law_more r8.1 r9.1 r13.1) rfl rfl ⟨rfl, trivial⟩ fun r20 => (o_val (fzV (fz_ol fz_sh) _) (xa_own (x_val rfl (xa_nil (k_call0 (aw_own (aw_own (aw_own aw_nil))) (t__law_draw fu r6.1 r20 r9.1) rfl rfl ⟨rfl, trivial⟩ fun r21 => (x_op2 (x_val rfl (x_val rfl (o_val (add_I _ _) (o_val (gNe_p pl_I rfl fz_sh fz_sh _ _) (o_val (bl_B _) (k_if (s_ret (x_val (e := _) (a := (eD tB) false) rfl (n_retS ⟨rfl, rfl, rfl⟩))) (s_nx (s_if (x_B (x_op2 (x_K0 (xa_own (x_val rfl (xa_own (x_fz (x_K0 (xa_own (x_val rfl (xa_own (x_val rfl (xa_own (x_val (e := _) (a := (eD tI) 1) rfl (xa_nil (k_call0 (aw_own (aw_own (aw_own aw_nil))) (t__law_more r8.1 r10.1 1) rfl rfl ⟨rfl, trivial⟩ fun r22 => (o_val (fzV (fz_ol fz_sh) _) (xa_own (x_val rfl (xa_nil (k_call0 (aw_own (aw_own (aw_own aw_nil))) (t__law_draw fu r6.1 r22 r9.1) rfl rfl ⟨rfl, trivial⟩ fun r23 => (x_op2 (x_val rfl (x_bi (x_cons (x_op2 (x_val rfl (x_val rfl (o_val (gEq_p pl_I rfl fz_sh fz_sh _ _) (x_nil (o_val (int_B _) (o_val (add_I _ _) (o_val (lt_I _ _) (o_val (bl_B _) (k_if (s_ret (x_val (e := _) (a := (eD tB) false) rfl (n_retS ⟨rfl, rfl, rfl⟩))) (s_nx (s_if (x_or (x_B (x_op2 (x_ix (x_K0 (xa_own (x_val rfl (xa_own (x_val rfl (xa_nil (k_call0 (aw_own (aw_own aw_nil)) (t_cleared fu r6.1 r8.1) rfl rfl ⟨rfl, trivial⟩ fun r24 => (x_val (e := _) (a := (eD tI) 0) rfl (o_val (ixP_0 _) (x_op2 (x_val rfl (x_val (e := _) (a := (eD tI) 0) rfl (o_val (ge_I _ _) (o_val (gNe_p pl_B rfl fz_sh fz_sh _ _) (o_val (bl_B _) (k_orX id (fun (_ : Bool) (_ : Unit) => ([some ((eD tR) a_script), some ((eD tI) x2), some ((eD (t2 tI (tL (t2 tI tI)))) r6.1), some ((eO (eD tI)) r13.2), some ((eD (tL tI)) r8.1), some ((eD tI) r9.1), some ((eD tI) r10.1), some ((eD (tL tI)) r12.1), some ((eD tI) r13.1), some ((eD tI) r14), o4.2.2.2.2.2.2.2.2.2.1, o4.2.2.2.2.2.2.2.2.2.2.1, some ((eD tI) r6.1.1), some ((eD (tL (t2 tI tI))) r6.1.2), o4.2.2.2.2.2.2.2.2.2.2.2.2.2.1, o4.2.2.2.2.2.2.2.2.2.2.2.2.2.2.1] : AM.Env)) true () (x_all (x_B (x_op2 (x_op2 (x_val rfl (x_val (e := _) (a := (eD tI) 0) rfl (o_val (ge_I _ _) (x_op2 (x_K0 (xa_own (x_val rfl (xa_own (x_val rfl (xa_own (x_val rfl (xa_nil (k_call0 (aw_own (aw_own (aw_own aw_nil))) (t__law_draw fu r6.1 r8.1 r10.1) rfl rfl ⟨rfl, trivial⟩ fun r25 => (x_val (e := _) (a := (eD tI) 0) rfl (o_val (ge_I _ _) (o_val (gNe_p pl_B rfl fz_sh fz_sh _ _) (o_val (bl_B _) (e_end () rfl rfl)))))))))))))))))))))) rfl rfl fun b26 _ => (k_if (s_ret (x_val (e := _) (a := (eD tB) false) rfl (n_retS ⟨rfl, rfl, rfl⟩))) (s_nx (s_if (x_B (x_op2 (x_K0 (xa_own (x_val rfl (xa_own (x_fz (x_K0 (xa_own (x_val rfl (xa_own (x_val rfl (xa_own (x_op1 (x_val rfl (o_val (neg_I _) (xa_nil (k_call0 (aw_own (aw_own (aw_own aw_nil))) (t__law_more r8.1 r9.1 (-r14)) rfl rfl ⟨rfl, trivial⟩ fun r27 => (o_val (fzV (fz_ol fz_sh) _) (xa_own (x_val rfl (xa_nil (k_call0 (aw_own (aw_own (aw_own aw_nil))) (t__law_draw fu r6.1 r27 r9.1) rfl rfl ⟨rfl, trivial⟩ fun r28 => (x_val (e := _) (a := (eD tI) 0) rfl (o_val (gNe_p pl_I rfl fz_sh fz_sh _ _) (o_val (bl_B _) (k_if (s_ret (x_val (e := _) (a := (eD tB) false) rfl (n_retS ⟨rfl, rfl, rfl⟩))) (s_nx (s_asg (x_fz (x_tup (x_cons (x_val rfl (x_cons (x_cp (x_itL (x_val rfl (o_val (le_sh _) (k_cp (en := (eD (t2 tI tI))) (f := (fun (x29 : Int × Int) => ((((r6.1.1 - 1) - x29.2), ((r6.1.1 - 1) - x29.1)) : Int × Int))) rfl (fun _ => rfl) (fun x29 => (v_of (x_all (x_tup (x_cons (x_op2 (x_op2 (x_val rfl (x_val (e := _) (a := (eD tI) 1) rfl (o_val (sub_I _ _) (x_val rfl (o_val (sub_I _ _) (x_cons (x_op2 (x_op2 (x_val rfl (x_val (e := _) (a := (eD tI) 1) rfl (o_val (sub_I _ _) (x_val rfl (o_val (sub_I _ _) (x_nil (o_val (a := (eD (t2 tI tI)) (((r6.1.1 - 1) - x29.2), ((r6.1.1 - 1) - x29.1))) rfl (e_end () rfl rfl))))))))))))))))))))))) fun x30 => (x_nil (o_val (a := (o2 (eD tI) (eO (eD (t2 tI tI)))) (r6.1.1, x30)) rfl (o_val (fzV (fz_o2 fz_sh (fz_ol fz_sh)) _) (k_set rfl (n_env (e' := ([some ((eD tR) a_script), some ((eD tI) x2), some ((eD (t2 tI (tL (t2 tI tI)))) r6.1), some ((eO (eD tI)) r13.2), some ((eD (tL tI)) r8.1), some ((eD tI) r9.1), some ((eD tI) r10.1), some ((eD (tL tI)) r12.1), some ((eD tI) r13.1), some ((eD tI) r14), some ((eD (t2 tI (tL (t2 tI tI)))) (r6.1.1, x30)), o4.2.2.2.2.2.2.2.2.2.2.1, some ((eD tI) r6.1.1), some ((eD (tL (t2 tI tI))) r6.1.2), o4.2.2.2.2.2.2.2.2.2.2.2.2.2.1, o4.2.2.2.2.2.2.2.2.2.2.2.2.2.2.1] : AM.Env)) rfl (s_if (x_B (x_op2 (x_K0 (xa_own (x_val rfl (xa_own (x_fz (x_op1 (x_val rfl (o_val (rev_L le_sh _) (o_val (fzV (fz_ol fz_sh) _) (xa_own (x_op2 (x_op2 (x_val rfl (x_val (e := _) (a := (eD tI) 1) rfl (o_val (sub_I _ _) (x_val rfl (o_val (sub_I _ _) (xa_nil (k_call0 (aw_own (aw_own (aw_own aw_nil))) (t__law_draw fu (r6.1.1, x30) (List.reverse r8.1) ((r6.1.1 - 1) - r9.1)) rfl rfl ⟨rfl, trivial⟩ fun r31 => (x_val rfl (o_val (gNe_p pl_I rfl fz_sh fz_sh _ _) (o_val (bl_B _) (k_if (s_ret (x_val (e := _) (a := (eD tB) false) rfl (n_retS ⟨rfl, rfl, rfl⟩))) (s_nx (s_asg (x_fz (x_K0 (xa_own (x_fz (x_op2 (x_lst (x_cons (x_val (e := _) (a := (eD tI) 0) rfl (x_nil (o_val (lst_1 (e := (eD tI))) (x_val rfl (o_par (rep_L le_ol _ _) fun x32 => (o_val (fzV (fz_ol fz_sh) _) (xa_own (x_val rfl (xa_own (x_bi (x_cons (x_val rfl (x_nil (o_val (sum_I le_sh _) (xa_nil (k_call0 (aw_own (aw_own (aw_own aw_nil))) (t__law_more x32 r9.1 (List.sum r8.1)) rfl rfl ⟨rfl, trivial⟩ fun r33 => (o_val (fzV (fz_ol fz_sh) _) (k_set rfl (n_env (e' := ([some ((eD tR) a_script), some ((eD tI) x2), some ((eD (t2 tI (tL (t2 tI tI)))) r6.1), some ((eO (eD tI)) r13.2), some ((eD (tL tI)) r8.1), some ((eD tI) r9.1), some ((eD tI) r10.1), some ((eD (tL tI)) r12.1), some ((eD tI) r13.1), some ((eD tI) r14), some ((eD (t2 tI (tL (t2 tI tI)))) (r6.1.1, x30)), some ((eD (tL tI)) r33), some ((eD tI) r6.1.1), some ((eD (tL (t2 tI tI))) r6.1.2), o4.2.2.2.2.2.2.2.2.2.2.2.2.2.1, o4.2.2.2.2.2.2.2.2.2.2.2.2.2.2.1] : AM.Env)) rfl (s_last (s_if (x_B (x_op2 (x_K0 (xa_own (x_val rfl (xa_own (x_val rfl (xa_own (x_val rfl (xa_nil (k_call0 (aw_own (aw_own (aw_own aw_nil))) (t__law_draw fu r6.1 r33 r9.1) rfl rfl ⟨rfl, trivial⟩ fun r34 => (x_bi (x_cons (x_val rfl (x_nil (o_val (sum_I le_sh _) (o_val (gNe_p pl_I rfl fz_sh fz_sh _ _) (o_val (bl_B _) (k_if (s_ret (x_val (e := _) (a := (eD tB) false) rfl (n_retS ⟨rfl, rfl, rfl⟩))) (s_nx (n_goS (_, _, _, _, _, _, _, _, _, _, _, _, _, _, _, ()) rfl)))))))))))))))))))))))))))))))))))))))))))))))))))))))))))))))))))))))))))))))))))))))))))))))))))))))))))))))))))))))))))))))))))))))))))))))))))))))))))))))))))))))))))))))))))))))))))))))))))))))))))))))))))))))))))))))))))))))))))))))))))))))))))))))))))))))))))))))))))))))))))))))))))))))))))))))))))))))))))))))))))))))))))))))))))))))))))))))))))))))))) fun s3 o4 => (n_env (e' := ([some ((eD tR) a_script), o4.1, o4.2.1, o4.2.2.1, o4.2.2.2.1, o4.2.2.2.2.1, o4.2.2.2.2.2.1, o4.2.2.2.2.2.2.1, o4.2.2.2.2.2.2.2.1, o4.2.2.2.2.2.2.2.2.1, o4.2.2.2.2.2.2.2.2.2.1, o4.2.2.2.2.2.2.2.2.2.2.1, o4.2.2.2.2.2.2.2.2.2.2.2.1, o4.2.2.2.2.2.2.2.2.2.2.2.2.1, o4.2.2.2.2.2.2.2.2.2.2.2.2.2.1, o4.2.2.2.2.2.2.2.2.2.2.2.2.2.2.1] : AM.Env)) rfl (s_last (s_ret (x_val (e := _) (a := (eD tB) true) rfl (n_ret ⟨rfl, rfl, rfl⟩))))))))))))))))
end LW

set_option Elab.async false
set_option linter.all false
set_option maxRecDepth 100000
/-! Typed layer, part 8: dues along ties, in plain terms: reduced dues, orders that bar. -/
namespace TY
open PySem AM
/-- how many ties join two places -/
def nearC (ties : Ties) (i j : Nat) : Int := Sl ties fun t => (if i = t.1.toNat ∧ j = t.2.toNat then 1 else 0) + (if i = t.2.toNat ∧ j = t.1.toNat then 1 else 0)
/-- how many ties a place has -/
def deg (ties : Ties) (i : Nat) : Int := Sl ties fun t => (if i = t.1.toNat then 1 else 0) + (if i = t.2.toNat then 1 else 0)
section
variable {n : Nat} {ties : Ties}
theorem near_sum (ht : TiesOk n ties) (i : Nat) : S n (nearC ties i) = deg ties i := by
  unfold deg
  rw [show S n (nearC ties i) = S n fun j => nearC ties i j from rfl]
  unfold nearC
  rw [S_Sl]
  refine Sl_congr fun t h => ?_
  obtain ⟨h1, h2, h3⟩ := ht t h
  rw [S_add]
  have a : ∀ j, (if i = t.1.toNat ∧ j = t.2.toNat then (1 : Int) else 0) = if j = t.2.toNat then (if i = t.1.toNat then 1 else 0) else 0 := fun j => by
    by_cases e : j = t.2.toNat <;> by_cases e2 : i = t.1.toNat <;> simp [e, e2]
  have b : ∀ j, (if i = t.2.toNat ∧ j = t.1.toNat then (1 : Int) else 0) = if j = t.1.toNat then (if i = t.2.toNat then 1 else 0) else 0 := fun j => by
    by_cases e : j = t.1.toNat <;> by_cases e2 : i = t.2.toNat <;> simp [e, e2]
  rw [S_congr fun j _ => a j, S_congr (f := fun j => if i = t.2.toNat ∧ j = t.1.toNat then (1 : Int) else 0) fun j _ => b j, S_one, S_one, if_pos (show t.2.toNat < n by omega), if_pos (show t.1.toNat < n by omega)]
theorem deg_sum (ht : TiesOk n ties) : S n (deg ties) = 2 * ties.length := by
  rw [show S n (deg ties) = S n fun j => deg ties j from rfl]
  unfold deg
  rw [S_Sl, Sl_congr (g := fun _ => 2) fun t h => ?_, Sl_const]
  · omega
  · obtain ⟨h1, h2, h3⟩ := ht t h
    rw [S_add, S_one, S_one, if_pos (show t.1.toNat < n by omega), if_pos (show t.2.toNat < n by omega)]
    rfl
theorem nearC_nonneg {i j : Nat} : 0 ≤ nearC ties i j := Sl_nonneg fun t _ => by split <;> split <;> omega
theorem nearC_symm {i j : Nat} : nearC ties i j = nearC ties j i := Sl_congr fun t _ => by
  rw [Int.add_comm]
  congr 1
  · by_cases h1 : i = t.2.toNat <;> by_cases h2 : j = t.1.toNat <;> simp [h1, h2]
  · by_cases h1 : i = t.1.toNat <;> by_cases h2 : j = t.2.toNat <;> simp [h1, h2]
theorem nearC_le {i j : Nat} : nearC ties i j ≤ 2 * ties.length := by
  unfold nearC
  have h : Sl ties (fun t => (if i = t.1.toNat ∧ j = t.2.toNat then (1 : Int) else 0) + (if i = t.2.toNat ∧ j = t.1.toNat then 1 else 0)) ≤ Sl ties fun _ => 2 := by
    have := Sl_nonneg (xs := ties) (f := fun t => 2 - ((if i = t.1.toNat ∧ j = t.2.toNat then (1 : Int) else 0) + (if i = t.2.toNat ∧ j = t.1.toNat then 1 else 0))) fun t _ => by split <;> split <;> omega
    rw [Sl_sub] at this
    omega
  rw [Sl_const] at h
  omega
theorem lap_near (ht : TiesOk n ties) {x : Nat → Int} {i : Nat} : lap ties x i = S n fun j => nearC ties i j * (x i - x j) := by
  have e : (fun j => nearC ties i j * (x i - x j)) = fun j => Sl ties fun t => (x i - x j) * ((if i = t.1.toNat ∧ j = t.2.toNat then 1 else 0) + (if i = t.2.toNat ∧ j = t.1.toNat then 1 else 0)) := by
    funext j
    unfold nearC
    rw [Sl_mul, Int.mul_comm]
  rw [e, S_Sl]
  unfold lap
  refine Sl_congr fun t h => ?_
  obtain ⟨h1, h2, h3⟩ := ht t h
  have hne : t.1.toNat ≠ t.2.toNat := by omega
  have k : ∀ j, (x i - x j) * ((if i = t.1.toNat ∧ j = t.2.toNat then (1 : Int) else 0) + (if i = t.2.toNat ∧ j = t.1.toNat then 1 else 0)) = (if j = t.2.toNat then (if i = t.1.toNat then x i - x j else 0) else 0) + (if j = t.1.toNat then (if i = t.2.toNat then x i - x j else 0) else 0) := fun j => by
    by_cases e1 : i = t.1.toNat <;> by_cases e2 : j = t.2.toNat <;> by_cases e3 : i = t.2.toNat <;> by_cases e4 : j = t.1.toNat <;> simp_all
  rw [S_congr fun j _ => k j, S_add, S_oneF, S_oneF, if_pos (show t.2.toNat < n by omega), if_pos (show t.1.toNat < n by omega)]
  unfold flow
  by_cases e1 : i = t.1.toNat
  · have e3 : ¬ i = t.2.toNat := by omega
    rw [if_pos e1, if_pos e1, if_neg e3, e1]
    omega
  · by_cases e3 : i = t.2.toNat
    · rw [if_neg e1, if_pos e3, if_neg e1, if_pos e3, e3]
      omega
    · rw [if_neg e1, if_neg e3, if_neg e1, if_neg e3]
      omega
/-- nobody but the place owes -/
def Eff (n q : Nat) (d : Nat → Int) : Prop := ∀ i, i < n → i ≠ q → 0 ≤ d i
/-- how many ties a place has with those outside a lot -/
def outs (n : Nat) (ties : Ties) (A : Nat → Bool) (i : Nat) : Int := S n fun j => if A j = true then 0 else nearC ties i j
/-- no lot without the place can lend -/
def Reduced (n : Nat) (ties : Ties) (q : Nat) (d : Nat → Int) : Prop := Eff n q d ∧ ∀ A : Nat → Bool, (∃ i, i < n ∧ A i = true) → A q = false → ∃ i, i < n ∧ A i = true ∧ d i < outs n ties A i
/-- a number that is greatest -/
theorem maxAt {x : Nat → Int} : ∀ {n : Nat}, 0 < n → ∃ i, i < n ∧ ∀ j, j < n → x j ≤ x i
  | 0, h => by omega
  | 1, _ => ⟨0, by omega, fun j hj => by rw [show j = 0 by omega]; omega⟩
  | n + 2, _ => by
    obtain ⟨i, hi, h⟩ := maxAt (x := x) (n := n + 1) (by omega)
    by_cases e : x i ≤ x (n + 1)
    · exact ⟨n + 1, by omega, fun j hj => by
        by_cases z : j = n + 1
        · rw [z]; omega
        · have := h j (by omega); omega⟩
    · exact ⟨i, by omega, fun j hj => by
        by_cases z : j = n + 1
        · rw [z]; omega
        · exact h j (by omega)⟩
/-- lending by times: who lends most gives at least one along each tie to those that lend less -/
theorem lap_top (ht : TiesOk n ties) {x : Nat → Int} {i : Nat} (hi : ∀ j, j < n → x j ≤ x i) : outs n ties (fun j => decide (x i ≤ x j)) i ≤ lap ties x i := by
  rw [lap_near ht]
  refine S_le fun j hj => ?_
  have h1 := hi j hj
  have h2 := nearC_nonneg (ties := ties) (i := i) (j := j)
  by_cases e : x i ≤ x j
  · simp only [e, decide_true, if_true]
    have : x i - x j = 0 := by omega
    rw [this]; simp
  · simp only [e, decide_false, Bool.false_eq_true, if_false]
    have h3 : 1 ≤ x i - x j := by omega
    calc nearC ties i j = nearC ties i j * 1 := by simp
      _ ≤ nearC ties i j * (x i - x j) := Int.mul_le_mul_of_nonneg_left h3 h2
theorem outs_congr {A B : Nat → Bool} (h : ∀ j, j < n → A j = B j) (i : Nat) : outs n ties A i = outs n ties B i := S_congr fun j hj => by rw [h j hj]
/-- from reduced dues no times lead to such without owing, but with the place among those that lend most -/
theorem red_top (ht : TiesOk n ties) {q : Nat} {d x : Nat → Int} (hn : 0 < n) (r : Reduced n ties q d) (e : Eff n q fun i => d i - lap ties x i) : ∀ j, j < n → x j ≤ x q := by
  obtain ⟨m, hm, hx⟩ := maxAt (x := x) hn
  intro j hj
  by_cases hq : x m ≤ x q
  · have := hx j hj; omega
  · exfalso
    obtain ⟨i, hi, hA, hd⟩ := r.2 (fun j => decide (x m ≤ x j)) ⟨m, hm, by simp⟩ (by simpa using hq)
    have hA : x m ≤ x i := by simpa using hA
    have hxi : x i = x m := by have := hx i hi; omega
    have h1 := lap_top ht (x := x) (i := i) fun j hj => by rw [hxi]; exact hx j hj
    have h2 : outs n ties (fun j => decide (x i ≤ x j)) i = outs n ties (fun j => decide (x m ≤ x j)) i := outs_congr (fun j _ => by rw [hxi]) i
    have hne : i ≠ q := fun z => hq (by rw [← z, hxi]; omega)
    have h3 : 0 ≤ d i - lap ties x i := e i hi hne
    omega
theorem lap_neg {x : Nat → Int} {i : Nat} : lap ties (fun j => - x j) i = - lap ties x i := by
  have := lap_add (ties := ties) (x := x) (y := fun j => - x j) (i := i)
  have z := lap_const (ties := ties) (c := 0) (i := i)
  have e : (fun j => x j + - x j) = fun _ => (0 : Int) := by funext j; omega
  rw [e, z] at this
  omega
/-- reduced dues are one -/
theorem red_one (ht : TiesOk n ties) {q : Nat} {d d' x : Nat → Int} (hn : 0 < n) (hq : q < n) (r : Reduced n ties q d) (r' : Reduced n ties q d') (e : ∀ i, i < n → d' i = d i - lap ties x i) : ∀ i, i < n → d' i = d i := by
  have h1 := red_top ht hn r (x := x) fun i hi hne => by
    show 0 ≤ d i - lap ties x i
    rw [← e i hi]
    exact r'.1 i hi hne
  have h2 := red_top ht hn r' (x := fun j => - x j) fun i hi hne => by
    simp only [lap_neg, e i hi]
    have := r.1 i hi hne
    omega
  intro i hi
  rw [e i hi, lap_congr (y := fun _ => x q) ht (fun j hj => by have := h1 j hj; have := h2 j hj; omega), lap_const]
  omega
/-- of dues without owing the reduced ones have at least as many at the place -/
theorem red_most (ht : TiesOk n ties) {q : Nat} {d d' x : Nat → Int} (hn : 0 < n) (hq : q < n) (r : Reduced n ties q d') (ef : Eff n q d) (e : ∀ i, i < n → d' i = d i - lap ties x i) : d q ≤ d' q := by
  have h1 := red_top ht hn r (x := fun j => - x j) fun i hi hne => by
    simp only [lap_neg, e i hi]
    have := ef i hi hne
    omega
  have h2 : 0 ≤ lap ties (fun j => - x j) q := by
    rw [lap_near ht]
    refine S_nonneg fun j hj => Int.mul_nonneg nearC_nonneg ?_
    have := h1 j hj
    omega
  rw [lap_neg] at h2
  rw [e q hq]
  omega
end
/-! ### orders -/
section
variable {n : Nat} {ties : Ties}
/-- a sum over a list of unlike places -/
theorem Sl_S {f : Nat → Int} : ∀ {L : List Nat}, L.Nodup → (∀ j ∈ L, j < n) → Sl L f = S n fun j => if j ∈ L then f j else 0
  | [], _, _ => by simp [S_zero]
  | a :: L, hn, hl => by
    have ih := Sl_S (f := f) (L := L) (List.nodup_cons.mp hn).2 fun j hj => hl j (by simp [hj])
    have ha : a ∉ L := (List.nodup_cons.mp hn).1
    rw [Sl_cons, ih]
    have e : ∀ j, (if j ∈ a :: L then f j else 0) = (if j = a then f a else 0) + (if j ∈ L then f j else 0) := fun j => by
      by_cases e1 : j = a
      · subst e1
        simp [ha]
      · by_cases e2 : j ∈ L <;> simp [e1, e2]
    rw [S_congr fun j _ => e j, S_add, S_one, if_pos (hl a (by simp))]
/-- an order of all places from the one on, each behind the first with fewer than its ties with those ahead -/
structure Burn (n : Nat) (ties : Ties) (d : Nat → Int) (q : Nat) (o : List Nat) : Prop where
  nd : o.Nodup
  all : ∀ i, i ∈ o ↔ i < n
  hd : o[0]? = some q
  few : ∀ k v, 0 < k → o[k]? = some v → d v < Sl (o.take k) (nearC ties v)
theorem first_in {A : Nat → Bool} : ∀ {o : List Nat}, (∃ i ∈ o, A i = true) → ∃ k v, o[k]? = some v ∧ A v = true ∧ ∀ j ∈ o.take k, A j = false
  | [], h => by obtain ⟨i, h, _⟩ := h; simp at h
  | a :: o, h => by
    by_cases ha : A a = true
    · exact ⟨0, a, rfl, ha, by simp⟩
    · obtain ⟨i, hi, hA⟩ := h
      have : i ∈ o := by
        rcases List.mem_cons.mp hi with rfl | hi
        · exact absurd hA ha
        · exact hi
      obtain ⟨k, v, h1, h2, h3⟩ := first_in (o := o) ⟨i, this, hA⟩
      refine ⟨k + 1, v, by simpa using h1, h2, fun j hj => ?_⟩
      simp only [List.take_succ_cons, List.mem_cons] at hj
      rcases hj with rfl | hj
      · simpa using ha
      · exact h3 j hj
theorem take_outs {A : Nat → Bool} {L : List Nat} {v : Nat} (hn : L.Nodup) (hl : ∀ j ∈ L, j < n) (hA : ∀ j ∈ L, A j = false) : Sl L (nearC ties v) ≤ outs n ties A v := by
  rw [Sl_S hn hl]
  refine S_le fun j hj => ?_
  by_cases e : j ∈ L
  · rw [if_pos e, hA j e]
    simp
  · rw [if_neg e]
    split
    · omega
    · exact nearC_nonneg
theorem Burn.red {d : Nat → Int} {q : Nat} {o : List Nat} (b : Burn n ties d q o) (e : Eff n q d) : Reduced n ties q d := by
  refine ⟨e, fun A ⟨i, hi, hA⟩ hq => ?_⟩
  obtain ⟨k, v, h1, h2, h3⟩ := first_in (A := A) (o := o) ⟨i, (b.all i).mpr hi, hA⟩
  have hk : 0 < k := by
    rcases Nat.eq_zero_or_pos k with rfl | h
    · rw [b.hd] at h1
      cases h1
      rw [hq] at h2
      cases h2
    · exact h
  have hv : v < n := (b.all v).mp (List.mem_of_getElem? h1)
  refine ⟨v, hv, h2, Int.lt_of_lt_of_le (b.few k v hk h1) (take_outs (b.nd.sublist (List.take_sublist k o)) (fun j hj => (b.all j).mp (List.mem_of_mem_take hj)) h3)⟩
/-- dues that an order bars cannot be cleared -/
theorem bars_no (ht : TiesOk n ties) {d x : Nat → Int} {o : List Nat} (hn : 0 < n) (nd : o.Nodup) (all : ∀ i, i ∈ o ↔ i < n) (few : ∀ k v, o[k]? = some v → d v < Sl (o.take k) (nearC ties v)) : ¬ ∀ i, i < n → 0 ≤ d i - lap ties x i := by
  intro h
  obtain ⟨m, hm, hx⟩ := maxAt (x := x) hn
  obtain ⟨k, v, h1, h2, h3⟩ := first_in (A := fun j => decide (x m ≤ x j)) (o := o) ⟨m, (all m).mpr hm, by simp⟩
  have hv : v < n := (all v).mp (List.mem_of_getElem? h1)
  have h2 : x m ≤ x v := by simpa using h2
  have hxv : x v = x m := by have := hx v hv; omega
  have q1 := lap_top ht (x := x) (i := v) fun j hj => by rw [hxv]; exact hx j hj
  have q2 : Sl (o.take k) (nearC ties v) ≤ outs n ties (fun j => decide (x v ≤ x j)) v := take_outs (nd.sublist (List.take_sublist k o)) (fun j hj => (all j).mp (List.mem_of_mem_take hj)) fun j hj => by rw [hxv]; exact h3 j hj
  have q3 := few k v h1
  have q4 := h v hv
  omega
theorem nearC_self (ht : TiesOk n ties) {i : Nat} : nearC ties i i = 0 := Sl_zero fun t h => by
  obtain ⟨h1, h2, h3⟩ := ht t h
  have : t.1.toNat ≠ t.2.toNat := by omega
  have a : ¬ (i = t.1.toNat ∧ i = t.2.toNat) := fun z => this (z.1.symm.trans z.2)
  have b : ¬ (i = t.2.toNat ∧ i = t.1.toNat) := fun z => this (z.2.symm.trans z.1)
  rw [if_neg a, if_neg b]
  rfl
/-- the ties with those ahead, all together -/
def ahead (ties : Ties) : List Nat → List Nat → Int
  | _, [] => 0
  | p, v :: o => Sl p (nearC ties v) + ahead ties (p ++ [v]) o
theorem ahead_two (ht : TiesOk n ties) : ∀ (o p : List Nat), 2 * ahead ties p o + Sl p (fun i => Sl p (nearC ties i)) = Sl (p ++ o) fun i => Sl (p ++ o) (nearC ties i)
  | [], p => by simp [ahead]
  | v :: o, p => by
    have ih := ahead_two ht o (p ++ [v])
    rw [show p ++ v :: o = p ++ [v] ++ o by simp, ← ih]
    simp only [ahead]
    have e1 : Sl (p ++ [v]) (fun i => Sl (p ++ [v]) (nearC ties i)) = Sl p (fun i => Sl p (nearC ties i)) + 2 * Sl p (nearC ties v) := by
      rw [Sl_app]
      have : Sl p (fun i => Sl (p ++ [v]) (nearC ties i)) = Sl p (fun i => Sl p (nearC ties i)) + Sl p (nearC ties v) := by
        rw [← Sl_add]
        refine Sl_congr fun i _ => ?_
        rw [Sl_app]
        simp [nearC_symm (i := i) (j := v)]
      rw [this]
      simp [Sl_app, nearC_self ht]
      omega
    omega
theorem Sl_all {o : List Nat} {f : Nat → Int} (nd : o.Nodup) (all : ∀ i, i ∈ o ↔ i < n) : Sl o f = S n f := by
  rw [Sl_S nd fun j hj => (all j).mp hj]
  exact S_congr fun j hj => if_pos ((all j).mpr hj)
theorem ahead_all (ht : TiesOk n ties) {o : List Nat} (nd : o.Nodup) (all : ∀ i, i ∈ o ↔ i < n) : ahead ties [] o = ties.length := by
  have h := ahead_two ht o []
  simp only [List.nil_append, Sl_nil] at h
  rw [Sl_all nd all, S_congr fun i _ => (Sl_all nd all (f := nearC ties i)).trans (near_sum ht i), deg_sum ht] at h
  omega
theorem ahead_few {d : Nat → Int} : ∀ (o p : List Nat), (∀ k v, o[k]? = some v → d v < Sl (p ++ o.take k) (nearC ties v)) → Sl o d + o.length ≤ ahead ties p o
  | [], p, _ => by simp [ahead]
  | v :: o, p, h => by
    have h0 := h 0 v rfl
    have ih := ahead_few (d := d) o (p ++ [v]) fun k u hu => by
      have := h (k + 1) u (by simpa using hu)
      simpa using this
    simp only [List.take_zero, List.append_nil] at h0
    simp only [Sl_cons, List.length_cons, ahead]
    omega
/-- reduced dues have at most as many away from the place as there are loose ties -/
theorem Burn.loose (ht : TiesOk n ties) {d : Nat → Int} {q : Nat} {o : List Nat} (b : Burn n ties d q o) : S n d - d q ≤ ties.length + 1 - n := by
  have hl : o.length = n := by
    have h := Sl_all (f := fun _ => (1 : Int)) b.nd b.all
    rw [Sl_const, S_const] at h
    omega
  cases ho : o with
  | nil =>
    have := b.hd
    rw [ho] at this
    simp at this
  | cons a r =>
    have hd := b.hd
    rw [ho] at hd
    simp at hd
    subst hd
    have h1 := ahead_few (ties := ties) (d := d) r [a] fun k v hv => by
      have := b.few (k + 1) v (by omega) (by rw [ho]; simpa using hv)
      rw [ho] at this
      simpa using this
    have h2 := ahead_all ht b.nd b.all
    rw [ho] at h2
    simp only [ahead, Sl_nil, List.nil_append] at h2
    have h3 := Sl_all (f := d) b.nd b.all
    rw [ho, Sl_cons] at h3
    rw [ho] at hl
    simp at hl
    omega
end
end TY

set_option Elab.async false
set_option linter.all false
set_option maxRecDepth 100000
/-! Typed layer, part 9: what a place draws. -/
namespace TY
open PySem AM
section
variable {n : Nat} {ties : Ties}
/-- the place draws r of the dues -/
def IsDraw (n : Nat) (ties : Ties) (q : Nat) (d : Nat → Int) (r : Int) : Prop := ∃ x d' : Nat → Int, Reduced n ties q d' ∧ (∀ i, i < n → d' i = d i - lap ties x i) ∧ d' q = r
theorem Reduced.congr {q : Nat} {d d' : Nat → Int} (r : Reduced n ties q d) (h : ∀ i, i < n → d' i = d i) : Reduced n ties q d' := by
  refine ⟨fun i hi hne => by rw [h i hi]; exact r.1 i hi hne, fun A hA hq => ?_⟩
  obtain ⟨i, hi, h1, h2⟩ := r.2 A hA hq
  exact ⟨i, hi, h1, by rw [h i hi]; exact h2⟩
theorem IsDraw.congr {q : Nat} {d d' : Nat → Int} {r : Int} (h : IsDraw n ties q d r) (e : ∀ i, i < n → d' i = d i) : IsDraw n ties q d' r := by
  obtain ⟨x, u, h1, h2, h3⟩ := h
  exact ⟨x, u, h1, fun i hi => by rw [h2 i hi, e i hi], h3⟩
theorem IsDraw.uniq (ht : TiesOk n ties) {q : Nat} {d : Nat → Int} {r s : Int} (hn : 0 < n) (hq : q < n) (h : IsDraw n ties q d r) (k : IsDraw n ties q d s) : r = s := by
  obtain ⟨x, u, h1, h2, rfl⟩ := h
  obtain ⟨y, v, k1, k2, rfl⟩ := k
  refine (red_one ht hn hq h1 k1 (x := fun j => y j - x j) (fun i hi => ?_) q hq).symm
  rw [lap_sub, h2 i hi, k2 i hi]
  omega
theorem IsDraw.lent {q : Nat} {d t : Nat → Int} {r : Int} (h : IsDraw n ties q d r) : IsDraw n ties q (fun i => d i - lap ties t i) r := by
  obtain ⟨x, u, h1, h2, h3⟩ := h
  refine ⟨fun j => x j - t j, u, h1, fun i hi => ?_, h3⟩
  rw [h2 i hi, lap_sub]
  show _ = d i - lap ties t i - _
  omega
theorem Reduced.more {q : Nat} {d : Nat → Int} {m : Int} (r : Reduced n ties q d) : Reduced n ties q fun i => if i = q then d i + m else d i := by
  refine ⟨fun i hi hne => by simp only [if_neg hne]; exact r.1 i hi hne, fun A hA hq => ?_⟩
  obtain ⟨i, hi, h1, h2⟩ := r.2 A hA hq
  have hne : i ≠ q := fun z => by rw [z, hq] at h1; cases h1
  exact ⟨i, hi, h1, by simp only [if_neg hne]; exact h2⟩
theorem IsDraw.more {q : Nat} {d : Nat → Int} {r m : Int} (h : IsDraw n ties q d r) : IsDraw n ties q (fun i => if i = q then d i + m else d i) (r + m) := by
  obtain ⟨x, u, h1, h2, h3⟩ := h
  refine ⟨x, _, h1.more (m := m), fun i hi => ?_, by simp [h3]⟩
  by_cases e : i = q
  · simp only [if_pos e, h2 i hi]; omega
  · simp only [if_neg e, h2 i hi]
theorem IsDraw.mono (ht : TiesOk n ties) {q v : Nat} {d : Nat → Int} {r s : Int} (hn : 0 < n) (hq : q < n) (h : IsDraw n ties q d r) (k : IsDraw n ties q (fun i => if i = v then d i + 1 else d i) s) : r ≤ s := by
  obtain ⟨x, u, h1, h2, rfl⟩ := h
  obtain ⟨y, w, k1, k2, rfl⟩ := k
  have := red_most ht hn hq (d := fun i => if i = v then u i + 1 else u i) (d' := w) (x := fun j => y j - x j) k1 (fun i hi hne => ?_) fun i hi => ?_
  · by_cases e : q = v
    · simp only [if_pos e] at this; omega
    · simpa only [if_neg e] using this
  · have := h1.1 i hi hne
    by_cases e : i = v
    · simp only [if_pos e]; omega
    · simp only [if_neg e]; exact this
  · rw [lap_sub, k2 i hi]
    by_cases e : i = v
    · simp only [if_pos e, h2 i hi]; omega
    · simp only [if_neg e, h2 i hi]; omega
/-- what can be cleared -/
def CanClear (n : Nat) (ties : Ties) (d : Nat → Int) : Prop := ∃ x : Nat → Int, ∀ i, i < n → 0 ≤ d i - lap ties x i
theorem IsDraw.clear (ht : TiesOk n ties) {q : Nat} {d : Nat → Int} {r : Int} (hn : 0 < n) (hq : q < n) (h : IsDraw n ties q d r) : CanClear n ties d ↔ 0 ≤ r := by
  obtain ⟨x, u, h1, h2, rfl⟩ := h
  constructor
  · rintro ⟨y, hy⟩
    have := red_most ht hn hq (d := fun i => d i - lap ties y i) (d' := u) (x := fun j => x j - y j) h1 (fun i hi _ => hy i hi) fun i hi => by
      rw [lap_sub, h2 i hi]
      omega
    have := hy q hq
    omega
  · intro h0
    refine ⟨x, fun i hi => ?_⟩
    rw [← h2 i hi]
    by_cases e : i = q
    · rw [e]; exact h0
    · exact h1.1 i hi e
/-- somewhere a lot has a tie that leads out -/
theorem tie_out (ht : TiesOk n ties) (hc : Conn n ties) {A : Nat → Bool} {i q : Nat} (hi : i < n) (hA : A i = true) (hq : q < n) (hAq : A q = false) : ∃ v, v < n ∧ A v = true ∧ 0 < outs n ties A v := by
  apply Classical.byContradiction
  intro hno
  have hz : ∀ v w, v < n → w < n → A v = true → A w = false → nearC ties v w = 0 := fun v w hv hw h1 h2 => by
    have h3 : ¬ 0 < outs n ties A v := fun z => hno ⟨v, hv, h1, z⟩
    have h4 := S_zero_of (n := n) (f := fun j => if A j = true then 0 else nearC ties v j) (fun j _ => by
      show 0 ≤ if A j = true then 0 else nearC ties v j
      split
      · omega
      · exact nearC_nonneg) (by
      have : 0 ≤ outs n ties A v := S_nonneg fun j _ => by
        split
        · omega
        · exact nearC_nonneg
      show outs n ties A v = 0
      omega) w hw
    simpa [h2] using h4
  have hp : ∀ t ∈ ties, (A t.1.toNat = true ↔ A t.2.toNat = true) := fun t h => by
    obtain ⟨h1, h2, h3⟩ := ht t h
    have key : ∀ a b : Nat, (a = t.1.toNat ∧ b = t.2.toNat) ∨ (a = t.2.toNat ∧ b = t.1.toNat) → nearC ties a b ≠ 0 := fun a b e z => by
      have := Sl_zero_of (xs := ties) (f := fun t => (if a = t.1.toNat ∧ b = t.2.toNat then (1 : Int) else 0) + (if a = t.2.toNat ∧ b = t.1.toNat then 1 else 0)) (fun t _ => by split <;> split <;> omega) z t h
      rcases e with e | e
      · rw [if_pos e] at this
        split at this <;> omega
      · rw [if_pos e] at this
        split at this <;> omega
    constructor
    · intro h4
      cases h5 : A t.2.toNat with
      | true => rfl
      | false => exact absurd (hz _ _ (by omega) (by omega) h4 h5) (key _ _ (.inl ⟨rfl, rfl⟩))
    · intro h4
      cases h5 : A t.1.toNat with
      | true => rfl
      | false => exact absurd (hz _ _ (by omega) (by omega) h4 h5) (key _ _ (.inr ⟨rfl, rfl⟩))
  have := hc (fun z => A z.toNat = true) hp i q (by omega) (by omega) (by omega) (by omega) (by simpa using hA)
  simp [hAq] at this
theorem draw_alone (ht : TiesOk n ties) (hc : Conn n ties) {q : Nat} {s : Int} (hq : q < n) : IsDraw n ties q (fun i => if i = q then s else 0) s := by
  refine ⟨fun _ => 0, fun i => if i = q then s else 0, ⟨fun i hi hne => by simp [hne], fun A ⟨i, hi, hA⟩ hAq => ?_⟩, fun i hi => by rw [lap_const]; omega, by simp⟩
  obtain ⟨v, hv, h1, h2⟩ := tie_out ht hc hi hA hq hAq
  have hne : v ≠ q := fun z => by rw [z, hAq] at h1; cases h1
  exact ⟨v, hv, h1, by simp only [if_neg hne]; exact h2⟩
/-! ### the places numbered from behind -/
def turnT (n : Nat) (ties : Ties) : Ties := ties.map fun t => ((n : Int) - 1 - t.2, (n : Int) - 1 - t.1)
theorem turnT_ok (ht : TiesOk n ties) : TiesOk n (turnT n ties) := fun t h => by
  simp only [turnT, List.mem_map] at h
  obtain ⟨u, hu, rfl⟩ := h
  obtain ⟨h1, h2, h3⟩ := ht u hu
  simp only
  omega
theorem nearC_turn (ht : TiesOk n ties) {i j : Nat} (hi : i < n) (hj : j < n) : nearC (turnT n ties) i j = nearC ties (n - 1 - i) (n - 1 - j) := by
  unfold nearC turnT Sl
  rw [List.map_map]
  congr 1
  refine List.map_congr_left fun t h => ?_
  obtain ⟨h1, h2, h3⟩ := ht t h
  simp only [Function.comp_def]
  have e1 : (i = ((n : Int) - 1 - t.2).toNat ∧ j = ((n : Int) - 1 - t.1).toNat) ↔ (n - 1 - i = t.2.toNat ∧ n - 1 - j = t.1.toNat) := by omega
  have e2 : (i = ((n : Int) - 1 - t.1).toNat ∧ j = ((n : Int) - 1 - t.2).toNat) ↔ (n - 1 - i = t.1.toNat ∧ n - 1 - j = t.2.toNat) := by omega
  rw [Int.add_comm]
  congr 1
  · by_cases z : n - 1 - i = t.1.toNat ∧ n - 1 - j = t.2.toNat
    · rw [if_pos z, if_pos (e2.mpr z)]
    · rw [if_neg z, if_neg fun y => z (e2.mp y)]
  · by_cases z : n - 1 - i = t.2.toNat ∧ n - 1 - j = t.1.toNat
    · rw [if_pos z, if_pos (e1.mpr z)]
    · rw [if_neg z, if_neg fun y => z (e1.mp y)]
theorem S_turn : ∀ {n : Nat} {f : Nat → Int}, S n (fun i => f (n - 1 - i)) = S n f := by
  intro n f
  have h1 : S n (fun i => f (n - 1 - i)) = Sl ((List.range n).map fun i => n - 1 - i) f := by
    rw [← sum_Ls]
    unfold Sl Ls
    rw [List.map_map]
    rfl
  have h2 : S n f = Sl (List.range n) f := by
    rw [← sum_Ls]
    rfl
  rw [h1, h2]
  refine Sl_perm ?_
  have : ((List.range n).map fun i => n - 1 - i) = (List.range n).reverse := by
    refine List.ext_getElem (by simp) fun i h1 h2 => ?_
    simp
  rw [this]
  exact List.reverse_perm _
theorem lap_turn (ht : TiesOk n ties) {x : Nat → Int} {i : Nat} (hi : i < n) : lap (turnT n ties) (fun j => x (n - 1 - j)) i = lap ties x (n - 1 - i) := by
  rw [lap_near (turnT_ok ht), lap_near ht, ← S_turn (n := n) (f := fun j => nearC ties (n - 1 - i) j * (x (n - 1 - i) - x j))]
  exact S_congr fun j hj => by rw [nearC_turn ht hi hj]
theorem outs_turn (ht : TiesOk n ties) {A : Nat → Bool} {i : Nat} (hi : i < n) : outs n (turnT n ties) A i = outs n ties (fun j => A (n - 1 - j)) (n - 1 - i) := by
  unfold outs
  rw [← S_turn (n := n) (f := fun j => if A (n - 1 - j) = true then 0 else nearC ties (n - 1 - i) j)]
  refine S_congr fun j hj => ?_
  rw [show n - 1 - (n - 1 - j) = j by omega, nearC_turn ht hi hj]
theorem draw_turn (ht : TiesOk n ties) {q : Nat} {d : Nat → Int} {r : Int} (hq : q < n) (h : IsDraw n ties q d r) : IsDraw n (turnT n ties) (n - 1 - q) (fun i => d (n - 1 - i)) r := by
  obtain ⟨x, u, ⟨h0, h1⟩, h2, h3⟩ := h
  refine ⟨fun j => x (n - 1 - j), fun j => u (n - 1 - j), ⟨fun i hi hne => h0 _ (by omega) (by omega), fun A ⟨i, hi, hA⟩ hAq => ?_⟩, fun i hi => ?_, by show u (n - 1 - (n - 1 - q)) = r; rw [show n - 1 - (n - 1 - q) = q by omega]; exact h3⟩
  · obtain ⟨v, hv, k1, k2⟩ := h1 (fun j => A (n - 1 - j)) ⟨n - 1 - i, by omega, by rw [show n - 1 - (n - 1 - i) = i by omega]; exact hA⟩ hAq
    refine ⟨n - 1 - v, by omega, k1, ?_⟩
    show u (n - 1 - (n - 1 - v)) < _
    rw [outs_turn ht (by omega), show n - 1 - (n - 1 - v) = v by omega]
    exact k2
  · rw [lap_turn ht hi]
    exact h2 _ (by omega)
end
/-- a loop that makes a number less each time -/
theorem whP_dec {σ : Type} {c : σ → X Bool} {b : σ → X σ} (J : σ → Prop) (μ : σ → Nat) (st : ∀ s, J s → c s = X.ok false ∨ (c s = X.ok true ∧ ∃ s', b s = X.ok s' ∧ J s' ∧ μ s' < μ s)) : ∀ {fu : Nat} {s : σ}, J s → μ s < fu → ∃ s', X.whP c b fu s = X.ok s' ∧ J s' ∧ c s' = X.ok false
  | 0, s, _, h => by omega
  | fu + 1, s, hj, h => by
    rcases st s hj with h1 | ⟨h1, s1, h2, h3, h4⟩
    · exact ⟨s, by simp only [X.whP, h1, bind_ok]; rfl, hj, h1⟩
    · obtain ⟨s2, h5, h6, h7⟩ := whP_dec J μ st (fu := fu) (s := s1) h3 (by omega)
      exact ⟨s2, by simp only [X.whP, h1, bind_ok, if_true, h2, h5], h6, h7⟩
/-- a loop and what stands behind it -/
theorem whP_bind {σ τ : Type} {c : σ → X Bool} {b : σ → X σ} {kk : σ → X τ} {R : τ → Prop} (J : σ → Prop) (μ : σ → Nat) {fu : Nat} {s : σ} (h : J s) (hf : μ s < fu) (st : ∀ s, J s → c s = X.ok false ∨ (c s = X.ok true ∧ ∃ s', b s = X.ok s' ∧ J s' ∧ μ s' < μ s)) (k : ∀ s, J s → c s = X.ok false → ∃ r, kk s = X.ok r ∧ R r) : ∃ r, X.bind (X.whP c b fu s) kk = X.ok r ∧ R r := by
  obtain ⟨s', h1, h2, h3⟩ := whP_dec J μ st h hf
  rw [h1, bind_ok]
  exact k s' h2 h3
/-- the beginning of an order -/
structure Pre (n : Nat) (ties : Ties) (d : Nat → Int) (q : Nat) (o : List Nat) : Prop where
  nd : o.Nodup
  lt : ∀ i ∈ o, i < n
  hd : o[0]? = some q
  few : ∀ k v, 0 < k → o[k]? = some v → d v < Sl (o.take k) (nearC ties v)
section
variable {n : Nat} {ties : Ties} {d : Nat → Int} {q : Nat} {o : List Nat}
theorem Pre.one (hq : q < n) : Pre n ties d q [q] := ⟨by simp, by simpa using hq, rfl, fun k v hk h => by
  obtain ⟨k, rfl⟩ : ∃ m, k = m + 1 := ⟨k - 1, by omega⟩
  simp at h⟩
theorem Pre.snoc (p : Pre n ties d q o) {v : Nat} (hv : v < n) (hno : v ∉ o) (h : d v < Sl o (nearC ties v)) : Pre n ties d q (o ++ [v]) := by
  have h0 : 0 < o.length := by
    cases e : o with
    | nil => have := p.hd; rw [e] at this; simp at this
    | cons a r => simp
  refine ⟨List.nodup_append.mpr ⟨p.nd, by simp, fun a ha b hb e => ?_⟩, fun i hi => ?_, ?_, fun k u hk hu => ?_⟩
  · simp at hb
    subst hb
    subst e
    exact hno ha
  · rcases List.mem_append.mp hi with hi | hi
    · exact p.lt i hi
    · simp at hi; omega
  · rw [List.getElem?_append_left h0]
    exact p.hd
  · by_cases e : k < o.length
    · rw [List.getElem?_append_left e] at hu
      rw [List.take_append_of_le_length (by omega)]
      exact p.few k u hk hu
    · have hk2 := (List.getElem?_eq_some_iff.mp hu).1
      simp at hk2
      have : k = o.length := by omega
      subst this
      simp at hu
      subst hu
      simpa using h
theorem Pre.len (p : Pre n ties d q o) : o.length ≤ n := by
  have h := Sl_S (f := fun _ => (1 : Int)) p.nd p.lt
  rw [Sl_const] at h
  have h2 : S n (fun j => if j ∈ o then (1 : Int) else 0) ≤ S n fun _ => 1 := S_le fun j _ => by split <;> omega
  rw [S_const] at h2
  omega
theorem Pre.all (p : Pre n ties d q o) (hl : o.length = n) : Burn n ties d q o := by
  refine ⟨p.nd, fun i => ⟨p.lt i, fun hi => ?_⟩, p.hd, p.few⟩
  apply Classical.byContradiction
  intro hno
  have h := Sl_S (f := fun _ => (1 : Int)) p.nd p.lt
  rw [Sl_const, hl] at h
  have h2 : S n (fun j => (if j ∈ o then (1 : Int) else 0) + if j = i then 1 else 0) ≤ S n fun _ => 1 := S_le fun j _ => by
    by_cases e : j = i
    · subst e; simp [hno]
    · by_cases e2 : j ∈ o <;> simp [e, e2]
  rw [S_const, S_add, S_one, if_pos hi] at h2
  omega
end
end TY

set_option Elab.async false
set_option linter.all false
set_option maxRecDepth 100000
/-! Typed layer, part 10: why drawing in ends. -/
namespace TY
open PySem AM
section
variable {n : Nat} {ties : Ties}
theorem lap_adj (ht : TiesOk n ties) {w x : Nat → Int} : S n (fun i => w i * lap ties x i) = S n fun i => x i * lap ties w i := by
  rw [lap_pair ht, lap_pair ht]
  exact Sl_congr fun t _ => Int.mul_comm _ _
/-- an order in which each place behind the first is tied to one ahead -/
theorem tied_pre (ht : TiesOk n ties) (hc : Conn n ties) {q : Nat} (hq : q < n) : ∀ k, 0 < k → k ≤ n → ∃ F, Pre n ties (fun _ => 0) q F ∧ F.length = k
  | 1, _, _ => ⟨[q], .one hq, rfl⟩
  | k + 2, _, h => by
    obtain ⟨F, hp, hl⟩ := tied_pre ht hc hq (k + 1) (by omega) (by omega)
    have hout : ∃ i, i < n ∧ i ∉ F := by
      apply Classical.byContradiction
      intro hno
      have h1 := Sl_S (f := fun _ => (1 : Int)) hp.nd hp.lt
      rw [Sl_const, hl, S_congr (g := fun _ => 1) fun j hj => by
        rw [if_pos]
        apply Classical.byContradiction
        intro z
        exact hno ⟨j, hj, z⟩, S_const] at h1
      omega
    obtain ⟨i, hi, hio⟩ := hout
    have hqF : q ∈ F := List.mem_of_getElem? hp.hd
    obtain ⟨v, hv, h1, h2⟩ := tie_out ht hc (A := fun j => decide (j ∉ F)) hi (by simpa using hio) hq (by simpa using hqF)
    have hvF : v ∉ F := by simpa using h1
    refine ⟨F ++ [v], hp.snoc hv hvF ?_, by simp [hl]⟩
    rw [Sl_S hp.nd hp.lt]
    unfold outs at h2
    rw [S_congr (g := fun j => if j ∈ F then nearC ties v j else 0) fun j _ => by by_cases e : j ∈ F <;> simp [e]] at h2
    exact h2
theorem deg_le {i : Nat} : deg ties i ≤ 2 * ties.length := by
  unfold deg
  have := Sl_nonneg (xs := ties) (f := fun t => 2 - ((if i = t.1.toNat then (1 : Int) else 0) + (if i = t.2.toNat then 1 else 0))) fun t _ => by split <;> split <;> omega
  rw [Sl_sub, Sl_const] at this
  omega
theorem mul_pow_ge {M : Nat} (a b : Nat) (h : a + 1 ≤ b) : M * M ^ a ≤ M ^ b ∨ M = 0 := by
  rcases Nat.eq_zero_or_pos M with z | z
  · exact .inr z
  · refine .inl ?_
    rw [← Nat.pow_succ']
    exact Nat.pow_le_pow_right z h
/-- a weighing that lending of any lot without the place makes less -/
theorem weights (ht : TiesOk n ties) (hc : Conn n ties) {q : Nat} (hq : q < n) : ∃ V : Nat → Int, V q = 0 ∧ (∀ i, i < n → 0 ≤ V i ∧ V i ≤ ((2 * ties.length + 2) ^ n : Nat)) ∧ ∀ i, i < n → i ≠ q → 1 ≤ lap ties V i := by
  obtain ⟨F, hp, hl⟩ := tied_pre ht hc hq n (by omega) (Nat.le_refl n)
  have hb := hp.all hl
  let M := 2 * ties.length + 2
  have hM : M = 2 * ties.length + 2 := rfl
  have hM0 : 0 < M := by omega
  let W : Nat → Int := fun i => ((M ^ (n - F.idxOf i) : Nat) : Int)
  have hW : ∀ i, W i = ((M ^ (n - F.idxOf i) : Nat) : Int) := fun _ => rfl
  have q0 : F.idxOf q = 0 := by
    cases e : F with
    | nil => have := hp.hd; rw [e] at this; simp at this
    | cons a r =>
      have := hp.hd
      rw [e] at this
      simp at this
      subst this
      simp
  have W1 : ∀ i, 1 ≤ W i := fun i => by
    rw [hW]
    have := Nat.pow_pos (n := n - F.idxOf i) hM0
    omega
  have Wq : ∀ i, W i ≤ W q := fun i => by
    rw [hW, hW, q0]
    have := Nat.pow_le_pow_right hM0 (show n - F.idxOf i ≤ n - 0 by omega)
    omega
  refine ⟨fun i => W q - W i, by simp, fun i hi => ⟨by have := Wq i; show 0 ≤ W q - W i; omega, ?_⟩, fun i hi hne => ?_⟩
  · have h1 := W1 i
    have h2 : W q = ((M ^ n : Nat) : Int) := by rw [hW, q0]; rfl
    show W q - W i ≤ ((M ^ n : Nat) : Int)
    omega
  · have hiF : i ∈ F := (hb.all i).mpr hi
    have hlt := List.idxOf_lt_length_of_mem hiF
    have hget : F[F.idxOf i]? = some i := by rw [List.getElem?_eq_getElem hlt]; simp
    have h0 : 0 < F.idxOf i := by
      rcases Nat.eq_zero_or_pos (F.idxOf i) with z | z
      · rw [z, hp.hd] at hget
        exact absurd (Option.some.inj hget).symm hne
      · exact z
    have hs := hp.few _ i h0 hget
    -- one ahead that is tied to it
    have hex : ∃ j ∈ F.take (F.idxOf i), 0 < nearC ties i j := by
      apply Classical.byContradiction
      intro hno
      have : Sl (F.take (F.idxOf i)) (nearC ties i) = 0 := Sl_zero fun j hj => by
        have h1 : ¬ 0 < nearC ties i j := fun z => hno ⟨j, hj, z⟩
        have := nearC_nonneg (ties := ties) (i := i) (j := j)
        omega
      omega
    obtain ⟨j, hj, hN⟩ := hex
    have hjn : j < n := hp.lt j (List.mem_of_mem_take hj)
    have hidx : F.idxOf j < F.idxOf i := by
      obtain ⟨k, hk, e⟩ := List.mem_iff_getElem.mp hj
      simp at hk
      have e2 : F[k]? = some j := by
        rw [List.getElem?_eq_getElem (by omega)]
        simp at e
        rw [e]
      have : F.idxOf j ≤ k := by
        apply Classical.byContradiction
        intro hh
        have h1 := List.idxOf_lt_length_of_mem (List.mem_of_mem_take hj)
        have h2 : F[F.idxOf j]? = some j := by rw [List.getElem?_eq_getElem h1]; simp
        have h3 := (List.getElem?_eq_some_iff.mp e2).1
        have := (List.getElem_inj (h₀ := h3) (h₁ := h1) hp.nd).mp (by
          have a := (List.getElem?_eq_some_iff.mp e2).2
          have b := (List.getElem?_eq_some_iff.mp h2).2
          rw [a, b])
        omega
      omega
    have hWj : (M : Int) * W i ≤ W j := by
      rw [hW, hW]
      have := mul_pow_ge (M := M) (n - F.idxOf i) (n - F.idxOf j) (by omega)
      rcases this with h | h
      · exact_mod_cast h
      · omega
    rw [lap_near ht]
    have hsum : S n (fun k => nearC ties i k * (W k - W i)) ≥ W i := by
      have e1 : ∀ k, k < n → (if k = j then nearC ties i j * W j else 0) - nearC ties i k * W i ≤ nearC ties i k * (W k - W i) := fun k hk => by
        have a := nearC_nonneg (ties := ties) (i := i) (j := k)
        have b := W1 k
        rw [Int.mul_sub]
        by_cases e : k = j
        · subst e
          simp
        · rw [if_neg e]
          have := Int.mul_nonneg a (show 0 ≤ W k by omega)
          omega
      have e2 := S_le e1
      rw [S_sub, S_one, if_pos hjn] at e2
      have e3 : S n (fun k => nearC ties i k * W i) = deg ties i * W i := by
        rw [← near_sum ht, Int.mul_comm, ← S_mul]
        exact S_congr fun k _ => Int.mul_comm _ _
      rw [e3] at e2
      have e4 : W j ≤ nearC ties i j * W j := by
        have := Int.mul_le_mul_of_nonneg_right (show 1 ≤ nearC ties i j by omega) (show 0 ≤ W j by have := W1 j; omega)
        omega
      have e5 : deg ties i * W i ≤ (2 * ties.length : Int) * W i := Int.mul_le_mul_of_nonneg_right deg_le (by have := W1 i; omega)
      have e6 : (M : Int) * W i = (2 * ties.length : Int) * W i + 2 * W i := by
        rw [← Int.add_mul, hM]
        congr 1
      have := W1 i
      omega
    have e7 : S n (fun k => nearC ties i k * ((fun i => W q - W i) i - (fun i => W q - W i) k)) = S n fun k => nearC ties i k * (W k - W i) := S_congr fun k _ => by
      congr 1
      show W q - W i - (W q - W k) = _
      omega
    rw [e7]
    have := W1 i
    omega
end
end TY

set_option Elab.async false
set_option linter.all false
set_option maxRecDepth 100000
/-! Typed layer, part 11: reduced dues exist; how many losses dues stand, and the rest of the own dues (Riemann-Roch of webs). -/
namespace TY
open PySem AM
section
variable {n : Nat} {ties : Ties}
/-- the weighed dues -/
def wgt (n : Nat) (V d : Nat → Int) : Int := S n fun i => V i * d i
def lotB (A : Nat → Bool) (i : Nat) : Int := if A i = true then 1 else 0
theorem lap_lotB_in (ht : TiesOk n ties) {A : Nat → Bool} {i : Nat} (h : A i = true) : lap ties (lotB A) i = outs n ties A i := by
  rw [lap_near ht]
  unfold outs
  refine S_congr fun j _ => ?_
  unfold lotB
  rw [if_pos h]
  by_cases e : A j = true
  · simp [e]
  · simp [e]
theorem lap_lotB_out (ht : TiesOk n ties) {A : Nat → Bool} {i : Nat} (h : ¬ A i = true) : lap ties (lotB A) i ≤ 0 := by
  rw [lap_near ht]
  have : 0 ≤ S n fun j => - (nearC ties i j * (lotB A i - lotB A j)) := S_nonneg fun j _ => by
    unfold lotB
    rw [if_neg h]
    have := nearC_nonneg (ties := ties) (i := i) (j := j)
    split
    · omega
    · simp
  rw [S_neg] at this
  omega
theorem lotB_step (ht : TiesOk n ties) {V d : Nat → Int} {q : Nat} (h0 : V q = 0) (hl : ∀ i, i < n → i ≠ q → 1 ≤ lap ties V i) {A : Nat → Bool} (he : Eff n q d) (hqA : A q = false) (hne : ∃ i, i < n ∧ A i = true) (hf : ∀ i, i < n → A i = true → outs n ties A i ≤ d i) :
    Eff n q (fun i => d i - lap ties (lotB A) i) ∧ wgt n V (fun i => d i - lap ties (lotB A) i) + 1 ≤ wgt n V d := by
  refine ⟨fun i hi hiq => ?_, ?_⟩
  · show 0 ≤ d i - lap ties (lotB A) i
    by_cases e : A i = true
    · rw [lap_lotB_in ht e]
      have := hf i hi e
      omega
    · have := lap_lotB_out ht e
      have := he i hi hiq
      omega
  · unfold wgt
    have e1 : S n (fun i => V i * (d i - lap ties (lotB A) i)) = S n (fun i => V i * d i) - S n fun i => V i * lap ties (lotB A) i := by
      rw [← S_sub]
      exact S_congr fun i _ => Int.mul_sub _ _ _
    rw [e1, lap_adj ht]
    obtain ⟨a, ha, hA⟩ := hne
    have e2 : 1 ≤ S n fun i => lotB A i * lap ties V i := by
      have e3 : S n (fun i => if i = a then 1 else 0) ≤ S n fun i => lotB A i * lap ties V i := S_le fun i hi => by
        unfold lotB
        by_cases e : A i = true
        · have hiq : i ≠ q := fun z => by rw [z, hqA] at e; cases e
          have h1 := hl i hi hiq
          rw [if_pos e]
          split <;> omega
        · have : i ≠ a := fun z => e (z ▸ hA)
          rw [if_neg e, if_neg this]
          simp
      rw [S_one, if_pos ha] at e3
      exact e3
    omega
theorem red_down (ht : TiesOk n ties) {V : Nat → Int} {q : Nat} (h0 : V q = 0) (hV : ∀ i, i < n → 0 ≤ V i) (hl : ∀ i, i < n → i ≠ q → 1 ≤ lap ties V i) : ∀ (m : Nat) (d : Nat → Int), wgt n V d ≤ m → Eff n q d → ∃ x d' : Nat → Int, Reduced n ties q d' ∧ ∀ i, d' i = d i - lap ties x i
  | m, d, hm, he => by
    by_cases hr : Reduced n ties q d
    · exact ⟨fun _ => 0, d, hr, fun i => by rw [lap_const]; omega⟩
    · have : ∃ A : Nat → Bool, (∃ i, i < n ∧ A i = true) ∧ A q = false ∧ ∀ i, i < n → A i = true → outs n ties A i ≤ d i := by
        apply Classical.byContradiction
        intro hno
        refine hr ⟨he, fun A h1 h2 => ?_⟩
        apply Classical.byContradiction
        intro h3
        refine hno ⟨A, h1, h2, fun i hi hA => ?_⟩
        apply Classical.byContradiction
        intro h4
        exact h3 ⟨i, hi, hA, by omega⟩
      obtain ⟨A, h1, h2, h3⟩ := this
      obtain ⟨k1, k2⟩ := lotB_step (V := V) ht h0 hl he h2 h1 h3
      have k3 : 0 ≤ wgt n V (fun i => d i - lap ties (lotB A) i) := S_nonneg fun i hi => by
        by_cases e : i = q
        · rw [e, h0]; simp
        · exact Int.mul_nonneg (hV i hi) (k1 i hi e)
      obtain ⟨m, rfl⟩ : ∃ k, m = k + 1 := ⟨m - 1, by omega⟩
      obtain ⟨x, d', j1, j2⟩ := red_down ht h0 hV hl m (fun i => d i - lap ties (lotB A) i) (by omega) k1
      exact ⟨fun i => lotB A i + x i, d', j1, fun i => by rw [j2 i, lap_add]; omega⟩
theorem red_exists (ht : TiesOk n ties) (hc : Conn n ties) {q : Nat} (hq : q < n) (d : Nat → Int) : ∃ x d' : Nat → Int, Reduced n ties q d' ∧ ∀ i, d' i = d i - lap ties x i := by
  obtain ⟨V, h0, hV, hl⟩ := weights ht hc hq
  -- borrow until nobody else owes
  let c : Int := S n fun i => ((d i).natAbs : Int)
  have hc0 : ∀ i, i < n → - d i ≤ c := fun i hi => by
    have := S_term (n := n) (f := fun i => ((d i).natAbs : Int)) (fun i _ => by omega) hi
    show _ ≤ S n _
    omega
  have hcn : 0 ≤ c := S_nonneg fun i _ => by omega
  have hlm : ∀ i, lap ties (fun j => - (c * V j)) i = - (c * lap ties V i) := fun i => by
    unfold lap
    rw [← Sl_mul, ← Sl_neg]
    refine Sl_congr fun t _ => ?_
    unfold flow
    show (if i = t.1.toNat then - (c * V t.1.toNat) - - (c * V t.2.toNat) else if i = t.2.toNat then - (c * V t.2.toNat) - - (c * V t.1.toNat) else 0) = _
    split
    · rw [Int.mul_sub]; omega
    · split
      · rw [Int.mul_sub]; omega
      · simp
  have he : Eff n q fun i => d i - lap ties (fun j => - (c * V j)) i := fun i hi hne => by
    show 0 ≤ d i - lap ties (fun j => - (c * V j)) i
    rw [hlm]
    have h1 := hl i hi hne
    have h2 := hc0 i hi
    have : c * 1 ≤ c * lap ties V i := Int.mul_le_mul_of_nonneg_left h1 hcn
    omega
  obtain ⟨x, d', h1, h2⟩ := red_down ht h0 (fun i hi => (hV i hi).1) hl (wgt n V fun i => d i - lap ties (fun j => - (c * V j)) i).toNat _ (by omega) he
  exact ⟨fun i => - (c * V i) + x i, d', h1, fun i => by rw [h2 i, lap_add]; omega⟩
/-- the others -/
theorem outs_pre {F : List Nat} {q : Nat} {d : Nat → Int} (hp : Pre n ties d q F) {i : Nat} : outs n ties (fun j => decide (j ∉ F)) i = Sl F (nearC ties i) := by
  rw [Sl_S hp.nd hp.lt]
  refine S_congr fun j hj => ?_
  by_cases e : j ∈ F <;> simp [e]
theorem Reduced.burn_from {q : Nat} {d : Nat → Int} (hr : Reduced n ties q d) : ∀ (m : Nat) (F : List Nat), Pre n ties d q F → n - F.length ≤ m → ∃ o, Burn n ties d q o
  | m, F, hp, hm => by
    have hl := hp.len
    by_cases hF : F.length = n
    · exact ⟨F, hp.all hF⟩
    · have hex : ∃ i, i < n ∧ i ∉ F := by
        apply Classical.byContradiction
        intro hz
        have h1 := Sl_S (f := fun _ => (1 : Int)) hp.nd hp.lt
        rw [Sl_const, S_congr (g := fun _ => 1) fun j hj => by
          rw [if_pos]
          apply Classical.byContradiction
          intro z
          exact hz ⟨j, hj, z⟩, S_const] at h1
        omega
      obtain ⟨i, hi, hio⟩ := hex
      have hqF : q ∈ F := List.mem_of_getElem? hp.hd
      obtain ⟨v, hv, h1, h2⟩ := hr.2 (fun j => decide (j ∉ F)) ⟨i, hi, by simpa using hio⟩ (by simpa using hqF)
      rw [outs_pre hp] at h2
      obtain ⟨m, rfl⟩ : ∃ k, m = k + 1 := ⟨m - 1, by omega⟩
      exact Reduced.burn_from hr m (F ++ [v]) (hp.snoc hv (by simpa using h1) h2) (by simp; omega)
theorem Reduced.burn {q : Nat} (hq : q < n) {d : Nat → Int} (hr : Reduced n ties q d) : ∃ o, Burn n ties d q o := hr.burn_from n [q] (.one hq) (by simp)
/-! ### orders and what they bar -/
theorem nodup_rev {α : Type} {o : List α} (h : o.Nodup) : o.reverse.Nodup := (List.reverse_perm o).nodup_iff.mpr h
structure Ord (n : Nat) (o : List Nat) : Prop where
  nd : o.Nodup
  all : ∀ i, i ∈ o ↔ i < n
/-- for each place its ties with those ahead, less 1 -/
def nu (ties : Ties) (o : List Nat) (v : Nat) : Int := Sl (o.take (o.idxOf v)) (nearC ties v) - 1
theorem Ord.len {o : List Nat} (h : Ord n o) : o.length = n := by
  have h1 := Sl_all (f := fun _ => (1 : Int)) h.nd h.all
  rw [Sl_const, S_const] at h1
  omega
theorem Ord.idx {o : List Nat} (h : Ord n o) {k v : Nat} (e : o[k]? = some v) : o.idxOf v = k := by
  have hk := (List.getElem?_eq_some_iff.mp e).1
  have hv := (List.getElem?_eq_some_iff.mp e).2
  have hm : v ∈ o := List.mem_of_getElem? e
  have h1 := List.idxOf_lt_length_of_mem hm
  exact (List.getElem_inj (h₀ := h1) (h₁ := hk) h.nd).mp (by rw [hv]; simp)
theorem Ord.get {o : List Nat} (h : Ord n o) {v : Nat} (hv : v < n) : o[o.idxOf v]? = some v := by
  have h1 := List.idxOf_lt_length_of_mem ((h.all v).mpr hv)
  rw [List.getElem?_eq_getElem h1]
  simp
theorem nu_bars (ht : TiesOk n ties) (hn : 0 < n) {d x : Nat → Int} {o : List Nat} (h : Ord n o) (hd : ∀ i, i < n → d i - lap ties x i ≤ nu ties o i) : ¬ CanClear n ties d := by
  rintro ⟨y, hy⟩
  refine bars_no (d := fun i => d i - lap ties x i) (x := fun i => y i - x i) ht hn h.nd h.all (fun k v e => ?_) fun i hi => ?_
  · have hv : v < n := (h.all v).mp (List.mem_of_getElem? e)
    have := hd v hv
    unfold nu at this
    rw [h.idx e] at this
    show d v - lap ties x v < _
    omega
  · have := hy i hi
    rw [lap_sub]
    show 0 ≤ d i - lap ties x i - (lap ties y i - lap ties x i)
    omega
theorem clear_or (ht : TiesOk n ties) (hc : Conn n ties) (hn : 0 < n) (d : Nat → Int) : CanClear n ties d ∨ ∃ (x : Nat → Int) (o : List Nat), Ord n o ∧ ∀ i, i < n → d i - lap ties x i ≤ nu ties o i := by
  obtain ⟨x, d', hr, hd⟩ := red_exists ht hc (q := 0) hn d
  obtain ⟨o, ho⟩ := hr.burn hn
  by_cases h0 : 0 ≤ d' 0
  · refine .inl ⟨x, fun i hi => ?_⟩
    rw [← hd i]
    by_cases e : i = 0
    · rw [e]; exact h0
    · exact hr.1 i hi e
  · have oo : Ord n o := ⟨ho.nd, ho.all⟩
    refine .inr ⟨x, o, oo, fun i hi => ?_⟩
    rw [← hd i]
    have hg := oo.get hi
    unfold nu
    by_cases e : o.idxOf i = 0
    · rw [e, ho.hd] at hg
      cases hg
      rw [e]
      simp
      omega
    · have := ho.few _ _ (by omega) hg
      omega
/-- what is more than nothing, all together -/
def pos (n : Nat) (f : Nat → Int) : Int := S n fun i => if 0 ≤ f i then f i else 0
theorem pos_nonneg {f : Nat → Int} : 0 ≤ pos n f := S_nonneg fun i _ => by split <;> omega
theorem pos_sub {f : Nat → Int} : pos n f - pos n (fun i => - f i) = S n f := by
  unfold pos
  rw [← S_sub]
  exact S_congr fun i _ => by
    show (if 0 ≤ f i then f i else 0) - (if 0 ≤ - f i then - f i else 0) = f i
    split <;> split <;> omega
theorem nu_sum (ht : TiesOk n ties) {o : List Nat} (h : Ord n o) : S n (nu ties o) = ties.length - n := by
  have h1 := ahead_all ht h.nd h.all
  have key : ∀ (r p : List Nat), p ++ r = o → Sl r (nu ties o) + r.length = ahead ties p r := by
    intro r
    induction r with
    | nil => intro p _; simp [ahead]
    | cons v r ih =>
      intro p hp
      have := ih (p ++ [v]) (by simpa using hp)
      have hi : o.idxOf v = p.length := h.idx (by rw [← hp]; simp)
      simp only [Sl_cons, ahead, List.length_cons]
      unfold nu at this ⊢
      rw [hi, ← hp]
      rw [← hp] at this
      simp only [List.take_left']
      omega
  have h2 := key o [] rfl
  rw [Sl_all h.nd h.all, h1, h.len] at h2
  omega
theorem nu_rev (ht : TiesOk n ties) {o : List Nat} (h : Ord n o) {v : Nat} (hv : v < n) : nu ties o v + nu ties o.reverse v = deg ties v - 2 := by
  have hr : Ord n o.reverse := ⟨nodup_rev h.nd, fun i => by rw [List.mem_reverse]; exact h.all i⟩
  have hg := h.get hv
  have hlt := (List.getElem?_eq_some_iff.mp hg).1
  obtain ⟨p, r, hpr, hpl⟩ : ∃ p r, o = p ++ v :: r ∧ o.idxOf v = p.length := by
    refine ⟨o.take (o.idxOf v), o.drop (o.idxOf v + 1), ?_, by simp; omega⟩
    have h1 := (List.getElem?_eq_some_iff.mp hg).2
    have h2 := List.take_append_drop (o.idxOf v) o
    rw [List.drop_eq_getElem_cons hlt, h1] at h2
    exact h2.symm
  have hrl : o.reverse.idxOf v = r.length := hr.idx (by rw [hpr]; simp)
  have h3 : Sl o (nearC ties v) = deg ties v := by rw [Sl_all h.nd h.all]; exact near_sum ht v
  unfold nu
  rw [hpl, hrl]
  have e1 : o.take p.length = p := by rw [hpr]; simp
  have e2 : o.reverse.take r.length = r.reverse := by rw [hpr]; simp
  rw [e1, e2, Sl_perm (List.reverse_perm r)]
  rw [hpr, Sl_app, Sl_cons, nearC_self ht] at h3
  omega
/-- dues that an order bars with so many losses more -/
def Falls (n : Nat) (ties : Ties) (d : Nat → Int) (k : Int) : Prop := ∃ (x : Nat → Int) (o : List Nat), Ord n o ∧ pos n (fun i => d i - lap ties x i - nu ties o i) ≤ k
theorem Falls.nonneg {d : Nat → Int} {k : Int} (h : Falls n ties d k) : 0 ≤ k := by
  obtain ⟨x, o, _, h⟩ := h
  have := pos_nonneg (n := n) (f := fun i => d i - lap ties x i - nu ties o i)
  omega
theorem Falls.mono {d : Nat → Int} {k l : Int} (h : Falls n ties d k) (hl : k ≤ l) : Falls n ties d l := by
  obtain ⟨x, o, h1, h⟩ := h
  exact ⟨x, o, h1, by omega⟩
/-- a loss of a number -/
def Loss (n : Nat) (l : Nat → Int) (k : Int) : Prop := (∀ i, i < n → 0 ≤ l i) ∧ S n l = k
theorem falls_iff (ht : TiesOk n ties) (hc : Conn n ties) (hn : 0 < n) {d : Nat → Int} {k : Int} (hk : 0 ≤ k) : Falls n ties d k ↔ ∃ l, Loss n l k ∧ ¬ CanClear n ties fun i => d i - l i := by
  constructor
  · rintro ⟨x, o, ho, h⟩
    let f := fun i => d i - lap ties x i - nu ties o i
    have hf : pos n f ≤ k := h
    refine ⟨fun i => (if 0 ≤ f i then f i else 0) + if i = 0 then k - pos n f else 0, ⟨fun i hi => ?_, ?_⟩, ?_⟩
    · show 0 ≤ (if 0 ≤ f i then f i else 0) + if i = 0 then k - pos n f else 0
      split <;> split <;> omega
    · rw [S_add, S_one, if_pos hn]
      show pos n f + _ = k
      omega
    · refine nu_bars ht hn (x := x) ho fun i hi => ?_
      have e : f i = d i - lap ties x i - nu ties o i := rfl
      show d i - ((if 0 ≤ f i then f i else 0) + if i = 0 then k - pos n f else 0) - lap ties x i ≤ nu ties o i
      split <;> split <;> omega
  · rintro ⟨l, ⟨h0, h1⟩, h⟩
    rcases clear_or ht hc hn (fun i => d i - l i) with h2 | ⟨x, o, ho, hd⟩
    · exact absurd h2 h
    · refine ⟨x, o, ho, ?_⟩
      rw [← h1]
      refine S_le fun i hi => ?_
      have := hd i hi
      have := h0 i hi
      show (if 0 ≤ d i - lap ties x i - nu ties o i then d i - lap ties x i - nu ties o i else 0) ≤ l i
      split <;> omega
theorem Falls.rest (ht : TiesOk n ties) {d : Nat → Int} {k : Int} (h : Falls n ties d k) : Falls n ties (fun i => deg ties i - 2 - d i) (k - S n d + ties.length - n) := by
  obtain ⟨x, o, ho, h⟩ := h
  refine ⟨fun i => - x i, o.reverse, ⟨nodup_rev ho.nd, fun i => by rw [List.mem_reverse]; exact ho.all i⟩, ?_⟩
  have e : pos n (fun i => deg ties i - 2 - d i - lap ties (fun j => - x j) i - nu ties o.reverse i) = pos n fun i => - (d i - lap ties x i - nu ties o i) := by
    unfold pos
    refine S_congr fun i hi => ?_
    have := nu_rev ht ho hi
    have : deg ties i - 2 - d i - lap ties (fun j => - x j) i - nu ties o.reverse i = - (d i - lap ties x i - nu ties o i) := by
      rw [lap_neg]
      omega
    show (if 0 ≤ deg ties i - 2 - d i - lap ties (fun j => - x j) i - nu ties o.reverse i then deg ties i - 2 - d i - lap ties (fun j => - x j) i - nu ties o.reverse i else 0) = _
    rw [this]
  rw [e]
  have h2 := pos_sub (n := n) (f := fun i => d i - lap ties x i - nu ties o i)
  rw [S_sub (f := fun i => d i - lap ties x i), S_sub, nu_sum ht ho, show S n (fun i => lap ties x i) = 0 from lap_sum ht] at h2
  omega
theorem falls_rest (ht : TiesOk n ties) {d : Nat → Int} {k : Int} : Falls n ties d k ↔ Falls n ties (fun i => deg ties i - 2 - d i) (k - S n d + ties.length - n) := by
  refine ⟨fun h => h.rest ht, fun h => ?_⟩
  have h2 := h.rest ht
  have e1 : (fun i => deg ties i - 2 - (deg ties i - 2 - d i)) = d := by funext i; omega
  have e2 : S n (fun i => deg ties i - 2 - d i) = 2 * ties.length - 2 * n - S n d := by
    rw [S_sub (f := fun i => deg ties i - 2), S_sub, show S n (fun i => deg ties i) = S n (deg ties) from rfl, deg_sum ht, S_const]
    omega
  rw [e1, e2] at h2
  have e3 : k - S n d + ↑ties.length - ↑n - (2 * ↑ties.length - 2 * ↑n - S n d) + ↑ties.length - ↑n = k := by omega
  rw [e3] at h2
  exact h2
theorem Falls.lent {d t : Nat → Int} {k : Int} (h : Falls n ties d k) : Falls n ties (fun i => d i - lap ties t i) k := by
  obtain ⟨x, o, ho, h⟩ := h
  refine ⟨fun i => x i - t i, o, ho, ?_⟩
  have : (fun i => d i - lap ties t i - lap ties (fun j => x j - t j) i - nu ties o i) = fun i => d i - lap ties x i - nu ties o i := by
    funext i
    rw [lap_sub]
    omega
  rw [this]
  exact h
theorem Falls.congr {d d' : Nat → Int} {k : Int} (h : Falls n ties d k) (e : ∀ i, i < n → d' i = d i) : Falls n ties d' k := by
  obtain ⟨x, o, ho, h⟩ := h
  refine ⟨x, o, ho, ?_⟩
  have : pos n (fun i => d' i - lap ties x i - nu ties o i) = pos n fun i => d i - lap ties x i - nu ties o i := S_congr fun i hi => by simp only [e i hi]
  omega
/-- the number that dues stand -/
def Stands (n : Nat) (ties : Ties) (d : Nat → Int) (r : Int) : Prop := -1 ≤ r ∧ ¬ Falls n ties d r ∧ Falls n ties d (r + 1)
theorem Stands.uniq {d : Nat → Int} {r s : Int} (h : Stands n ties d r) (k : Stands n ties d s) : r = s := by
  apply Classical.byContradiction
  intro hne
  rcases Int.lt_or_gt_of_ne hne with h1 | h1
  · exact k.2.1 (h.2.2.mono (by omega))
  · exact h.2.1 (k.2.2.mono (by omega))
theorem Stands.rest (ht : TiesOk n ties) {d : Nat → Int} {r : Int} (h : Stands n ties d r) : Stands n ties (fun i => deg ties i - 2 - d i) (r - S n d + ties.length - n) := by
  obtain ⟨h0, h1, h2⟩ := h
  have a := fun z => h1 ((falls_rest ht (d := d) (k := r)).mpr z)
  have b := h2.rest ht
  have e : r + 1 - S n d + ties.length - n = r - S n d + ties.length - n + 1 := by omega
  rw [e] at b
  exact ⟨by have := b.nonneg; omega, a, b⟩
theorem Stands.congr {d d' : Nat → Int} {r : Int} (h : Stands n ties d r) (e : ∀ i, i < n → d' i = d i) : Stands n ties d' r := ⟨h.1, fun z => h.2.1 (z.congr fun i hi => (e i hi).symm), h.2.2.congr e⟩
theorem Stands.lent {d t : Nat → Int} {r : Int} (h : Stands n ties d r) : Stands n ties (fun i => d i - lap ties t i) r := by
  refine ⟨h.1, fun z => h.2.1 ?_, h.2.2.lent⟩
  have := z.lent (t := fun i => - t i)
  exact this.congr fun i _ => by rw [lap_neg]; omega
theorem CanClear.sum (ht : TiesOk n ties) {d : Nat → Int} (h : CanClear n ties d) : 0 ≤ S n d := by
  obtain ⟨x, hx⟩ := h
  have := S_nonneg hx
  rw [S_sub, show S n (fun i => lap ties x i) = 0 from lap_sum ht] at this
  omega
theorem CanClear.lent {d t : Nat → Int} (h : CanClear n ties d) : CanClear n ties fun i => d i - lap ties t i := by
  obtain ⟨x, hx⟩ := h
  refine ⟨fun i => x i - t i, fun i hi => ?_⟩
  have := hx i hi
  rw [lap_sub]
  show 0 ≤ d i - lap ties t i - _
  omega
theorem CanClear.congr {d d' : Nat → Int} (h : CanClear n ties d) (e : ∀ i, i < n → d' i = d i) : CanClear n ties d' := by
  obtain ⟨x, hx⟩ := h
  exact ⟨x, fun i hi => by rw [e i hi]; exact hx i hi⟩
theorem CanClear.plus {d e : Nat → Int} (h : CanClear n ties d) (k : CanClear n ties e) : CanClear n ties fun i => d i + e i := by
  obtain ⟨x, hx⟩ := h
  obtain ⟨y, hy⟩ := k
  refine ⟨fun i => x i + y i, fun i hi => ?_⟩
  have := hx i hi
  have := hy i hi
  rw [lap_add]
  show 0 ≤ d i + e i - _
  omega
/-- a loss parted -/
theorem loss_part {l : Nat → Int} (h0 : ∀ i, i < n → 0 ≤ l i) : ∀ (r : Nat), (r : Int) ≤ S n l → ∃ a : Nat → Int, (∀ i, i < n → 0 ≤ a i ∧ a i ≤ l i) ∧ S n a = r
  | 0, _ => ⟨fun _ => 0, fun i hi => ⟨Int.le_refl _, h0 i hi⟩, S_zero⟩
  | r + 1, hr => by
    obtain ⟨a, h1, h2⟩ := loss_part h0 r (by omega)
    have : ∃ i, i < n ∧ a i < l i := by
      apply Classical.byContradiction
      intro hno
      have : S n l ≤ S n a := S_le fun i hi => by
        apply Classical.byContradiction
        intro hz
        exact hno ⟨i, hi, by omega⟩
      omega
    obtain ⟨j, hj, hl⟩ := this
    refine ⟨fun i => a i + if i = j then 1 else 0, fun i hi => ?_, ?_⟩
    · have := h1 i hi
      show 0 ≤ a i + (if i = j then 1 else 0) ∧ a i + (if i = j then 1 else 0) ≤ l i
      by_cases e : i = j
      · subst e
        rw [if_pos rfl]
        omega
      · rw [if_neg e]
        omega
    · rw [S_add, S_one, if_pos hj, h2]
      omega
theorem Stands.clear (ht : TiesOk n ties) (hc : Conn n ties) (hn : 0 < n) {d l : Nat → Int} {r k : Int} (h : Stands n ties d r) (hl : Loss n l k) (h0 : 0 ≤ k) (hk : k ≤ r) : CanClear n ties fun i => d i - l i := by
  apply Classical.byContradiction
  intro hz
  exact h.2.1 (((falls_iff ht hc hn h0).mpr ⟨_, hl, hz⟩).mono hk)
/-- two dues put together stand at least both together -/
theorem Stands.add (ht : TiesOk n ties) (hc : Conn n ties) (hn : 0 < n) {d e f : Nat → Int} {r s q : Int} (h : Stands n ties d r) (k : Stands n ties e s) (m : Stands n ties f q) (hf : ∀ i, i < n → f i = d i + e i) (hr : 0 ≤ r) (hs : 0 ≤ s) : r + s ≤ q := by
  apply Classical.byContradiction
  intro hno
  have h1 : Falls n ties f (r + s) := m.2.2.mono (by omega)
  obtain ⟨l, ⟨l0, l1⟩, hz⟩ := (falls_iff ht hc hn (by omega)).mp h1
  obtain ⟨a, a0, a1⟩ := loss_part l0 r.toNat (by omega)
  have c1 := h.clear ht hc hn (l := a) (k := r) ⟨fun i hi => (a0 i hi).1, by omega⟩ hr (Int.le_refl _)
  have c2 := k.clear ht hc hn (l := fun i => l i - a i) (k := s) ⟨fun i hi => by have := a0 i hi; show 0 ≤ l i - a i; omega, by rw [S_sub]; omega⟩ hs (Int.le_refl _)
  exact hz ((c1.plus c2).congr fun i hi => by rw [hf i hi]; omega)
theorem zero_stands (ht : TiesOk n ties) (hc : Conn n ties) (hn : 0 < n) : Stands n ties (fun _ => 0) 0 := by
  refine ⟨by omega, fun z => ?_, ?_⟩
  · obtain ⟨l, ⟨l0, l1⟩, hz⟩ := (falls_iff ht hc hn (Int.le_refl _)).mp z
    refine hz ⟨fun _ => 0, fun i hi => ?_⟩
    have := S_zero_of l0 l1 i hi
    show 0 ≤ (0 - l i) - lap ties (fun _ => 0) i
    rw [lap_const]
    omega
  · refine (falls_iff ht hc hn (by omega)).mpr ⟨fun i => if i = 0 then 1 else 0, ⟨fun i _ => by show (0 : Int) ≤ if i = 0 then 1 else 0; split <;> omega, by rw [S_one, if_pos hn]; rfl⟩, fun z => ?_⟩
    have := z.sum ht
    rw [S_sub (f := fun _ => 0), S_zero, S_one, if_pos hn] at this
    omega
theorem own_stands (ht : TiesOk n ties) (hc : Conn n ties) (hn : 0 < n) : Stands n ties (fun i => deg ties i - 2) (ties.length - n) := by
  have h := (zero_stands ht hc hn).rest ht
  rw [S_zero] at h
  have e : (0 : Int) - 0 + ties.length - n = ties.length - n := by omega
  rw [e] at h
  exact h.congr fun i _ => by omega
end
end TY

set_option Elab.async false
set_option linter.all false
set_option maxRecDepth 100000
set_option maxHeartbeats 4000000
namespace LW
open PySem AM TY
/-! draws: _law_mixed, _law_take, _law_pile -/
def PileOk (N : Nat) (p : List Int) : Prop := ∃ a b c : Int, p = [a, b, c] ∧ 0 ≤ c ∧ c < N
theorem PileOk.mono {N M : Nat} {p : List Int} (h : PileOk N p) (hl : N ≤ M) : PileOk M p := by
  obtain ⟨a, b, c, e, h0, h1⟩ := h
  exact ⟨a, b, c, e, h0, by omega⟩
theorem mixed_ok (a b : Int) (hb : b.natAbs < 2 ^ 60) : ∃ r, p__law_mixed a b = X.ok r := by
  unfold p__law_mixed
  rw [mulO_ok (n := 40) (m := 40) (by omega) (by decide) (by omega), ofO_some, bind_ok, mulO_ok (n := 60) (m := 40) hb (by decide) (by omega), ofO_some, bind_ok,
    mulO_ok (n := 40) (m := 40) (by omega) (by omega) (by omega), ofO_some, bind_ok, mulO_ok (n := 40) (m := 40) (by omega) (by omega) (by omega), ofO_some, bind_ok]
  exact ⟨_, rfl⟩
theorem take_ok {N : Nat} {p : List Int} {m : Int} (h : PileOk N p) (hN : N ≤ 2 ^ 50) (hm : 0 < m) (hm2 : m < 2 ^ 60) : ∃ r p', p__law_take p m = X.ok (r, p') ∧ 0 ≤ r ∧ r < m ∧ PileOk (N + 1) p' := by
  obtain ⟨a, b, c, rfl, h0, h1⟩ := h
  unfold p__law_take
  simp only [at_0, at_2, ofO_some, bind_ok, decide_eq_true_eq]
  have hd : divO a m = some (a / m) := divO_pos hm (Nat.lt_of_lt_of_le (show m.natAbs < 2 ^ 60 by omega) (Nat.pow_le_pow_right (by decide) (by decide)))
  by_cases hc : a ∈ [0, -1]
  · obtain ⟨r, hr⟩ := mixed_ok b (c + 1) (by omega)
    refine ⟨r % m, [a, b, c + 1], ?_, Int.emod_nonneg _ (by omega), Int.emod_lt_of_pos _ hm, a, b, c + 1, rfl, by omega, by omega⟩
    rw [if_pos hc, setO_ok (by decide) (by simp), ofO_some, bind_ok, ixO_ok (x := b) (by decide) rfl, ofO_some, bind_ok, ixO_ok (x := c + 1) (by decide) rfl, ofO_some, bind_ok]
    simp only [hr, bind_ok, modO_pos hm, ofO_some]
    rfl
  · refine ⟨a % m, [a / m, b, c], ?_, Int.emod_nonneg _ (by omega), Int.emod_lt_of_pos _ hm, a / m, b, c, rfl, by omega, by omega⟩
    rw [if_neg hc]
    simp only [modO_pos hm, hd, ofO_some, bind_ok]
    rw [setO_ok (by decide) (by simp), ofO_some, bind_ok]
    rfl
theorem pile_ok (ns : List Int) (k : Int) (h0 : 0 ≤ k) (h1 : k ≤ 1000) : ∃ p, p__law_pile ns k = X.ok p ∧ PileOk 100000 p := by
  have key : ∀ s2 : Int, ∃ p, (X.bind (X.ofO (at_  [0, (s2 % 1000000000000000000000000000000000000000000000000000000000000000000000000000000000000000000000000000000000000000000000000000000000000000000000000000000)] (b2i (decide (1000000000000000000 ≤ (absI s2)))))) fun x4 => X.bind (X.ofO (mulO  97 k)) fun x5 => X.ok [x4, (s2 % 2147483647), x5]) = X.ok p ∧ PileOk 100000 p := by
    intro s2
    rw [mulO_ok (n := 40) (m := 40) (by decide) (by omega) (by omega)]
    by_cases hb : 1000000000000000000 ≤ absI s2
    · rw [decide_eq_true hb, b2i_t]
      simp only [at_1, ofO_some, bind_ok]
      exact ⟨_, rfl, _, _, _, rfl, by omega, by omega⟩
    · rw [decide_eq_false hb, b2i_f]
      simp only [at_0, ofO_some, bind_ok]
      exact ⟨_, rfl, _, _, _, rfl, by omega, by omega⟩
  unfold p__law_pile
  simp only [decide_eq_true_eq]
  by_cases hk : k < ((ns.length : Nat) : Int)
  · rw [if_pos hk, at_ok (x := ns[k.toNat]'(by omega)) h0 (List.getElem?_eq_getElem _)]
    exact key _
  · rw [if_neg hk]
    exact key 0
/-! webs: _law_web -/
theorem perm_erase {α : Type} {l : List α} {i : Nat} (h : i < l.length) : (l[i] :: l.eraseIdx i).Perm l := by
  rw [List.eraseIdx_eq_take_drop_succ]
  refine List.perm_middle.symm.trans ?_
  rw [List.getElem_cons_drop]
  rw [List.take_append_drop]
/-- the loop that takes things out of a list by draws -/
theorem mix_ok {α : Type} [DecidableEq α] {fu : Nat} {N : Nat} {p : List Int} {left found : List α} (h : PileOk N p) (hN : N ≤ 2 ^ 49) (hl : left.length ≤ 1000) (hf : found.length ≤ 1000) (hfu : left.length < fu) :
    ∃ p' f', X.whP (fun (s : List Int × List α × List α) => X.ok (!decide (s.2.1 = []))) (fun (s : List Int × List α × List α) => X.bind (p__law_take s.1 ((s.2.1.length : Nat) : Int)) fun r5 => X.bind (X.ofO (popO s.2.1 r5.1)) fun x6 => X.bind (X.ofO (appO s.2.2 x6.2)) fun x7 => X.ok (r5.2, x6.1, x7)) fu (p, left, found) = X.ok (p', [], f') ∧
      f'.Perm (found ++ left) ∧ PileOk (N + left.length) p' := by
  obtain ⟨⟨p', l', f'⟩, h1, h2, h3, h4⟩ := whP_ok (c := fun (s : List Int × List α × List α) => X.ok (!decide (s.2.1 = []))) (b := fun (s : List Int × List α × List α) => X.bind (p__law_take s.1 ((s.2.1.length : Nat) : Int)) fun r5 => X.bind (X.ofO (popO s.2.1 r5.1)) fun x6 => X.bind (X.ofO (appO s.2.2 x6.2)) fun x7 => X.ok (r5.2, x6.1, x7))
    (fun n s => (s.2.1.length = n ∧ n ≤ left.length) ∧ (s.2.2 ++ s.2.1).Perm (found ++ left) ∧ PileOk (N + left.length - n) s.1) (fun s hs => by
      rw [List.length_eq_zero_iff.mp hs.1.1]
      rfl) (fun n s hs => by
      obtain ⟨p, l, f⟩ := s
      obtain ⟨⟨h1, hn⟩, h2, h3⟩ := hs
      simp only at h1 h2 h3
      have hlen := h2.length_eq
      simp only [List.length_append] at hlen
      refine ⟨by rw [decide_eq_false (by rintro rfl; simp at h1)]; rfl, ?_⟩
      obtain ⟨r, p2, e1, r0, r1, o1⟩ := take_ok (m := (l.length : Int)) h3 (by omega) (by omega) (by omega)
      have hr : r.toNat < l.length := by omega
      refine ⟨(p2, l.eraseIdx r.toNat, f ++ [l[r.toNat]]), ?_, ?_, ?_, ?_⟩
      · simp only [e1, bind_ok, popO_ok r0 (by omega) (List.getElem?_eq_getElem hr), ofO_some, appO_ok (xs := f) (by omega)]
      · simp only [List.length_eraseIdx, if_pos hr]
        omega
      · refine List.Perm.trans ?_ h2
        simp only [List.append_assoc]
        refine List.Perm.append_left _ ?_
        exact perm_erase hr
      · exact o1.mono (by omega)) (n := left.length) (fu := fu) (s := (p, left, found)) ⟨⟨rfl, Nat.le_refl _⟩, List.Perm.refl _, by simpa using h⟩ hfu
  have hl' : l' = [] := List.length_eq_zero_iff.mp h2.1
  subst hl'
  exact ⟨p', f', h1, by simpa using h3, by simpa using h4⟩
structure WebOk (w : Int × (List (Int × Int))) : Prop where
  n1 : 1 ≤ w.1
  n6 : w.1 ≤ 6
  few : w.2.length ≤ 10
  ties : ∀ t ∈ w.2, 0 ≤ t.1 ∧ t.1 < t.2 ∧ t.2 < w.1
  conn : Conn w.1 w.2
/-- the same with other bounds -/
structure WebIn (least most many : Int) (w : Int × (List (Int × Int))) : Prop where
  n1 : least ≤ w.1
  n6 : w.1 ≤ most
  few : (w.2.length : Int) ≤ many
  ties : ∀ t ∈ w.2, 0 ≤ t.1 ∧ t.1 < t.2 ∧ t.2 < w.1
  conn : Conn w.1 w.2
theorem min2_lt {x y : Int} : min2 x y = min x y := by unfold min2; omega
theorem max2_lt {x y : Int} : max2 x y = max x y := by unfold max2; omega
theorem web_in {fu N : Nat} {p : List Int} {least most many : Int} (h : PileOk N p) (hN : N ≤ 2 ^ 48) (h1 : 1 ≤ least) (h2 : least ≤ most) (h3 : most ≤ many + 1) (h4 : many ≤ 100) (hfu : 200 < fu) :
    ∃ w p', p__law_web fu p least most many = X.ok (w, p') ∧ WebIn least most many w ∧ PileOk (N + 2000) p' := by
  unfold p__law_web
  obtain ⟨r1, p1, e1, r10, r11, o1⟩ := take_ok (m := (most + 1) - least) h (by omega) (by omega) (by omega)
  rw [e1, bind_ok]
  simp only
  obtain ⟨n, hn⟩ : ∃ n, n = least + r1 := ⟨_, rfl⟩
  rw [← hn]
  rw [rgdO_ok (by omega) (by omega) (by omega) (by omega), ofO_some, bind_ok]
  obtain ⟨p2, order, e2, perm, o2⟩ := mix_ok (fu := fu) (left := rgT 0 1 (n - 0).toNat) (found := ([] : List Int)) o1 (by omega) (by simp; omega) (by simp) (by simp; omega)
  rw [e2, bind_ok]
  simp only
  simp only [List.nil_append] at perm
  rw [rgT_len] at o2
  have olen : order.length = n.toNat := by
    have := perm.length_eq
    simpa using this
  have omem : ∀ x, x ∈ order ↔ 0 ≤ x ∧ x < n := fun x => by
    rw [perm.mem_iff, rgT_mem]
    omega
  have onod : order.Nodup := perm.nodup_iff.mpr rgT_nodup
  rw [rg2_ok (by omega) (by omega) (by omega) (by omega), ofO_some, bind_ok]
  obtain ⟨⟨p3, ties⟩, e3, o3, t1, t2, t3⟩ := forP_ok (b := fun (x9 : Int) (s10 : List Int × (List (Int × Int))) => X.bind (X.ofO (at_  order x9)) fun x12 => X.bind (p__law_take s10.1 x9) fun r13 => X.bind (X.ofO (at_ order r13.1)) fun x14 => X.bind (X.ofO (appO s10.2 ((min2 x12 x14), (max2 x12 x14)))) fun x15 => X.ok (r13.2, x15)) (xs := rgT 1 1 (n - 1).toNat) (s := (p2, []))
    (fun i s => PileOk (N + 1 + (n - 0).toNat + i) s.1 ∧ s.2.length = i ∧ (∀ t ∈ s.2, 0 ≤ t.1 ∧ t.1 < t.2 ∧ t.2 < n) ∧ ∀ P : Int → Prop, (∀ t ∈ s.2, (P t.1 ↔ P t.2)) → ∀ a b : Nat, a ≤ i → b ≤ i → ∀ x y, order[a]? = some x → order[b]? = some y → P x → P y)
    ⟨o2, rfl, by simp, fun P _ a b ha hb x y hx hy hp => by
      have : a = b := by omega
      subst this
      rw [hx] at hy
      cases hy
      exact hp⟩ (fun i x s hx hs => by
      obtain ⟨p3, ties⟩ := s
      obtain ⟨q1, q2, q3, q4⟩ := hs
      simp only at q1 q2 q3 q4
      have hi : i < (n - 1).toNat := by
        have := (List.getElem?_eq_some_iff.mp hx).1
        simpa using this
      rw [rgT_get hi] at hx
      have hx2 : x = i + 1 := by
        simp only [Option.some.injEq] at hx
        omega
      subst hx2
      have hk : i + 1 < order.length := by omega
      obtain ⟨r, p4, e4, r0, r1, o4⟩ := take_ok (m := ((i : Int) + 1)) q1 (by omega) (by omega) (by omega)
      have hr : r.toNat < order.length := by omega
      have g1 : at_ order ((i : Int) + 1) = some order[i + 1] := at_ok (by omega) (by rw [show ((i : Int) + 1).toNat = i + 1 by omega]; exact List.getElem?_eq_getElem hk)
      have g2 : at_ order r = some order[r.toNat] := at_ok r0 (List.getElem?_eq_getElem hr)
      have ne : order[i + 1] ≠ order[r.toNat] := fun e => by
        have := (List.getElem_inj onod).mp e
        omega
      have m1 := (omem order[i + 1]).mp (List.getElem_mem _)
      have m2 := (omem order[r.toNat]).mp (List.getElem_mem _)
      refine ⟨(p4, ties ++ [(min2 order[i + 1] order[r.toNat], max2 order[i + 1] order[r.toNat])]), ?_, ?_, ?_, ?_, ?_⟩
      · simp only [g1, ofO_some, bind_ok, e4, g2, appO_ok (xs := ties) (by omega)]
      · exact o4.mono (by omega)
      · simp [q2]
      · intro t ht
        rcases List.mem_append.mp ht with ht | ht
        · exact q3 t ht
        · simp only [List.mem_singleton] at ht
          subst ht
          simp only [min2_lt, max2_lt]
          omega
      · intro P hP a b ha hb x y hx hy hp
        have old := q4 P fun t ht => hP t (List.mem_append.mpr (.inl ht))
        have new : P order[i + 1] ↔ P order[r.toNat] := by
          have := hP _ (List.mem_append.mpr (.inr (List.mem_singleton.mpr rfl)))
          simp only [min2_lt, max2_lt] at this
          by_cases hlt : order[i + 1] ≤ order[r.toNat]
          · rwa [Int.min_eq_left hlt, Int.max_eq_right hlt] at this
          · rw [Int.min_eq_right (by omega), Int.max_eq_left (by omega)] at this
            exact this.symm
        have hrr : order[r.toNat]? = some order[r.toNat] := List.getElem?_eq_getElem hr
        by_cases ha' : a = i + 1
        · subst ha'
          rw [List.getElem?_eq_getElem hk] at hx
          cases hx
          by_cases hb' : b = i + 1
          · subst hb'
            rw [List.getElem?_eq_getElem hk] at hy
            cases hy
            exact hp
          · exact old r.toNat b (by omega) (by omega) _ y hrr hy (new.mp hp)
        · by_cases hb' : b = i + 1
          · subst hb'
            rw [List.getElem?_eq_getElem hk] at hy
            cases hy
            exact new.mpr (old a r.toNat (by omega) (by omega) x _ hx hrr hp)
          · exact old a b (by omega) (by omega) x y hx hy hp)
  rw [e3, bind_ok]
  simp only
  simp only [rgT_len] at o3 t1 t3
  have conn : Conn n ties := fun P hP i j i0 i1 j0 j1 hp => by
    obtain ⟨a, ha⟩ := List.mem_iff_getElem?.mp ((omem i).mpr ⟨i0, i1⟩)
    obtain ⟨b, hb⟩ := List.mem_iff_getElem?.mp ((omem j).mpr ⟨j0, j1⟩)
    have la := (List.getElem?_eq_some_iff.mp ha).1
    have lb := (List.getElem?_eq_some_iff.mp hb).1
    exact t3 P hP a b (by omega) (by omega) i j ha hb hp
  have more : ∃ p5 ties5, (if (decide (1 < n)) = true then (X.bind (p__law_take p3 ((many + 2) - n)) fun r16 => X.bind (X.ofO (rg1 r16.1)) fun x17 => X.bind (X.forP (fun (x18 : Int) (s19 : List Int × (List (Int × Int))) => X.bind (p__law_take s19.1 (n - 1)) fun r21 => X.bind (p__law_take r21.2 ((n - 1) - r21.1)) fun r22 => X.bind (X.ofO (appO s19.2 (r21.1, ((r21.1 + 1) + r22.1)))) fun x23 => X.ok (r22.2, x23)) x17 (r16.2, ties)) fun (s19 : List Int × (List (Int × Int))) => X.ok (s19.1, s19.2)) else X.ok (p3, ties)) = X.ok (p5, ties5) ∧ PileOk (N + 1 + (n - 0).toNat + (n - 1).toNat + 301) p5 ∧ (∀ t ∈ ties5, 0 ≤ t.1 ∧ t.1 < t.2 ∧ t.2 < n) ∧ (∀ t ∈ ties, t ∈ ties5) ∧ (ties5.length : Int) ≤ many := by
    by_cases h1n : 1 < n
    · rw [if_pos (decide_eq_true h1n)]
      obtain ⟨r6, p6, e6, r60, r61, o6⟩ := take_ok (m := (many + 2) - n) o3 (by omega) (by omega) (by omega)
      rw [e6, bind_ok]
      simp only
      rw [rg1_ok (by omega) (by omega), ofO_some, bind_ok]
      obtain ⟨⟨p7, ties7⟩, e7, o7, u1, u2, u3⟩ := forP_ok (b := fun (x18 : Int) (s19 : List Int × (List (Int × Int))) => X.bind (p__law_take s19.1 (n - 1)) fun r21 => X.bind (p__law_take r21.2 ((n - 1) - r21.1)) fun r22 => X.bind (X.ofO (appO s19.2 (r21.1, ((r21.1 + 1) + r22.1)))) fun x23 => X.ok (r22.2, x23)) (xs := rgT 0 1 r6.toNat) (s := (p6, ties))
        (fun i s => PileOk (N + 1 + (n - 0).toNat + (n - 1).toNat + 1 + 2 * i) s.1 ∧ s.2.length = (n - 1).toNat + i ∧ (∀ t ∈ s.2, 0 ≤ t.1 ∧ t.1 < t.2 ∧ t.2 < n) ∧ ∀ t ∈ ties, t ∈ s.2)
        ⟨o6, by simpa using t1, t2, fun t ht => ht⟩ (fun i x s hx hs => by
          obtain ⟨p3, tt⟩ := s
          obtain ⟨q1, q2, q3, q4⟩ := hs
          simp only at q1 q2 q3 q4
          have hi : i < r6.toNat := by
            have := (List.getElem?_eq_some_iff.mp hx).1
            simpa using this
          obtain ⟨ra, pa, ea, ra0, ra1, oa⟩ := take_ok (m := n - 1) q1 (by omega) (by omega) (by omega)
          obtain ⟨rb, pb, eb, rb0, rb1, ob⟩ := take_ok (m := (n - 1) - ra) oa (by omega) (by omega) (by omega)
          refine ⟨(pb, tt ++ [(ra, ra + 1 + rb)]), ?_, ?_, ?_, ?_, ?_⟩
          · simp only [ea, bind_ok, eb, appO_ok (xs := tt) (by omega), ofO_some]
          · exact ob.mono (by omega)
          · simp [q2]
            omega
          · intro t ht
            rcases List.mem_append.mp ht with ht | ht
            · exact q3 t ht
            · simp only [List.mem_singleton] at ht
              subst ht
              simp only
              omega
          · exact fun t ht => List.mem_append.mpr (.inl (q4 t ht)))
      rw [e7, bind_ok]
      simp only [rgT_len] at o7 u1
      exact ⟨p7, ties7, rfl, o7.mono (by omega), u2, u3, by omega⟩
    · rw [if_neg (by simpa using h1n)]
      exact ⟨p3, ties, rfl, o3.mono (by omega), t2, fun t ht => ht, by omega⟩
  obtain ⟨p5, ties5, e5, o5, v1, v2, v3⟩ := more
  rw [e5, bind_ok]
  simp only
  obtain ⟨p8, ties8, e8, perm8, o8⟩ := mix_ok (fu := fu) (left := ties5) (found := ([] : List (Int × Int))) o5 (by omega) (by omega) (by simp) (by omega)
  rw [e8, bind_ok]
  simp only [List.nil_append] at perm8
  refine ⟨(n, ties8), p8, rfl, ⟨by simp only; omega, by simp only; omega, by have := perm8.length_eq; simp only; omega, fun t ht => v1 t (perm8.mem_iff.mp ht), fun P hP => conn P fun t ht => hP t (perm8.mem_iff.mpr (v2 t ht))⟩, o8.mono (by omega)⟩
theorem web_ok {fu N : Nat} {p : List Int} (h : PileOk N p) (hN : N ≤ 2 ^ 48) (hfu : 200 < fu) : ∃ w p', p__law_web fu p 1 6 10 = X.ok (w, p') ∧ WebOk w ∧ PileOk (N + 2000) p' := by
  obtain ⟨w, p', e, h1, h2⟩ := web_in (least := 1) (most := 6) (many := 10) h hN (by decide) (by decide) (by decide) (by decide) hfu
  exact ⟨w, p', e, ⟨h1.n1, h1.n6, by have := h1.few; omega, h1.ties, h1.conn⟩, h2⟩
/-! drawn numbers: _law_number (of small ones, or of up to 35 figures), _law_numbers -/
theorem number_ok {N : Nat} {p : List Int} (h : PileOk N p) (hN : N ≤ 2 ^ 49) : ∃ z p', p__law_number p = X.ok (z, p') ∧ PileOk (N + 8) p' ∧ z.natAbs < 10 ^ 36 := by
  unfold p__law_number
  obtain ⟨r, p1, e1, r0, r1, o1⟩ := take_ok (m := 8) h (by omega) (by decide) (by decide)
  rw [e1, bind_ok]
  simp only [decide_eq_true_eq]
  by_cases hr : r < 2
  · rw [if_pos hr, rg1_ok (by decide) (by decide), ofO_some, bind_ok]
    obtain ⟨⟨p2, x⟩, e2, o2, x0, x1⟩ := forP_ok (b := fun (x3 : Int) (s4 : List Int × Int) => X.bind (X.ofO (mulO  s4.2 100000)) fun x6 => X.bind (p__law_take s4.1 100000) fun r7 => X.ok (r7.2, (x6 + r7.1))) (xs := rgT 0 1 (7 : Int).toNat) (s := (p1, 0))
      (fun i s => PileOk (N + 1 + i) s.1 ∧ 0 ≤ s.2 ∧ s.2 < 100000 ^ i) ⟨o1, Int.le_refl 0, by simp⟩ (fun i x s hx hs => by
        obtain ⟨p2, x⟩ := s
        obtain ⟨q1, q2, q3⟩ := hs
        simp only at q1 q2 q3
        have hi : i < 7 := by
          have := (List.getElem?_eq_some_iff.mp hx).1
          simpa using this
        have xb : x < 100000 ^ 7 := by
          have : i = 0 ∨ i = 1 ∨ i = 2 ∨ i = 3 ∨ i = 4 ∨ i = 5 ∨ i = 6 := by omega
          rcases this with rfl | rfl | rfl | rfl | rfl | rfl | rfl <;> omega
        obtain ⟨r2, p3, e2, h3, h4, o3⟩ := take_ok (m := 100000) q1 (by omega) (by decide) (by decide)
        refine ⟨(p3, x * 100000 + r2), ?_, o3.mono (by omega), by simp only; omega, ?_⟩
        · simp only [mulO_ok (i := x) (j := 100000) (n := 200) (m := 40) (by omega) (by decide) (by decide), ofO_some, bind_ok, e2]
        · simp only
          rw [Int.pow_succ]
          omega)
    rw [e2, bind_ok]
    simp only [rgT_len] at o2 x1 x0
    have x2 : x < 100000 ^ 7 := x1
    have hr2 : r = 0 ∨ r = 1 := by omega
    rcases hr2 with rfl | rfl
    · simp only [at_0, ofO_some, bind_ok]
      exact ⟨_, _, rfl, o2.mono (by show N + 1 + 7 ≤ N + 8; omega), by omega⟩
    · simp only [at_1, ofO_some, bind_ok]
      exact ⟨_, _, rfl, o2.mono (by show N + 1 + 7 ≤ N + 8; omega), by omega⟩
  · rw [if_neg hr]
    have key : ∀ mo sb : Int, 0 < mo → mo < 100 → 0 ≤ sb → sb < 100 → ∃ z p', (X.bind (p__law_take p1 mo) fun r10 => X.bind (X.ofO (some sb)) fun x11 => X.ok ((r10.1 - x11), r10.2)) = X.ok (z, p') ∧ PileOk (N + 8) p' ∧ z.natAbs < 10 ^ 36 := by
      intro mo sb h1 h2 h3 h4
      obtain ⟨r2, p3, e2, r20, r21, o3⟩ := take_ok (m := mo) o1 (by omega) h1 (by omega)
      simp only [e2, bind_ok, ofO_some]
      exact ⟨_, _, rfl, o3.mono (by omega), by omega⟩
    have hm : r % 2 = 0 ∨ r % 2 = 1 := by omega
    rcases hm with e | e
    · simp only [e, at_0, ofO_some, bind_ok]
      exact key 9 3 (by decide) (by decide) (by decide) (by decide)
    · simp only [e, at_1, ofO_some, bind_ok]
      exact key 25 12 (by decide) (by decide) (by decide) (by decide)
theorem numbers_ok {N : Nat} {p : List Int} (h : PileOk N p) (hN : N ≤ 2 ^ 48) {n : Int} (h0 : 0 ≤ n) (h1 : n ≤ 100) :
    ∃ zs p', p__law_numbers p n = X.ok (zs, p') ∧ zs.length = n.toNat ∧ PileOk (N + 1000) p' ∧ ∀ z ∈ zs, z.natAbs < 10 ^ 36 := by
  unfold p__law_numbers
  obtain ⟨r, p1, e1, r0, r1, o1⟩ := take_ok (m := 3) h (by omega) (by decide) (by decide)
  rw [e1, bind_ok]
  simp only [decide_eq_true_eq]
  rw [rg1_ok (by omega) (by omega), ofO_some, bind_ok, bind_ok]
  by_cases hr : 0 < r
  · rw [if_pos hr]
    obtain ⟨zs, p2, e2, q1, q2, q3⟩ := lcSX_ok (f := fun (x5 : Int) (s3 : List Int) => X.bind (X.nx (p__law_take s3 9)) fun r6 => X.ok ((r6.1 - 3), r6.2)) (xs := rgT 0 1 n.toNat) (s := p1)
      (fun i zs s => zs.length = i ∧ PileOk (N + 1 + i) s ∧ ∀ z ∈ zs, z.natAbs < 10 ^ 36) (by simp; omega) ⟨rfl, o1, by simp⟩ (fun i x acc s hx hs => by
        have hi : i < n.toNat := by
          have := (List.getElem?_eq_some_iff.mp hx).1
          simpa using this
        obtain ⟨q1, q2, q3⟩ := hs
        obtain ⟨r2, p3, e2, h3, h4, o3⟩ := take_ok (m := 9) q2 (by omega) (by decide) (by decide)
        refine ⟨r2 - 3, p3, by simp only [e2, nx_ok, bind_ok], by simp [q1], o3.mono (by omega), fun z hz => ?_⟩
        rcases List.mem_append.mp hz with hz | hz
        · exact q3 z hz
        · simp only [List.mem_singleton] at hz
          omega)
    rw [e2, bind_ok]
    rw [rgT_len] at q1 q2
    exact ⟨zs, p2, rfl, q1, q2.mono (by omega), q3⟩
  · rw [if_neg hr]
    obtain ⟨zs, p2, e2, q1, q2, q3⟩ := lcSX_ok (f := fun (x5 : Int) (s3 : List Int) => X.bind (X.nx (p__law_number s3)) fun r6 => X.ok (r6.1, r6.2)) (xs := rgT 0 1 n.toNat) (s := p1)
      (fun i zs s => zs.length = i ∧ PileOk (N + 1 + 8 * i) s ∧ ∀ z ∈ zs, z.natAbs < 10 ^ 36) (by simp; omega) ⟨rfl, o1, by simp⟩ (fun i x acc s hx hs => by
        have hi : i < n.toNat := by
          have := (List.getElem?_eq_some_iff.mp hx).1
          simpa using this
        obtain ⟨q1, q2, q3⟩ := hs
        obtain ⟨z, p3, e2, o3, hz⟩ := number_ok q2 (by omega)
        refine ⟨z, p3, by simp only [e2, nx_ok, bind_ok], by simp [q1], o3.mono (by omega), fun y hy => ?_⟩
        rcases List.mem_append.mp hy with hy | hy
        · exact q3 y hy
        · simp only [List.mem_singleton] at hy
          omega)
    rw [e2, bind_ok]
    rw [rgT_len] at q1 q2
    exact ⟨zs, p2, rfl, q1, q2.mono (by omega), q3⟩
/-! the program's lendings -/
theorem WebOk.tiesOk {w : Int × (List (Int × Int))} (h : WebOk w) : TiesOk w.1.toNat w.2 := fun t ht => by
  obtain ⟨h1, h2, h3⟩ := h.ties t ht
  exact ⟨h1, h2, by omega⟩
theorem WebOk.conn' {w : Int × (List (Int × Int))} (h : WebOk w) : Conn (w.1.toNat : Nat) w.2 := by
  have := h.n1
  rw [Int.toNat_of_nonneg (by omega)]
  exact h.conn
theorem look_dues_ok {w : Int × (List (Int × Int))} {d : List Int} (h : (d.length : Int) = w.1) : p_look_at_dues w d = X.ok () := by
  unfold p_look_at_dues
  rw [decide_eq_true h]
  rfl
theorem look_dues_no {w : Int × (List (Int × Int))} {d : List Int} (h : (d.length : Int) ≠ w.1) : p_look_at_dues w d = X.ex ⟨"NoDues", []⟩ := by
  unfold p_look_at_dues
  rw [decide_eq_false h]
  rfl
theorem look_times_ok {w : Int × (List (Int × Int))} {d : List Int} (h : (d.length : Int) = w.1) : p_look_at_times w d = X.ok () := by
  unfold p_look_at_times
  rw [decide_eq_true h]
  rfl
theorem look_times_no {w : Int × (List (Int × Int))} {d : List Int} (h : (d.length : Int) ≠ w.1) : p_look_at_times w d = X.ex ⟨"NoTimes", []⟩ := by
  unfold p_look_at_times
  rw [decide_eq_false h]
  rfl
theorem lent_loop {n : Nat} {t : Nat → Int} : ∀ {ties : Ties}, TiesOk n ties → ∀ d : Nat → Int, X.forP (fun (x3 : Int × Int) (s4 : List Int) => X.bind (X.ofO (at_  (Ls n t) x3.1)) fun x6 => X.bind (X.ofO (at_  (Ls n t) x3.2)) fun x7 => X.bind (X.ofO (updO s4 x3.1 fun x => x - (x6 - x7))) fun x8 => X.bind (X.ofO (updO x8 x3.2 fun x => x + (x6 - x7))) fun x9 => X.ok x9) ties (Ls n d) = X.ok (Ls n fun i => d i - lap ties t i)
  | [], _, d => by simp [X.forP, lap]
  | x :: ties, h, d => by
    obtain ⟨h1, h2, h3⟩ := h x (by simp)
    simp only [X.forP]
    rw [at_Ls h1 (by omega), ofO_some, bind_ok, at_Ls (by omega) (by omega), ofO_some, bind_ok, updO_Ls h1 (by omega), ofO_some, bind_ok, updO_Ls (by omega) (by omega), ofO_some, bind_ok, bind_ok]
    rw [lent_loop (fun y hy => h y (by simp [hy]))]
    congr 1
    refine Ls_congr fun i hi => ?_
    simp only [lap, Sl_cons, flow]
    by_cases e1 : i = x.1.toNat
    · have e2 : ¬ i = x.2.toNat := by omega
      simp only [if_pos e1, if_neg e2]
      omega
    · by_cases e2 : i = x.2.toNat
      · simp only [if_neg e1, if_pos e2]
        omega
      · simp only [if_neg e1, if_neg e2]
        omega
theorem lent_ok {w : Int × (List (Int × Int))} {n : Nat} (hn : w.1 = n) (ht : TiesOk n w.2) (d t : Nat → Int) : p_lent w (Ls n d) (Ls n t) = X.ok (Ls n fun i => d i - lap w.2 t i) := by
  unfold p_lent
  rw [look_dues_ok (by simp [hn]), bind_ok, look_times_ok (by simp [hn]), bind_ok, lent_loop ht d, bind_ok]
def nearL (n : Nat) (F : Nat → Nat → Int) : List (List Int) := Ls n fun i => Ls n (F i)
theorem near_loop {n : Nat} : ∀ {ties : Ties}, TiesOk n ties → ∀ F : Nat → Nat → Int, X.forP (fun (x5 : Int × Int) (s6 : List (List Int)) => X.bind (X.ofO (ixO s6 x5.1)) fun q8 => X.bind (X.ofO (updO q8.2 x5.2 fun x => x + 1)) fun x9 => X.bind (X.ofO (ixO (List.set s6 q8.1 x9) x5.2)) fun q10 => X.bind (X.ofO (updO q10.2 x5.1 fun x => x + 1)) fun x11 => X.ok (List.set (List.set s6 q8.1 x9) q10.1 x11)) ties (nearL n F) = X.ok (nearL n fun i j => F i j + nearC ties i j)
  | [], _, F => by simp [X.forP, nearC]
  | x :: ties, h, F => by
    obtain ⟨h1, h2, h3⟩ := h x (by simp)
    simp only [X.forP]
    unfold nearL
    rw [ixO_Ls h1 (by omega), ofO_some, bind_ok]
    simp only
    rw [updO_Ls (by omega) (by omega), ofO_some, bind_ok, Ls_set, ixO_Ls (by omega) (by omega), ofO_some, bind_ok]
    simp only
    rw [if_neg (by omega), updO_Ls h1 (by omega), ofO_some, bind_ok, Ls_set, bind_ok]
    have := near_loop (n := n) (ties := ties) (fun y hy => h y (by simp [hy])) fun i j => F i j + ((if i = x.1.toNat ∧ j = x.2.toNat then 1 else 0) + (if i = x.2.toNat ∧ j = x.1.toNat then 1 else 0))
    unfold nearL at this
    rw [show (Ls n fun i => Ls n fun j => F i j + nearC (x :: ties) i j) = Ls n fun i => Ls n fun j => F i j + ((if i = x.1.toNat ∧ j = x.2.toNat then 1 else 0) + (if i = x.2.toNat ∧ j = x.1.toNat then 1 else 0)) + nearC ties i j from Ls_congr fun i _ => Ls_congr fun j _ => by simp only [nearC, Sl_cons]; omega]
    rw [← this]
    congr 1
    refine Ls_congr fun i hi => ?_
    by_cases e2 : i = x.2.toNat
    · subst e2
      simp only [if_true, true_and]
      refine Ls_congr fun j hj => ?_
      have e1 : ¬ x.2.toNat = x.1.toNat := by omega
      by_cases e : j = x.1.toNat
      · simp [e, e1]
      · simp [e, e1]
    · by_cases e1 : i = x.1.toNat
      · subst e1
        simp only [if_neg e2, if_true, true_and, false_and, if_false]
        refine Ls_congr fun j hj => ?_
        by_cases e : j = x.2.toNat
        · simp [e, e2]
        · simp [e, e2]
      · simp only [if_neg e2, if_neg e1]
        refine Ls_congr fun j hj => ?_
        simp [e1, e2]
theorem near_ok {w : Int × (List (Int × Int))} {n : Nat} (hn : w.1 = n) (hl : n ≤ 1000) (ht : TiesOk n w.2) : p_near_of w = X.ok (nearL n (nearC w.2)) := by
  unfold p_near_of
  rw [rg1_ok (by omega) (by omega), ofO_some, bind_ok]
  have hrep : repO [(0 : Int)] w.1 = some (Ls n fun _ => (0 : Int)) := by
    unfold repO
    rw [if_pos (by simp; omega)]
    congr 1
    rw [hn]
    simp only [Int.toNat_natCast]
    refine Ls_of (by simp) fun i hi => ?_
    rw [List.getElem?_eq_getElem (by simp; omega)]
    congr 1
    have : ∀ x ∈ (List.replicate n [(0 : Int)]).flatten, x = 0 := by
      intro x hx
      simp at hx
      exact hx.2
    exact this _ (List.getElem_mem _)
  rw [lcX_ok (g := fun _ => Ls n fun _ => 0) (by simp; omega) (fun x _ => by rw [hrep, ofO_some, bind_ok]), bind_ok]
  have : (rgT 0 1 w.1.toNat).map (fun _ => Ls n fun _ => (0 : Int)) = nearL n fun _ _ => 0 := by
    rw [rgT_Ls, Ls_map, hn]
    rfl
  rw [this, near_loop ht, bind_ok]
  congr 1
  refine Ls_congr fun i _ => Ls_congr fun j _ => by simp only [Int.zero_add]
end LW

set_option Elab.async false
set_option linter.all false
set_option maxRecDepth 100000
set_option maxHeartbeats 4000000
namespace LW
open PySem AM TY
theorem minI_Ls {n : Nat} (hn : 0 < n) {f : Nat → Int} : (∃ i, i < n ∧ minI (Ls n f) = f i) ∧ ∀ i, i < n → minI (Ls n f) ≤ f i := by
  obtain ⟨h1, h2⟩ := minI_spec (ns := Ls n f) (by intro e; have := congrArg List.length e; simp at this; omega)
  obtain ⟨i, hi, e⟩ := Ls_mem.mp h1
  exact ⟨⟨i, hi, e.symm⟩, fun i hi => h2 _ (Ls_mem.mpr ⟨i, hi, rfl⟩)⟩
/-! Bringing: ties to a lot, lending of a lot, burning -/
def up (L : List Nat) : List Int := L.map fun (j : Nat) => (j : Int)
@[simp] theorem up_len {L : List Nat} : (up L).length = L.length := by simp [up]
theorem up_mem {L : List Nat} {i : Nat} : ((i : Int) ∈ up L) ↔ i ∈ L := by
  simp only [up, List.mem_map]
  constructor
  · rintro ⟨j, hj, e⟩
    rw [show i = j by omega]
    exact hj
  · exact fun h => ⟨i, h, rfl⟩
theorem up_app {L M : List Nat} : up (L ++ M) = up L ++ up M := by simp [up]
abbrev Brg := (Int × (List (Int × Int))) × List (List Int) × Int × List Int × List Int
/-- the object as it stands -/
def brg (w : Int × (List (Int × Int))) (n q : Nat) (d t : Nat → Int) : Brg := (w, nearL n (nearC w.2), (q : Int), Ls n d, Ls n t)
section
variable {w : Int × (List (Int × Int))} {n q : Nat} {d t : Nat → Int}
theorem near_at {i : Nat} (hi : i < n) : at_ (nearL n (nearC w.2)) (i : Int) = some (Ls n (nearC w.2 i)) := by
  unfold nearL
  rw [at_Ls (by omega) (by omega)]
  simp
theorem ties_to_ok {i : Nat} {L : List Nat} (hi : i < n) (hL : ∀ j ∈ L, j < n) (hl : L.length ≤ 100000) : p_Bringing_ties_to (brg w n q d t) (i : Int) (up L) = X.ok (Sl L (nearC w.2 i)) := by
  unfold p_Bringing_ties_to brg
  rw [lcX_ok (g := fun x => nearC w.2 i x.toNat) (by simpa using hl) (fun x hx => by
    simp only [up, List.mem_map] at hx
    obtain ⟨j, hj, rfl⟩ := hx
    rw [near_at hi, ofO_some, bind_ok, at_Ls (by omega) (by have := hL j hj; omega), ofO_some, bind_ok]), bind_ok]
  congr 1
  unfold up Sl
  rw [List.map_map]
  rfl
theorem put_ok {n : Nat} (hn : n ≤ 1000) (f g : Nat → Int) : p_put_together (Ls n f) (Ls n g) = X.ok (Ls n fun i => f i + g i) := by
  unfold p_put_together
  rw [Ls_len, rg1_ok (by omega) (by omega), ofO_some, bind_ok]
  rw [lcX_ok (g := fun x => f x.toNat + g x.toNat) (by simp; omega) (fun x hx => by
    rw [rgT_Ls, Ls_mem] at hx
    obtain ⟨j, hj, rfl⟩ := hx
    rw [at_Ls (by omega) (by omega), ofO_some, bind_ok, at_Ls (by omega) (by omega), ofO_some, bind_ok]), bind_ok]
  congr 1
  rw [rgT_Ls, Ls_map]
  simp
/-- the times of a lot that lends so often -/
def lotT (L : List Nat) (k : Int) (i : Nat) : Int := if i ∈ L then k else 0
theorem lend_ok {L : List Nat} {k : Int} (hn : w.1 = n) (hl : n ≤ 1000) (ht : TiesOk n w.2) (hk : k.natAbs < 2 ^ 900000) : p_Bringing_lend (brg w n q d t) (up L) k = X.ok ((), brg w n q (fun i => d i - lap w.2 (lotT L k) i) fun i => t i + lotT L k i) := by
  unfold p_Bringing_lend
  simp only [brg]
  rw [rg1_ok (by omega) (by omega), ofO_some, bind_ok]
  rw [lcX_ok (g := fun x => lotT L k x.toNat) (by simp; omega) (fun x hx => by
    rw [rgT_Ls, Ls_mem] at hx
    obtain ⟨j, hj, rfl⟩ := hx
    simp only [Int.zero_add]
    rw [mulO_ok (n := 900000) (m := 2) hk (by unfold b2i; split <;> simp) (by omega), ofO_some, bind_ok]
    congr 1
    unfold lotT b2i
    simp only [Int.toNat_natCast, decide_eq_true_eq, up_mem]
    split <;> simp), bind_ok]
  have e : (rgT 0 1 w.1.toNat).map (fun x => lotT L k x.toNat) = Ls n (lotT L k) := by
    rw [rgT_Ls, Ls_map, hn]
    simp
  rw [e, lent_ok hn ht, bind_ok, put_ok hl, bind_ok]
end
/-! Bringing: burning -/
section
variable {w : Int × (List (Int × Int))} {n q : Nat} {d t : Nat → Int}
theorem order_ok {fu : Nat} (hn : w.1 = n) (hl : n ≤ 1000) (hq : q < n) (hfu : 2 * n + 2 < fu) : ∃ F, p_Bringing_order fu (brg w n q d t) = X.ok (up F) ∧ Pre n w.2 d q F ∧ ∀ i, i < n → i ∉ F → Sl F (nearC w.2 i) ≤ d i := by
  unfold p_Bringing_order
  have st : ∀ s : List Int × List Int, (fun s : List Int × List Int => ∃ F G : List Nat, s = (up F, up G) ∧ Pre n w.2 d q F ∧ (G = [] → ∀ i, i < n → i ∉ F → Sl F (nearC w.2 i) ≤ d i)) s → (fun (s1 : List Int × List Int) => X.ok (!decide (s1.2 = []))) s = X.ok false ∨ ((fun (s1 : List Int × List Int) => X.ok (!decide (s1.2 = []))) s = X.ok true ∧ ∃ s', (fun (s1 : List Int × List Int) => X.bind (X.ofO (rg1 (brg w n q d t).1.1)) fun x3 => X.bind (X.forP (fun (x4 : Int) (s5 : List Int × List Int) => X.bind (X.bind (if (!decide (x4 ∈ s5.1)) = true then (X.bind (X.ofO (at_ (brg w n q d t).2.2.2.1 x4)) fun x7 => X.bind (X.nx (X.bind (X.nx (p_Bringing_ties_to (brg w n q d t) x4 s5.1)) fun r8 => X.ok r8 : X (Int))) fun (y9 : Int) => X.ok (decide (x7 < y9))) else X.ok false) fun b10 => if b10 = true then (X.bind (X.ofO (appO s5.1 x4)) fun x11 => X.bind (X.ofO (appO s5.2 x4)) fun x12 => X.ok (x11, x12)) else X.ok (s5.1, s5.2)) fun (s13 : List Int × List Int) => X.ok (s13.1, s13.2)) x3 (s1.1, [])) fun (s5 : List Int × List Int) => X.ok (s5.1, s5.2)) s = X.ok s' ∧ (fun s : List Int × List Int => ∃ F G : List Nat, s = (up F, up G) ∧ Pre n w.2 d q F ∧ (G = [] → ∀ i, i < n → i ∉ F → Sl F (nearC w.2 i) ≤ d i)) s' ∧ (fun s : List Int × List Int => 2 * (n - s.1.length) + if s.2 = [] then 0 else 1) s' < (fun s : List Int × List Int => 2 * (n - s.1.length) + if s.2 = [] then 0 else 1) s) := by
    intro s hs
    obtain ⟨F, G, rfl, hp, hc⟩ := hs
    by_cases hG : G = []
    · left
      subst hG
      simp [up]
    · right
      have hG' : ¬ up G = [] := by simpa [up] using hG
      refine ⟨by simp [hG'], ?_⟩
      dsimp only
      have e1 : (brg w n q d t).1.1 = n := hn
      rw [e1, rg1_ok (by omega) (by omega), ofO_some, bind_ok]
      have hlen := hp.len
      obtain ⟨s', k1, G', rfl, k2, k3⟩ := forP_ok (b := fun (x4 : Int) (s5 : List Int × List Int) => X.bind (X.bind (if (!decide (x4 ∈ s5.1)) = true then (X.bind (X.ofO (at_ (brg w n q d t).2.2.2.1 x4)) fun x7 => X.bind (X.nx (X.bind (X.nx (p_Bringing_ties_to (brg w n q d t) x4 s5.1)) fun r8 => X.ok r8 : X (Int))) fun (y9 : Int) => X.ok (decide (x7 < y9))) else X.ok false) fun b10 => if b10 = true then (X.bind (X.ofO (appO s5.1 x4)) fun x11 => X.bind (X.ofO (appO s5.2 x4)) fun x12 => X.ok (x11, x12)) else X.ok (s5.1, s5.2)) fun (s13 : List Int × List Int) => X.ok (s13.1, s13.2))
        (xs := rgT 0 1 (n : Int).toNat) (s := (up F, []))
        (fun k s => ∃ G' : List Nat, s = (up (F ++ G'), up G') ∧ Pre n w.2 d q (F ++ G') ∧ (G' = [] → ∀ i, i < k → i ∉ F → Sl F (nearC w.2 i) ≤ d i))
        ⟨[], by simp [up], by simpa using hp, fun _ i hi => by omega⟩ (fun k x s hx hs => by
          obtain ⟨G', rfl, k2, k3⟩ := hs
          have hk : k < n ∧ x = (k : Int) := by
            have := List.getElem?_eq_some_iff.mp hx
            obtain ⟨h1, h2⟩ := this
            simp [rgT] at h1 h2
            exact ⟨h1, h2.symm⟩
          obtain ⟨hk, rfl⟩ := hk
          have hl2 := k2.len
          by_cases hm : k ∈ F ++ G'
          · refine ⟨(up (F ++ G'), up G'), ?_, G', rfl, k2, fun hz i hi hno => ?_⟩
            · simp only [up_mem, hm, decide_true, Bool.not_true, Bool.false_eq_true, if_false, bind_ok]
            · by_cases e : i = k
              · subst e hz
                simp only [List.append_nil] at hm
                exact absurd hm hno
              · exact k3 hz i (by omega) hno
          · have at1 : at_ (brg w n q d t).2.2.2.1 (k : Int) = some (d k) := by
              show at_ (Ls n d) (k : Int) = _
              rw [at_Ls (by omega) (by omega)]
              simp
            simp only [up_mem, hm, decide_false, Bool.not_false, if_true, at1, ofO_some, bind_ok, ties_to_ok hk k2.lt (by omega), nx_ok]
            by_cases hd : d k < Sl (F ++ G') (nearC w.2 k)
            · simp only [hd, decide_true, if_true]
              rw [appO_ok (by rw [up_len]; omega), ofO_some, bind_ok, appO_ok (by rw [up_len]; simp at hl2; omega), ofO_some, bind_ok, bind_ok]
              refine ⟨_, rfl, G' ++ [k], by simp [up], by rw [← List.append_assoc]; exact k2.snoc hk hm hd, fun hz => by simp at hz⟩
            · simp only [hd, decide_false, Bool.false_eq_true, if_false, bind_ok]
              refine ⟨_, rfl, G', rfl, k2, fun hz i hi hno => ?_⟩
              by_cases e : i = k
              · subst e hz
                simp only [List.append_nil] at hd
                omega
              · exact k3 hz i (by omega) hno)
      rw [k1, bind_ok]
      refine ⟨_, rfl, ⟨F ++ G', G', rfl, k2, fun hz i hi hno => ?_⟩, ?_⟩
      · subst hz
        simp only [List.append_nil] at hno ⊢
        exact k3 rfl i (by simpa [rgT] using hi) hno
      · have := k2.len
        simp only [up_len, List.length_append] at this ⊢
        rw [if_neg hG']
        by_cases hz : G' = []
        · subst hz
          simp [up]
        · have : 0 < G'.length := List.length_pos_iff.mpr hz
          have : ¬ up G' = [] := by simpa [up] using hz
          rw [if_neg this]
          omega
  obtain ⟨s, h1, ⟨F, G, rfl, hp, hc⟩, h3⟩ := whP_dec (c := fun (s1 : List Int × List Int) => X.ok (!decide (s1.2 = [])))
    (b := fun (s1 : List Int × List Int) => X.bind (X.ofO (rg1 (brg w n q d t).1.1)) fun x3 => X.bind (X.forP (fun (x4 : Int) (s5 : List Int × List Int) => X.bind (X.bind (if (!decide (x4 ∈ s5.1)) = true then (X.bind (X.ofO (at_ (brg w n q d t).2.2.2.1 x4)) fun x7 => X.bind (X.nx (X.bind (X.nx (p_Bringing_ties_to (brg w n q d t) x4 s5.1)) fun r8 => X.ok r8 : X (Int))) fun (y9 : Int) => X.ok (decide (x7 < y9))) else X.ok false) fun b10 => if b10 = true then (X.bind (X.ofO (appO s5.1 x4)) fun x11 => X.bind (X.ofO (appO s5.2 x4)) fun x12 => X.ok (x11, x12)) else X.ok (s5.1, s5.2)) fun (s13 : List Int × List Int) => X.ok (s13.1, s13.2)) x3 (s1.1, [])) fun (s5 : List Int × List Int) => X.ok (s5.1, s5.2))
    (fun s : List Int × List Int => ∃ F G : List Nat, s = (up F, up G) ∧ Pre n w.2 d q F ∧ (G = [] → ∀ i, i < n → i ∉ F → Sl F (nearC w.2 i) ≤ d i))
    (fun s : List Int × List Int => 2 * (n - s.1.length) + if s.2 = [] then 0 else 1) st (fu := fu) (s := ([(q : Int)], [(q : Int)])) ⟨[q], [q], rfl, .one hq, fun h => by cases h⟩ (by simp; omega)
  refine ⟨F, ?_, hp, ?_⟩
  · show X.bind (X.whP _ _ fu ([(q : Int)], [(q : Int)])) _ = _
    rw [h1, bind_ok]
  · have : up G = [] := by simpa using h3
    exact hc (by simpa [up] using this)
end
/-! Bringing: one lending of a lot in drawing in -/
section
variable {n q : Nat} {ties : Ties} {d V : Nat → Int}
theorem lotT_eq {L : List Nat} {k : Int} : lotT L k = fun i => k * (if i ∈ L then 1 else 0) := by
  funext i
  unfold lotT
  split <;> simp
theorem lap_lot_in (ht : TiesOk n ties) {L : List Nat} {k : Int} {i : Nat} (h : i ∈ L) : lap ties (lotT L k) i = k * outs n ties (fun j => decide (j ∈ L)) i := by
  rw [lap_near ht]
  unfold outs
  rw [← S_mul]
  refine S_congr fun j _ => ?_
  unfold lotT
  rw [if_pos h]
  by_cases e : j ∈ L
  · simp [e]
  · simp [e, Int.mul_comm]
theorem lap_lot_out (ht : TiesOk n ties) {L : List Nat} {k : Int} {i : Nat} (hk : 0 ≤ k) (h : i ∉ L) : lap ties (lotT L k) i ≤ 0 := by
  rw [lap_near ht]
  have : 0 ≤ S n fun j => - (nearC ties i j * (lotT L k i - lotT L k j)) := S_nonneg fun j _ => by
    unfold lotT
    rw [if_neg h]
    have := nearC_nonneg (ties := ties) (i := i) (j := j)
    split
    · have := Int.mul_nonneg this hk
      rw [Int.zero_sub, Int.mul_neg]
      omega
    · simp
  rw [S_neg] at this
  omega
/-- the weighed dues -/
def wgh (n : Nat) (V d : Nat → Int) : Int := S n fun i => V i * d i
theorem wgh_nonneg (h0 : V q = 0) (hV : ∀ i, i < n → 0 ≤ V i) (he : Eff n q d) : 0 ≤ wgh n V d := S_nonneg fun i hi => by
  by_cases e : i = q
  · rw [e, h0]; simp
  · exact Int.mul_nonneg (hV i hi) (he i hi e)
theorem lend_step (ht : TiesOk n ties) (h0 : V q = 0) (hV : ∀ i, i < n → 0 ≤ V i) (hl : ∀ i, i < n → i ≠ q → 1 ≤ lap ties V i) {L : List Nat} {k : Int} (he : Eff n q d) (hk : 0 ≤ k) (hL : ∀ i ∈ L, i < n) (hqL : q ∉ L) (hne : L ≠ []) (hf : ∀ i ∈ L, k * outs n ties (fun j => decide (j ∈ L)) i ≤ d i) :
    Eff n q (fun i => d i - lap ties (lotT L k) i) ∧ wgh n V (fun i => d i - lap ties (lotT L k) i) + k ≤ wgh n V d := by
  refine ⟨fun i hi hiq => ?_, ?_⟩
  · show 0 ≤ d i - lap ties (lotT L k) i
    by_cases e : i ∈ L
    · rw [lap_lot_in ht e]
      have := hf i e
      omega
    · have := lap_lot_out ht hk e
      have := he i hi hiq
      omega
  · unfold wgh
    have e1 : S n (fun i => V i * (d i - lap ties (lotT L k) i)) = S n (fun i => V i * d i) - S n fun i => V i * lap ties (lotT L k) i := by
      rw [← S_sub]
      exact S_congr fun i _ => Int.mul_sub _ _ _
    rw [e1, lap_adj ht]
    obtain ⟨a, ha⟩ := List.exists_mem_of_ne_nil L hne
    have e2 : k ≤ S n fun i => lotT L k i * lap ties V i := by
      have e3 : S n (fun i => if i = a then k else 0) ≤ S n fun i => lotT L k i * lap ties V i := S_le fun i hi => by
        unfold lotT
        by_cases e : i ∈ L
        · have hiq : i ≠ q := fun z => hqL (z ▸ e)
          have h1 := hl i hi hiq
          have h2 : k * 1 ≤ k * lap ties V i := Int.mul_le_mul_of_nonneg_left h1 hk
          rw [if_pos e]
          split <;> omega
        · have : i ≠ a := fun z => e (z ▸ ha)
          rw [if_neg e, if_neg this]
          simp
      rw [S_one, if_pos (hL a ha)] at e3
      exact e3
    omega
end
/-! Bringing: drawing in -/
section
variable {w : Int × (List (Int × Int))} {n q : Nat} {d t V : Nat → Int}
theorem wgh_congr {d d' : Nat → Int} (h : ∀ i, i < n → d i = d' i) : wgh n V d = wgh n V d' := S_congr fun i hi => by rw [h i hi]
theorem brg_congr {d d' t t' : Nat → Int} (h : ∀ i, i < n → d i = d' i) (k : ∀ i, i < n → t i = t' i) : brg w n q d t = brg w n q d' t' := by
  unfold brg
  rw [Ls_congr h, Ls_congr k]
/-- those that are not burnt -/
def lotOf (n : Nat) (F : List Nat) : List Nat := (List.range n).filter fun i => decide (i ∉ F)
theorem lotOf_mem {F : List Nat} {i : Nat} : i ∈ lotOf n F ↔ i < n ∧ i ∉ F := by simp [lotOf]
theorem lotOf_up {F : List Nat} : (rgT 0 1 n).filter (fun x => !decide (x ∈ up F)) = up (lotOf n F) := by
  have : rgT 0 1 n = up (List.range n) := by simp [rgT, up]
  rw [this]
  unfold lotOf up
  rw [List.filter_map]
  congr 1
  refine List.filter_congr fun i _ => ?_
  have := up_mem (L := F) (i := i)
  unfold up at this
  simp only [Function.comp_def, this]
  simp
theorem outs_burnt {F : List Nat} {ties : Ties} {q : Nat} {d : Nat → Int} (hp : Pre n ties d q F) {i : Nat} : outs n ties (fun j => decide (j ∈ lotOf n F)) i = Sl F (nearC ties i) := by
  rw [Sl_S hp.nd hp.lt]
  refine S_congr fun j hj => ?_
  by_cases e : j ∈ F <;> simp [lotOf_mem, e, hj]
theorem Pre.closed_all {ties : Ties} {d : Nat → Int} {F : List Nat} (hp : Pre n ties d q F) (hr : Reduced n ties q d) (hc : ∀ i, i < n → i ∉ F → Sl F (nearC ties i) ≤ d i) : F.length = n := by
  apply Classical.byContradiction
  intro hno
  have hex : ∃ i, i < n ∧ i ∉ F := by
    apply Classical.byContradiction
    intro hz
    have h1 := Sl_S (f := fun _ => (1 : Int)) hp.nd hp.lt
    rw [Sl_const, S_congr (g := fun _ => 1) fun j hj => by
      rw [if_pos]
      apply Classical.byContradiction
      intro z
      exact hz ⟨j, hj, z⟩, S_const] at h1
    omega
  obtain ⟨i, hi, hio⟩ := hex
  have hqF : q ∈ F := List.mem_of_getElem? hp.hd
  obtain ⟨v, hv, h1, h2⟩ := hr.2 (fun j => decide (j ∈ lotOf n F)) ⟨i, hi, by simp [lotOf_mem, hi, hio]⟩ (by simp [lotOf_mem, hqF])
  rw [outs_burnt hp] at h2
  have h1 : v ∈ lotOf n F := by simpa using h1
  have := hc v hv (lotOf_mem.mp h1).2
  omega
end
/-! Bringing: drawing in, the loop -/
section
variable {w : Int × (List (Int × Int))} {n q : Nat} {d t V : Nat → Int}
theorem minO_spec {xs : List Int} (h : xs ≠ []) : ∃ k, minO xs = some k ∧ k ∈ xs ∧ ∀ y ∈ xs, k ≤ y := by
  refine ⟨minI xs, ?_, minI_spec h⟩
  unfold minO
  rw [if_neg fun z => h (List.length_eq_zero_iff.mp z)]
/-- a number that may be multiplied -/
def BIG : Int := ((2 ^ 899999 : Nat) : Int)
theorem big_ok {k : Int} (h0 : 0 ≤ k) (h : k < BIG) : k.natAbs < 2 ^ 900000 := by
  have h1 : k.natAbs < 2 ^ 899999 := by
    have : ((k.natAbs : Nat) : Int) < ((2 ^ 899999 : Nat) : Int) := by
      rw [Int.natAbs_of_nonneg h0]
      exact h
    exact Int.ofNat_lt.mp this
  exact Nat.lt_of_lt_of_le h1 (Nat.pow_le_pow_right (by decide) (by decide))
theorem draw_in_ok {fu : Nat} (hn : w.1 = n) (hl : n ≤ 1000) (ht : TiesOk n w.2) (hc : Conn n w.2) (hq : q < n) (hm : w.2.length ≤ 1000) (h0 : V q = 0) (hV : ∀ i, i < n → 0 ≤ V i) (hlap : ∀ i, i < n → i ≠ q → 1 ≤ lap w.2 V i) (he : Eff n q d) (hb : wgh n V d < BIG) (hfu : (wgh n V d).toNat + 2 * n + 3 < fu) :
    ∃ r, p_Bringing_draw_in fu (brg w n q d t) = X.ok r ∧ ∃ x D T : Nat → Int, (∀ i, D i = d i - lap w.2 x i) ∧ (∀ i, T i = t i + x i) ∧ r = ((), brg w n q D T) ∧ Reduced n w.2 q D ∧ ∀ i, 0 ≤ x i ∧ x i ≤ wgh n V d := by
  unfold p_Bringing_draw_in
  obtain ⟨F0, e0, p0, c0⟩ := order_ok (w := w) (n := n) (q := q) (d := d) (t := t) (fu := fu) hn hl hq (by omega)
  rw [e0, nx_ok, bind_ok, nx_ok, bind_ok]
  refine whP_bind
    (fun s => ∃ (x D T : Nat → Int) (F : List Nat), (∀ i, D i = d i - lap w.2 x i) ∧ (∀ i, T i = t i + x i) ∧ s = (brg w n q D T, up F) ∧ Pre n w.2 D q F ∧ (∀ i, i < n → i ∉ F → Sl F (nearC w.2 i) ≤ D i) ∧ Eff n q D ∧ ∀ i, 0 ≤ x i ∧ x i + wgh n V D ≤ wgh n V d)
    (fun s => (wgh n V (fn s.1.2.2.2.1)).toNat)
    ⟨fun _ => 0, d, t, F0, fun i => by rw [lap_const]; omega, fun i => by show _ = t i + 0; omega, rfl, p0, c0, he, fun i => by show (0 : Int) ≤ 0 ∧ 0 + _ ≤ _; omega⟩ ?_ ?_ ?_
  · have : wgh n V (fn (brg w n q d t, up F0).1.2.2.2.1) = wgh n V d := wgh_congr fun i hi => fn_Ls hi
    rw [this]
    omega
  · rintro s ⟨x, D, T, F, hD, hT, rfl, hp, hcl, hE, hx⟩
    dsimp only
    have e1 : (brg w n q D T).1.1 = (n : Int) := hn
    rw [e1]
    have hlen := hp.len
    by_cases hF : F.length = n
    · left
      simp [hF]
    · right
      refine ⟨by simp; omega, ?_⟩
      rw [rg1_ok (by omega) (by omega), ofO_some, bind_ok]
      rw [lcFO_ok (by simp [rgT]; omega), ofO_some, bind_ok]
      have eL : ((rgT 0 1 (n : Int).toNat).filter (fun (x6 : Int) => !decide (x6 ∈ up F))).map (fun (x6 : Int) => x6) = up (lotOf n F) := by
        rw [List.map_id', Int.toNat_natCast, lotOf_up]
      rw [eL]
      have hLl : (lotOf n F).length ≤ n := by
        have := List.length_filter_le (fun i => decide (i ∉ F)) (List.range n)
        simpa [lotOf] using this
      rw [lcX_ok (g := fun y => (y, Sl F (nearC w.2 y.toNat))) (by rw [up_len]; omega) (fun y hy => by
        simp only [up, List.mem_map] at hy
        obtain ⟨j, hj, rfl⟩ := hy
        rw [ties_to_ok (lotOf_mem.mp hj).1 hp.lt (by omega), nx_ok, bind_ok, nx_ok, bind_ok]
        rfl), bind_ok]
      have hqF : q ∈ F := List.mem_of_getElem? hp.hd
      have hqL : q ∉ lotOf n F := fun z => (lotOf_mem.mp z).2 hqF
      -- a lot with a way out
      have hex : ∃ i ∈ lotOf n F, 0 < Sl F (nearC w.2 i) := by
        have hz : ∃ i, i < n ∧ i ∉ F := by
          apply Classical.byContradiction
          intro hz
          have h1 := Sl_S (f := fun _ => (1 : Int)) hp.nd hp.lt
          rw [Sl_const, S_congr (g := fun _ => 1) fun j hj => by
            rw [if_pos]
            apply Classical.byContradiction
            intro z
            exact hz ⟨j, hj, z⟩, S_const] at h1
          omega
        obtain ⟨i, hi, hio⟩ := hz
        obtain ⟨v, hv, h1, h2⟩ := tie_out ht hc (A := fun j => decide (j ∈ lotOf n F)) hi (by simp [lotOf_mem, hi, hio]) hq (by simpa using hqL)
        rw [outs_burnt hp] at h2
        exact ⟨v, by simpa using h1, h2⟩
      obtain ⟨a, haL, ha⟩ := hex
      rw [lcXF_ok (t := fun (p : Int × Int) => decide (0 < p.2)) (g := fun (p : Int × Int) => D p.1.toNat / p.2) (by simp; omega) (fun y _ => rfl) (fun y hy ht0 => by
        simp only [up, List.map_map, List.mem_map] at hy
        obtain ⟨j, hj, rfl⟩ := hy
        simp only [Function.comp_def, decide_eq_true_eq, Int.toNat_natCast] at ht0 ⊢
        show X.bind (X.ofO (at_ (Ls n D) (j : Int))) _ = _
        have hjn := (lotOf_mem.mp hj).1
        have hle : Sl F (nearC w.2 j) ≤ 2 * w.2.length := by
          have := take_outs (A := fun _ => false) hp.nd hp.lt (fun _ _ => rfl) (ties := w.2) (v := j)
          have h2 : outs n w.2 (fun _ => false) j = deg w.2 j := by
            rw [← near_sum ht]
            exact S_congr fun k _ => by simp
          have := deg_le (ties := w.2) (i := j)
          omega
        rw [at_Ls (by omega) (by omega), ofO_some, bind_ok, divO_pos ht0 (by
          have : (Sl F (nearC w.2 j)).natAbs < 2 ^ 12 := by omega
          exact Nat.lt_of_lt_of_le this (Nat.pow_le_pow_right (by omega) (by omega))), ofO_some, bind_ok]
        simp), bind_ok]
      obtain ⟨k, ek, hkm, hkl⟩ := minO_spec (xs := (((up (lotOf n F)).map fun y => (y, Sl F (nearC w.2 y.toNat))).filter fun (p : Int × Int) => decide (0 < p.2)).map fun (p : Int × Int) => D p.1.toNat / p.2) (by
        intro z
        have : D a / Sl F (nearC w.2 a) ∈ (((up (lotOf n F)).map fun y => (y, Sl F (nearC w.2 y.toNat))).filter fun (p : Int × Int) => decide (0 < p.2)).map fun (p : Int × Int) => D p.1.toNat / p.2 := by
          refine List.mem_map.mpr ⟨((a : Int), Sl F (nearC w.2 a)), List.mem_filter.mpr ⟨List.mem_map.mpr ⟨(a : Int), List.mem_map.mpr ⟨a, haL, rfl⟩, by simp⟩, by simpa using ha⟩, by simp⟩
        rw [z] at this
        simp at this)
      rw [ek, ofO_some, bind_ok]
      have hall : ∀ i ∈ lotOf n F, 0 < Sl F (nearC w.2 i) → k ≤ D i / Sl F (nearC w.2 i) := fun i hi hpos => hkl _ (List.mem_map.mpr ⟨((i : Int), Sl F (nearC w.2 i)), List.mem_filter.mpr ⟨List.mem_map.mpr ⟨(i : Int), List.mem_map.mpr ⟨i, hi, rfl⟩, by simp⟩, by simpa using hpos⟩, by simp⟩)
      have hk1 : 1 ≤ k := by
        obtain ⟨p, hp1, hp2⟩ := List.mem_map.mp hkm
        obtain ⟨hp3, hp4⟩ := List.mem_filter.mp hp1
        obtain ⟨y, hy, rfl⟩ := List.mem_map.mp hp3
        obtain ⟨j, hj, rfl⟩ := List.mem_map.mp hy
        simp only [decide_eq_true_eq, Int.toNat_natCast] at hp4 hp2
        have := hcl j (lotOf_mem.mp hj).1 (lotOf_mem.mp hj).2
        rw [← hp2]
        exact (Int.le_ediv_iff_mul_le hp4).mpr (by omega)
      obtain ⟨hE2, hw2⟩ := lend_step (V := V) ht h0 hV hlap (L := lotOf n F) (k := k) hE (by omega) (fun i hi => (lotOf_mem.mp hi).1) hqL (fun z => by rw [z] at haL; simp at haL) fun i hi => by
        rw [outs_burnt hp]
        have hs : 0 ≤ Sl F (nearC w.2 i) := Sl_nonneg fun _ _ => nearC_nonneg
        by_cases hpos : 0 < Sl F (nearC w.2 i)
        · exact (Int.le_ediv_iff_mul_le hpos).mp (hall i hi hpos)
        · rw [show Sl F (nearC w.2 i) = 0 by omega]
          have := hE i (lotOf_mem.mp hi).1 fun z => hqL (z ▸ hi)
          omega
      have hw3 := wgh_nonneg h0 hV hE2
      have hw4 := (hx a).2
      have hw5 := (hx a).1
      rw [lend_ok hn hl ht (big_ok (by omega) (by omega)), nx_ok, bind_ok, nx_ok, bind_ok]
      obtain ⟨F2, e2, p2, c2⟩ := order_ok (w := w) (n := n) (q := q) (d := fun i => D i - lap w.2 (lotT (lotOf n F) k) i) (t := fun i => T i + lotT (lotOf n F) k i) (fu := fu) hn hl hq (by omega)
      rw [e2, nx_ok, bind_ok, nx_ok, bind_ok]
      refine ⟨_, rfl, ⟨fun j => x j + lotT (lotOf n F) k j, _, _, F2, fun i => ?_, fun i => ?_, rfl, p2, c2, hE2, fun i => ?_⟩, ?_⟩
      · rw [lap_add, hD i]
        omega
      · show T i + lotT (lotOf n F) k i = t i + (x i + lotT (lotOf n F) k i)
        rw [hT i]
        omega
      · have hxi := hx i
        have hki : 0 ≤ lotT (lotOf n F) k i ∧ lotT (lotOf n F) k i ≤ k := by
          unfold lotT
          split <;> omega
        show 0 ≤ x i + lotT (lotOf n F) k i ∧ x i + lotT (lotOf n F) k i + _ ≤ _
        omega
      · have u1 : wgh n V (fn (brg w n q (fun i => D i - lap w.2 (lotT (lotOf n F) k) i) (fun i => T i + lotT (lotOf n F) k i)).2.2.2.1) = wgh n V fun i => D i - lap w.2 (lotT (lotOf n F) k) i := wgh_congr fun i hi => fn_Ls hi
        have u2 : wgh n V (fn (brg w n q D T).2.2.2.1) = wgh n V D := wgh_congr fun i hi => fn_Ls hi
        rw [u1, u2]
        omega
  · rintro s ⟨x, D, T, F, hD, hT, rfl, hp, hcl, hE, hx⟩ hfin
    have e1 : (brg w n q D T).1.1 = (n : Int) := hn
    have hlen := hp.len
    have hF : F.length = n := by
      have : ¬ ((F.length : Int) < n) := by simpa [e1] using hfin
      omega
    exact ⟨_, rfl, x, D, T, hD, hT, rfl, (hp.all hF).red hE, fun i => by
      have := hx i
      have := wgh_nonneg h0 hV hE
      omega⟩
end
end LW

set_option Elab.async false
set_option linter.all false
set_option maxRecDepth 100000
set_option maxHeartbeats 4000000
namespace LW
open PySem AM TY
/-! Bringing: layers -/
/-- layers around a place -/
structure Lay (n q : Nat) (ties : Ties) (ls : List (List Nat)) : Prop where
  hd : ls[0]? = some [q]
  nd : ls.flatten.Nodup
  lt : ∀ i ∈ ls.flatten, i < n
  up : ∀ k a b, ls[k]? = some a → ls[k + 1]? = some b → ∀ v ∈ b, 0 < Sl a (nearC ties v)
  ap : ∀ i j a b, i + 2 ≤ j → ls[i]? = some a → ls[j]? = some b → ∀ v ∈ b, Sl a (nearC ties v) = 0
  ne : ∀ a ∈ ls, a ≠ []
/-- what is not yet seen has no ties with layers but the last -/
def Far (n : Nat) (ties : Ties) (ls : List (List Nat)) : Prop := ∀ v, v < n → v ∉ ls.flatten → ∀ k a, k + 1 < ls.length → ls[k]? = some a → Sl a (nearC ties v) = 0
section
variable {n q : Nat} {ties : Ties} {ls : List (List Nat)}
theorem Lay.one (hq : q < n) : Lay n q ties [[q]] := by
  refine ⟨rfl, by simp, by simpa using hq, fun k a b _ h => by simp at h, fun i j a b h _ h2 => ?_, by simp⟩
  obtain ⟨j, rfl⟩ : ∃ m, j = m + 1 := ⟨j - 1, by omega⟩
  simp at h2
theorem Far.one : Far n ties [[q]] := fun v _ _ k a h => by simp at h
theorem Lay.next (h : Lay n q ties ls) (hf : Far n ties ls) {a b : List Nat} (hl : ls[ls.length - 1]? = some a) (hb : ∀ v, v ∈ b ↔ v < n ∧ v ∉ ls.flatten ∧ 0 < Sl a (nearC ties v)) (nb : b.Nodup) (ne : b ≠ []) : Lay n q ties (ls ++ [b]) ∧ Far n ties (ls ++ [b]) := by
  have h0 : 0 < ls.length := by
    have := (List.getElem?_eq_some_iff.mp h.hd).1
    omega
  refine ⟨⟨?_, ?_, ?_, ?_, ?_, ?_⟩, ?_⟩
  · rw [List.getElem?_append_left h0]
    exact h.hd
  · simp only [List.flatten_append, List.flatten_cons, List.flatten_nil, List.append_nil]
    refine List.nodup_append.mpr ⟨h.nd, nb, fun x hx y hy e => ?_⟩
    subst e
    exact ((hb x).mp hy).2.1 hx
  · intro i hi
    simp only [List.flatten_append, List.flatten_cons, List.flatten_nil, List.append_nil, List.mem_append] at hi
    rcases hi with hi | hi
    · exact h.lt i hi
    · exact ((hb i).mp hi).1
  · intro k x y hx hy v hv
    have hk := (List.getElem?_eq_some_iff.mp hy).1
    simp at hk
    rw [List.getElem?_append_left (by omega)] at hx
    by_cases e : k + 1 < ls.length
    · rw [List.getElem?_append_left e] at hy
      exact h.up k x y hx hy v hv
    · have e2 : k + 1 = ls.length := by omega
      rw [e2] at hy
      simp at hy
      subst hy
      rw [show k = ls.length - 1 by omega, hl] at hx
      cases hx
      exact ((hb v).mp hv).2.2
  · intro i j x y hij hx hy v hv
    have hk := (List.getElem?_eq_some_iff.mp hy).1
    simp at hk
    rw [List.getElem?_append_left (by omega)] at hx
    by_cases e : j < ls.length
    · rw [List.getElem?_append_left e] at hy
      exact h.ap i j x y hij hx hy v hv
    · have e2 : j = ls.length := by omega
      rw [e2] at hy
      simp at hy
      subst hy
      obtain ⟨q1, q2, q3⟩ := (hb v).mp hv
      exact hf v q1 q2 i x (by omega) hx
  · intro x hx
    rcases List.mem_append.mp hx with hx | hx
    · exact h.ne x hx
    · simp at hx
      rw [hx]
      exact ne
  · intro v hv hno k x hk hx
    simp only [List.flatten_append, List.flatten_cons, List.flatten_nil, List.append_nil, List.mem_append, not_or] at hno
    simp at hk
    rw [List.getElem?_append_left (by omega)] at hx
    by_cases e : k + 1 < ls.length
    · exact hf v hv hno.1 k x e hx
    · rw [show k = ls.length - 1 by omega, hl] at hx
      cases hx
      apply Classical.byContradiction
      intro hz
      have : 0 ≤ Sl a (nearC ties v) := Sl_nonneg fun _ _ => nearC_nonneg
      exact hno.2 ((hb v).mpr ⟨hv, hno.1, by omega⟩)
end
section
variable {w : Int × (List (Int × Int))} {n q : Nat} {d t : Nat → Int}
theorem ixO_last {α : Type} {xs : List α} {x : α} (h : xs[xs.length - 1]? = some x) : ixO xs (-1) = some (xs.length - 1, x) := by
  have h1 := (List.getElem?_eq_some_iff.mp h).1
  have h2 : L2.ixN xs.length (-1) = some (xs.length - 1) := by
    unfold L2.ixN
    rw [if_neg (by omega), if_pos (by omega)]
    congr 1
    omega
  unfold ixO
  rw [h2]
  simp only [Option.bind_some, h, Option.map_some]
theorem len_flat : ∀ {ls : List (List Nat)}, (∀ a ∈ ls, a ≠ []) → ls.length ≤ ls.flatten.length
  | [], _ => by simp
  | a :: ls, h => by
    have h1 := h a (by simp)
    have h2 := len_flat (ls := ls) fun x hx => h x (by simp [hx])
    have h3 : 0 < a.length := List.length_pos_iff.mpr h1
    rw [List.flatten_cons, List.length_append, List.length_cons]
    omega
theorem flat_last {f : Nat → Int} {a : List Nat} : ∀ {ls : List (List Nat)}, ls[ls.length - 1]? = some a → (∀ k x, k + 1 < ls.length → ls[k]? = some x → Sl x f = 0) → Sl ls.flatten f = Sl a f
  | [], h, _ => by simp at h
  | [b], h, _ => by
    simp at h
    subst h
    simp
  | b :: c :: ls, h, k => by
    rw [List.flatten_cons, Sl_app, k 0 b (by simp) rfl, flat_last (ls := c :: ls) (a := a) (by simpa using h) fun i x hi hx => k (i + 1) x (by simpa using hi) (by simpa using hx)]
    omega
theorem layers_ok {fu : Nat} (hn : w.1 = n) (hl : n ≤ 1000) (ht : TiesOk n w.2) (hc : Conn n w.2) (hq : q < n) (hfu : n + 2 < fu) :
    ∃ r, p_Bringing_layers fu (brg w n q d t) = X.ok r ∧ ∃ ls : List (List Nat), r = (ls.map up, brg w n q d t) ∧ Lay n q w.2 ls ∧ ls.flatten.length = n := by
  unfold p_Bringing_layers
  refine whP_bind
    (fun s => ∃ ls : List (List Nat), s = (ls.map up, up ls.flatten) ∧ Lay n q w.2 ls ∧ Far n w.2 ls)
    (fun s => n - s.2.length)
    ⟨[[q]], rfl, .one hq, .one⟩ (by simp [brg]; omega) ?_ ?_
  · rintro s ⟨ls, rfl, h1, h2⟩
    dsimp only
    have e1 : (brg w n q d t).1.1 = (n : Int) := hn
    rw [e1]
    have hlen : ls.flatten.length ≤ n := by
      have h := Sl_S (f := fun _ => (1 : Int)) h1.nd h1.lt
      rw [Sl_const] at h
      have h2 : S n (fun j => if j ∈ ls.flatten then (1 : Int) else 0) ≤ S n fun _ => 1 := S_le fun j _ => by split <;> omega
      rw [S_const] at h2
      omega
    by_cases hF : ls.flatten.length = n
    · left
      rw [up_len, hF]
      simp
    · right
      refine ⟨by rw [up_len, decide_eq_true (by omega)], ?_⟩
      rw [rg1_ok (by omega) (by omega), ofO_some, bind_ok]
      have hne : 0 < ls.length := (List.getElem?_eq_some_iff.mp h1.hd).1
      obtain ⟨a, ha⟩ : ∃ a, ls[ls.length - 1]? = some a := ⟨_, List.getElem?_eq_getElem (by omega)⟩
      have hix : ixO (ls.map up) (-1) = some ((ls.map up).length - 1, up a) := ixO_last (by rw [List.length_map, List.getElem?_map, ha]; rfl)
      have haL : ∀ j ∈ a, j < n := fun j hj => h1.lt j (List.mem_flatten.mpr ⟨a, List.mem_of_getElem? ha, hj⟩)
      have hal : a.length ≤ n := by
        have : a.length ≤ ls.flatten.length := (List.sublist_flatten_of_mem (List.mem_of_getElem? ha)).length_le
        omega
      rw [lcXF_ok (t := fun (x : Int) => decide (x.toNat ∉ ls.flatten ∧ 0 < Sl a (nearC w.2 x.toNat))) (g := fun (x : Int) => x) (by simp [rgT]; omega) (fun x hx => by
        obtain ⟨x0, x1⟩ := rgT_mem.mp hx
        obtain ⟨j, rfl⟩ : ∃ j : Nat, x = (j : Int) := ⟨x.toNat, by omega⟩
        have hj : j < n := by simp at x1; omega
        simp only [up_mem, Int.toNat_natCast]
        by_cases e : j ∈ ls.flatten
        · simp [e]
        · simp only [e, decide_false, Bool.not_false, if_true, hix, ofO_some, bind_ok, ties_to_ok hj haL (by omega), nx_ok]
          simp) (fun x _ _ => rfl), bind_ok]
      have eb : ((rgT 0 1 (n : Int).toNat).filter fun (x : Int) => decide (x.toNat ∉ ls.flatten ∧ 0 < Sl a (nearC w.2 x.toNat))).map (fun (x : Int) => x) = up ((List.range n).filter fun i => decide (i ∉ ls.flatten ∧ 0 < Sl a (nearC w.2 i))) := by
        have : rgT 0 1 (n : Int).toNat = up (List.range n) := by simp [rgT, up]
        rw [List.map_id', this]
        unfold up
        rw [List.filter_map]
        rfl
      rw [eb]
      have hll := len_flat h1.ne
      generalize hB : ((List.range n).filter fun i => decide (i ∉ ls.flatten ∧ 0 < Sl a (nearC w.2 i))) = b
      have hb : ∀ v, v ∈ b ↔ v < n ∧ v ∉ ls.flatten ∧ 0 < Sl a (nearC w.2 v) := fun v => by
        rw [← hB]
        simp only [List.mem_filter, List.mem_range, decide_eq_true_eq]
      have nb : b.Nodup := by
        rw [← hB]
        exact List.nodup_range.filter _
      have hbl : b.length ≤ n := by
        rw [← hB]
        have := List.length_filter_le (fun i => decide (i ∉ ls.flatten ∧ 0 < Sl a (nearC w.2 i))) (List.range n)
        rwa [List.length_range] at this
      have bne : b ≠ [] := by
        have hz : ∃ i, i < n ∧ i ∉ ls.flatten := by
          apply Classical.byContradiction
          intro hz
          have h3 := Sl_S (f := fun _ => (1 : Int)) h1.nd h1.lt
          rw [Sl_const, S_congr (g := fun _ => 1) fun j hj => by
            rw [if_pos]
            apply Classical.byContradiction
            intro z
            exact hz ⟨j, hj, z⟩, S_const] at h3
          omega
        obtain ⟨i, hi, hio⟩ := hz
        have hqf : q ∈ ls.flatten := List.mem_flatten.mpr ⟨[q], List.mem_of_getElem? h1.hd, by simp⟩
        obtain ⟨v, hv, k1, k2⟩ := tie_out ht hc (A := fun j => decide (j ∉ ls.flatten)) hi (by simpa using hio) hq (by simpa using hqf)
        have k1 : v ∉ ls.flatten := by simpa using k1
        have k3 : 0 < Sl ls.flatten (nearC w.2 v) := by
          rw [Sl_S h1.nd h1.lt]
          unfold outs at k2
          rw [S_congr (g := fun j => if j ∈ ls.flatten then nearC w.2 v j else 0) fun j _ => by by_cases e : j ∈ ls.flatten <;> simp only [e, not_true_eq_false, not_false_eq_true, decide_true, decide_false, if_true, if_false, Bool.false_eq_true]] at k2
          exact k2
        have k4 := flat_last (f := nearC w.2 v) ha (fun k x hk hx => h2 v hv k1 k x hk hx)
        rw [k4] at k3
        intro z
        have := (hb v).mpr ⟨hv, k1, k3⟩
        rw [z] at this
        simp at this
      obtain ⟨g1, g2⟩ := h1.next h2 ha hb nb bne
      rw [appO_ok (by rw [List.length_map]; omega), ofO_some, bind_ok, extO_ok (by rw [up_len, up_len]; omega), ofO_some, bind_ok]
      refine ⟨_, rfl, ⟨ls ++ [b], ?_, g1, g2⟩, ?_⟩
      · simp [up_app]
      · have : 0 < b.length := List.length_pos_iff.mpr bne
        rw [List.length_append, up_len, up_len]
        omega
  · rintro s ⟨ls, rfl, h1, h2⟩ hfin
    have e1 : (brg w n q d t).1.1 = (n : Int) := hn
    have hlen : ls.flatten.length ≤ n := by
      have h := Sl_S (f := fun _ => (1 : Int)) h1.nd h1.lt
      rw [Sl_const] at h
      have h2 : S n (fun j => if j ∈ ls.flatten then (1 : Int) else 0) ≤ S n fun _ => 1 := S_le fun j _ => by split <;> omega
      rw [S_const] at h2
      omega
    refine ⟨_, rfl, ls, rfl, h1, ?_⟩
    apply Classical.byContradiction
    intro hno
    rw [e1, up_len, decide_eq_true (by omega)] at hfin
    cases hfin
end
/-! Bringing: paying, one layer -/
section
variable {n q : Nat} {ties : Ties} {d : Nat → Int}
theorem lap_lot_out_eq (ht : TiesOk n ties) {L : List Nat} {k : Int} {i : Nat} (nd : L.Nodup) (lt : ∀ j ∈ L, j < n) (h : i ∉ L) : lap ties (lotT L k) i = - (k * Sl L (nearC ties i)) := by
  rw [lap_near ht, Sl_S nd lt, ← S_mul, ← S_neg]
  refine S_congr fun j _ => ?_
  unfold lotT
  rw [if_neg h]
  by_cases e : j ∈ L
  · rw [if_pos e, if_pos e, Int.zero_sub, Int.mul_neg, Int.mul_comm]
  · rw [if_neg e, if_neg e]
    simp
theorem lap_lot_abs (ht : TiesOk n ties) {L : List Nat} {k : Int} {i : Nat} (hk : 0 ≤ k) (nd : L.Nodup) (lt : ∀ j ∈ L, j < n) : (lap ties (lotT L k) i).natAbs ≤ k.natAbs * (2 * ties.length) := by
  have hdeg := deg_le (ties := ties) (i := i)
  have hsum := near_sum ht i
  have key : ∀ z : Int, 0 ≤ z → z ≤ 2 * ties.length → (k * z).natAbs ≤ k.natAbs * (2 * ties.length) := fun z h0 h1 => by
    rw [Int.natAbs_mul]
    exact Nat.mul_le_mul_left _ (by omega)
  by_cases e : i ∈ L
  · rw [lap_lot_in ht e]
    refine key _ (S_nonneg fun j _ => by split; omega; exact nearC_nonneg) ?_
    have : outs n ties (fun j => decide (j ∈ L)) i ≤ S n (nearC ties i) := S_le fun j _ => by
      split
      · exact nearC_nonneg
      · omega
    omega
  · rw [lap_lot_out_eq ht nd lt e, Int.natAbs_neg]
    refine key _ (Sl_nonneg fun _ _ => nearC_nonneg) ?_
    have : Sl L (nearC ties i) ≤ S n (nearC ties i) := by
      rw [Sl_S nd lt]
      refine S_le fun j _ => ?_
      split
      · omega
      · exact nearC_nonneg
    omega
theorem pay_step (ht : TiesOk n ties) {ls : List (List Nat)} (h : Lay n q ties ls) {far : Nat} {a : List Nat} {k : Int} (hf : 1 ≤ far) (ha : ls[far]? = some a) (hk : 0 ≤ k) (ho : ∀ v ∈ a, - d v ≤ k) (hp : ∀ j b, far < j → ls[j]? = some b → ∀ v ∈ b, 0 ≤ d v) :
    ∀ j b, far ≤ j → ls[j]? = some b → ∀ v ∈ b, 0 ≤ d v - lap ties (lotT (ls.take far).flatten k) v := by
  intro j b hj hb v hv
  have hsub : (ls.take far).flatten.Sublist ls.flatten := by
    have e : ls.flatten = (ls.take far).flatten ++ (ls.drop far).flatten := by rw [← List.flatten_append, List.take_append_drop]
    rw [e]
    exact List.sublist_append_left _ _
  have nd := h.nd.sublist hsub
  have lt : ∀ i ∈ (ls.take far).flatten, i < n := fun i hi => h.lt i (hsub.subset hi)
  have hno : v ∉ (ls.take far).flatten := by
    intro hz
    have h1 := h.nd
    rw [← List.take_append_drop far ls, List.flatten_append, List.nodup_append] at h1
    refine h1.2.2 v hz v (List.mem_flatten.mpr ⟨b, List.mem_of_getElem? (i := j - far) ?_, hv⟩) rfl
    rw [List.getElem?_drop, show far + (j - far) = j by omega]
    exact hb
  rw [lap_lot_out_eq ht nd lt hno]
  have hs : 0 ≤ Sl (ls.take far).flatten (nearC ties v) := Sl_nonneg fun _ _ => nearC_nonneg
  have hm := Int.mul_nonneg hk hs
  by_cases e : j = far
  · subst e
    rw [ha] at hb
    cases hb
    have h1 := ho v hv
    obtain ⟨c, hc⟩ : ∃ c, ls[j - 1]? = some c := ⟨_, List.getElem?_eq_getElem (by have := (List.getElem?_eq_some_iff.mp ha).1; omega)⟩
    have h2 := h.up (j - 1) c a hc (by rw [show j - 1 + 1 = j by omega]; exact ha) v hv
    have h3 : Sl c (nearC ties v) ≤ Sl (ls.take j).flatten (nearC ties v) := by
      have hc2 : (ls.take j)[j - 1]? = some c := by rw [List.getElem?_take_of_lt (by omega)]; exact hc
      have sb : c.Sublist (ls.take j).flatten := List.sublist_flatten_of_mem (List.mem_of_getElem? hc2)
      rw [Sl_S nd lt, Sl_S (nd.sublist sb) fun i hi => lt i (sb.subset hi)]
      refine S_le fun i _ => ?_
      by_cases e1 : i ∈ c
      · rw [if_pos e1, if_pos (sb.subset e1)]
        omega
      · rw [if_neg e1]
        split
        · exact nearC_nonneg
        · omega
    have h4 : k * 1 ≤ k * Sl (ls.take j).flatten (nearC ties v) := Int.mul_le_mul_of_nonneg_left (by omega) hk
    omega
  · have := hp j b (by omega) hb v hv
    omega
end
/-! Bringing: from the last layer down -/
theorem rgd_size {m : Int} (h : 0 ≤ m) : Builtin.Range.rangeSize m 0 (-1) = m := by
  unfold Builtin.Range.rangeSize
  rw [if_neg (by omega)]
  by_cases e : 0 < m
  · rw [if_pos (by omega), show (m - 0 - 1) / (- (-1 : Int)) = m - 1 by simp]
    omega
  · rw [if_neg (by omega)]
    omega
theorem rgd_small {m : Nat} (h : m ≤ 1000) : Builtin.Range.small (m : Int) 0 (-1) = true := by
  unfold Builtin.Range.small
  rw [rgd_size (by omega)]
  simp only [Builtin.Range.rangeFitsLong, Bool.and_eq_true, Bool.or_eq_true, decide_eq_true_eq, beq_iff_eq]
  refine ⟨⟨⟨⟨?_, ?_⟩, ?_⟩, ?_⟩, .inr ?_⟩
  all_goals first | omega | (constructor <;> omega) | decide | (rw [if_neg (by omega)]; first | decide | (simp; done))
theorem rgd_ok {m : Nat} (h : m ≤ 1000) : rg3 (m : Int) 0 (-1) = some ((List.range m).map fun (i : Nat) => (m : Int) - i) := by
  unfold rg3
  rw [rgd_size (by omega), if_pos ⟨by omega, by decide, rgd_small h, by omega⟩]
  congr 1
  simp only [rgT, Int.toNat_natCast]
  exact List.map_congr_left fun i _ => by omega
end LW

set_option Elab.async false
set_option linter.all false
set_option maxRecDepth 100000
set_option maxHeartbeats 4000000
namespace LW
open PySem AM TY
/-! Bringing: paying -/
theorem cut_take {α : Type} {xs : List α} {k : Nat} : cutL xs none (some (k : Int)) = xs.take k := by
  unfold cutL
  rw [HT.sIx_none, HT.sIx_nat]
  simp
section
variable {w : Int × (List (Int × Int))} {n q : Nat} {d t : Nat → Int}
theorem maxO_spec {xs : List Int} (h : xs ≠ []) : ∃ k, maxO xs = some k ∧ k ∈ xs ∧ ∀ y ∈ xs, y ≤ k := by
  refine ⟨maxI xs, ?_, maxI_spec h⟩
  unfold maxO
  rw [if_neg fun z => h (List.length_eq_zero_iff.mp z)]
theorem Lay.notq {ties : Ties} {ls : List (List Nat)} (h : Lay n q ties ls) {j : Nat} {b : List Nat} (hj : 1 ≤ j) (hb : ls[j]? = some b) : ∀ v ∈ b, v ≠ q := by
  intro v hv e
  subst e
  have h1 := h.nd
  cases hls : ls with
  | nil => rw [hls] at hb; simp at hb
  | cons c r =>
    rw [hls] at h1 hb
    have h2 := h.hd
    rw [hls] at h2
    simp at h2
    subst h2
    obtain ⟨j, rfl⟩ : ∃ k, j = k + 1 := ⟨j - 1, by omega⟩
    simp at hb
    simp only [List.flatten_cons, List.singleton_append, List.nodup_cons] at h1
    exact h1.1 (List.mem_flatten.mpr ⟨b, List.mem_of_getElem? hb, hv⟩)
theorem ext_flat : ∀ (xs : List (List Int)) (s : List Int), s.length + xs.flatten.length ≤ 100000 → X.forP (fun (x12 : List Int) (s13 : List Int) => X.bind (X.ofO (extO s13 x12)) fun x15 => X.ok x15) xs s = X.ok (s ++ xs.flatten)
  | [], s, _ => by simp [X.forP]
  | x :: xs, s, h => by
    simp only [List.flatten_cons, List.length_append] at h
    simp only [X.forP]
    rw [extO_ok (by omega), ofO_some, bind_ok, bind_ok, ext_flat xs (s ++ x) (by simp only [List.length_append]; omega), List.flatten_cons, List.append_assoc]
theorem up_flat {ls : List (List Nat)} : (ls.map up).flatten = up ls.flatten := by
  unfold up
  rw [List.map_flatten]
theorem pay_ok {fu : Nat} (hn : w.1 = n) (hl : n ≤ 6) (ht : TiesOk n w.2) (hc : Conn n w.2) (hq : q < n) (hm : w.2.length ≤ 10) (hb : ∀ i, i < n → i ≠ q → (d i).natAbs ≤ 61) (hfu : n + 2 < fu) :
    ∃ r, p_Bringing_pay fu (brg w n q d t) = X.ok r ∧ ∃ x D T : Nat → Int, (∀ i, D i = d i - lap w.2 x i) ∧ (∀ i, T i = t i + x i) ∧ r = ((), brg w n q D T) ∧ Eff n q D ∧ (∀ i, i < n → i ≠ q → (D i).natAbs ≤ 61 * 21 ^ 5) ∧ ∀ i, 0 ≤ x i ∧ x i ≤ 61 * 21 ^ 5 := by
  unfold p_Bringing_pay
  obtain ⟨r0, e0, ls, rfl, hL, hall⟩ := layers_ok (w := w) (n := n) (q := q) (d := d) (t := t) (fu := fu) hn (by omega) ht hc hq hfu
  rw [e0, nx_ok, bind_ok, nx_ok, bind_ok]
  dsimp only
  have hlen := len_flat hL.ne
  have h0 : 0 < ls.length := (List.getElem?_eq_some_iff.mp hL.hd).1
  obtain ⟨m, hmm⟩ : ∃ m, ls.length = m + 1 := ⟨ls.length - 1, by omega⟩
  have em : (((ls.map up).length : Nat) : Int) - 1 = (m : Int) := by rw [List.length_map]; omega
  rw [em, rgd_ok (by omega), ofO_some, bind_ok]
  obtain ⟨s', e1, x, D, T, rfl, k1, k2, k3, k4, k5⟩ := forP_ok (b := fun (x4 : Int) (s5 : ((Int × (List (Int × Int))) × List (List Int) × Int × List Int × List Int)) => X.bind (X.ofO (at_ (ls.map up) x4)) fun x7 => X.bind (X.lcX (fun (x8 : Int) => X.ok true) (fun (x8 : Int) => X.bind (X.ofO (at_  s5.2.2.2.1 x8)) fun x10 => X.ok (-x10)) x7) fun x9 => X.bind (X.ofO (maxO  x9)) fun x11 => X.bind (if (decide (0 < x11)) = true then (X.bind (X.forP (fun (x12 : List Int) (s13 : List Int) => X.bind (X.ofO (extO s13 x12)) fun x15 => X.ok x15) (cutL (ls.map up) none (some x4)) []) fun (s13 : List Int) => X.bind (X.nx (X.bind (X.nx (p_Bringing_lend s5 s13 x11)) fun r16 => X.ok (r16.1, r16.2, s13) : X (Unit × ((Int × (List (Int × Int))) × List (List Int) × Int × List Int × List Int) × List Int))) fun (y17 : Unit × ((Int × (List (Int × Int))) × List (List Int) × Int × List Int × List Int) × List Int) => X.ok y17.2.1) else X.ok s5) fun (s18 : ((Int × (List (Int × Int))) × List (List Int) × Int × List Int × List Int)) => X.ok s18)
    (xs := (List.range m).map fun (i : Nat) => (m : Int) - i) (s := brg w n q d t)
    (fun i s => ∃ x D T : Nat → Int, s = brg w n q D T ∧ (∀ v, D v = d v - lap w.2 x v) ∧ (∀ v, T v = t v + x v) ∧ (∀ j b, m - i < j → ls[j]? = some b → ∀ v ∈ b, 0 ≤ D v) ∧ (∀ v, v < n → v ≠ q → (D v).natAbs ≤ 61 * 21 ^ i) ∧ ∀ v, 0 ≤ x v ∧ x v ≤ 61 * 21 ^ i)
    ⟨fun _ => 0, d, t, rfl, fun v => by rw [lap_const]; omega, fun v => by show _ = t v + 0; omega, fun j b hj hjb => by
      have := (List.getElem?_eq_some_iff.mp hjb).1
      omega, fun v hv hvq => by simpa using hb v hv hvq, fun v => by show (0 : Int) ≤ 0 ∧ 0 ≤ _; omega⟩ (fun i x4 s hx hs => by
      obtain ⟨x, D, T, rfl, k1, k2, k3, k4, k5⟩ := hs
      obtain ⟨hi, rfl⟩ : i < m ∧ x4 = (m : Int) - i := by
        obtain ⟨h1, h2⟩ := List.getElem?_eq_some_iff.mp hx
        simp at h1 h2
        exact ⟨h1, h2.symm⟩
      obtain ⟨far, hfar⟩ : ∃ far, far = m - i := ⟨_, rfl⟩
      have hf1 : 1 ≤ far := by omega
      rw [show (m : Int) - i = (far : Int) by omega]
      obtain ⟨a, ha⟩ : ∃ a, ls[far]? = some a := ⟨_, List.getElem?_eq_getElem (by omega)⟩
      have hat : at_ (ls.map up) (far : Int) = some (up a) := at_ok (by omega) (by rw [Int.toNat_natCast, List.getElem?_map, ha]; rfl)
      have haL : ∀ v ∈ a, v < n := fun v hv => hL.lt v (List.mem_flatten.mpr ⟨a, List.mem_of_getElem? ha, hv⟩)
      have haq := hL.notq hf1 ha
      have hane := hL.ne a (List.mem_of_getElem? ha)
      have hal : a.length ≤ n := by
        have : a.length ≤ ls.flatten.length := (List.sublist_flatten_of_mem (List.mem_of_getElem? ha)).length_le
        omega
      rw [hat, ofO_some, bind_ok]
      rw [lcX_ok (g := fun y => - D y.toNat) (by rw [up_len]; omega) (fun y hy => by
        simp only [up, List.mem_map] at hy
        obtain ⟨j, hj, rfl⟩ := hy
        have : at_ (brg w n q D T).2.2.2.1 (j : Int) = some (D j) := by
          show at_ (Ls n D) (j : Int) = _
          rw [at_Ls (by omega) (by have := haL j hj; omega)]
          simp
        rw [this, ofO_some, bind_ok, Int.toNat_natCast]), bind_ok]
      obtain ⟨k, ek, hk1, hk2⟩ := maxO_spec (xs := (up a).map fun y => - D y.toNat) (by
        intro z
        have := congrArg List.length z
        rw [List.length_map, up_len] at this
        exact hane (List.length_eq_zero_iff.mp this))
      rw [ek, ofO_some, bind_ok]
      have ho : ∀ v ∈ a, - D v ≤ k := fun v hv => hk2 _ (List.mem_map.mpr ⟨(v : Int), List.mem_map.mpr ⟨v, hv, rfl⟩, by simp⟩)
      have hkb : k.natAbs ≤ 61 * 21 ^ i := by
        obtain ⟨y, hy, rfl⟩ := List.mem_map.mp hk1
        obtain ⟨j, hj, rfl⟩ := List.mem_map.mp hy
        rw [Int.toNat_natCast, Int.natAbs_neg]
        exact k4 j (haL j hj) (haq j hj)
      have hpi : 61 * 21 ^ i ≤ 61 * 21 ^ 5 := Nat.mul_le_mul_left _ (Nat.pow_le_pow_right (by omega) (by omega))
      have hps : 61 * 21 ^ (i + 1) = 21 * (61 * 21 ^ i) := by rw [Nat.pow_succ]; omega
      by_cases hpos : 0 < k
      · rw [if_pos (decide_eq_true hpos)]
        have hcut : cutL (ls.map up) none (some (far : Int)) = (ls.take far).map up := by
          rw [cutL_map]
          congr 1
          exact cut_take
        have hsub : (ls.take far).flatten.Sublist ls.flatten := by
          have e : ls.flatten = (ls.take far).flatten ++ (ls.drop far).flatten := by rw [← List.flatten_append, List.take_append_drop]
          rw [e]
          exact List.sublist_append_left _ _
        have hsl := hsub.length_le
        rw [hcut, ext_flat _ _ (by rw [up_flat, up_len, List.length_nil]; omega), bind_ok, List.nil_append, up_flat]
        rw [lend_ok hn (by omega) ht (show k.natAbs < 2 ^ 900000 by
          have : (61 * 21 ^ 5 : Nat) < 2 ^ 40 := by decide
          exact Nat.lt_of_lt_of_le (show k.natAbs < 2 ^ 40 by omega) (Nat.pow_le_pow_right (by decide) (by decide))), nx_ok, bind_ok, nx_ok, bind_ok]
        rw [bind_ok]
        have hlap := fun v => lap_lot_abs (i := v) ht (Int.le_of_lt hpos) (hL.nd.sublist hsub) fun j hj => hL.lt j (hsub.subset hj)
        refine ⟨_, rfl, fun v => x v + lotT (ls.take far).flatten k v, _, _, rfl, fun v => ?_, fun v => ?_, ?_, fun v hv hvq => ?_, fun v => ?_⟩
        · rw [lap_add, k1 v]
          omega
        · show T v + lotT (ls.take far).flatten k v = t v + (x v + lotT (ls.take far).flatten k v)
          rw [k2 v]
          omega
        · intro j b hj hjb
          exact pay_step ht hL hf1 ha (Int.le_of_lt hpos) ho (fun j b hj hb => k3 j b (by omega) hb) j b (by omega) hjb
        · have h1 := hlap v
          have h2 := k4 v hv hvq
          have h3 : k.natAbs * (2 * w.2.length) ≤ k.natAbs * 20 := Nat.mul_le_mul_left _ (by omega)
          rw [hps]
          omega
        · have h1 := k5 v
          rw [show (61 * 21 ^ (i + 1) : Int) = ((61 * 21 ^ (i + 1) : Nat) : Int) by simp, hps]
          have h2 : (61 * 21 ^ i : Int) = ((61 * 21 ^ i : Nat) : Int) := by simp
          rw [h2] at h1
          show 0 ≤ x v + lotT _ k v ∧ x v + lotT _ k v ≤ _
          unfold lotT
          split <;> omega
      · rw [if_neg (by simpa using hpos), bind_ok]
        refine ⟨_, rfl, x, D, T, rfl, k1, k2, fun j b hj hjb v hv => ?_, fun v hv hvq => ?_, fun v => ?_⟩
        · by_cases e : j = far
          · subst e
            rw [ha] at hjb
            cases hjb
            have := ho v hv
            omega
          · exact k3 j b (by omega) hjb v hv
        · have := k4 v hv hvq
          omega
        · have h1 := k5 v
          rw [show (61 * 21 ^ (i + 1) : Int) = ((61 * 21 ^ (i + 1) : Nat) : Int) by simp, hps]
          have h2 : (61 * 21 ^ i : Int) = ((61 * 21 ^ i : Nat) : Int) := by simp
          rw [h2] at h1
          omega)
  rw [e1, bind_ok]
  have hml : ((List.range m).map fun (i : Nat) => (m : Int) - i).length = m := by simp
  rw [hml] at k3 k4 k5
  have hpi : 61 * 21 ^ m ≤ 61 * 21 ^ 5 := Nat.mul_le_mul_left _ (Nat.pow_le_pow_right (by omega) (by omega))
  refine ⟨_, rfl, x, D, T, k1, k2, rfl, fun i hi hiq => ?_, fun i hi hiq => by have := k4 i hi hiq; omega, fun i => ?_⟩
  · have hif : i ∈ ls.flatten := by
      apply Classical.byContradiction
      intro hno
      have h := Sl_S (f := fun _ => (1 : Int)) hL.nd hL.lt
      rw [Sl_const, hall] at h
      have h2 : S n (fun j => (if j ∈ ls.flatten then (1 : Int) else 0) + if j = i then 1 else 0) ≤ S n fun _ => 1 := S_le fun j _ => by
        by_cases e : j = i
        · subst e; simp [hno]
        · by_cases e2 : j ∈ ls.flatten <;> simp [e, e2]
      rw [S_const, S_add, S_one, if_pos hi] at h2
      omega
    obtain ⟨b, hb1, hb2⟩ := List.mem_flatten.mp hif
    obtain ⟨j, hj⟩ := List.mem_iff_getElem?.mp hb1
    rcases Nat.eq_zero_or_pos j with e | e
    · subst e
      rw [hL.hd] at hj
      cases hj
      simp at hb2
      exact absurd hb2 hiq
    · exact k3 j b (by omega) hj i hb2
  · have h1 := k5 i
    have h2 : (61 * 21 ^ m : Int) = ((61 * 21 ^ m : Nat) : Int) := by simp
    rw [h2] at h1
    omega
end
end LW

set_option Elab.async false
set_option linter.all false
set_option maxRecDepth 100000
set_option maxHeartbeats 4000000
namespace LW
open PySem AM TY
/-! Bringing: brought -/
theorem bind_id {α : Type} {p : X α} {b : X α} (h : X.bind p (fun y => X.ok y) = b) : p = b := by
  rw [← h]
  rcases p with _ | ⟨a | x⟩ <;> rfl
section
variable {w : Int × (List (Int × Int))} {n q : Nat}
theorem enumT_Ls {α : Type} {d : Nat → α} : enumT (Ls n d) = Ls n fun i => ((i : Int), d i) := by
  refine Ls_of (by simp [enumT]) fun i hi => ?_
  simp [enumT, List.getElem?_zipIdx, Ls_get hi]
theorem Reduced.lt {ties : Ties} {d : Nat → Int} (ht : TiesOk n ties) (h : Reduced n ties q d) {i : Nat} (hi : i < n) (hne : i ≠ q) : 0 ≤ d i ∧ d i < deg ties i := by
  refine ⟨h.1 i hi hne, ?_⟩
  obtain ⟨j, hj, h1, h2⟩ := h.2 (fun j => decide (j = i)) ⟨i, hi, by simp⟩ (by simpa using fun e => hne e.symm)
  have e : j = i := by simpa using h1
  subst e
  have h3 : outs n ties (fun k => decide (k = j)) j ≤ S n (nearC ties j) := S_le fun k _ => by
    split
    · exact nearC_nonneg
    · omega
  rw [near_sum ht] at h3
  omega
theorem brg_init (hn : w.1 = n) (hl : n ≤ 6) (ht : TiesOk n w.2) (d : Nat → Int) : p_Bringing_init () w (Ls n d) (q : Int) = X.ok ((), brg w n q d fun _ => 0) := by
  unfold p_Bringing_init
  have hrep : repO [(0 : Int)] w.1 = some (Ls n fun _ => (0 : Int)) := by
    unfold repO
    rw [if_pos (by simp; omega)]
    congr 1
    rw [hn]
    simp only [Int.toNat_natCast]
    refine Ls_of (by simp) fun i hi => ?_
    rw [List.getElem?_eq_getElem (by simp; omega)]
    congr 1
    have : ∀ x ∈ (List.replicate n [(0 : Int)]).flatten, x = 0 := by
      intro x hx
      simp at hx
      exact hx.2
    exact this _ (List.getElem_mem _)
  rw [near_ok hn (by omega) ht, bind_ok, hrep, ofO_some, bind_ok]
  rfl
/-- what comes of the dues when they are brought -/
def Bt (w : Int × (List (Int × Int))) (n q : Nat) (d : Nat → Int) (B : Nat) (r : List Int × List Int × List Int) : Prop :=
  ∃ (x D : Nat → Int) (F : List Nat), r = (Ls n x, Ls n D, up F) ∧ (∀ i, D i = d i - lap w.2 x i) ∧ Reduced n w.2 q D ∧ Burn n w.2 D q F ∧ ∀ i, (x i).natAbs ≤ B
theorem fin_ok {fu : Nat} {d t : Nat → Int} (hfu : 2 ^ 60 < fu) (hn : w.1 = n) (hl : n ≤ 6) (ht : TiesOk n w.2) (hc : Conn n w.2) (hq : q < n) (hm : w.2.length ≤ 10) (hb : ∀ i, i < n → i ≠ q → (d i).natAbs ≤ 61) :
    ∃ r, (X.bind (X.nx (X.bind (X.nx (p_Bringing_pay fu (brg w n q d t))) fun r17 => X.ok (r17.1, r17.2) : X (Unit × ((Int × (List (Int × Int))) × List (List Int) × Int × List Int × List Int)))) fun (y18 : Unit × ((Int × (List (Int × Int))) × List (List Int) × Int × List Int × List Int)) => X.bind (X.nx (X.bind (X.nx (p_Bringing_draw_in fu y18.2)) fun r19 => X.ok (r19.1, r19.2) : X (Unit × ((Int × (List (Int × Int))) × List (List Int) × Int × List Int × List Int)))) fun (y20 : Unit × ((Int × (List (Int × Int))) × List (List Int) × Int × List Int × List Int)) => X.bind (X.nx (X.bind (X.nx (p_Bringing_order fu y20.2)) fun r21 => X.ok r21 : X (List Int))) fun (y22 : List Int) => X.ok (y20.2.2.2.2.2, y20.2.2.2.2.1, y22)) = X.ok r ∧ ∃ (x D : Nat → Int) (F : List Nat), r = (Ls n (fun i => t i + x i), Ls n D, up F) ∧ (∀ i, D i = d i - lap w.2 x i) ∧ Reduced n w.2 q D ∧ Burn n w.2 D q F ∧ ∀ i, 0 ≤ x i ∧ x i ≤ 2 ^ 58 := by
  obtain ⟨r1, e1, x, D, T, k1, k2, rfl, k3, k4, k5⟩ := pay_ok (w := w) (n := n) (q := q) (d := d) (t := t) (fu := fu) hn hl ht hc hq hm hb (by omega)
  rw [e1, nx_ok, bind_ok, nx_ok, bind_ok]
  obtain ⟨V, h0, hV, hlap⟩ := weights ht hc hq
  have hV2 : ∀ i, i < n → V i ≤ 113379904 := fun i hi => by
    have h1 := (hV i hi).2
    have h2 : (2 * w.2.length + 2) ^ n ≤ 22 ^ 6 := Nat.le_trans (Nat.pow_le_pow_left (by omega) _) (Nat.pow_le_pow_right (by omega) hl)
    have h3 : (22 ^ 6 : Nat) = 113379904 := by decide
    omega
  have hw0 := wgh_nonneg h0 (fun i hi => (hV i hi).1) k3
  have hw : wgh n V D ≤ 6 * (113379904 * 249130161) := by
    have h1 : wgh n V D ≤ S n fun _ => 113379904 * 249130161 := S_le fun i hi => by
      by_cases e : i = q
      · rw [e, h0, Int.zero_mul]
        decide
      · have a := hV2 i hi
        have a0 := (hV i hi).1
        have b := k4 i hi e
        have b0 := k3 i hi e
        exact Int.mul_le_mul a (by omega) b0 (by omega)
    rw [S_const] at h1
    have h2 : (n : Int) * (113379904 * 249130161) ≤ 6 * (113379904 * 249130161) := Int.mul_le_mul_of_nonneg_right (by omega) (by decide)
    omega
  have hbig : wgh n V D < BIG := by
    have h2 : (2 ^ 60 : Nat) ≤ 2 ^ 899999 := Nat.pow_le_pow_right (by decide) (by decide)
    have h3 : ((2 ^ 60 : Nat) : Int) ≤ BIG := Int.ofNat_le.mpr h2
    have h4 : ((2 ^ 60 : Nat) : Int) = 1152921504606846976 := by decide
    rw [h4] at h3
    omega
  obtain ⟨r2, e2, y, E, U, j1, j2, rfl, j3, j4⟩ := draw_in_ok (w := w) (n := n) (q := q) (d := D) (t := T) (V := V) (fu := fu) hn (by omega) ht hc hq (by omega) h0 (fun i hi => (hV i hi).1) hlap k3 hbig (by omega)
  dsimp only
  rw [e2, nx_ok, bind_ok, nx_ok, bind_ok]
  obtain ⟨F, e3, p3, c3⟩ := order_ok (w := w) (n := n) (q := q) (d := E) (t := U) (fu := fu) hn (by omega) hq (by omega)
  dsimp only
  rw [e3, nx_ok, bind_ok, nx_ok, bind_ok]
  refine ⟨_, rfl, fun i => x i + y i, E, F, ?_, fun i => ?_, j3, p3.all (Pre.closed_all p3 j3 c3), fun i => ?_⟩
  · simp only [brg]
    rw [Ls_congr (f := U) (g := fun i => t i + (x i + y i)) fun i _ => by rw [j2 i, k2 i]; omega]
  · rw [lap_add, j1 i, k1 i]
    omega
  · have a := k5 i
    have b := j4 i
    show 0 ≤ x i + y i ∧ x i + y i ≤ _
    omega
theorem brought_ok {fu : Nat} (hfu : 2 ^ 60 < fu) (hn : w.1 = n) (hl : n ≤ 6) (ht : TiesOk n w.2) (hc : Conn n w.2) (hq : q < n) (hm : w.2.length ≤ 10) : ∀ (e : Nat), e ≤ 1000 → ∀ (dep : Nat) (d : Nat → Int), e < dep → (∀ i, i < n → i ≠ q → (d i).natAbs ≤ 20 * 2 ^ e) → ∃ r, p_brought fu dep w (Ls n d) (q : Int) = X.ok r ∧ Bt w n q d (2 ^ 58 * (2 ^ (e + 1) - 1)) r := by
  intro e
  induction e with
  | zero =>
    intro he dep d hd hb
    obtain ⟨dep, rfl⟩ : ∃ k, dep = k + 1 := ⟨dep - 1, by omega⟩
    rw [p_brought, brg_init hn hl ht, nx_ok, bind_ok, enumT_Ls, lcFO_ok (by simp; omega), ofO_some, bind_ok]
    generalize hO : List.map (fun (x2 : Int × Int) => (x2.2 : Int)) (List.filter (fun (x2 : Int × Int) => !decide (x2.1 = (q : Int))) (Ls n fun i => ((i : Int), d i))) = O
    have hOm : ∀ y ∈ O, y.natAbs ≤ 20 := fun y hy => by
      rw [← hO] at hy
      obtain ⟨p, hp, rfl⟩ := List.mem_map.mp hy
      obtain ⟨h1, h2⟩ := List.mem_filter.mp hp
      obtain ⟨i, hi, rfl⟩ := Ls_mem.mp h1
      have : ¬ (i : Int) = (q : Int) := by simpa using h2
      have := hb i hi (by omega)
      simpa using this
    have hcond : (X.bind (if (!decide (O = [])) = true then (X.bind (X.ofO (maxO  O)) fun x4 => X.bind (if (decide (20 < x4)) = true then X.ok true else X.bind (X.ofO (minO  O)) fun x5 => X.ok (decide (x5 < (-20)))) fun b6 => X.ok b6) else X.ok false) fun b7 => (X.ok b7 : X Bool)) = X.ok false := by
      by_cases hz : O = []
      · rw [hz]
        rfl
      · obtain ⟨k, ek, hk, _⟩ := maxO_spec hz
        obtain ⟨l, el, hl, _⟩ := minO_spec hz
        have a := hOm k hk
        have b := hOm l hl
        rw [if_pos (by simp [hz]), ek, ofO_some, bind_ok, if_neg (by simp; omega), el]
        simp only [ofO_some, bind_ok]
        rw [decide_eq_false (by omega)]
    have hcond2 := bind_id hcond
    rw [hcond2, bind_ok, if_neg (by decide), bind_ok]
    obtain ⟨r, e1, x, D, F, rfl, k1, k2, k3, k4⟩ := fin_ok (w := w) (n := n) (q := q) (d := d) (t := fun _ => 0) hfu hn hl ht hc hq hm fun i hi hne => by have := hb i hi hne; omega
    refine ⟨_, e1, x, D, F, by rw [Ls_congr (f := fun i => 0 + x i) (g := x) fun i _ => by omega], k1, k2, k3, fun i => ?_⟩
    have := k4 i
    omega
  | succ e ih =>
    intro he dep d hd hb
    obtain ⟨dep, rfl⟩ : ∃ k, dep = k + 1 := ⟨dep - 1, by omega⟩
    rw [p_brought, brg_init hn hl ht, nx_ok, bind_ok, enumT_Ls, lcFO_ok (by simp; omega), ofO_some, bind_ok]
    generalize hO : List.map (fun (x2 : Int × Int) => (x2.2 : Int)) (List.filter (fun (x2 : Int × Int) => !decide (x2.1 = (q : Int))) (Ls n fun i => ((i : Int), d i))) = O
    have hcond : ∃ b, (X.bind (if (!decide (O = [])) = true then (X.bind (X.ofO (maxO  O)) fun x4 => X.bind (if (decide (20 < x4)) = true then X.ok true else X.bind (X.ofO (minO  O)) fun x5 => X.ok (decide (x5 < (-20)))) fun b6 => X.ok b6) else X.ok false) fun b7 => (X.ok b7 : X Bool)) = X.ok b ∧ (b = false → ∀ i, i < n → i ≠ q → (d i).natAbs ≤ 20) := by
      by_cases hz : O = []
      · rw [hz]
        refine ⟨false, rfl, fun _ i hi hne => ?_⟩
        have : d i ∈ O := by
          rw [← hO]
          exact List.mem_map.mpr ⟨((i : Int), d i), List.mem_filter.mpr ⟨Ls_mem.mpr ⟨i, hi, rfl⟩, by simp; omega⟩, rfl⟩
        rw [hz] at this
        simp at this
      · obtain ⟨k, ek, hk, hk2⟩ := maxO_spec hz
        obtain ⟨l, el, hl, hl2⟩ := minO_spec hz
        rw [if_pos (by simp [hz]), ek, ofO_some, bind_ok]
        by_cases h1 : 20 < k
        · rw [if_pos (by simpa using h1)]
          simp only [bind_ok]
          exact ⟨true, rfl, fun z => by cases z⟩
        · rw [if_neg (by simpa using h1), el]
          simp only [ofO_some, bind_ok]
          refine ⟨_, rfl, fun z i hi hne => ?_⟩
          have : d i ∈ O := by
            rw [← hO]
            exact List.mem_map.mpr ⟨((i : Int), d i), List.mem_filter.mpr ⟨Ls_mem.mpr ⟨i, hi, rfl⟩, by simp; omega⟩, rfl⟩
          have a := hk2 _ this
          have b := hl2 _ this
          have c : ¬ l < -20 := by simpa using z
          omega
    obtain ⟨b, hcond, hbf⟩ := hcond
    have hcond2 := bind_id hcond
    rw [hcond2, bind_ok]
    have hpow : 2 ^ 58 * (2 ^ (e + 1 + 1) - 1) = 2 * (2 ^ 58 * (2 ^ (e + 1) - 1)) + 2 ^ 58 := by
      have h1 : 1 ≤ 2 ^ (e + 1) := Nat.pow_pos (by decide)
      have h2 : 2 ^ (e + 1 + 1) = 2 * 2 ^ (e + 1) := by rw [Nat.pow_succ]; omega
      rw [h2]
      omega
    cases b with
    | false =>
      have hb := hbf rfl
      rw [if_neg (by decide), bind_ok]
      obtain ⟨r, e1, x, D, F, rfl, k1, k2, k3, k4⟩ := fin_ok (w := w) (n := n) (q := q) (d := d) (t := fun _ => 0) hfu hn hl ht hc hq hm fun i hi hne => by have := hb i hi hne; omega
      refine ⟨_, e1, x, D, F, by rw [Ls_congr (f := fun i => 0 + x i) (g := x) fun i _ => by omega], k1, k2, k3, fun i => ?_⟩
      have := k4 i
      rw [hpow]
      omega
    | true =>
      rw [if_pos rfl, lcO_Ls (by omega), ofO_some, bind_ok]
      obtain ⟨r, e1, x, D, F, rfl, k1, k2, k3, k4⟩ := ih (by omega) dep (fun i => d i / 2) (by omega) fun i hi hne => by
        have := hb i hi hne
        rw [Nat.pow_succ] at this
        show (d i / 2).natAbs ≤ _
        omega
      rw [e1, bind_ok]
      dsimp only
      have hmul : ∀ i, mulO 2 (x i) = some (2 * x i) := fun i => by
        refine mulO_ok (n := 2) (m := 2000) (by decide) ?_ (by decide)
        have a := k4 i
        have b : 2 ^ (e + 1) ≤ 2 ^ 1001 := Nat.pow_le_pow_right (by decide) (by omega)
        have c : (2 ^ 58 * 2 ^ 1001 : Nat) = 2 ^ 1059 := by rw [← Nat.pow_add]
        have d1 : (2 ^ 1059 : Nat) < 2 ^ 2000 := Nat.pow_lt_pow_right (by decide) (by decide)
        have e2 : 2 ^ 58 * (2 ^ (e + 1) - 1) ≤ 2 ^ 58 * 2 ^ 1001 := Nat.mul_le_mul_left _ (by omega)
        exact Nat.lt_of_le_of_lt a (Nat.lt_of_le_of_lt e2 (c ▸ d1))
      rw [lcX_ok (g := fun y => 2 * y) (by simp; omega) (fun y hy => by
        obtain ⟨i, hi, rfl⟩ := Ls_mem.mp hy
        rw [hmul i, ofO_some, bind_ok]), bind_ok, Ls_map, lent_ok hn ht, bind_ok, bind_ok]
      have hlap2 : ∀ i, lap w.2 (fun j => 2 * x j) i = lap w.2 x i + lap w.2 x i := fun i => by
        rw [← lap_add]
        congr 1
        funext j
        omega
      obtain ⟨r, e2, y, E, F2, rfl, j1, j2, j3, j4⟩ := fin_ok (w := w) (n := n) (q := q) (d := fun i => d i - lap w.2 (fun j => 2 * x j) i) (t := fun i => 2 * x i) (fu := fu) hfu hn hl ht hc hq hm fun i hi hne => by
        have a := k1 i
        obtain ⟨b0, b1⟩ := Reduced.lt ht k2 hi hne
        have c := deg_le (ties := w.2) (i := i)
        dsimp only at a
        show (d i - lap w.2 (fun j => 2 * x j) i).natAbs ≤ 61
        rw [hlap2]
        omega
      refine ⟨_, e2, fun i => 2 * x i + y i, E, F2, rfl, fun i => ?_, j2, j3, fun i => ?_⟩
      · rw [lap_add, j1 i]
        omega
      · have a := j4 i
        have b := k4 i
        rw [hpow]
        show (2 * x i + y i).natAbs ≤ _
        omega
end
end LW

set_option Elab.async false
set_option linter.all false
set_option maxRecDepth 100000
set_option maxHeartbeats 4000000
namespace LW
open PySem AM TY
/-! cleared, draw -/
/-- a web with n places -/
structure WB (w : Int × (List (Int × Int))) (n : Nat) : Prop where
  hn : w.1 = n
  n1 : 0 < n
  hl : n ≤ 6
  ht : TiesOk n w.2
  hc : Conn n w.2
  hm : w.2.length ≤ 10
theorem WebOk.wb {w : Int × (List (Int × Int))} (h : WebOk w) : WB w w.1.toNat := by
  have := h.n1
  have := h.n6
  exact ⟨by omega, by omega, by omega, h.tiesOk, h.conn', h.few⟩
theorem lap_abs {n : Nat} {ties : Ties} (ht : TiesOk n ties) {x : Nat → Int} {B : Nat} (h : ∀ j, j < n → (x j).natAbs ≤ B) (i : Nat) : (lap ties x i).natAbs ≤ ties.length * (2 * B) := by
  unfold lap
  induction ties with
  | nil => simp
  | cons t ties ih =>
    obtain ⟨h1, h2, h3⟩ := ht t (by simp)
    have ih := ih fun u hu => ht u (by simp [hu])
    have a := h t.1.toNat (by omega)
    have b := h t.2.toNat (by omega)
    rw [Sl_cons, List.length_cons, Nat.succ_mul]
    have : (flow x i t).natAbs ≤ 2 * B := by
      unfold flow
      split
      · omega
      · split <;> omega
    omega
/-- dues that are brought in time -/
def Fit (n : Nat) (d : Nat → Int) : Prop := ∀ i, i < n → (d i).natAbs ≤ 2 ^ 180
theorem Fit.mono {n : Nat} {d : Nat → Int} (B : Nat) (hB : B ≤ 2 ^ 180) (h : ∀ i, i < n → (d i).natAbs ≤ B) : Fit n d := fun i hi => Nat.le_trans (h i hi) hB
section
variable {w : Int × (List (Int × Int))} {n q : Nat} {d : Nat → Int} {fu : Nat}
theorem broughtF (hfu : 2 ^ 60 < fu) (hw : WB w n) (hq : q < n) (hd : Fit n d) : ∃ r, p_brought fu 200 w (Ls n d) (q : Int) = X.ok r ∧ Bt w n q d (2 ^ 58 * (2 ^ 181 - 1)) r := by
  obtain ⟨r, h1, h2⟩ := brought_ok hfu hw.hn hw.hl hw.ht hw.hc hq hw.hm 180 (by decide) 200 d (by decide) fun i hi _ => by have := hd i hi; omega
  exact ⟨r, h1, h2⟩
theorem is_clear_ok (hn : 0 < n) (f : Nat → Int) : ∃ b, p_is_clear (Ls n f) = X.ok b ∧ (b = true ↔ ∀ i, i < n → 0 ≤ f i) := by
  unfold p_is_clear
  obtain ⟨⟨i, hi, e⟩, hl⟩ := minI_Ls hn (f := f)
  unfold minO
  rw [if_neg (by simp; omega), ofO_some, bind_ok]
  refine ⟨_, rfl, ?_⟩
  rw [decide_eq_true_eq]
  constructor
  · intro h i hi
    have := hl i hi
    omega
  · intro h
    rw [e]
    exact h i hi
/-- what cleared tells -/
inductive Clr (w : Int × (List (Int × Int))) (n : Nat) (d : Nat → Int) : Bool × List Int × Option (List Int) → Prop where
  | yes (x : Nat → Int) (h : ∀ i, i < n → 0 ≤ d i - lap w.2 x i) (hb : ∀ i, (x i).natAbs ≤ 2 ^ 300) : Clr w n d (true, Ls n x, none)
  | no (x : Nat → Int) (F : List Nat) (h : Burn n w.2 (fun i => d i - lap w.2 x i) 0 F) (h0 : d 0 - lap w.2 x 0 < 0) (hr : Reduced n w.2 0 fun i => d i - lap w.2 x i) (hb : ∀ i, (x i).natAbs ≤ 2 ^ 300) : Clr w n d (false, Ls n x, some (up F))
theorem cleared_ok (hfu : 2 ^ 60 < fu) (hw : WB w n) (hd : Fit n d) : ∃ r, p_cleared fu w (Ls n d) = X.ok r ∧ Clr w n d r := by
  unfold p_cleared
  rw [look_dues_ok (by simp [hw.hn]), bind_ok]
  obtain ⟨r, h1, x, D, F, rfl, k1, k2, k3, k4⟩ := broughtF (q := 0) hfu hw hw.n1 hd
  have h1 : p_brought fu 200 w (Ls n d) 0 = X.ok (Ls n x, Ls n D, up F) := h1
  rw [h1, bind_ok]
  obtain ⟨b, e, hb⟩ := is_clear_ok hw.n1 D
  dsimp only
  rw [e, bind_ok]
  obtain rfl : D = fun i => d i - lap w.2 x i := funext k1
  have hbd : ∀ i, (x i).natAbs ≤ 2 ^ 300 := fun i => Nat.le_trans (k4 i) (by decide)
  cases b with
  | true => exact ⟨_, rfl, .yes x (hb.mp rfl) hbd⟩
  | false =>
    refine ⟨_, rfl, .no x F k3 ?_ k2 hbd⟩
    apply Classical.byContradiction
    intro hno
    have : false = true := hb.mpr fun i hi => by
      by_cases e : i = 0
      · rw [e]; show 0 ≤ d 0 - lap w.2 x 0; omega
      · exact k2.1 i hi e
    cases this
theorem Clr.iff (hw : WB w n) {r : Bool × List Int × Option (List Int)} (h : Clr w n d r) : r.1 = true ↔ CanClear n w.2 d := by
  cases h with
  | yes x h => exact ⟨fun _ => ⟨x, h⟩, fun _ => rfl⟩
  | no x F h h0 =>
    refine ⟨fun z => (by cases z), fun ⟨y, hy⟩ => ?_⟩
    exfalso
    refine bars_no (d := fun i => d i - lap w.2 x i) (x := fun i => y i - x i) hw.ht hw.n1 h.nd h.all (fun k v e => ?_) fun i hi => ?_
    · rcases Nat.eq_zero_or_pos k with z | z
      · subst z
        rw [h.hd] at e
        cases e
        simpa using h0
      · exact h.few k v z e
    · have := hy i hi
      rw [lap_sub]
      show 0 ≤ d i - lap w.2 x i - (lap w.2 y i - lap w.2 x i)
      omega
theorem look_place_ok (hw : WB w n) (hq : q < n) : p_look_at_place w (q : Int) = X.ok () := by
  unfold p_look_at_place
  rw [hw.hn, decide_eq_false (by omega), decide_eq_false (by omega)]
  rfl
/-- what draw tells -/
def Drw (w : Int × (List (Int × Int))) (n q : Nat) (d : Nat → Int) (r : Int × List Int × (List Int × List Int)) : Prop :=
  ∃ (x : Nat → Int) (F : List Nat), r = (d q - lap w.2 x q, Ls n x, (Ls n x, up F)) ∧ Burn n w.2 (fun i => d i - lap w.2 x i) q F ∧ (Reduced n w.2 q fun i => d i - lap w.2 x i) ∧ ∀ i, (x i).natAbs ≤ 2 ^ 300
theorem draw_ok (hfu : 2 ^ 60 < fu) (hw : WB w n) (hq : q < n) (hd : Fit n d) : ∃ r, p_draw fu w (Ls n d) (q : Int) = X.ok r ∧ Drw w n q d r := by
  unfold p_draw
  rw [look_dues_ok (by simp [hw.hn]), bind_ok, look_place_ok hw hq, bind_ok]
  obtain ⟨r, h1, x, D, F, rfl, k1, k2, k3, k4⟩ := broughtF (q := q) hfu hw hq hd
  rw [h1, bind_ok]
  dsimp only
  rw [at_Ls (by omega) (by omega), ofO_some, bind_ok, Int.toNat_natCast]
  obtain rfl : D = fun i => d i - lap w.2 x i := funext k1
  exact ⟨_, rfl, x, F, rfl, k3, k2, fun i => Nat.le_trans (k4 i) (by decide)⟩
theorem Drw.is {r : Int × List Int × (List Int × List Int)} (hq : q < n) (h : Drw w n q d r) : IsDraw n w.2 q d r.1 := by
  obtain ⟨x, F, rfl, _, h2, _⟩ := h
  exact ⟨x, _, h2, fun i _ => rfl, rfl⟩
theorem Drw.bounds {r : Int × List Int × (List Int × List Int)} (hw : WB w n) (hq : q < n) (h : Drw w n q d r) : r.1 ≤ S n d ∧ S n d - r.1 ≤ w.2.length + 1 - n := by
  obtain ⟨x, F, rfl, h1, h2, _⟩ := h
  have e : (S n fun i => d i - lap w.2 x i) = S n d := by
    rw [S_sub, show S n (fun i => lap w.2 x i) = 0 from lap_sum hw.ht]
    omega
  have a := h1.loose hw.ht
  rw [e] at a
  refine ⟨?_, a⟩
  have b : 0 ≤ S n fun i => if i = q then 0 else d i - lap w.2 x i := S_nonneg fun i hi => by
    split
    · omega
    · rename_i z; exact h2.1 i hi z
  have c : (S n fun i => d i - lap w.2 x i) = (S n fun i => if i = q then 0 else d i - lap w.2 x i) + S n fun i => if i = q then d q - lap w.2 x q else 0 := by
    rw [← S_add]
    refine S_congr fun i _ => ?_
    by_cases z : i = q
    · simp [z]
    · simp [z]
  rw [S_one, if_pos hq, e] at c
  show d q - lap w.2 x q ≤ _
  omega
end
theorem Ls_rev {α : Type} {n : Nat} {f : Nat → α} : (Ls n f).reverse = Ls n fun i => f (n - 1 - i) := by
  refine Ls_of (by simp) fun i hi => ?_
  rw [List.getElem?_reverse (by simpa using hi), Ls_len, Ls_get (by omega)]
theorem fit_draws {n : Nat} {zs : List Int} (hl : zs.length = n) (h : ∀ z ∈ zs, z.natAbs < 10 ^ 36) : ∃ d : Nat → Int, zs = Ls n d ∧ ∀ i, i < n → (d i).natAbs ≤ 10 ^ 36 := by
  refine ⟨fn zs, Ls_fn hl, fun i hi => ?_⟩
  have h1 : fn zs i ∈ zs := by
    rw [Ls_fn hl] 
    exact Ls_mem.mpr ⟨i, hi, by rw [← Ls_fn hl]⟩
  have := h _ h1
  omega
end LW

set_option Elab.async false
set_option linter.all false
set_option maxRecDepth 100000
set_option maxHeartbeats 4000000
namespace LW
open PySem AM TY
/-! law k16 -/
theorem more_ok {n q : Nat} (hq : q < n) (d : Nat → Int) (m : Int) : p__law_more (Ls n d) (q : Int) m = X.ok (Ls n fun i => if i = q then d i + m else d i) := by
  unfold p__law_more
  rw [at_Ls (by omega) (by omega), ofO_some, bind_ok, setO_Ls (by omega) (by omega), ofO_some, bind_ok]
  congr 1
  refine Ls_congr fun i _ => ?_
  rw [Int.toNat_natCast]
  by_cases e : i = q
  · rw [if_pos e, if_pos e, e]
  · rw [if_neg e, if_neg e]
theorem lawdraw_ok {w : Int × (List (Int × Int))} {n q fu : Nat} {d : Nat → Int} (hfu : 2 ^ 60 < fu) (hw : WB w n) (hq : q < n) (hd : Fit n d) : ∃ r, p__law_draw fu w (Ls n d) (q : Int) = X.ok r ∧ IsDraw n w.2 q d r ∧ r ≤ S n d ∧ S n d - r ≤ w.2.length + 1 - n := by
  obtain ⟨r, e, h⟩ := draw_ok (q := q) hfu hw hq hd
  unfold p__law_draw
  rw [e, bind_ok]
  exact ⟨_, rfl, h.is hq, h.bounds hw hq⟩
theorem turn_wb {w : Int × (List (Int × Int))} {n : Nat} (hw : WB w n) : WB (w.1, turnT n w.2) n := by
  refine ⟨hw.hn, hw.n1, hw.hl, turnT_ok hw.ht, fun P hP i j i0 i1 j0 j1 hp => ?_, by simpa [turnT] using hw.hm⟩
  have h := hw.hc (fun k => P (n - 1 - k)) (fun t ht => (hP ((n : Int) - 1 - t.2, (n : Int) - 1 - t.1) (by
    simp only [turnT, List.mem_map]
    exact ⟨t, ht, rfl⟩)).symm) (n - 1 - i) (n - 1 - j) (by omega) (by omega) (by omega) (by omega) (by
    show P (n - 1 - (n - 1 - i))
    rw [show (n : Int) - 1 - (n - 1 - i) = i by omega]
    exact hp)
  have h : P (n - 1 - (n - 1 - j)) := h
  rw [show (n : Int) - 1 - (n - 1 - j) = j by omega] at h
  exact h
theorem law_p (fu : Nat) (hfu : 2 ^ 60 < fu) (ns : List Int) : p_law fu ns = X.ok true := by
  unfold p_law
  have h3 : rg3 0 12 3 = some (rgT 0 3 4) := by decide +kernel
  rw [h3, ofO_some, bind_ok, forL_u, bindR_go]
  intro x hx
  have hx0 : 0 ≤ x ∧ x ≤ 9 := by
    simp only [rgT, List.mem_map, List.mem_range] at hx
    obtain ⟨k, hk, rfl⟩ := hx
    omega
  refine .inl ?_
  obtain ⟨p0, e0, o0⟩ := pile_ok ns x (by omega) (by omega)
  rw [e0, bind_ok]
  obtain ⟨w, p1, e1, hw, o1⟩ := web_ok (fu := fu) o0 (by decide) (by omega)
  rw [e1, bind_ok]
  dsimp only
  have n1 := hw.n1
  have n6 := hw.n6
  obtain ⟨p3, e3, o3⟩ := pile_ok ns (x + 1) (by omega) (by omega)
  rw [e3, bind_ok]
  obtain ⟨dues, p4, e4, l0, o4, b0⟩ := numbers_ok o3 (by decide) (n := w.1) (by omega) (by omega)
  rw [e4, bind_ok]
  dsimp only
  obtain ⟨pq, p5, e5, q0, q1, o5⟩ := take_ok (m := w.1) o4 (by decide) (by omega) (by omega)
  rw [e5, bind_ok]
  dsimp only
  obtain ⟨pv, p6, e6, v0, v1, o6⟩ := take_ok (m := w.1) o5 (by decide) (by omega) (by omega)
  rw [e6, bind_ok]
  dsimp only
  obtain ⟨p7, e7, o7⟩ := pile_ok ns (x + 2) (by omega) (by omega)
  rw [e7, bind_ok]
  obtain ⟨times, p8, e8, l1, o8, b1⟩ := numbers_ok o7 (by decide) (n := w.1) (by omega) (by omega)
  rw [e8, bind_ok]
  dsimp only
  obtain ⟨m, p9, e9, o9, b2⟩ := number_ok o8 (by decide)
  rw [e9, bind_ok]
  dsimp only
  have wb := hw.wb
  obtain ⟨n, hn⟩ : ∃ n, n = w.1.toNat := ⟨_, rfl⟩
  rw [← hn] at wb l0 l1
  obtain ⟨D, rfl, bD⟩ := fit_draws l0 b0
  obtain ⟨T, rfl, bT⟩ := fit_draws l1 b1
  obtain ⟨q, rfl⟩ : ∃ q : Nat, pq = q := ⟨pq.toNat, by omega⟩
  obtain ⟨v, rfl⟩ : ∃ q : Nat, pv = q := ⟨pv.toNat, by omega⟩
  have hwn := wb.hn
  have hq : q < n := by omega
  have hv : v < n := by omega
  have hpow : (10 ^ 36 : Nat) * 100 ≤ 2 ^ 180 := by decide
  have fD : Fit n D := fun i hi => by have := bD i hi; omega
  obtain ⟨a, ea, ia, sa, la⟩ := lawdraw_ok hfu wb hq fD
  rw [ea, bind_ok, lent_ok hwn wb.ht, bind_ok]
  have hlap := fun i => lap_abs wb.ht bT i
  have hm10 := wb.hm
  have fL : Fit n fun i => D i - lap w.2 T i := fun i hi => by
    have h1 := bD i hi
    have h2 := hlap i
    have h3 : w.2.length * (2 * 10 ^ 36) ≤ 10 * (2 * 10 ^ 36) := Nat.mul_le_mul_right _ hm10
    show (D i - lap w.2 T i).natAbs ≤ _
    omega
  obtain ⟨a2, ea2, ia2, _, _⟩ := lawdraw_ok (q := q) hfu wb hq fL
  have := ia2.uniq wb.ht wb.n1 hq ia.lent
  subst this
  rw [ea2, bind_ok]
  have hS : List.sum (Ls n D) = S n D := sum_Ls n D
  have hloose : p_loose w = X.ok ((w.2.length : Int) + 1 - w.1) := rfl
  rw [if_neg (by simp), hS, if_neg (by simp; omega), hloose, bind_ok, bind_ok, bind_ok, if_neg (by simp; omega), more_ok hq, bind_ok]
  have ba : a2.natAbs ≤ 10 ^ 36 * 10 := by
    have h1 : (S n D).natAbs ≤ 10 ^ 36 * 6 := by
      have u : S n D ≤ S n fun _ => 10 ^ 36 := S_le fun i hi => by have := bD i hi; omega
      have l : S n (fun _ => - 10 ^ 36) ≤ S n D := S_le fun i hi => by have := bD i hi; omega
      rw [S_const] at u l
      have := wb.hl
      have u2 : (n : Int) * 10 ^ 36 ≤ 6 * 10 ^ 36 := Int.mul_le_mul_of_nonneg_right (by omega) (by decide)
      rw [Int.mul_neg] at l
      omega
    omega
  obtain ⟨a3, ea3, ia3, _, _⟩ := lawdraw_ok (q := q) (d := fun i => if i = q then D i + m else D i) hfu wb hq fun i hi => by
    have := bD i hi
    show (if i = q then D i + m else D i).natAbs ≤ _
    split <;> omega
  rw [ea3, bind_ok, ia3.uniq wb.ht wb.n1 hq ia.more, if_neg (by simp), more_ok hv, bind_ok]
  obtain ⟨a4, ea4, ia4, _, _⟩ := lawdraw_ok (q := q) (d := fun i => if i = v then D i + 1 else D i) hfu wb hq fun i hi => by
    have := bD i hi
    show (if i = v then D i + 1 else D i).natAbs ≤ _
    split <;> omega
  have hmono := IsDraw.mono wb.ht wb.n1 hq ia ia4
  have h4 : ¬ a4 < a2 + b2i (decide ((v : Int) = q)) := by
    by_cases e : v = q
    · subst e
      have := ia4.uniq wb.ht wb.n1 hq ia.more
      simp [b2i, this]
    · have : ¬ (v : Int) = q := by omega
      simp [b2i, this]
      omega
  rw [ea4, bind_ok, if_neg (by simpa using h4)]
  obtain ⟨c, ec, hc⟩ := cleared_ok hfu wb fD
  rw [ec, bind_ok]
  have hcl := hc.iff wb
  rw [ia.clear wb.ht wb.n1 hq] at hcl
  have hc1 : c.1 = decide (0 ≤ a2) := by
    rw [Bool.eq_iff_iff, hcl, decide_eq_true_eq]
  obtain ⟨a5, ea5, ia5, _, _⟩ := lawdraw_ok (q := v) hfu wb hv fD
  have h5 : decide (0 ≤ a2) = decide (0 ≤ a5) := by
    have h1 := ia.clear wb.ht wb.n1 hq
    have h2 := ia5.clear wb.ht wb.n1 hv
    rw [Bool.eq_iff_iff, decide_eq_true_eq, decide_eq_true_eq, ← h1, ← h2]
  rw [hc1, if_neg (by simp), ea5, bind_ok, bind_ok, h5, if_neg (by simp), more_ok hq, bind_ok]
  obtain ⟨a6, ea6, ia6, _, _⟩ := lawdraw_ok (q := q) (d := fun i => if i = q then D i + -a2 else D i) hfu wb hq fun i hi => by
    have := bD i hi
    show (if i = q then D i + -a2 else D i).natAbs ≤ _
    split <;> omega
  rw [ea6, bind_ok, ia6.uniq wb.ht wb.n1 hq ia.more, if_neg (by simp; omega), lcO_ok (by omega), ofO_some, bind_ok]
  have htn : w.2.map (fun (x29 : Int × Int) => ((((w.1 - 1) - x29.2), ((w.1 - 1) - x29.1)) : Int × Int)) = turnT n w.2 := by
    unfold turnT
    rw [hwn]
  rw [htn, Ls_rev]
  obtain ⟨a7, ea7, ia7, _, _⟩ := lawdraw_ok (q := n - 1 - q) (d := fun i => D (n - 1 - i)) hfu (turn_wb wb) (by omega) fun i hi => fD _ (by omega)
  have ht7 := draw_turn wb.ht hq ia
  have e7' := ia7.uniq (turnT_ok wb.ht) wb.n1 (by omega) ht7
  subst e7'
  rw [show (w.1 - 1) - (q : Int) = ((n - 1 - q : Nat) : Int) by omega, ea7, bind_ok, if_neg (by simp)]
  have hrep : repO [(0 : Int)] w.1 = some (Ls n fun _ => (0 : Int)) := by
    unfold repO
    rw [if_pos (by simp; omega)]
    congr 1
    rw [hwn]
    simp only [Int.toNat_natCast]
    refine Ls_of (by simp) fun i hi => ?_
    rw [List.getElem?_eq_getElem (by simp; omega)]
    congr 1
    have : ∀ x ∈ (List.replicate n [(0 : Int)]).flatten, x = 0 := by
      intro x hx
      simp at hx
      exact hx.2
    exact this _ (List.getElem_mem _)
  rw [hrep, ofO_some, bind_ok, more_ok hq, bind_ok]
  obtain ⟨a8, ea8, ia8, _, _⟩ := lawdraw_ok (q := q) (d := fun i => if i = q then 0 + S n D else 0) hfu wb hq fun i hi => by
    show (if i = q then 0 + S n D else 0).natAbs ≤ _
    split <;> omega
  have ha8 := (ia8.congr (d' := fun i => if i = q then S n D else 0) fun i _ => by simp).uniq wb.ht wb.n1 hq (draw_alone wb.ht wb.hc hq)
  subst ha8
  rw [ea8, bind_ok, if_neg (by simp)]
theorem law_ok : ∀ ns : List Int, ns.length ≤ 63 → ∃ fu outs, m_law fu [.sh (.scr ns)] = some (.ok (.sh (.bl true)), outs) := fun ns _ => by
  have h := t_law (2 ^ 61) ns
  rw [law_p (2 ^ 61) (by decide) ns] at h
  exact ⟨2 ^ 61, _, h.h⟩
end LW

set_option Elab.async false
set_option linter.all false
set_option maxRecDepth 100000
set_option maxHeartbeats 4000000
namespace LW
open PySem PySem.Spec PyProof.Rows L2 AM
def topS (i : Nat) : Stmt := PySem.Challenge.pw_standloss_k16_whole_draws.main.body.getD i (.Pass ⟨0, 0, 0, 0⟩)
abbrev s__law_mixed : Stmt := topS 22
abbrev s__law_take : Stmt := topS 24
abbrev s__law_web : Stmt := topS 26
abbrev s__law_pile : Stmt := topS 23
abbrev s__law_number : Stmt := topS 27
abbrev s__law_numbers : Stmt := topS 28
abbrev s_look_at_dues : Stmt := topS 10
abbrev s_look_at_place : Stmt := topS 6
abbrev s_near_of : Stmt := topS 8
abbrev s_Bringing_init : Stmt := inClass (topS 17) 0
abbrev s_look_at_times : Stmt := topS 11
abbrev s_lent : Stmt := topS 12
abbrev s_Bringing_ties_to : Stmt := inClass (topS 17) 2
abbrev s_Bringing_layers : Stmt := inClass (topS 17) 3
abbrev s_put_together : Stmt := topS 14
abbrev s_Bringing_lend : Stmt := inClass (topS 17) 1
abbrev s_Bringing_pay : Stmt := inClass (topS 17) 4
abbrev s_Bringing_order : Stmt := inClass (topS 17) 5
abbrev s_Bringing_draw_in : Stmt := inClass (topS 17) 6
abbrev s_brought : Stmt := topS 18
abbrev s_draw : Stmt := topS 20
abbrev s__law_draw : Stmt := topS 29
abbrev s_loose : Stmt := topS 7
abbrev s__law_more : Stmt := topS 30
abbrev s_is_clear : Stmt := topS 13
abbrev s_cleared : Stmt := topS 19
abbrev s_law : Stmt := topS 31
structure Facts (K : PySem.W.Frag) (mg : Str → Option Value) : Prop where
  f__law_mixed : ∃ (f : Addr) (fd : FuncData), Fun K "_law_mixed" "_law_mixed" s__law_mixed f fd ∧ mg "_law_mixed" = some (.ref f)
  f__law_take : ∃ (f : Addr) (fd : FuncData), Fun K "_law_take" "_law_take" s__law_take f fd ∧ mg "_law_take" = some (.ref f)
  f__law_web : ∃ (f : Addr) (fd : FuncData), Fun K "_law_web" "_law_web" s__law_web f fd ∧ mg "_law_web" = some (.ref f)
  f__law_pile : ∃ (f : Addr) (fd : FuncData), Fun K "_law_pile" "_law_pile" s__law_pile f fd ∧ mg "_law_pile" = some (.ref f)
  f__law_number : ∃ (f : Addr) (fd : FuncData), Fun K "_law_number" "_law_number" s__law_number f fd ∧ mg "_law_number" = some (.ref f)
  f__law_numbers : ∃ (f : Addr) (fd : FuncData), Fun K "_law_numbers" "_law_numbers" s__law_numbers f fd ∧ mg "_law_numbers" = some (.ref f)
  f_look_at_dues : ∃ (f : Addr) (fd : FuncData), Fun K "look_at_dues" "look_at_dues" s_look_at_dues f fd ∧ mg "look_at_dues" = some (.ref f)
  f_look_at_place : ∃ (f : Addr) (fd : FuncData), Fun K "look_at_place" "look_at_place" s_look_at_place f fd ∧ mg "look_at_place" = some (.ref f)
  f_near_of : ∃ (f : Addr) (fd : FuncData), Fun K "near_of" "near_of" s_near_of f fd ∧ mg "near_of" = some (.ref f)
  f_Bringing_init : ∃ (C f : Addr) (fd : FuncData), Fun K "__init__" "Bringing.__init__" s_Bringing_init f fd ∧ mg "Bringing" = some (.ref C) ∧ Cls K C ∧ Mk K C f
  f_look_at_times : ∃ (f : Addr) (fd : FuncData), Fun K "look_at_times" "look_at_times" s_look_at_times f fd ∧ mg "look_at_times" = some (.ref f)
  f_lent : ∃ (f : Addr) (fd : FuncData), Fun K "lent" "lent" s_lent f fd ∧ mg "lent" = some (.ref f)
  f_Bringing_ties_to : ∃ (C f : Addr) (fd : FuncData), Fun K "ties_to" "Bringing.ties_to" s_Bringing_ties_to f fd ∧ mg "Bringing" = some (.ref C) ∧ Cls K C ∧ Meth K C "ties_to" f
  f_Bringing_layers : ∃ (C f : Addr) (fd : FuncData), Fun K "layers" "Bringing.layers" s_Bringing_layers f fd ∧ mg "Bringing" = some (.ref C) ∧ Cls K C ∧ Meth K C "layers" f
  f_put_together : ∃ (f : Addr) (fd : FuncData), Fun K "put_together" "put_together" s_put_together f fd ∧ mg "put_together" = some (.ref f)
  f_Bringing_lend : ∃ (C f : Addr) (fd : FuncData), Fun K "lend" "Bringing.lend" s_Bringing_lend f fd ∧ mg "Bringing" = some (.ref C) ∧ Cls K C ∧ Meth K C "lend" f
  f_Bringing_pay : ∃ (C f : Addr) (fd : FuncData), Fun K "pay" "Bringing.pay" s_Bringing_pay f fd ∧ mg "Bringing" = some (.ref C) ∧ Cls K C ∧ Meth K C "pay" f
  f_Bringing_order : ∃ (C f : Addr) (fd : FuncData), Fun K "order" "Bringing.order" s_Bringing_order f fd ∧ mg "Bringing" = some (.ref C) ∧ Cls K C ∧ Meth K C "order" f
  f_Bringing_draw_in : ∃ (C f : Addr) (fd : FuncData), Fun K "draw_in" "Bringing.draw_in" s_Bringing_draw_in f fd ∧ mg "Bringing" = some (.ref C) ∧ Cls K C ∧ Meth K C "draw_in" f
  f_brought : ∃ (f : Addr) (fd : FuncData), Fun K "brought" "brought" s_brought f fd ∧ mg "brought" = some (.ref f)
  f_draw : ∃ (f : Addr) (fd : FuncData), Fun K "draw" "draw" s_draw f fd ∧ mg "draw" = some (.ref f)
  f__law_draw : ∃ (f : Addr) (fd : FuncData), Fun K "_law_draw" "_law_draw" s__law_draw f fd ∧ mg "_law_draw" = some (.ref f)
  f_loose : ∃ (f : Addr) (fd : FuncData), Fun K "loose" "loose" s_loose f fd ∧ mg "loose" = some (.ref f)
  f__law_more : ∃ (f : Addr) (fd : FuncData), Fun K "_law_more" "_law_more" s__law_more f fd ∧ mg "_law_more" = some (.ref f)
  f_is_clear : ∃ (f : Addr) (fd : FuncData), Fun K "is_clear" "is_clear" s_is_clear f fd ∧ mg "is_clear" = some (.ref f)
  f_cleared : ∃ (f : Addr) (fd : FuncData), Fun K "cleared" "cleared" s_cleared f fd ∧ mg "cleared" = some (.ref f)
  f_law : ∃ (f : Addr) (fd : FuncData), Fun K "law" "law" s_law f fd ∧ mg "law" = some (.ref f)
  b_abs : mg "abs" = none
  b_enumerate : mg "enumerate" = none
  b_int : mg "int" = none
  b_len : mg "len" = none
  b_list : mg "list" = none
  b_max : mg "max" = none
  b_min : mg "min" = none
  b_range : mg "range" = none
  b_sum : mg "sum" = none
  e_NoDues : ExC K mg "NoDues"
  e_NoTimes : ExC K mg "NoTimes"
  at_Bringing_dues : AttrF K mg "Bringing" "dues"
  at_Bringing_near : AttrF K mg "Bringing" "near"
  at_Bringing_place : AttrF K mg "Bringing" "place"
  at_Bringing_times : AttrF K mg "Bringing" "times"
  at_Bringing_web : AttrF K mg "Bringing" "web"
  c_SMALL : ∃ u, mg "SMALL" = some u ∧ RelV (.int 20) u
section
variable {P : Program} {w : World} {K : PySem.W.Frag} {mg : Str → Option Value} {base : Heap}
theorem sc__law_mixed : FnScope ["_law_cell", "_law_k", "_law_number_here"] ["_law_cell", "_law_k"] (defScope s__law_mixed) := ⟨rfl, rfl, rfl, by decide +kernel, rfl, by decide +kernel, by decide +kernel⟩
theorem d__law_mixed (V : Facts K mg) : Df P w K mg base "_law_mixed" 2 (m__law_mixed) 1 := by
  obtain ⟨f, fd, F, hm⟩ := V.f__law_mixed
  refine ⟨⟨f, fd, ["_law_cell", "_law_k"], fn_ok F sc__law_mixed rfl (by decide) (fun cdv A outer s H E hr => ?_), hm, F.kp, F.binds fun _ _ _ _ _ _ us hl => match us, hl with | [_, _], _ => rfl⟩, fnM_len⟩
  have nd := (sc__law_mixed).nd
  have tk : Takes (cxOf (L2.CX P w) P w K mg base ["_law_cell", "_law_k", "_law_number_here"] "_law_mixed" (defScope s__law_mixed) f cdv A outer s H E) (fun cls d _ H' => E cls d H') := takes_of rfl rfl rfl rfl
  exact (sss_cons (ss_set (i := 2) nd rfl (.inl rfl) rfl (se_mod (se_add (se_add (se_mul (se_mod (se_varS 0 (pv 0)) se_int) se_int) (se_mul (se_varS 1 (pv 1)) se_int)) se_int) se_int))
    (sss_cons (ss_set (i := 2) nd rfl (.inl rfl) rfl (se_mod (se_mul (se_varS 2 (pv 2)) (se_varS 2 (pv 2))) se_int))
    (sss_one (ss_ret (se_fdiv (se_mod (se_mul (se_varS 2 (pv 2)) (se_varS 2 (pv 2))) se_int) se_int)))))
theorem sc__law_take : FnScope ["_law_pile_here", "_law_many", "_law_digit"] ["_law_pile_here", "_law_many"] (defScope s__law_take) := ⟨rfl, rfl, rfl, by decide +kernel, rfl, by decide +kernel, by decide +kernel⟩
theorem d__law_take (V : Facts K mg) : Df P w K mg base "_law_take" 2 (m__law_take) 2 := by
  obtain ⟨f, fd, F, hm⟩ := V.f__law_take
  refine ⟨⟨f, fd, ["_law_pile_here", "_law_many"], fn_ok F sc__law_take rfl (by decide) (fun cdv A outer s H E hr => ?_), hm, F.kp, F.binds fun _ _ _ _ _ _ us hl => match us, hl with | [_, _], _ => rfl⟩, fnM_len⟩
  have nd := (sc__law_take).nd
  have tk : Takes (cxOf (L2.CX P w) P w K mg base ["_law_pile_here", "_law_many", "_law_digit"] "_law_take" (defScope s__law_take) f cdv A outer s H E) (fun cls d _ H' => E cls d H') := takes_of rfl rfl rfl rfl
  exact (sss_cons (ss_if (st_c (cr_in (r65 hr) (by rfl)) (se_ix (se_var 0 (pv 0)) se_int (fun _ _ => rfl)) (se_lst (sa_cons se_int (sa_cons (se_neg se_int) sa_nil)))) (sss_cons (ss_asg (qq := false) (se_add (se_ix (se_var 0 (pv 0)) se_int (fun _ _ => rfl)) se_int) (sg_ix (Wx := W0) (sl_var 0 (pv 0)) se_int))
    (sss_one (ss_ret (se_mod (se_call0 tk (d__law_mixed V) (hr.mono (by decide)) (by rfl) (sw_bor (sl_ix (Wx := W0) (sl_var 0 (pv 0)) se_int (fun _ _ => rfl)) (sw_bor (sl_ix (Wx := W0) (sl_var 0 (pv 0)) se_int (fun _ _ => rfl)) sw_nil (.inl rfl)) (.inl rfl))) (se_varS 1 (pv 1)))))) sss_nil)
    (sss_cons (ss_set (i := 2) nd rfl (.inl rfl) rfl (se_mod (se_ix (se_var 0 (pv 0)) se_int (fun _ _ => rfl)) (se_varS 1 (pv 1))))
    (sss_cons (ss_asg (qq := false) (se_fdiv (se_ix (se_var 0 (pv 0)) se_int (fun _ _ => rfl)) (se_varS 1 (pv 1))) (sg_ix (Wx := W0) (sl_var 0 (pv 0)) se_int))
    (sss_one (ss_ret (se_varS 2 (pv 2)))))))
theorem sc__law_web : FnScope ["_law_pile_here", "_law_least", "_law_most", "_law_many", "_law_n", "_law_left", "_law_order", "_law_ties", "_law_k", "_law_found", "_law_a", "_law_b"] ["_law_pile_here", "_law_least", "_law_most", "_law_many"] (defScope s__law_web) := ⟨rfl, rfl, rfl, by decide +kernel, rfl, by decide +kernel, by decide +kernel⟩
theorem d__law_web (V : Facts K mg) (fu : Nat) : Df P w K mg base "_law_web" 4 (m__law_web fu) 3 := by
  obtain ⟨f, fd, F, hm⟩ := V.f__law_web
  refine ⟨⟨f, fd, ["_law_pile_here", "_law_least", "_law_most", "_law_many"], fn_ok F sc__law_web rfl (by decide) (fun cdv A outer s H E hr => ?_), hm, F.kp, F.binds fun _ _ _ _ _ _ us hl => match us, hl with | [_, _, _, _], _ => rfl⟩, fnM_len⟩
  have nd := (sc__law_web).nd
  have tk : Takes (cxOf (L2.CX P w) P w K mg base ["_law_pile_here", "_law_least", "_law_most", "_law_many", "_law_n", "_law_left", "_law_order", "_law_ties", "_law_k", "_law_found", "_law_a", "_law_b"] "_law_web" (defScope s__law_web) f cdv A outer s H E) (fun cls d _ H' => E cls d H') := takes_of rfl rfl rfl rfl
  exact (sss_cons (ss_set (i := 4) nd rfl (.inl rfl) rfl (se_fz (se_add (se_varS 1 (pv 1)) (se_call1 tk (d__law_take V) (hr.mono (by decide)) (by rfl) (sw_io (sl_var 0 (pv 0)) (sw_own (se_sub (se_add (se_varS 2 (pv 2)) se_int) (se_varS 1 (pv 1))) sw_nil) (.inl rfl))))))
    (sss_cons (ss_set (i := 5) nd rfl (.inl rfl) rfl (se_listRg1 rfl (by rfl) V.b_list (by rfl) V.b_range (se_varS 4 (pv 4))))
    (sss_cons (ss_set (i := 6) nd rfl (.inl rfl) rfl (se_lst sa_nil))
    (sss_cons (ss_while fu (passes_of rfl) (st_c (cr_ne hr.units) (se_var 5 (pv 5)) (se_lst sa_nil)) (sss_one (ss_expr (se_meth PySem.F.slot_list_append PySem.F.type_list_append mt_append opi_app (sl_var 6 (pv 6)) (sa_cons (se_meth PySem.F.slot_list_pop PySem.F.type_list_pop mt_popAt opi_popAt (sl_var 5 (pv 5)) (sa_cons (se_call1 tk (d__law_take V) (hr.mono (by decide)) (by rfl) (sw_io (sl_var 0 (pv 0)) (sw_own (se_bi call_len ops_len (by rfl) V.b_len PySem.boot_len (sa_cons (se_var 5 (pv 5)) sa_nil)) sw_nil) (.inl rfl))) sa_nil) (.inr root_var)) sa_nil) (.inr root_var)))))
    (sss_cons (ss_set (i := 7) nd rfl (.inl rfl) rfl (se_lst sa_nil))
    (sss_cons (ss_for (qq := false) (passes_of rfl) rfl (si_rg2 (by rfl) V.b_range (sa_cons se_int (sa_cons (se_varS 4 (pv 4)) sa_nil))) (sg_name nd rfl (.inl rfl) rfl) (sss_cons (ss_par (i := 10) (j := 11) rfl nd rfl rfl (by decide) rfl rfl rfl (sa_cons (se_sh (se_ix (se_var 6 (pv 6)) (se_varS 8 (pv 8)) (fun _ _ => rfl))) (sa_cons (se_fz (se_ixI (sl_var 6 (pv 6)) (se_call1 tk (d__law_take V) (hr.mono (by decide)) (by rfl) (sw_io (sl_var 0 (pv 0)) (sw_own (se_varS 8 (pv 8)) sw_nil) (.inl rfl))) (fun _ _ => rfl) root_var)) sa_nil)) rfl)
    (sss_one (ss_expr (se_meth PySem.F.slot_list_append PySem.F.type_list_append mt_append opi_app (sl_var 7 (pv 7)) (sa_cons (se_tup (sa_cons (se_bi (AM.CallR.or (cr_min rfl) (call_min2 rfl)) ops_min (by rfl) V.b_min PyProof.Rows.boot_min (sa_cons (se_varS 10 (pv 10)) (sa_cons (se_varS 11 (pv 11)) sa_nil))) (sa_cons (se_bi (AM.CallR.or (cr_max rfl) (call_max2 rfl)) ops_max (by rfl) V.b_max PyProof.Rows.boot_max (sa_cons (se_varS 10 (pv 10)) (sa_cons (se_varS 11 (pv 11)) sa_nil))) sa_nil))) sa_nil) (.inl rfl))))))
    (sss_cons (ss_if (st_c cr_gt (se_varS 4 (pv 4)) se_int) (sss_one (ss_for (qq := false) (passes_of rfl) rfl (si_rg1 (by rfl) V.b_range (sa_cons (se_call1 tk (d__law_take V) (hr.mono (by decide)) (by rfl) (sw_io (sl_var 0 (pv 0)) (sw_own (se_sub (se_add (se_varS 3 (pv 3)) se_int) (se_varS 4 (pv 4))) sw_nil) (.inl rfl))) sa_nil)) (sg_name nd rfl (.inl rfl) rfl) (sss_cons (ss_set (i := 10) nd rfl (.inl rfl) rfl (se_fz (se_call1 tk (d__law_take V) (hr.mono (by decide)) (by rfl) (sw_io (sl_var 0 (pv 0)) (sw_own (se_sub (se_varS 4 (pv 4)) se_int) sw_nil) (.inl rfl)))))
    (sss_one (ss_expr (se_meth PySem.F.slot_list_append PySem.F.type_list_append mt_append opi_app (sl_var 7 (pv 7)) (sa_cons (se_tup (sa_cons (se_varS 10 (pv 10)) (sa_cons (se_add (se_add (se_varS 10 (pv 10)) se_int) (se_call1 tk (d__law_take V) (hr.mono (by decide)) (by rfl) (sw_io (sl_var 0 (pv 0)) (sw_own (se_sub (se_sub (se_varS 4 (pv 4)) se_int) (se_varS 10 (pv 10))) sw_nil) (.inl rfl)))) sa_nil))) sa_nil) (.inr root_var))))))) sss_nil)
    (sss_cons (ss_set (i := 9) nd rfl (.inl rfl) rfl (se_lst sa_nil))
    (sss_cons (ss_while fu (passes_of rfl) (st_c (cr_ne hr.units) (se_var 7 (pv 7)) (se_lst sa_nil)) (sss_one (ss_expr (se_meth PySem.F.slot_list_append PySem.F.type_list_append mt_append opi_app (sl_var 9 (pv 9)) (sa_cons (se_meth PySem.F.slot_list_pop PySem.F.type_list_pop mt_popAt opi_popAt (sl_var 7 (pv 7)) (sa_cons (se_call1 tk (d__law_take V) (hr.mono (by decide)) (by rfl) (sw_io (sl_var 0 (pv 0)) (sw_own (se_bi call_len ops_len (by rfl) V.b_len PySem.boot_len (sa_cons (se_var 7 (pv 7)) sa_nil)) sw_nil) (.inl rfl))) sa_nil) (.inr root_var)) sa_nil) (.inr root_var)))))
    (sss_one (ss_ret (se_tup (sa_cons (se_varS 4 (pv 4)) (sa_cons (se_mov 9 (pv 9)) sa_nil))))))))))))))
theorem sc__law_pile : FnScope ["_law_script", "_law_k", "_law_cell"] ["_law_script", "_law_k"] (defScope s__law_pile) := ⟨rfl, rfl, rfl, by decide +kernel, rfl, by decide +kernel, by decide +kernel⟩
theorem d__law_pile (V : Facts K mg) : Df P w K mg base "_law_pile" 2 (m__law_pile) 1 := by
  obtain ⟨f, fd, F, hm⟩ := V.f__law_pile
  refine ⟨⟨f, fd, ["_law_script", "_law_k"], fn_ok F sc__law_pile rfl (by decide) (fun cdv A outer s H E hr => ?_), hm, F.kp, F.binds fun _ _ _ _ _ _ us hl => match us, hl with | [_, _], _ => rfl⟩, fnM_len⟩
  have nd := (sc__law_pile).nd
  have tk : Takes (cxOf (L2.CX P w) P w K mg base ["_law_script", "_law_k", "_law_cell"] "_law_pile" (defScope s__law_pile) f cdv A outer s H E) (fun cls d _ H' => E cls d H') := takes_of rfl rfl rfl rfl
  exact (sss_cons (ss_set (i := 2) nd rfl (.inl rfl) rfl se_int)
    (sss_cons (ss_if (st_c cr_lt (se_varS 1 (pv 1)) (se_bi call_len ops_len (by rfl) V.b_len PySem.boot_len (sa_cons (se_varS 0 (pv 0)) sa_nil))) (sss_one (ss_set (i := 2) nd rfl (.inl rfl) rfl (se_fz (se_ix (se_varS 0 (pv 0)) (se_varS 1 (pv 1)) (fun _ _ => rfl))))) sss_nil)
    (sss_one (ss_ret (se_lst (sa_cons (se_ix (se_lst (sa_cons se_int (sa_cons (se_mod (se_varS 2 (pv 2)) (se_mul (se_mul (se_pow se_int se_int) (se_pow se_int se_int)) (se_pow se_int se_int))) sa_nil))) (se_ty (AM.CallR.or call_int1 call_int_str) ops_int (by rfl) V.b_int PyProof.Rows.boot_int (sa_cons (se_c cr_ge (se_bi call_abs ops_abs (by rfl) V.b_abs PyProof.Rows.boot_abs (sa_cons (se_varS 2 (pv 2)) sa_nil)) (se_pow se_int se_int)) sa_nil)) (fun _ _ => rfl)) (sa_cons (se_mod (se_varS 2 (pv 2)) se_int) (sa_cons (se_mul se_int (se_varS 1 (pv 1))) sa_nil))))))))
theorem sc__law_number : FnScope ["_law_pile_here", "_law_way", "_law_number_here", "_law_turn"] ["_law_pile_here"] (defScope s__law_number) := ⟨rfl, rfl, rfl, by decide +kernel, rfl, by decide +kernel, by decide +kernel⟩
theorem d__law_number (V : Facts K mg) : Df P w K mg base "_law_number" 1 (m__law_number) 3 := by
  obtain ⟨f, fd, F, hm⟩ := V.f__law_number
  refine ⟨⟨f, fd, ["_law_pile_here"], fn_ok F sc__law_number rfl (by decide) (fun cdv A outer s H E hr => ?_), hm, F.kp, F.binds fun _ _ _ _ _ _ us hl => match us, hl with | [_], _ => rfl⟩, fnM_len⟩
  have nd := (sc__law_number).nd
  have tk : Takes (cxOf (L2.CX P w) P w K mg base ["_law_pile_here", "_law_way", "_law_number_here", "_law_turn"] "_law_number" (defScope s__law_number) f cdv A outer s H E) (fun cls d _ H' => E cls d H') := takes_of rfl rfl rfl rfl
  exact (sss_cons (ss_set (i := 1) nd rfl (.inl rfl) rfl (se_fz (se_call1 tk (d__law_take V) (hr.mono (by decide)) (by rfl) (sw_io (sl_var 0 (pv 0)) (sw_own se_int sw_nil) (.inl rfl)))))
    (sss_cons (ss_if (st_c cr_lt (se_varS 1 (pv 1)) se_int) (sss_cons (ss_set (i := 2) nd rfl (.inl rfl) rfl se_int)
    (sss_cons (ss_for (qq := false) (passes_of rfl) rfl (si_rg1 (by rfl) V.b_range (sa_cons se_int sa_nil)) (sg_name nd rfl (.inl rfl) rfl) (sss_one (ss_set (i := 2) nd rfl (.inl rfl) rfl (se_fz (se_add (se_mul (se_varS 2 (pv 2)) (se_pow se_int se_int)) (se_call1 tk (d__law_take V) (hr.mono (by decide)) (by rfl) (sw_io (sl_var 0 (pv 0)) (sw_own (se_pow se_int se_int) sw_nil) (.inl rfl))))))))
    (sss_one (ss_ret (se_ix (se_lst (sa_cons (se_varS 2 (pv 2)) (sa_cons (se_neg (se_varS 2 (pv 2))) sa_nil))) (se_varS 1 (pv 1)) (fun _ _ => rfl)))))) sss_nil)
    (sss_one (ss_ret (se_sub (se_call1 tk (d__law_take V) (hr.mono (by decide)) (by rfl) (sw_io (sl_var 0 (pv 0)) (sw_own (se_fz (se_ix (se_lst (sa_cons se_int (sa_cons se_int sa_nil))) (se_mod (se_varS 1 (pv 1)) se_int) (fun _ _ => rfl))) sw_nil) (.inl rfl))) (se_ix (se_lst (sa_cons se_int (sa_cons se_int sa_nil))) (se_mod (se_varS 1 (pv 1)) se_int) (fun _ _ => rfl)))))))
theorem sc__law_numbers : FnScope ["_law_pile_here", "_law_n", "_law_small", "_law_k"] ["_law_pile_here", "_law_n"] (defScope s__law_numbers) := ⟨rfl, rfl, rfl, by decide +kernel, rfl, by decide +kernel, by decide +kernel⟩
theorem d__law_numbers (V : Facts K mg) : Df P w K mg base "_law_numbers" 2 (m__law_numbers) 4 := by
  obtain ⟨f, fd, F, hm⟩ := V.f__law_numbers
  refine ⟨⟨f, fd, ["_law_pile_here", "_law_n"], fn_ok F sc__law_numbers rfl (by decide) (fun cdv A outer s H E hr => ?_), hm, F.kp, F.binds fun _ _ _ _ _ _ us hl => match us, hl with | [_, _], _ => rfl⟩, fnM_len⟩
  have nd := (sc__law_numbers).nd
  have tk : Takes (cxOf (L2.CX P w) P w K mg base ["_law_pile_here", "_law_n", "_law_small", "_law_k"] "_law_numbers" (defScope s__law_numbers) f cdv A outer s H E) (fun cls d _ H' => E cls d H') := takes_of rfl rfl rfl rfl
  exact (sss_cons (ss_set (i := 2) nd rfl (.inl rfl) rfl (se_c cr_gt (se_call1 tk (d__law_take V) (hr.mono (by decide)) (by rfl) (sw_io (sl_var 0 (pv 0)) (sw_own se_int sw_nil) (.inl rfl))) se_int))
    (sss_cons (ss_if (st_val (se_varS 2 (pv 2))) (sss_one (ss_ret (se_lc (q := false) rfl nd (si_p (si_rg1 (by rfl) V.b_range (sa_cons (se_varS 1 (pv 1)) sa_nil))) (blkOk_by (own := [("_law_k", 3)]) (by kernel_rfl)) (fun b => (sg_name nd rfl (.inl rfl) rfl)) (fun b => (sts_p sts_nil)) (fun b => (se_sub (se_call1 takes0 (d__law_take V) (hr.mono (by decide)) (by rfl) (sw_io (sl_var 0 (pv 0)) (sw_own se_int sw_nil) (.inl rfl))) se_int))))) sss_nil)
    (sss_one (ss_ret (se_lc (q := false) rfl nd (si_p (si_rg1 (by rfl) V.b_range (sa_cons (se_varS 1 (pv 1)) sa_nil))) (blkOk_by (own := [("_law_k", 3)]) (by kernel_rfl)) (fun b => (sg_name nd rfl (.inl rfl) rfl)) (fun b => (sts_p sts_nil)) (fun b => (se_call1 takes0 (d__law_number V) (hr.mono (by decide)) (by rfl) (sw_io (sl_var 0 (pv 0)) sw_nil (.inl rfl)))))))))
theorem sc_look_at_dues : FnScope ["web", "dues"] ["web", "dues"] (defScope s_look_at_dues) := ⟨rfl, rfl, rfl, by decide +kernel, rfl, by decide +kernel, by decide +kernel⟩
theorem d_look_at_dues (V : Facts K mg) : Df P w K mg base "look_at_dues" 2 (m_look_at_dues) 1 := by
  obtain ⟨f, fd, F, hm⟩ := V.f_look_at_dues
  refine ⟨⟨f, fd, ["web", "dues"], fn_ok F sc_look_at_dues rfl (by decide) (fun cdv A outer s H E hr => ?_), hm, F.kp, F.binds fun _ _ _ _ _ _ us hl => match us, hl with | [_, _], _ => rfl⟩, fnM_len⟩
  have nd := (sc_look_at_dues).nd
  have tk : Takes (cxOf (L2.CX P w) P w K mg base ["web", "dues"] "look_at_dues" (defScope s_look_at_dues) f cdv A outer s H E) (fun cls d _ H' => E cls d H') := takes_of rfl rfl rfl rfl
  exact (sss_one (ss_if (st_c (cr_ne hr.units) (se_bi call_len ops_len (by rfl) V.b_len PySem.boot_len (sa_cons (se_varS 1 (pv 1)) sa_nil)) (se_ix (se_varS 0 (pv 0)) se_int (fun _ _ => rfl))) (sss_one (ss_raise rfl tk V.e_NoDues (by rfl))) sss_nil))
theorem sc_look_at_place : FnScope ["web", "place"] ["web", "place"] (defScope s_look_at_place) := ⟨rfl, rfl, rfl, by decide +kernel, rfl, by decide +kernel, by decide +kernel⟩
theorem d_look_at_place (V : Facts K mg) : Df P w K mg base "look_at_place" 2 (m_look_at_place) 1 := by
  obtain ⟨f, fd, F, hm⟩ := V.f_look_at_place
  refine ⟨⟨f, fd, ["web", "place"], fn_ok F sc_look_at_place rfl (by decide) (fun cdv A outer s H E hr => ?_), hm, F.kp, F.binds fun _ _ _ _ _ _ us hl => match us, hl with | [_, _], _ => rfl⟩, fnM_len⟩
  have nd := (sc_look_at_place).nd
  have tk : Takes (cxOf (L2.CX P w) P w K mg base ["web", "place"] "look_at_place" (defScope s_look_at_place) f cdv A outer s H E) (fun cls d _ H' => E cls d H') := takes_of rfl rfl rfl rfl
  exact (sss_one (ss_if (st_w (sw_or (st_c cr_lt (se_varS 1 (pv 1)) se_int) (sw_or1 (st_c cr_ge (se_varS 1 (pv 1)) (se_ix (se_varS 0 (pv 0)) se_int (fun _ _ => rfl)))))) (sss_one ss_stuck) sss_nil))
theorem sc_near_of : FnScope ["web", "found", "n", "ties", "a", "b", "place"] ["web"] (defScope s_near_of) := ⟨rfl, rfl, rfl, by decide +kernel, rfl, by decide +kernel, by decide +kernel⟩
theorem d_near_of (V : Facts K mg) : Df P w K mg base "near_of" 1 (m_near_of) 1 := by
  obtain ⟨f, fd, F, hm⟩ := V.f_near_of
  refine ⟨⟨f, fd, ["web"], fn_ok F sc_near_of rfl (by decide) (fun cdv A outer s H E hr => ?_), hm, F.kp, F.binds fun _ _ _ _ _ _ us hl => match us, hl with | [_], _ => rfl⟩, fnM_len⟩
  have nd := (sc_near_of).nd
  have tk : Takes (cxOf (L2.CX P w) P w K mg base ["web", "found", "n", "ties", "a", "b", "place"] "near_of" (defScope s_near_of) f cdv A outer s H E) (fun cls d _ H' => E cls d H') := takes_of rfl rfl rfl rfl
  exact (sss_cons (ss_asg (qq := false) (se_varS 0 (pv 0)) (sg_tup rfl (sgs_cons (sg_name nd rfl (.inr rfl) rfl) (sgs_cons (sg_name nd rfl (.inl rfl) rfl) sgs_nil))))
    (sss_cons (ss_lcP (i := 1) rfl rfl nd rfl rfl (sw_true rfl rfl rfl (by decide +kernel)) (si_rg1 (by rfl) V.b_range (sa_cons (se_varS 2 (pv 2)) sa_nil)) (blkOk_by (own := [("place", 6)]) (by kernel_rfl)) (fun b => (sg_name nd rfl (.inl rfl) rfl)) (fun b => sts_nil) (fun b => (se_mul (se_lst (sa_cons se_int sa_nil)) (se_varS 2 (pv 2)))))
    (sss_cons (ss_for (qq := false) (passes_of rfl) rfl (si_list (se_varS 3 (pv 3))) (sg_tup rfl (sgs_cons (sg_name nd rfl (.inl rfl) rfl) (sgs_cons (sg_name nd rfl (.inl rfl) rfl) sgs_nil))) (sss_cons (ss_augI ip_add (sl_ix (Wx := W0) (sl_var 1 (pv 1)) (se_varS 4 (pv 4)) (fun _ _ => rfl)) (se_varS 5 (pv 5)) se_int (by intros; rfl))
    (sss_one (ss_augI ip_add (sl_ix (Wx := W0) (sl_var 1 (pv 1)) (se_varS 5 (pv 5)) (fun _ _ => rfl)) (se_varS 4 (pv 4)) se_int (by intros; rfl)))))
    (sss_one (ss_ret (se_mov 1 (pv 1)))))))
theorem sc_Bringing_init : FnScope ["self", "web", "dues", "place"] ["self", "web", "dues", "place"] (defScope s_Bringing_init) := ⟨rfl, rfl, rfl, by decide +kernel, rfl, by decide +kernel, by decide +kernel⟩
theorem d_Bringing_init (V : Facts K mg) : DfI P w K mg base "Bringing" 4 (m_Bringing_init) 2 := by
  obtain ⟨C, f, fd, F, hC, cl, me⟩ := V.f_Bringing_init
  refine ⟨⟨C, f, fd, ["self", "web", "dues", "place"], fn_ok F sc_Bringing_init rfl (by decide) (fun cdv A outer s H E hr => ?_), hC, me, F.binds fun _ _ _ _ _ _ us hl => match us, hl with | [_, _, _, _], _ => rfl⟩, fnM_len⟩
  have nd := (sc_Bringing_init).nd
  have tk : Takes (cxOf (L2.CX P w) P w K mg base ["self", "web", "dues", "place"] "Bringing.__init__" (defScope s_Bringing_init) f cdv A outer s H E) (fun cls d _ H' => E cls d H') := takes_of rfl rfl rfl rfl
  exact (sss_cons (ss_fldN (fs0 := []) V.at_Bringing_web (by decide +kernel) (by decide +kernel) (sl_var 0 (pv 0)) (se_varS 1 (pv 1)))
    (sss_cons (ss_fldN (fs0 := ["web"]) V.at_Bringing_near (by decide +kernel) (by decide +kernel) (sl_var 0 (pv 0)) (se_call0 tk (d_near_of V) (hr.mono (by decide)) (by rfl) (sw_own (se_varS 1 (pv 1)) sw_nil)))
    (sss_cons (ss_fldN (fs0 := ["web", "near"]) V.at_Bringing_place (by decide +kernel) (by decide +kernel) (sl_var 0 (pv 0)) (se_varS 3 (pv 3)))
    (sss_cons (ss_fldN (fs0 := ["web", "near", "place"]) V.at_Bringing_dues (by decide +kernel) (by decide +kernel) (sl_var 0 (pv 0)) (se_ty call_list_of ops_list (by rfl) V.b_list PyProof.Rows.boot_list (sa_cons (se_varS 2 (pv 2)) sa_nil)))
    (sss_one (ss_fldN (fs0 := ["web", "near", "place", "dues"]) V.at_Bringing_times (by decide +kernel) (by decide +kernel) (sl_var 0 (pv 0)) (se_mul (se_lst (sa_cons se_int sa_nil)) (se_ix (se_varS 1 (pv 1)) se_int (fun _ _ => rfl)))))))))
theorem sc_look_at_times : FnScope ["web", "times"] ["web", "times"] (defScope s_look_at_times) := ⟨rfl, rfl, rfl, by decide +kernel, rfl, by decide +kernel, by decide +kernel⟩
theorem d_look_at_times (V : Facts K mg) : Df P w K mg base "look_at_times" 2 (m_look_at_times) 1 := by
  obtain ⟨f, fd, F, hm⟩ := V.f_look_at_times
  refine ⟨⟨f, fd, ["web", "times"], fn_ok F sc_look_at_times rfl (by decide) (fun cdv A outer s H E hr => ?_), hm, F.kp, F.binds fun _ _ _ _ _ _ us hl => match us, hl with | [_, _], _ => rfl⟩, fnM_len⟩
  have nd := (sc_look_at_times).nd
  have tk : Takes (cxOf (L2.CX P w) P w K mg base ["web", "times"] "look_at_times" (defScope s_look_at_times) f cdv A outer s H E) (fun cls d _ H' => E cls d H') := takes_of rfl rfl rfl rfl
  exact (sss_one (ss_if (st_c (cr_ne hr.units) (se_bi call_len ops_len (by rfl) V.b_len PySem.boot_len (sa_cons (se_varS 1 (pv 1)) sa_nil)) (se_ix (se_varS 0 (pv 0)) se_int (fun _ _ => rfl))) (sss_one (ss_raise rfl tk V.e_NoTimes (by rfl))) sss_nil))
theorem sc_lent : FnScope ["web", "dues", "times", "found", "a", "b", "many"] ["web", "dues", "times"] (defScope s_lent) := ⟨rfl, rfl, rfl, by decide +kernel, rfl, by decide +kernel, by decide +kernel⟩
theorem d_lent (V : Facts K mg) : Df P w K mg base "lent" 3 (m_lent) 2 := by
  obtain ⟨f, fd, F, hm⟩ := V.f_lent
  refine ⟨⟨f, fd, ["web", "dues", "times"], fn_ok F sc_lent rfl (by decide) (fun cdv A outer s H E hr => ?_), hm, F.kp, F.binds fun _ _ _ _ _ _ us hl => match us, hl with | [_, _, _], _ => rfl⟩, fnM_len⟩
  have nd := (sc_lent).nd
  have tk : Takes (cxOf (L2.CX P w) P w K mg base ["web", "dues", "times", "found", "a", "b", "many"] "lent" (defScope s_lent) f cdv A outer s H E) (fun cls d _ H' => E cls d H') := takes_of rfl rfl rfl rfl
  exact (sss_cons (ss_expr (se_call0 tk (d_look_at_dues V) (hr.mono (by decide)) (by rfl) (sw_own (se_varS 0 (pv 0)) (sw_own (se_varS 1 (pv 1)) sw_nil))))
    (sss_cons (ss_expr (se_call0 tk (d_look_at_times V) (hr.mono (by decide)) (by rfl) (sw_own (se_varS 0 (pv 0)) (sw_own (se_varS 2 (pv 2)) sw_nil))))
    (sss_cons (ss_set (i := 3) nd rfl (.inl rfl) rfl (se_ty call_list_of ops_list (by rfl) V.b_list PyProof.Rows.boot_list (sa_cons (se_varS 1 (pv 1)) sa_nil)))
    (sss_cons (ss_for (qq := false) (passes_of rfl) rfl (si_list (se_ix (se_varS 0 (pv 0)) se_int (fun _ _ => rfl))) (sg_tup rfl (sgs_cons (sg_name nd rfl (.inl rfl) rfl) (sgs_cons (sg_name nd rfl (.inl rfl) rfl) sgs_nil))) (sss_cons (ss_set (i := 6) nd rfl (.inl rfl) rfl (se_sub (se_ix (se_varS 2 (pv 2)) (se_varS 4 (pv 4)) (fun _ _ => rfl)) (se_ix (se_varS 2 (pv 2)) (se_varS 5 (pv 5)) (fun _ _ => rfl))))
    (sss_cons (ss_augI ip_sub (sl_var 3 (pv 3)) (se_varS 4 (pv 4)) (se_varS 6 (pv 6)) (by intros; rfl))
    (sss_one (ss_augI ip_add (sl_var 3 (pv 3)) (se_varS 5 (pv 5)) (se_varS 6 (pv 6)) (by intros; rfl))))))
    (sss_one (ss_ret (se_mov 3 (pv 3))))))))
theorem sc_Bringing_ties_to : FnScope ["self", "place", "lot", "other"] ["self", "place", "lot"] (defScope s_Bringing_ties_to) := ⟨rfl, rfl, rfl, by decide +kernel, rfl, by decide +kernel, by decide +kernel⟩
theorem d_Bringing_ties_to (V : Facts K mg) : DfM P w K mg base "Bringing" "ties_to" 3 (m_Bringing_ties_to) 1 := by
  obtain ⟨C, f, fd, F, hC, cl, me⟩ := V.f_Bringing_ties_to
  refine ⟨⟨C, f, fd, ["self", "place", "lot"], fn_ok F sc_Bringing_ties_to rfl (by decide) (fun cdv A outer s H E hr => ?_), hC, cl, me, F.binds fun _ _ _ _ _ _ us hl => match us, hl with | [_, _, _], _ => rfl⟩, fnM_len⟩
  have nd := (sc_Bringing_ties_to).nd
  have tk : Takes (cxOf (L2.CX P w) P w K mg base ["self", "place", "lot", "other"] "Bringing.ties_to" (defScope s_Bringing_ties_to) f cdv A outer s H E) (fun cls d _ H' => E cls d H') := takes_of rfl rfl rfl rfl
  exact (sss_one (ss_ret (se_bi (cr_sum rfl) ops_sum (by rfl) V.b_sum PyProof.Rows.boot_sum (sa_cons (se_lcP rfl nd (si_list (se_varS 2 (pv 2))) (blkOk_by (own := [("other", 3)]) (by kernel_rfl)) (fun b => (sg_name nd rfl (.inl rfl) rfl)) (fun b => sts_nil) (fun b => (se_ix (se_ix (se_fldS V.at_Bringing_near nd_Bringing rfl (se_varS 0 (pv 0))) (se_varS 1 (pv 1)) (fun _ _ => rfl)) (se_varS 3 (pv 3)) (fun _ _ => rfl)))) sa_nil))))
theorem sc_Bringing_layers : FnScope ["self", "found", "seen", "fresh", "place"] ["self"] (defScope s_Bringing_layers) := ⟨rfl, rfl, rfl, by decide +kernel, rfl, by decide +kernel, by decide +kernel⟩
theorem d_Bringing_layers (V : Facts K mg) (fu : Nat) : DfM P w K mg base "Bringing" "layers" 1 (m_Bringing_layers fu) 2 := by
  obtain ⟨C, f, fd, F, hC, cl, me⟩ := V.f_Bringing_layers
  refine ⟨⟨C, f, fd, ["self"], fn_ok F sc_Bringing_layers rfl (by decide) (fun cdv A outer s H E hr => ?_), hC, cl, me, F.binds fun _ _ _ _ _ _ us hl => match us, hl with | [_], _ => rfl⟩, fnM_len⟩
  have nd := (sc_Bringing_layers).nd
  have tk : Takes (cxOf (L2.CX P w) P w K mg base ["self", "found", "seen", "fresh", "place"] "Bringing.layers" (defScope s_Bringing_layers) f cdv A outer s H E) (fun cls d _ H' => E cls d H') := takes_of rfl rfl rfl rfl
  exact (sss_cons (ss_set (i := 1) nd rfl (.inr rfl) rfl (se_lst (sa_cons (se_fz (se_lst (sa_cons (se_pkS (sl_fld V.at_Bringing_place nd_Bringing rfl (sl_var 0 (pv 0)))) sa_nil))) sa_nil)))
    (sss_cons (ss_set (i := 2) nd rfl (.inr rfl) rfl (se_lst (sa_cons (se_pkS (sl_fld V.at_Bringing_place nd_Bringing rfl (sl_var 0 (pv 0)))) sa_nil)))
    (sss_cons (ss_while fu (passes_of rfl) (st_c cr_lt (se_bi call_len ops_len (by rfl) V.b_len PySem.boot_len (sa_cons (se_var 2 (pv 2)) sa_nil)) (se_ix (se_pkS (sl_fld V.at_Bringing_web nd_Bringing rfl (sl_var 0 (pv 0)))) se_int (fun _ _ => rfl))) (sss_cons (ss_lcPZ (i := 3) rfl rfl nd rfl rfl (sw_true rfl rfl rfl (by decide +kernel)) (si_rg1 (by rfl) V.b_range (sa_cons (se_ix (se_pkS (sl_fld V.at_Bringing_web nd_Bringing rfl (sl_var 0 (pv 0)))) se_int (fun _ _ => rfl)) sa_nil)) (blkOk_by (own := [("place", 4)]) (by kernel_rfl)) (fun b => (sg_name nd rfl (.inl rfl) rfl)) (fun b => (sts_one (st_w (sw_and (st_c (cr_notIn (r65 hr) (by rfl)) (se_varS 4 (pv 4)) (se_var 2 (pv 2))) (sw_and1 (st_c cr_gt (se_mtB (d_Bringing_ties_to V) (hr.mono (by decide)) (pv 0) (fs0 := fs_Bringing) (by decide +kernel) (sw_own (se_varS 4 (pv 4)) (sw_bor (sl_ix (Wx := W0) (sl_var 1 (pv 1)) (se_neg se_int) (fun _ _ => rfl)) sw_nil (.inl rfl)))) se_int)))))) (fun b => (se_varS 4 (pv 4))))
    (sss_cons (ss_expr (se_meth PySem.F.slot_list_append PySem.F.type_list_append mt_append opi_app (sl_var 1 (pv 1)) (sa_cons (se_varS 3 (pv 3)) sa_nil) (.inl rfl)))
    (sss_one (ss_expr (se_meth PySem.F.slot_list_extend PySem.F.type_list_extend mt_extend opi_ext (sl_var 2 (pv 2)) (sa_cons (se_varS 3 (pv 3)) sa_nil) (.inl rfl)))))))
    (sss_one (ss_ret (se_mov 1 (pv 1)))))))
theorem sc_put_together : FnScope ["one", "other", "k"] ["one", "other"] (defScope s_put_together) := ⟨rfl, rfl, rfl, by decide +kernel, rfl, by decide +kernel, by decide +kernel⟩
theorem d_put_together (V : Facts K mg) : Df P w K mg base "put_together" 2 (m_put_together) 1 := by
  obtain ⟨f, fd, F, hm⟩ := V.f_put_together
  refine ⟨⟨f, fd, ["one", "other"], fn_ok F sc_put_together rfl (by decide) (fun cdv A outer s H E hr => ?_), hm, F.kp, F.binds fun _ _ _ _ _ _ us hl => match us, hl with | [_, _], _ => rfl⟩, fnM_len⟩
  have nd := (sc_put_together).nd
  have tk : Takes (cxOf (L2.CX P w) P w K mg base ["one", "other", "k"] "put_together" (defScope s_put_together) f cdv A outer s H E) (fun cls d _ H' => E cls d H') := takes_of rfl rfl rfl rfl
  exact (sss_one (ss_ret (se_lcP rfl nd (si_rg1 (by rfl) V.b_range (sa_cons (se_bi call_len ops_len (by rfl) V.b_len PySem.boot_len (sa_cons (se_varS 0 (pv 0)) sa_nil)) sa_nil)) (blkOk_by (own := [("k", 2)]) (by kernel_rfl)) (fun b => (sg_name nd rfl (.inl rfl) rfl)) (fun b => sts_nil) (fun b => (se_add (se_ix (se_varS 0 (pv 0)) (se_varS 2 (pv 2)) (fun _ _ => rfl)) (se_ix (se_varS 1 (pv 1)) (se_varS 2 (pv 2)) (fun _ _ => rfl)))))))
theorem sc_Bringing_lend : FnScope ["self", "lot", "number", "times", "place"] ["self", "lot", "number"] (defScope s_Bringing_lend) := ⟨rfl, rfl, rfl, by decide +kernel, rfl, by decide +kernel, by decide +kernel⟩
theorem d_Bringing_lend (V : Facts K mg) : DfM P w K mg base "Bringing" "lend" 3 (m_Bringing_lend) 3 := by
  obtain ⟨C, f, fd, F, hC, cl, me⟩ := V.f_Bringing_lend
  refine ⟨⟨C, f, fd, ["self", "lot", "number"], fn_ok F sc_Bringing_lend rfl (by decide) (fun cdv A outer s H E hr => ?_), hC, cl, me, F.binds fun _ _ _ _ _ _ us hl => match us, hl with | [_, _, _], _ => rfl⟩, fnM_len⟩
  have nd := (sc_Bringing_lend).nd
  have tk : Takes (cxOf (L2.CX P w) P w K mg base ["self", "lot", "number", "times", "place"] "Bringing.lend" (defScope s_Bringing_lend) f cdv A outer s H E) (fun cls d _ H' => E cls d H') := takes_of rfl rfl rfl rfl
  exact (sss_cons (ss_lcPZ (i := 3) rfl rfl nd rfl rfl (sw_true rfl rfl rfl (by decide +kernel)) (si_rg1 (by rfl) V.b_range (sa_cons (se_ix (se_pkS (sl_fld V.at_Bringing_web nd_Bringing rfl (sl_var 0 (pv 0)))) se_int (fun _ _ => rfl)) sa_nil)) (blkOk_by (own := [("place", 4)]) (by kernel_rfl)) (fun b => (sg_name nd rfl (.inl rfl) rfl)) (fun b => sts_nil) (fun b => (se_mul (se_varS 2 (pv 2)) (se_ty (AM.CallR.or call_int1 call_int_str) ops_int (by rfl) V.b_int PyProof.Rows.boot_int (sa_cons (se_c (cr_in (r65 hr) (by rfl)) (se_varS 4 (pv 4)) (se_varS 1 (pv 1))) sa_nil)))))
    (sss_cons (ss_fldS V.at_Bringing_dues nd_Bringing rfl (by decide +kernel) (sl_var 0 (pv 0)) (se_call0 tk (d_lent V) (hr.mono (by decide)) (by rfl) (sw_bor (sl_fld V.at_Bringing_web nd_Bringing rfl (sl_var 0 (pv 0))) (sw_bor (sl_fld V.at_Bringing_dues nd_Bringing rfl (sl_var 0 (pv 0))) (sw_own (se_varS 3 (pv 3)) sw_nil) (.inl rfl)) (.inl rfl))))
    (sss_one (ss_fldS V.at_Bringing_times nd_Bringing rfl (by decide +kernel) (sl_var 0 (pv 0)) (se_call0 tk (d_put_together V) (hr.mono (by decide)) (by rfl) (sw_bor (sl_fld V.at_Bringing_times nd_Bringing rfl (sl_var 0 (pv 0))) (sw_own (se_varS 3 (pv 3)) sw_nil) (.inl rfl)))))))
theorem sc_Bringing_pay : FnScope ["self", "layers", "far", "owed", "nearer", "layer", "place"] ["self"] (defScope s_Bringing_pay) := ⟨rfl, rfl, rfl, by decide +kernel, rfl, by decide +kernel, by decide +kernel⟩
theorem d_Bringing_pay (V : Facts K mg) (fu : Nat) : DfM P w K mg base "Bringing" "pay" 1 (m_Bringing_pay fu) 4 := by
  obtain ⟨C, f, fd, F, hC, cl, me⟩ := V.f_Bringing_pay
  refine ⟨⟨C, f, fd, ["self"], fn_ok F sc_Bringing_pay rfl (by decide) (fun cdv A outer s H E hr => ?_), hC, cl, me, F.binds fun _ _ _ _ _ _ us hl => match us, hl with | [_], _ => rfl⟩, fnM_len⟩
  have nd := (sc_Bringing_pay).nd
  have tk : Takes (cxOf (L2.CX P w) P w K mg base ["self", "layers", "far", "owed", "nearer", "layer", "place"] "Bringing.pay" (defScope s_Bringing_pay) f cdv A outer s H E) (fun cls d _ H' => E cls d H') := takes_of rfl rfl rfl rfl
  exact (sss_cons (ss_set (i := 1) nd rfl (.inl rfl) rfl (se_fz (se_mt10 (d_Bringing_layers V fu) (hr.mono (by decide)) (pv 0) (fs0 := fs_Bringing) (by decide +kernel))))
    (sss_one (ss_for (qq := false) (passes_of rfl) rfl (si_rg3 (by rfl) V.b_range (sa_cons (se_sub (se_bi call_len ops_len (by rfl) V.b_len PySem.boot_len (sa_cons (se_varS 1 (pv 1)) sa_nil)) se_int) (sa_cons se_int (sa_cons (se_neg se_int) sa_nil)))) (sg_name nd rfl (.inl rfl) rfl) (sss_cons (ss_set (i := 3) nd rfl (.inl rfl) rfl (se_fz (se_bi (AM.CallR.or (cr_max rfl) (call_max2 rfl)) ops_max (by rfl) V.b_max PyProof.Rows.boot_max (sa_cons (se_lcP rfl nd (si_list (se_ix (se_varS 1 (pv 1)) (se_varS 2 (pv 2)) (fun _ _ => rfl))) (blkOk_by (own := [("place", 6)]) (by kernel_rfl)) (fun b => (sg_name nd rfl (.inl rfl) rfl)) (fun b => sts_nil) (fun b => (se_neg (se_ix (se_pk (sl_fld V.at_Bringing_dues nd_Bringing rfl (sl_var 0 (pv 0)))) (se_varS 6 (pv 6)) (fun _ _ => rfl))))) sa_nil))))
    (sss_one (ss_if (st_c cr_gt (se_varS 3 (pv 3)) se_int) (sss_cons (ss_set (i := 4) nd rfl (.inl rfl) rfl (se_lst sa_nil))
    (sss_cons (ss_for (qq := false) (passes_of rfl) rfl (si_list (se_sl (se_varS 1 (pv 1)) so_none (so_some (se_varS 2 (pv 2))))) (sg_name nd rfl (.inl rfl) rfl) (sss_one (ss_expr (se_meth PySem.F.slot_list_extend PySem.F.type_list_extend mt_extend opi_ext (sl_var 4 (pv 4)) (sa_cons (se_varS 5 (pv 5)) sa_nil) (.inl rfl)))))
    (sss_one (ss_expr (se_mt1 (d_Bringing_lend V) (hr.mono (by decide)) (pv 0) (fs0 := fs_Bringing) (by decide +kernel) (sw_own (se_frz 4 (pv 4)) (sw_own (se_varS 3 (pv 3)) sw_nil))))))) sss_nil))))))
theorem sc_Bringing_order : FnScope ["self", "found", "fresh", "place"] ["self"] (defScope s_Bringing_order) := ⟨rfl, rfl, rfl, by decide +kernel, rfl, by decide +kernel, by decide +kernel⟩
theorem d_Bringing_order (V : Facts K mg) (fu : Nat) : DfM P w K mg base "Bringing" "order" 1 (m_Bringing_order fu) 2 := by
  obtain ⟨C, f, fd, F, hC, cl, me⟩ := V.f_Bringing_order
  refine ⟨⟨C, f, fd, ["self"], fn_ok F sc_Bringing_order rfl (by decide) (fun cdv A outer s H E hr => ?_), hC, cl, me, F.binds fun _ _ _ _ _ _ us hl => match us, hl with | [_], _ => rfl⟩, fnM_len⟩
  have nd := (sc_Bringing_order).nd
  have tk : Takes (cxOf (L2.CX P w) P w K mg base ["self", "found", "fresh", "place"] "Bringing.order" (defScope s_Bringing_order) f cdv A outer s H E) (fun cls d _ H' => E cls d H') := takes_of rfl rfl rfl rfl
  exact (sss_cons (ss_set (i := 1) nd rfl (.inl rfl) rfl (se_lst (sa_cons (se_fldS V.at_Bringing_place nd_Bringing rfl (se_varS 0 (pv 0))) sa_nil)))
    (sss_cons (ss_set (i := 2) nd rfl (.inl rfl) rfl (se_lst (sa_cons (se_fldS V.at_Bringing_place nd_Bringing rfl (se_varS 0 (pv 0))) sa_nil)))
    (sss_cons (ss_while fu (passes_of rfl) (st_c (cr_ne hr.units) (se_var 2 (pv 2)) (se_lst sa_nil)) (sss_cons (ss_set (i := 2) nd rfl (.inl rfl) rfl (se_lst sa_nil))
    (sss_one (ss_for (qq := false) (passes_of rfl) rfl (si_rg1 (by rfl) V.b_range (sa_cons (se_ix (se_fldS V.at_Bringing_web nd_Bringing rfl (se_varS 0 (pv 0))) se_int (fun _ _ => rfl)) sa_nil)) (sg_name nd rfl (.inl rfl) rfl) (sss_one (ss_if (st_w (sw_and (st_c (cr_notIn (r65 hr) (by rfl)) (se_varS 3 (pv 3)) (se_var 1 (pv 1))) (sw_and1 (st_c cr_lt (se_ix (se_fldS V.at_Bringing_dues nd_Bringing rfl (se_varS 0 (pv 0))) (se_varS 3 (pv 3)) (fun _ _ => rfl)) (se_mtS (d_Bringing_ties_to V) (hr.mono (by decide)) (pv 0) (fs0 := fs_Bringing) (by decide +kernel) (sw_own (se_varS 3 (pv 3)) (sw_bor (sl_var 1 (pv 1)) sw_nil (.inl rfl)))))))) (sss_cons (ss_expr (se_meth PySem.F.slot_list_append PySem.F.type_list_append mt_append opi_app (sl_var 1 (pv 1)) (sa_cons (se_varS 3 (pv 3)) sa_nil) (.inl rfl)))
    (sss_one (ss_expr (se_meth PySem.F.slot_list_append PySem.F.type_list_append mt_append opi_app (sl_var 2 (pv 2)) (sa_cons (se_varS 3 (pv 3)) sa_nil) (.inl rfl))))) sss_nil))))))
    (sss_one (ss_ret (se_mov 1 (pv 1)))))))
theorem sc_Bringing_draw_in : FnScope ["self", "order", "lot", "outs", "place", "many"] ["self"] (defScope s_Bringing_draw_in) := ⟨rfl, rfl, rfl, by decide +kernel, rfl, by decide +kernel, by decide +kernel⟩
theorem d_Bringing_draw_in (V : Facts K mg) (fu : Nat) : DfM P w K mg base "Bringing" "draw_in" 1 (m_Bringing_draw_in fu) 4 := by
  obtain ⟨C, f, fd, F, hC, cl, me⟩ := V.f_Bringing_draw_in
  refine ⟨⟨C, f, fd, ["self"], fn_ok F sc_Bringing_draw_in rfl (by decide) (fun cdv A outer s H E hr => ?_), hC, cl, me, F.binds fun _ _ _ _ _ _ us hl => match us, hl with | [_], _ => rfl⟩, fnM_len⟩
  have nd := (sc_Bringing_draw_in).nd
  have tk : Takes (cxOf (L2.CX P w) P w K mg base ["self", "order", "lot", "outs", "place", "many"] "Bringing.draw_in" (defScope s_Bringing_draw_in) f cdv A outer s H E) (fun cls d _ H' => E cls d H') := takes_of rfl rfl rfl rfl
  exact (sss_cons (ss_set (i := 1) nd rfl (.inr rfl) rfl (se_fz (se_mtB0 (d_Bringing_order V fu) (hr.mono (by decide)) (pv 0) (fs0 := fs_Bringing) (by decide +kernel))))
    (sss_one (ss_while fu (passes_of rfl) (st_c cr_lt (se_bi call_len ops_len (by rfl) V.b_len PySem.boot_len (sa_cons (se_varS 1 (pv 1)) sa_nil)) (se_ix (se_pkS (sl_fld V.at_Bringing_web nd_Bringing rfl (sl_var 0 (pv 0)))) se_int (fun _ _ => rfl))) (sss_cons (ss_lcPZ (i := 2) rfl rfl nd rfl rfl (sw_true rfl rfl rfl (by decide +kernel)) (si_rg1 (by rfl) V.b_range (sa_cons (se_ix (se_pkS (sl_fld V.at_Bringing_web nd_Bringing rfl (sl_var 0 (pv 0)))) se_int (fun _ _ => rfl)) sa_nil)) (blkOk_by (own := [("place", 4)]) (by kernel_rfl)) (fun b => (sg_name nd rfl (.inl rfl) rfl)) (fun b => (sts_one (st_c (cr_notIn (r65 hr) (by rfl)) (se_varS 4 (pv 4)) (se_varS 1 (pv 1))))) (fun b => (se_varS 4 (pv 4))))
    (sss_cons (ss_lcPZ (i := 3) rfl rfl nd rfl rfl (sw_true rfl rfl rfl (by decide +kernel)) (si_list (se_varS 2 (pv 2))) (blkOk_by (own := [("place", 4)]) (by kernel_rfl)) (fun b => (sg_name nd rfl (.inl rfl) rfl)) (fun b => sts_nil) (fun b => (se_tup (sa_cons (se_varS 4 (pv 4)) (sa_cons (se_mtB (d_Bringing_ties_to V) (hr.mono (by decide)) (pv 0) (fs0 := fs_Bringing) (by decide +kernel) (sw_own (se_varS 4 (pv 4)) (sw_own (se_varS 1 (pv 1)) sw_nil))) sa_nil)))))
    (sss_cons (ss_expr (se_mt1 (d_Bringing_lend V) (hr.mono (by decide)) (pv 0) (fs0 := fs_Bringing) (by decide +kernel) (sw_own (se_varS 2 (pv 2)) (sw_own (se_fz (se_bi (AM.CallR.or (cr_min rfl) (call_min2 rfl)) ops_min (by rfl) V.b_min PyProof.Rows.boot_min (sa_cons (se_lcP rfl nd (si_list (se_varS 3 (pv 3))) (blkOk_by (own := [("place", 4), ("many", 5)]) (by kernel_rfl)) (fun b => (sg_tup rfl (sgs_cons (sg_name nd rfl (.inl rfl) rfl) (sgs_cons (sg_name nd rfl (.inl rfl) rfl) sgs_nil)))) (fun b => (sts_one (st_c cr_gt (se_varS 5 (pv 5)) se_int))) (fun b => (se_fdiv (se_ix (se_pk (sl_fld V.at_Bringing_dues nd_Bringing rfl (sl_var 0 (pv 0)))) (se_varS 4 (pv 4)) (fun _ _ => rfl)) (se_varS 5 (pv 5))))) sa_nil))) sw_nil))))
    (sss_one (ss_set (i := 1) nd rfl (.inr rfl) rfl (se_fz (se_mtB0 (d_Bringing_order V fu) (hr.mono (by decide)) (pv 0) (fs0 := fs_Bringing) (by decide +kernel)))))))))))
theorem sc_brought : FnScope ["web", "dues", "place", "bringing", "others", "times", "at", "number", "one"] ["web", "dues", "place"] (defScope s_brought) := ⟨rfl, rfl, rfl, by decide +kernel, rfl, by decide +kernel, by decide +kernel⟩
theorem d_brought (V : Facts K mg) (fu : Nat) : ∀ d : Nat, Df P w K mg base "brought" 3 (m_brought fu d) (5 + d)
  | 0 => by
    obtain ⟨f, fd, F, hm⟩ := V.f_brought
    exact ⟨⟨f, fd, ["web", "dues", "place"], fn_none (k := 4) F sc_brought rfl, hm, F.kp, F.binds fun _ _ _ _ _ _ us hl => match us, hl with | [_, _, _], _ => rfl⟩, fun _ _ h => nomatch h⟩
  | d + 1 => by
    have ih_brought : Df P w K mg base "brought" 3 (m_brought fu d) (5 + d) := d_brought V fu d
    obtain ⟨f, fd, F, hm⟩ := V.f_brought
    refine ⟨⟨f, fd, ["web", "dues", "place"], fn_ok (k := 5 + d) F sc_brought rfl (by decide) (fun cdv A outer s H E hr => ?_), hm, F.kp, F.binds fun _ _ _ _ _ _ us hl => match us, hl with | [_, _, _], _ => rfl⟩, fnM_len⟩
    have nd := (sc_brought).nd
    have tk : Takes (cxOf (L2.CX P w) P w K mg base ["web", "dues", "place", "bringing", "others", "times", "at", "number", "one"] "brought" (defScope s_brought) f cdv A outer s H E) (fun cls d _ H' => E cls d H') := takes_of rfl rfl rfl rfl
    exact (sss_cons (ss_set (i := 3) nd rfl (.inl rfl) rfl (se_make (d_Bringing_init V) (hr.mono (by omega)) (by rfl) (sw_own (se_varS 0 (pv 0)) (sw_own (se_varS 1 (pv 1)) (sw_own (se_varS 2 (pv 2)) sw_nil)))))
    (sss_cons (ss_lcPZ (i := 4) rfl rfl nd rfl rfl (sw_true rfl rfl rfl (by decide +kernel)) (si_enum (by rfl) V.b_enumerate (sa_cons (se_varS 1 (pv 1)) sa_nil)) (blkOk_by (own := [("at", 6), ("number", 7)]) (by kernel_rfl)) (fun b => (sg_tup rfl (sgs_cons (sg_name nd rfl (.inl rfl) rfl) (sgs_cons (sg_name nd rfl (.inl rfl) rfl) sgs_nil)))) (fun b => (sts_one (st_c (cr_ne hr.units) (se_varS 6 (pv 6)) (se_varS 2 (pv 2))))) (fun b => (se_varS 7 (pv 7))))
    (sss_cons (ss_if (st_w (sw_and (st_c (cr_ne hr.units) (se_varS 4 (pv 4)) (se_lst sa_nil)) (sw_and1 (st_w (sw_or (st_c cr_gt (se_bi (AM.CallR.or (cr_max rfl) (call_max2 rfl)) ops_max (by rfl) V.b_max PyProof.Rows.boot_max (sa_cons (se_varS 4 (pv 4)) sa_nil)) (se_gintE (by rfl) V.c_SMALL)) (sw_or1 (st_c cr_lt (se_bi (AM.CallR.or (cr_min rfl) (call_min2 rfl)) ops_min (by rfl) V.b_min PyProof.Rows.boot_min (sa_cons (se_varS 4 (pv 4)) sa_nil)) (se_neg (se_gintE (by rfl) V.c_SMALL))))))))) (sss_cons (ss_set (i := 5) nd rfl (.inl rfl) rfl (se_fz (se_ix (se_call0 tk ih_brought (hr.mono (by omega)) (by rfl) (sw_own (se_varS 0 (pv 0)) (sw_own (se_fz (se_lcP rfl nd (si_list (se_varS 1 (pv 1))) (blkOk_by (own := [("number", 7)]) (by kernel_rfl)) (fun b => (sg_name nd rfl (.inl rfl) rfl)) (fun b => sts_nil) (fun b => (se_fdiv (se_varS 7 (pv 7)) se_int)))) (sw_own (se_varS 2 (pv 2)) sw_nil)))) se_int (fun _ _ => rfl))))
    (sss_cons (ss_fldS V.at_Bringing_times nd_Bringing rfl (by decide +kernel) (sl_var 3 (pv 3)) (se_lcP rfl nd (si_list (se_varS 5 (pv 5))) (blkOk_by (own := [("one", 8)]) (by kernel_rfl)) (fun b => (sg_name nd rfl (.inl rfl) rfl)) (fun b => sts_nil) (fun b => (se_mul se_int (se_varS 8 (pv 8))))))
    (sss_one (ss_fldS V.at_Bringing_dues nd_Bringing rfl (by decide +kernel) (sl_var 3 (pv 3)) (se_call0 tk (d_lent V) (hr.mono (by omega)) (by rfl) (sw_own (se_varS 0 (pv 0)) (sw_own (se_varS 1 (pv 1)) (sw_bor (sl_fld V.at_Bringing_times nd_Bringing rfl (sl_var 3 (pv 3))) sw_nil (.inl rfl))))))))) sss_nil)
    (sss_cons (ss_expr (se_mt10 (d_Bringing_pay V fu) (hr.mono (by omega)) (pv 3) (fs0 := fs_Bringing) (by decide +kernel)))
    (sss_cons (ss_expr (se_mt10 (d_Bringing_draw_in V fu) (hr.mono (by omega)) (pv 3) (fs0 := fs_Bringing) (by decide +kernel)))
    (sss_one (ss_ret (se_tup (sa_end 3 4 3 (sw_bor (sl_fld V.at_Bringing_times nd_Bringing rfl (sl_var 3 (pv 3))) (sw_bor (sl_fld V.at_Bringing_dues nd_Bringing rfl (sl_var 3 (pv 3))) (sw_own (se_mtB0 (d_Bringing_order V fu) (hr.mono (by omega)) (pv 3) (fs0 := fs_Bringing) (by decide +kernel)) sw_nil) (.inl rfl)) (.inl rfl)))))))))))
theorem sc_draw : FnScope ["web", "dues", "place", "times", "found", "order"] ["web", "dues", "place"] (defScope s_draw) := ⟨rfl, rfl, rfl, by decide +kernel, rfl, by decide +kernel, by decide +kernel⟩
theorem d_draw (V : Facts K mg) (fu : Nat) : Df P w K mg base "draw" 3 (m_draw fu) 206 := by
  obtain ⟨f, fd, F, hm⟩ := V.f_draw
  refine ⟨⟨f, fd, ["web", "dues", "place"], fn_ok F sc_draw rfl (by decide) (fun cdv A outer s H E hr => ?_), hm, F.kp, F.binds fun _ _ _ _ _ _ us hl => match us, hl with | [_, _, _], _ => rfl⟩, fnM_len⟩
  have nd := (sc_draw).nd
  have tk : Takes (cxOf (L2.CX P w) P w K mg base ["web", "dues", "place", "times", "found", "order"] "draw" (defScope s_draw) f cdv A outer s H E) (fun cls d _ H' => E cls d H') := takes_of rfl rfl rfl rfl
  exact (sss_cons (ss_expr (se_call0 tk (d_look_at_dues V) (hr.mono (by decide)) (by rfl) (sw_own (se_varS 0 (pv 0)) (sw_own (se_varS 1 (pv 1)) sw_nil))))
    (sss_cons (ss_expr (se_call0 tk (d_look_at_place V) (hr.mono (by decide)) (by rfl) (sw_own (se_varS 0 (pv 0)) (sw_own (se_varS 2 (pv 2)) sw_nil))))
    (sss_cons (ss_asg (qq := false) (se_call0 tk (d_brought V fu 200) (hr.mono (by decide)) (by rfl) (sw_own (se_varS 0 (pv 0)) (sw_own (se_varS 1 (pv 1)) (sw_own (se_varS 2 (pv 2)) sw_nil)))) (sg_tup rfl (sgs_cons (sg_name nd rfl (.inl rfl) rfl) (sgs_cons (sg_name nd rfl (.inl rfl) rfl) (sgs_cons (sg_name nd rfl (.inl rfl) rfl) sgs_nil)))))
    (sss_one (ss_ret (se_tup (sa_cons (se_sh (se_ix (se_var 4 (pv 4)) (se_varS 2 (pv 2)) (fun _ _ => rfl))) (sa_cons (se_frz 3 (pv 3)) (sa_cons (se_tup (sa_cons (se_ty call_list_of ops_list (by rfl) V.b_list PyProof.Rows.boot_list (sa_cons (se_var 3 (pv 3)) sa_nil)) (sa_cons (se_mov 5 (pv 5)) sa_nil))) sa_nil)))))))))
theorem sc__law_draw : FnScope ["_law_web_here", "_law_dues", "_law_place"] ["_law_web_here", "_law_dues", "_law_place"] (defScope s__law_draw) := ⟨rfl, rfl, rfl, by decide +kernel, rfl, by decide +kernel, by decide +kernel⟩
theorem d__law_draw (V : Facts K mg) (fu : Nat) : Df P w K mg base "_law_draw" 3 (m__law_draw fu) 207 := by
  obtain ⟨f, fd, F, hm⟩ := V.f__law_draw
  refine ⟨⟨f, fd, ["_law_web_here", "_law_dues", "_law_place"], fn_ok F sc__law_draw rfl (by decide) (fun cdv A outer s H E hr => ?_), hm, F.kp, F.binds fun _ _ _ _ _ _ us hl => match us, hl with | [_, _, _], _ => rfl⟩, fnM_len⟩
  have nd := (sc__law_draw).nd
  have tk : Takes (cxOf (L2.CX P w) P w K mg base ["_law_web_here", "_law_dues", "_law_place"] "_law_draw" (defScope s__law_draw) f cdv A outer s H E) (fun cls d _ H' => E cls d H') := takes_of rfl rfl rfl rfl
  exact (sss_one (ss_ret (se_ix (se_call0 tk (d_draw V fu) (hr.mono (by decide)) (by rfl) (sw_own (se_varS 0 (pv 0)) (sw_own (se_fz (se_ty call_list_of ops_list (by rfl) V.b_list PyProof.Rows.boot_list (sa_cons (se_varS 1 (pv 1)) sa_nil))) (sw_own (se_varS 2 (pv 2)) sw_nil)))) se_int (fun _ _ => rfl))))
theorem sc_loose : FnScope ["web"] ["web"] (defScope s_loose) := ⟨rfl, rfl, rfl, by decide +kernel, rfl, by decide +kernel, by decide +kernel⟩
theorem d_loose (V : Facts K mg) : Df P w K mg base "loose" 1 (m_loose) 1 := by
  obtain ⟨f, fd, F, hm⟩ := V.f_loose
  refine ⟨⟨f, fd, ["web"], fn_ok F sc_loose rfl (by decide) (fun cdv A outer s H E hr => ?_), hm, F.kp, F.binds fun _ _ _ _ _ _ us hl => match us, hl with | [_], _ => rfl⟩, fnM_len⟩
  have nd := (sc_loose).nd
  have tk : Takes (cxOf (L2.CX P w) P w K mg base ["web"] "loose" (defScope s_loose) f cdv A outer s H E) (fun cls d _ H' => E cls d H') := takes_of rfl rfl rfl rfl
  exact (sss_one (ss_ret (se_sub (se_add (se_bi call_len ops_len (by rfl) V.b_len PySem.boot_len (sa_cons (se_ix (se_varS 0 (pv 0)) se_int (fun _ _ => rfl)) sa_nil)) se_int) (se_ix (se_varS 0 (pv 0)) se_int (fun _ _ => rfl)))))
theorem sc__law_more : FnScope ["_law_dues", "_law_place", "_law_number_here", "_law_found"] ["_law_dues", "_law_place", "_law_number_here"] (defScope s__law_more) := ⟨rfl, rfl, rfl, by decide +kernel, rfl, by decide +kernel, by decide +kernel⟩
theorem d__law_more (V : Facts K mg) : Df P w K mg base "_law_more" 3 (m__law_more) 1 := by
  obtain ⟨f, fd, F, hm⟩ := V.f__law_more
  refine ⟨⟨f, fd, ["_law_dues", "_law_place", "_law_number_here"], fn_ok F sc__law_more rfl (by decide) (fun cdv A outer s H E hr => ?_), hm, F.kp, F.binds fun _ _ _ _ _ _ us hl => match us, hl with | [_, _, _], _ => rfl⟩, fnM_len⟩
  have nd := (sc__law_more).nd
  have tk : Takes (cxOf (L2.CX P w) P w K mg base ["_law_dues", "_law_place", "_law_number_here", "_law_found"] "_law_more" (defScope s__law_more) f cdv A outer s H E) (fun cls d _ H' => E cls d H') := takes_of rfl rfl rfl rfl
  exact (sss_cons (ss_set (i := 3) nd rfl (.inl rfl) rfl (se_ty call_list_of ops_list (by rfl) V.b_list PyProof.Rows.boot_list (sa_cons (se_varS 0 (pv 0)) sa_nil)))
    (sss_cons (ss_asg (qq := false) (se_add (se_ix (se_var 3 (pv 3)) (se_varS 1 (pv 1)) (fun _ _ => rfl)) (se_varS 2 (pv 2))) (sg_ix (Wx := W0) (sl_var 3 (pv 3)) (se_varS 1 (pv 1))))
    (sss_one (ss_ret (se_mov 3 (pv 3))))))
theorem sc_is_clear : FnScope ["dues"] ["dues"] (defScope s_is_clear) := ⟨rfl, rfl, rfl, by decide +kernel, rfl, by decide +kernel, by decide +kernel⟩
theorem d_is_clear (V : Facts K mg) : Df P w K mg base "is_clear" 1 (m_is_clear) 1 := by
  obtain ⟨f, fd, F, hm⟩ := V.f_is_clear
  refine ⟨⟨f, fd, ["dues"], fn_ok F sc_is_clear rfl (by decide) (fun cdv A outer s H E hr => ?_), hm, F.kp, F.binds fun _ _ _ _ _ _ us hl => match us, hl with | [_], _ => rfl⟩, fnM_len⟩
  have nd := (sc_is_clear).nd
  have tk : Takes (cxOf (L2.CX P w) P w K mg base ["dues"] "is_clear" (defScope s_is_clear) f cdv A outer s H E) (fun cls d _ H' => E cls d H') := takes_of rfl rfl rfl rfl
  exact (sss_one (ss_ret (se_c cr_ge (se_bi (AM.CallR.or (cr_min rfl) (call_min2 rfl)) ops_min (by rfl) V.b_min PyProof.Rows.boot_min (sa_cons (se_varS 0 (pv 0)) sa_nil)) se_int)))
theorem sc_cleared : FnScope ["web", "dues", "times", "found", "order"] ["web", "dues"] (defScope s_cleared) := ⟨rfl, rfl, rfl, by decide +kernel, rfl, by decide +kernel, by decide +kernel⟩
theorem d_cleared (V : Facts K mg) (fu : Nat) : Df P w K mg base "cleared" 2 (m_cleared fu) 206 := by
  obtain ⟨f, fd, F, hm⟩ := V.f_cleared
  refine ⟨⟨f, fd, ["web", "dues"], fn_ok F sc_cleared rfl (by decide) (fun cdv A outer s H E hr => ?_), hm, F.kp, F.binds fun _ _ _ _ _ _ us hl => match us, hl with | [_, _], _ => rfl⟩, fnM_len⟩
  have nd := (sc_cleared).nd
  have tk : Takes (cxOf (L2.CX P w) P w K mg base ["web", "dues", "times", "found", "order"] "cleared" (defScope s_cleared) f cdv A outer s H E) (fun cls d _ H' => E cls d H') := takes_of rfl rfl rfl rfl
  exact (sss_cons (ss_expr (se_call0 tk (d_look_at_dues V) (hr.mono (by decide)) (by rfl) (sw_own (se_varS 0 (pv 0)) (sw_own (se_varS 1 (pv 1)) sw_nil))))
    (sss_cons (ss_asg (qq := false) (se_call0 tk (d_brought V fu 200) (hr.mono (by decide)) (by rfl) (sw_own (se_varS 0 (pv 0)) (sw_own (se_varS 1 (pv 1)) (sw_own se_int sw_nil)))) (sg_tup rfl (sgs_cons (sg_name nd rfl (.inl rfl) rfl) (sgs_cons (sg_name nd rfl (.inl rfl) rfl) (sgs_cons (sg_name nd rfl (.inl rfl) rfl) sgs_nil)))))
    (sss_cons (ss_if (st_val (se_call0 tk (d_is_clear V) (hr.mono (by decide)) (by rfl) (sw_bor (sl_var 3 (pv 3)) sw_nil (.inl rfl)))) (sss_one (ss_ret (se_tup (sa_cons se_bl (sa_cons (se_mov 2 (pv 2)) sa_nil))))) sss_nil)
    (sss_one (ss_ret (se_tup (sa_cons se_bl (sa_cons (se_mov 2 (pv 2)) (sa_cons (se_mov 4 (pv 4)) sa_nil)))))))))
theorem sc_law : FnScope ["_law_script", "_law_at", "_law_web_here", "_law_pile_here", "_law_dues", "_law_place", "_law_other", "_law_times", "_law_number_here", "_law_told", "_law_turned", "_law_alone", "_law_n", "_law_ties", "_law_a", "_law_b"] ["_law_script"] (defScope s_law) := ⟨rfl, rfl, rfl, by decide +kernel, rfl, by decide +kernel, by decide +kernel⟩
theorem ok_law (V : Facts K mg) (fu : Nat) {f : Addr} {fd : FuncData} (F : Fun K "law" "law" s_law f fd) : FnOk P w K mg base (L2.CX P w) 208 f fd ["_law_script"] (spOf ⟨K, mg⟩ 1 (m_law fu)) := by
  refine fn_ok F sc_law rfl (by decide) (fun cdv A outer s H E hr => ?_)
  have nd := (sc_law).nd
  have tk : Takes (cxOf (L2.CX P w) P w K mg base ["_law_script", "_law_at", "_law_web_here", "_law_pile_here", "_law_dues", "_law_place", "_law_other", "_law_times", "_law_number_here", "_law_told", "_law_turned", "_law_alone", "_law_n", "_law_ties", "_law_a", "_law_b"] "law" (defScope s_law) f cdv A outer s H E) (fun cls d _ H' => E cls d H') := takes_of rfl rfl rfl rfl
  exact (sss_cons (ss_for (qq := false) (passes_of rfl) rfl (si_rg3 (by rfl) V.b_range (sa_cons se_int (sa_cons se_int (sa_cons se_int sa_nil)))) (sg_name nd rfl (.inl rfl) rfl) (sss_cons (ss_set (i := 2) nd rfl (.inl rfl) rfl (se_fz (se_call0 tk (d__law_web V fu) (hr.mono (by decide)) (by rfl) (sw_own (se_call0 tk (d__law_pile V) (hr.mono (by decide)) (by rfl) (sw_own (se_varS 0 (pv 0)) (sw_own (se_varS 1 (pv 1)) sw_nil))) (sw_own se_int (sw_own se_int (sw_own se_int sw_nil)))))))
    (sss_cons (ss_asg (qq := false) (se_varS 2 (pv 2)) (sg_tup rfl (sgs_cons (sg_name nd rfl (.inr rfl) rfl) (sgs_cons (sg_name nd rfl (.inl rfl) rfl) sgs_nil))))
    (sss_cons (ss_set (i := 3) nd rfl (.inl rfl) rfl (se_call0 tk (d__law_pile V) (hr.mono (by decide)) (by rfl) (sw_own (se_varS 0 (pv 0)) (sw_own (se_add (se_varS 1 (pv 1)) se_int) sw_nil))))
    (sss_cons (ss_set (i := 4) nd rfl (.inl rfl) rfl (se_fz (se_call1 tk (d__law_numbers V) (hr.mono (by decide)) (by rfl) (sw_io (sl_var 3 (pv 3)) (sw_own (se_varS 12 (pv 12)) sw_nil) (.inl rfl)))))
    (sss_cons (ss_set (i := 5) nd rfl (.inl rfl) rfl (se_fz (se_call1 tk (d__law_take V) (hr.mono (by decide)) (by rfl) (sw_io (sl_var 3 (pv 3)) (sw_own (se_varS 12 (pv 12)) sw_nil) (.inl rfl)))))
    (sss_cons (ss_set (i := 6) nd rfl (.inl rfl) rfl (se_fz (se_call1 tk (d__law_take V) (hr.mono (by decide)) (by rfl) (sw_io (sl_var 3 (pv 3)) (sw_own (se_varS 12 (pv 12)) sw_nil) (.inl rfl)))))
    (sss_cons (ss_set (i := 3) nd rfl (.inl rfl) rfl (se_call0 tk (d__law_pile V) (hr.mono (by decide)) (by rfl) (sw_own (se_varS 0 (pv 0)) (sw_own (se_add (se_varS 1 (pv 1)) se_int) sw_nil))))
    (sss_cons (ss_set (i := 7) nd rfl (.inl rfl) rfl (se_fz (se_call1 tk (d__law_numbers V) (hr.mono (by decide)) (by rfl) (sw_io (sl_var 3 (pv 3)) (sw_own (se_varS 12 (pv 12)) sw_nil) (.inl rfl)))))
    (sss_cons (ss_set (i := 8) nd rfl (.inl rfl) rfl (se_fz (se_call1 tk (d__law_number V) (hr.mono (by decide)) (by rfl) (sw_io (sl_var 3 (pv 3)) sw_nil (.inl rfl)))))
    (sss_cons (ss_set (i := 9) nd rfl (.inl rfl) rfl (se_fz (se_call0 tk (d__law_draw V fu) (hr.mono (by decide)) (by rfl) (sw_own (se_varS 2 (pv 2)) (sw_own (se_varS 4 (pv 4)) (sw_own (se_varS 5 (pv 5)) sw_nil))))))
    (sss_cons (ss_if (st_w (sw_or (st_c (cr_ne hr.units) (se_call0 tk (d__law_draw V fu) (hr.mono (by decide)) (by rfl) (sw_own (se_varS 2 (pv 2)) (sw_own (se_fz (se_call0 tk (d_lent V) (hr.mono (by decide)) (by rfl) (sw_own (se_varS 2 (pv 2)) (sw_own (se_varS 4 (pv 4)) (sw_own (se_varS 7 (pv 7)) sw_nil))))) (sw_own (se_varS 5 (pv 5)) sw_nil)))) (se_varS 9 (pv 9))) (sw_or (st_c cr_gt (se_varS 9 (pv 9)) (se_bi (cr_sum rfl) ops_sum (by rfl) V.b_sum PyProof.Rows.boot_sum (sa_cons (se_varS 4 (pv 4)) sa_nil))) (sw_or1 (st_c cr_lt (se_varS 9 (pv 9)) (se_sub (se_bi (cr_sum rfl) ops_sum (by rfl) V.b_sum PyProof.Rows.boot_sum (sa_cons (se_varS 4 (pv 4)) sa_nil)) (se_call0 tk (d_loose V) (hr.mono (by decide)) (by rfl) (sw_own (se_varS 2 (pv 2)) sw_nil)))))))) (sss_one (ss_ret se_bl)) sss_nil)
    (sss_cons (ss_if (st_c (cr_ne hr.units) (se_call0 tk (d__law_draw V fu) (hr.mono (by decide)) (by rfl) (sw_own (se_varS 2 (pv 2)) (sw_own (se_fz (se_call0 tk (d__law_more V) (hr.mono (by decide)) (by rfl) (sw_own (se_varS 4 (pv 4)) (sw_own (se_varS 5 (pv 5)) (sw_own (se_varS 8 (pv 8)) sw_nil))))) (sw_own (se_varS 5 (pv 5)) sw_nil)))) (se_add (se_varS 9 (pv 9)) (se_varS 8 (pv 8)))) (sss_one (ss_ret se_bl)) sss_nil)
    (sss_cons (ss_if (st_c cr_lt (se_call0 tk (d__law_draw V fu) (hr.mono (by decide)) (by rfl) (sw_own (se_varS 2 (pv 2)) (sw_own (se_fz (se_call0 tk (d__law_more V) (hr.mono (by decide)) (by rfl) (sw_own (se_varS 4 (pv 4)) (sw_own (se_varS 6 (pv 6)) (sw_own se_int sw_nil))))) (sw_own (se_varS 5 (pv 5)) sw_nil)))) (se_add (se_varS 9 (pv 9)) (se_ty (AM.CallR.or call_int1 call_int_str) ops_int (by rfl) V.b_int PyProof.Rows.boot_int (sa_cons (se_c (cr_eq hr.units) (se_varS 6 (pv 6)) (se_varS 5 (pv 5))) sa_nil)))) (sss_one (ss_ret se_bl)) sss_nil)
    (sss_cons (ss_if (st_w (sw_or (st_c (cr_ne hr.units) (se_ix (se_call0 tk (d_cleared V fu) (hr.mono (by decide)) (by rfl) (sw_own (se_varS 2 (pv 2)) (sw_own (se_varS 4 (pv 4)) sw_nil))) se_int (fun _ _ => rfl)) (se_c cr_ge (se_varS 9 (pv 9)) se_int)) (sw_or1 (st_c (cr_ne hr.units) (se_c cr_ge (se_varS 9 (pv 9)) se_int) (se_c cr_ge (se_call0 tk (d__law_draw V fu) (hr.mono (by decide)) (by rfl) (sw_own (se_varS 2 (pv 2)) (sw_own (se_varS 4 (pv 4)) (sw_own (se_varS 6 (pv 6)) sw_nil)))) se_int))))) (sss_one (ss_ret se_bl)) sss_nil)
    (sss_cons (ss_if (st_c (cr_ne hr.units) (se_call0 tk (d__law_draw V fu) (hr.mono (by decide)) (by rfl) (sw_own (se_varS 2 (pv 2)) (sw_own (se_fz (se_call0 tk (d__law_more V) (hr.mono (by decide)) (by rfl) (sw_own (se_varS 4 (pv 4)) (sw_own (se_varS 5 (pv 5)) (sw_own (se_neg (se_varS 9 (pv 9))) sw_nil))))) (sw_own (se_varS 5 (pv 5)) sw_nil)))) se_int) (sss_one (ss_ret se_bl)) sss_nil)
    (sss_cons (ss_set (i := 10) nd rfl (.inl rfl) rfl (se_fz (se_tup (sa_cons (se_varS 12 (pv 12)) (sa_cons (se_lcP rfl nd (si_list (se_varS 13 (pv 13))) (blkOk_by (own := [("_law_a", 14), ("_law_b", 15)]) (by kernel_rfl)) (fun b => (sg_tup rfl (sgs_cons (sg_name nd rfl (.inl rfl) rfl) (sgs_cons (sg_name nd rfl (.inl rfl) rfl) sgs_nil)))) (fun b => sts_nil) (fun b => (se_tup (sa_cons (se_sub (se_sub (se_varS 12 (pv 12)) se_int) (se_varS 15 (pv 15))) (sa_cons (se_sub (se_sub (se_varS 12 (pv 12)) se_int) (se_varS 14 (pv 14))) sa_nil))))) sa_nil)))))
    (sss_cons (ss_if (st_c (cr_ne hr.units) (se_call0 tk (d__law_draw V fu) (hr.mono (by decide)) (by rfl) (sw_own (se_varS 10 (pv 10)) (sw_own (se_fz (se_rev (se_varS 4 (pv 4)))) (sw_own (se_sub (se_sub (se_varS 12 (pv 12)) se_int) (se_varS 5 (pv 5))) sw_nil)))) (se_varS 9 (pv 9))) (sss_one (ss_ret se_bl)) sss_nil)
    (sss_cons (ss_set (i := 11) nd rfl (.inl rfl) rfl (se_fz (se_call0 tk (d__law_more V) (hr.mono (by decide)) (by rfl) (sw_own (se_fz (se_mul (se_lst (sa_cons se_int sa_nil)) (se_varS 12 (pv 12)))) (sw_own (se_varS 5 (pv 5)) (sw_own (se_bi (cr_sum rfl) ops_sum (by rfl) V.b_sum PyProof.Rows.boot_sum (sa_cons (se_varS 4 (pv 4)) sa_nil)) sw_nil))))))
    (sss_one (ss_if (st_c (cr_ne hr.units) (se_call0 tk (d__law_draw V fu) (hr.mono (by decide)) (by rfl) (sw_own (se_varS 2 (pv 2)) (sw_own (se_varS 11 (pv 11)) (sw_own (se_varS 5 (pv 5)) sw_nil)))) (se_bi (cr_sum rfl) ops_sum (by rfl) V.b_sum PyProof.Rows.boot_sum (sa_cons (se_varS 4 (pv 4)) sa_nil))) (sss_one (ss_ret se_bl)) sss_nil)))))))))))))))))))))
    (sss_one (ss_ret se_bl)))
end
theorem all_mk {P : Program} {w : World} {K : PySem.W.Frag} {h : Heap} {mg : Str → Option Value} {fa : Addr} (X : K.In h) (G : h.Ns mainGlobals mg) (hfa : mg "law" = some (.ref fa))
    {O0 : Addr} {f0 : Addr} {od0 an0 : Option Addr} {sl0 : Array (Option Value)} {oc0 kV0 dc0 pm0 cd0 ct0 : Value} {f1 : Addr} {od1 an1 : Option Addr} {sl1 : Array (Option Value)} {oc1 kV1 dc1 pm1 cd1 ct1 : Value} {f2 : Addr} {od2 an2 : Option Addr} {sl2 : Array (Option Value)} {oc2 kV2 dc2 pm2 cd2 ct2 : Value} {f3 : Addr} {od3 an3 : Option Addr} {sl3 : Array (Option Value)} {oc3 kV3 dc3 pm3 cd3 ct3 : Value} {f4 : Addr} {od4 an4 : Option Addr} {sl4 : Array (Option Value)} {oc4 kV4 dc4 pm4 cd4 ct4 : Value} {f5 : Addr} {od5 an5 : Option Addr} {sl5 : Array (Option Value)} {oc5 kV5 dc5 pm5 cd5 ct5 : Value} {f6 : Addr} {od6 an6 : Option Addr} {sl6 : Array (Option Value)} {oc6 kV6 dc6 pm6 cd6 ct6 : Value} {f7 : Addr} {od7 an7 : Option Addr} {sl7 : Array (Option Value)} {oc7 kV7 dc7 pm7 cd7 ct7 : Value} {f8 : Addr} {od8 an8 : Option Addr} {sl8 : Array (Option Value)} {oc8 kV8 dc8 pm8 cd8 ct8 : Value} {f9 : Addr} {od9 an9 : Option Addr} {sl9 : Array (Option Value)} {oc9 kV9 dc9 pm9 cd9 ct9 : Value} {f10 : Addr} {od10 an10 : Option Addr} {sl10 : Array (Option Value)} {oc10 kV10 dc10 pm10 cd10 ct10 : Value} {f11 : Addr} {od11 an11 : Option Addr} {sl11 : Array (Option Value)} {oc11 kV11 dc11 pm11 cd11 ct11 : Value} {f12 : Addr} {od12 an12 : Option Addr} {sl12 : Array (Option Value)} {oc12 kV12 dc12 pm12 cd12 ct12 : Value} {f13 : Addr} {od13 an13 : Option Addr} {sl13 : Array (Option Value)} {oc13 kV13 dc13 pm13 cd13 ct13 : Value} {f14 : Addr} {od14 an14 : Option Addr} {sl14 : Array (Option Value)} {oc14 kV14 dc14 pm14 cd14 ct14 : Value} {f15 : Addr} {od15 an15 : Option Addr} {sl15 : Array (Option Value)} {oc15 kV15 dc15 pm15 cd15 ct15 : Value} {f16 : Addr} {od16 an16 : Option Addr} {sl16 : Array (Option Value)} {oc16 kV16 dc16 pm16 cd16 ct16 : Value} {f17 : Addr} {od17 an17 : Option Addr} {sl17 : Array (Option Value)} {oc17 kV17 dc17 pm17 cd17 ct17 : Value} {f18 : Addr} {od18 an18 : Option Addr} {sl18 : Array (Option Value)} {oc18 kV18 dc18 pm18 cd18 ct18 : Value} {f19 : Addr} {od19 an19 : Option Addr} {sl19 : Array (Option Value)} {oc19 kV19 dc19 pm19 cd19 ct19 : Value} {f20 : Addr} {od20 an20 : Option Addr} {sl20 : Array (Option Value)} {oc20 kV20 dc20 pm20 cd20 ct20 : Value} {f21 : Addr} {od21 an21 : Option Addr} {sl21 : Array (Option Value)} {oc21 kV21 dc21 pm21 cd21 ct21 : Value} {f22 : Addr} {od22 an22 : Option Addr} {sl22 : Array (Option Value)} {oc22 kV22 dc22 pm22 cd22 ct22 : Value} {f23 : Addr} {od23 an23 : Option Addr} {sl23 : Array (Option Value)} {oc23 kV23 dc23 pm23 cd23 ct23 : Value} {f24 : Addr} {od24 an24 : Option Addr} {sl24 : Array (Option Value)} {oc24 kV24 dc24 pm24 cd24 ct24 : Value} {f25 : Addr} {od25 an25 : Option Addr} {sl25 : Array (Option Value)} {oc25 kV25 dc25 pm25 cd25 ct25 : Value} {f26 : Addr} {od26 an26 : Option Addr} {sl26 : Array (Option Value)} {oc26 kV26 dc26 pm26 cd26 ct26 : Value} {C0 : Addr} {C1 : Addr} {tk0 : Tok}
    (qa0 : PySem.W.nsIn K mainGlobals "Bringing" = some (some (.ref O0)))
    (qb0 : PySem.W.plainGet K O0 Str.empty = true) (qc0 : PySem.W.hasDictIn K O0 = true) (qd0 : PySem.W.plainOver K O0 = true)
    (qe0 : PySem.W.findIn K (.ref O0) "__setattr__" = some (some (.builtin "object.__setattr__"))) (qg0 : PySem.W.makesIn K O0 = true) (qh0 : PySem.W.keepIn K (.ref O0) = true)
    (a0 : PySem.W.nsIn K mainGlobals "_law_mixed" = some (some (.ref f0)))
    (l0 : K.lookup f0 = some ⟨oc0, od0, .func (PySem.W.fnOf "_law_mixed" "_law_mixed" (defArgs s__law_mixed) (defBody s__law_mixed) (defScope s__law_mixed) .none kV0 dc0 pm0 an0 cd0 ct0), sl0⟩)
    (c0 : PySem.W.codeIn K cd0 "_law_mixed" = true) (k0 : PySem.W.keepIn K (.ref f0) = true)
    (a1 : PySem.W.nsIn K mainGlobals "_law_take" = some (some (.ref f1)))
    (l1 : K.lookup f1 = some ⟨oc1, od1, .func (PySem.W.fnOf "_law_take" "_law_take" (defArgs s__law_take) (defBody s__law_take) (defScope s__law_take) .none kV1 dc1 pm1 an1 cd1 ct1), sl1⟩)
    (c1 : PySem.W.codeIn K cd1 "_law_take" = true) (k1 : PySem.W.keepIn K (.ref f1) = true)
    (a2 : PySem.W.nsIn K mainGlobals "_law_web" = some (some (.ref f2)))
    (l2 : K.lookup f2 = some ⟨oc2, od2, .func (PySem.W.fnOf "_law_web" "_law_web" (defArgs s__law_web) (defBody s__law_web) (defScope s__law_web) .none kV2 dc2 pm2 an2 cd2 ct2), sl2⟩)
    (c2 : PySem.W.codeIn K cd2 "_law_web" = true) (k2 : PySem.W.keepIn K (.ref f2) = true)
    (a3 : PySem.W.nsIn K mainGlobals "_law_pile" = some (some (.ref f3)))
    (l3 : K.lookup f3 = some ⟨oc3, od3, .func (PySem.W.fnOf "_law_pile" "_law_pile" (defArgs s__law_pile) (defBody s__law_pile) (defScope s__law_pile) .none kV3 dc3 pm3 an3 cd3 ct3), sl3⟩)
    (c3 : PySem.W.codeIn K cd3 "_law_pile" = true) (k3 : PySem.W.keepIn K (.ref f3) = true)
    (a4 : PySem.W.nsIn K mainGlobals "_law_number" = some (some (.ref f4)))
    (l4 : K.lookup f4 = some ⟨oc4, od4, .func (PySem.W.fnOf "_law_number" "_law_number" (defArgs s__law_number) (defBody s__law_number) (defScope s__law_number) .none kV4 dc4 pm4 an4 cd4 ct4), sl4⟩)
    (c4 : PySem.W.codeIn K cd4 "_law_number" = true) (k4 : PySem.W.keepIn K (.ref f4) = true)
    (a5 : PySem.W.nsIn K mainGlobals "_law_numbers" = some (some (.ref f5)))
    (l5 : K.lookup f5 = some ⟨oc5, od5, .func (PySem.W.fnOf "_law_numbers" "_law_numbers" (defArgs s__law_numbers) (defBody s__law_numbers) (defScope s__law_numbers) .none kV5 dc5 pm5 an5 cd5 ct5), sl5⟩)
    (c5 : PySem.W.codeIn K cd5 "_law_numbers" = true) (k5 : PySem.W.keepIn K (.ref f5) = true)
    (a6 : PySem.W.nsIn K mainGlobals "look_at_dues" = some (some (.ref f6)))
    (l6 : K.lookup f6 = some ⟨oc6, od6, .func (PySem.W.fnOf "look_at_dues" "look_at_dues" (defArgs s_look_at_dues) (defBody s_look_at_dues) (defScope s_look_at_dues) .none kV6 dc6 pm6 an6 cd6 ct6), sl6⟩)
    (c6 : PySem.W.codeIn K cd6 "look_at_dues" = true) (k6 : PySem.W.keepIn K (.ref f6) = true)
    (a7 : PySem.W.nsIn K mainGlobals "look_at_place" = some (some (.ref f7)))
    (l7 : K.lookup f7 = some ⟨oc7, od7, .func (PySem.W.fnOf "look_at_place" "look_at_place" (defArgs s_look_at_place) (defBody s_look_at_place) (defScope s_look_at_place) .none kV7 dc7 pm7 an7 cd7 ct7), sl7⟩)
    (c7 : PySem.W.codeIn K cd7 "look_at_place" = true) (k7 : PySem.W.keepIn K (.ref f7) = true)
    (a8 : PySem.W.nsIn K mainGlobals "near_of" = some (some (.ref f8)))
    (l8 : K.lookup f8 = some ⟨oc8, od8, .func (PySem.W.fnOf "near_of" "near_of" (defArgs s_near_of) (defBody s_near_of) (defScope s_near_of) .none kV8 dc8 pm8 an8 cd8 ct8), sl8⟩)
    (c8 : PySem.W.codeIn K cd8 "near_of" = true) (k8 : PySem.W.keepIn K (.ref f8) = true)
    (a9 : PySem.W.findIn K (.ref O0) "__init__" = some (some (.ref f9))) (i9 : PySem.W.isFn K (.ref f9) = true)
    (l9 : K.lookup f9 = some ⟨oc9, od9, .func (PySem.W.fnOf "__init__" "Bringing.__init__" (defArgs s_Bringing_init) (defBody s_Bringing_init) (defScope s_Bringing_init) .none kV9 dc9 pm9 an9 cd9 ct9), sl9⟩)
    (c9 : PySem.W.codeIn K cd9 "Bringing.__init__" = true) (k9 : PySem.W.keepIn K (.ref f9) = true)
    (a10 : PySem.W.nsIn K mainGlobals "look_at_times" = some (some (.ref f10)))
    (l10 : K.lookup f10 = some ⟨oc10, od10, .func (PySem.W.fnOf "look_at_times" "look_at_times" (defArgs s_look_at_times) (defBody s_look_at_times) (defScope s_look_at_times) .none kV10 dc10 pm10 an10 cd10 ct10), sl10⟩)
    (c10 : PySem.W.codeIn K cd10 "look_at_times" = true) (k10 : PySem.W.keepIn K (.ref f10) = true)
    (a11 : PySem.W.nsIn K mainGlobals "lent" = some (some (.ref f11)))
    (l11 : K.lookup f11 = some ⟨oc11, od11, .func (PySem.W.fnOf "lent" "lent" (defArgs s_lent) (defBody s_lent) (defScope s_lent) .none kV11 dc11 pm11 an11 cd11 ct11), sl11⟩)
    (c11 : PySem.W.codeIn K cd11 "lent" = true) (k11 : PySem.W.keepIn K (.ref f11) = true)
    (a12 : PySem.W.findIn K (.ref O0) "ties_to" = some (some (.ref f12))) (i12 : PySem.W.isFn K (.ref f12) = true)
    (l12 : K.lookup f12 = some ⟨oc12, od12, .func (PySem.W.fnOf "ties_to" "Bringing.ties_to" (defArgs s_Bringing_ties_to) (defBody s_Bringing_ties_to) (defScope s_Bringing_ties_to) .none kV12 dc12 pm12 an12 cd12 ct12), sl12⟩)
    (c12 : PySem.W.codeIn K cd12 "Bringing.ties_to" = true) (k12 : PySem.W.keepIn K (.ref f12) = true)
    (a13 : PySem.W.findIn K (.ref O0) "layers" = some (some (.ref f13))) (i13 : PySem.W.isFn K (.ref f13) = true)
    (l13 : K.lookup f13 = some ⟨oc13, od13, .func (PySem.W.fnOf "layers" "Bringing.layers" (defArgs s_Bringing_layers) (defBody s_Bringing_layers) (defScope s_Bringing_layers) .none kV13 dc13 pm13 an13 cd13 ct13), sl13⟩)
    (c13 : PySem.W.codeIn K cd13 "Bringing.layers" = true) (k13 : PySem.W.keepIn K (.ref f13) = true)
    (a14 : PySem.W.nsIn K mainGlobals "put_together" = some (some (.ref f14)))
    (l14 : K.lookup f14 = some ⟨oc14, od14, .func (PySem.W.fnOf "put_together" "put_together" (defArgs s_put_together) (defBody s_put_together) (defScope s_put_together) .none kV14 dc14 pm14 an14 cd14 ct14), sl14⟩)
    (c14 : PySem.W.codeIn K cd14 "put_together" = true) (k14 : PySem.W.keepIn K (.ref f14) = true)
    (a15 : PySem.W.findIn K (.ref O0) "lend" = some (some (.ref f15))) (i15 : PySem.W.isFn K (.ref f15) = true)
    (l15 : K.lookup f15 = some ⟨oc15, od15, .func (PySem.W.fnOf "lend" "Bringing.lend" (defArgs s_Bringing_lend) (defBody s_Bringing_lend) (defScope s_Bringing_lend) .none kV15 dc15 pm15 an15 cd15 ct15), sl15⟩)
    (c15 : PySem.W.codeIn K cd15 "Bringing.lend" = true) (k15 : PySem.W.keepIn K (.ref f15) = true)
    (a16 : PySem.W.findIn K (.ref O0) "pay" = some (some (.ref f16))) (i16 : PySem.W.isFn K (.ref f16) = true)
    (l16 : K.lookup f16 = some ⟨oc16, od16, .func (PySem.W.fnOf "pay" "Bringing.pay" (defArgs s_Bringing_pay) (defBody s_Bringing_pay) (defScope s_Bringing_pay) .none kV16 dc16 pm16 an16 cd16 ct16), sl16⟩)
    (c16 : PySem.W.codeIn K cd16 "Bringing.pay" = true) (k16 : PySem.W.keepIn K (.ref f16) = true)
    (a17 : PySem.W.findIn K (.ref O0) "order" = some (some (.ref f17))) (i17 : PySem.W.isFn K (.ref f17) = true)
    (l17 : K.lookup f17 = some ⟨oc17, od17, .func (PySem.W.fnOf "order" "Bringing.order" (defArgs s_Bringing_order) (defBody s_Bringing_order) (defScope s_Bringing_order) .none kV17 dc17 pm17 an17 cd17 ct17), sl17⟩)
    (c17 : PySem.W.codeIn K cd17 "Bringing.order" = true) (k17 : PySem.W.keepIn K (.ref f17) = true)
    (a18 : PySem.W.findIn K (.ref O0) "draw_in" = some (some (.ref f18))) (i18 : PySem.W.isFn K (.ref f18) = true)
    (l18 : K.lookup f18 = some ⟨oc18, od18, .func (PySem.W.fnOf "draw_in" "Bringing.draw_in" (defArgs s_Bringing_draw_in) (defBody s_Bringing_draw_in) (defScope s_Bringing_draw_in) .none kV18 dc18 pm18 an18 cd18 ct18), sl18⟩)
    (c18 : PySem.W.codeIn K cd18 "Bringing.draw_in" = true) (k18 : PySem.W.keepIn K (.ref f18) = true)
    (a19 : PySem.W.nsIn K mainGlobals "brought" = some (some (.ref f19)))
    (l19 : K.lookup f19 = some ⟨oc19, od19, .func (PySem.W.fnOf "brought" "brought" (defArgs s_brought) (defBody s_brought) (defScope s_brought) .none kV19 dc19 pm19 an19 cd19 ct19), sl19⟩)
    (c19 : PySem.W.codeIn K cd19 "brought" = true) (k19 : PySem.W.keepIn K (.ref f19) = true)
    (a20 : PySem.W.nsIn K mainGlobals "draw" = some (some (.ref f20)))
    (l20 : K.lookup f20 = some ⟨oc20, od20, .func (PySem.W.fnOf "draw" "draw" (defArgs s_draw) (defBody s_draw) (defScope s_draw) .none kV20 dc20 pm20 an20 cd20 ct20), sl20⟩)
    (c20 : PySem.W.codeIn K cd20 "draw" = true) (k20 : PySem.W.keepIn K (.ref f20) = true)
    (a21 : PySem.W.nsIn K mainGlobals "_law_draw" = some (some (.ref f21)))
    (l21 : K.lookup f21 = some ⟨oc21, od21, .func (PySem.W.fnOf "_law_draw" "_law_draw" (defArgs s__law_draw) (defBody s__law_draw) (defScope s__law_draw) .none kV21 dc21 pm21 an21 cd21 ct21), sl21⟩)
    (c21 : PySem.W.codeIn K cd21 "_law_draw" = true) (k21 : PySem.W.keepIn K (.ref f21) = true)
    (a22 : PySem.W.nsIn K mainGlobals "loose" = some (some (.ref f22)))
    (l22 : K.lookup f22 = some ⟨oc22, od22, .func (PySem.W.fnOf "loose" "loose" (defArgs s_loose) (defBody s_loose) (defScope s_loose) .none kV22 dc22 pm22 an22 cd22 ct22), sl22⟩)
    (c22 : PySem.W.codeIn K cd22 "loose" = true) (k22 : PySem.W.keepIn K (.ref f22) = true)
    (a23 : PySem.W.nsIn K mainGlobals "_law_more" = some (some (.ref f23)))
    (l23 : K.lookup f23 = some ⟨oc23, od23, .func (PySem.W.fnOf "_law_more" "_law_more" (defArgs s__law_more) (defBody s__law_more) (defScope s__law_more) .none kV23 dc23 pm23 an23 cd23 ct23), sl23⟩)
    (c23 : PySem.W.codeIn K cd23 "_law_more" = true) (k23 : PySem.W.keepIn K (.ref f23) = true)
    (a24 : PySem.W.nsIn K mainGlobals "is_clear" = some (some (.ref f24)))
    (l24 : K.lookup f24 = some ⟨oc24, od24, .func (PySem.W.fnOf "is_clear" "is_clear" (defArgs s_is_clear) (defBody s_is_clear) (defScope s_is_clear) .none kV24 dc24 pm24 an24 cd24 ct24), sl24⟩)
    (c24 : PySem.W.codeIn K cd24 "is_clear" = true) (k24 : PySem.W.keepIn K (.ref f24) = true)
    (a25 : PySem.W.nsIn K mainGlobals "cleared" = some (some (.ref f25)))
    (l25 : K.lookup f25 = some ⟨oc25, od25, .func (PySem.W.fnOf "cleared" "cleared" (defArgs s_cleared) (defBody s_cleared) (defScope s_cleared) .none kV25 dc25 pm25 an25 cd25 ct25), sl25⟩)
    (c25 : PySem.W.codeIn K cd25 "cleared" = true) (k25 : PySem.W.keepIn K (.ref f25) = true)
    (a26 : PySem.W.nsIn K mainGlobals "law" = some (some (.ref f26)))
    (l26 : K.lookup f26 = some ⟨oc26, od26, .func (PySem.W.fnOf "law" "law" (defArgs s_law) (defBody s_law) (defScope s_law) .none kV26 dc26 pm26 an26 cd26 ct26), sl26⟩)
    (c26 : PySem.W.codeIn K cd26 "law" = true) (k26 : PySem.W.keepIn K (.ref f26) = true)
    (z0 : PySem.W.nsIn K mainGlobals "abs" = some none)
    (z1 : PySem.W.nsIn K mainGlobals "enumerate" = some none)
    (z2 : PySem.W.nsIn K mainGlobals "int" = some none)
    (z3 : PySem.W.nsIn K mainGlobals "len" = some none)
    (z4 : PySem.W.nsIn K mainGlobals "list" = some none)
    (z5 : PySem.W.nsIn K mainGlobals "max" = some none)
    (z6 : PySem.W.nsIn K mainGlobals "min" = some none)
    (z7 : PySem.W.nsIn K mainGlobals "range" = some none)
    (z8 : PySem.W.nsIn K mainGlobals "sum" = some none)
    (ea0 : PySem.W.nsIn K mainGlobals "NoDues" = some (some (.ref C0)))
    (eb0 : PySem.W.excIn K C0 [.type "ValueError", .type "Exception", .type "BaseException", .type "object"] "ValueError.__new__" = true)
    (ec0 : PySem.W.keepIn K (.ref C0) = true) (ed0 : PySem.W.subIn K (.ref C0) (.type "BaseException") = some true) (ee0 : PySem.W.typeIn K (.ref C0) = some (.type "type"))
    (ea1 : PySem.W.nsIn K mainGlobals "NoTimes" = some (some (.ref C1)))
    (eb1 : PySem.W.excIn K C1 [.type "ValueError", .type "Exception", .type "BaseException", .type "object"] "ValueError.__new__" = true)
    (ec1 : PySem.W.keepIn K (.ref C1) = true) (ed1 : PySem.W.subIn K (.ref C1) (.type "BaseException") = some true) (ee1 : PySem.W.typeIn K (.ref C1) = some (.type "type"))
    (t0 : PySem.W.findIn K (.ref O0) "dues" = some none)
    (t1 : PySem.W.findIn K (.ref O0) "near" = some none)
    (t2 : PySem.W.findIn K (.ref O0) "place" = some none)
    (t3 : PySem.W.findIn K (.ref O0) "times" = some none)
    (t4 : PySem.W.findIn K (.ref O0) "web" = some none)
    (n0 : PySem.W.nsIn K mainGlobals "SMALL" = some (some (.int 20 tk0))) :
    ∃ fd : FuncData, (∀ (s : Shared) (v : Value), BindsTo s fd ⟨[v], []⟩ [("_law_script", v)]) ∧ ∀ base : Heap, K.In base → base.Ns mainGlobals mg → FnOk P w K mg base (L2.CX P w) 208 fa fd ["_law_script"] (spL K (fun fu => m_law fu)) := by
  have e := hfa.symm.trans (PySem.W.mg_of X G a26)
  cases e
  have F0 := fun_mk (st := s__law_mixed) l0 c0 k0
  have F1 := fun_mk (st := s__law_take) l1 c1 k1
  have F2 := fun_mk (st := s__law_web) l2 c2 k2
  have F3 := fun_mk (st := s__law_pile) l3 c3 k3
  have F4 := fun_mk (st := s__law_number) l4 c4 k4
  have F5 := fun_mk (st := s__law_numbers) l5 c5 k5
  have F6 := fun_mk (st := s_look_at_dues) l6 c6 k6
  have F7 := fun_mk (st := s_look_at_place) l7 c7 k7
  have F8 := fun_mk (st := s_near_of) l8 c8 k8
  have F9 := fun_mk (st := s_Bringing_init) l9 c9 k9
  have F10 := fun_mk (st := s_look_at_times) l10 c10 k10
  have F11 := fun_mk (st := s_lent) l11 c11 k11
  have F12 := fun_mk (st := s_Bringing_ties_to) l12 c12 k12
  have F13 := fun_mk (st := s_Bringing_layers) l13 c13 k13
  have F14 := fun_mk (st := s_put_together) l14 c14 k14
  have F15 := fun_mk (st := s_Bringing_lend) l15 c15 k15
  have F16 := fun_mk (st := s_Bringing_pay) l16 c16 k16
  have F17 := fun_mk (st := s_Bringing_order) l17 c17 k17
  have F18 := fun_mk (st := s_Bringing_draw_in) l18 c18 k18
  have F19 := fun_mk (st := s_brought) l19 c19 k19
  have F20 := fun_mk (st := s_draw) l20 c20 k20
  have F21 := fun_mk (st := s__law_draw) l21 c21 k21
  have F22 := fun_mk (st := s_loose) l22 c22 k22
  have F23 := fun_mk (st := s__law_more) l23 c23 k23
  have F24 := fun_mk (st := s_is_clear) l24 c24 k24
  have F25 := fun_mk (st := s_cleared) l25 c25 k25
  have F26 := fun_mk (st := s_law) l26 c26 k26
  have cl0 : Cls K O0 := ⟨qb0, qc0, qd0, qe0⟩
  have mo0 := PySem.W.mg_of X G qa0
  have V : Facts K mg := ⟨⟨_, _, F0, PySem.W.mg_of X G a0⟩, ⟨_, _, F1, PySem.W.mg_of X G a1⟩, ⟨_, _, F2, PySem.W.mg_of X G a2⟩, ⟨_, _, F3, PySem.W.mg_of X G a3⟩, ⟨_, _, F4, PySem.W.mg_of X G a4⟩, ⟨_, _, F5, PySem.W.mg_of X G a5⟩, ⟨_, _, F6, PySem.W.mg_of X G a6⟩, ⟨_, _, F7, PySem.W.mg_of X G a7⟩, ⟨_, _, F8, PySem.W.mg_of X G a8⟩, ⟨_, _, _, F9, mo0, cl0, ⟨qg0, a9, i9, qh0⟩⟩, ⟨_, _, F10, PySem.W.mg_of X G a10⟩, ⟨_, _, F11, PySem.W.mg_of X G a11⟩, ⟨_, _, _, F12, mo0, cl0, ⟨a12, i12, k12⟩⟩, ⟨_, _, _, F13, mo0, cl0, ⟨a13, i13, k13⟩⟩, ⟨_, _, F14, PySem.W.mg_of X G a14⟩, ⟨_, _, _, F15, mo0, cl0, ⟨a15, i15, k15⟩⟩, ⟨_, _, _, F16, mo0, cl0, ⟨a16, i16, k16⟩⟩, ⟨_, _, _, F17, mo0, cl0, ⟨a17, i17, k17⟩⟩, ⟨_, _, _, F18, mo0, cl0, ⟨a18, i18, k18⟩⟩, ⟨_, _, F19, PySem.W.mg_of X G a19⟩, ⟨_, _, F20, PySem.W.mg_of X G a20⟩, ⟨_, _, F21, PySem.W.mg_of X G a21⟩, ⟨_, _, F22, PySem.W.mg_of X G a22⟩, ⟨_, _, F23, PySem.W.mg_of X G a23⟩, ⟨_, _, F24, PySem.W.mg_of X G a24⟩, ⟨_, _, F25, PySem.W.mg_of X G a25⟩, ⟨_, _, F26, PySem.W.mg_of X G a26⟩, PySem.W.mg_none_of X G z0, PySem.W.mg_none_of X G z1, PySem.W.mg_none_of X G z2, PySem.W.mg_none_of X G z3, PySem.W.mg_none_of X G z4, PySem.W.mg_none_of X G z5, PySem.W.mg_none_of X G z6, PySem.W.mg_none_of X G z7, PySem.W.mg_none_of X G z8, exc_mk (PySem.W.mg_of X G ea0) eb0 ec0 ed0 ee0, exc_mk (PySem.W.mg_of X G ea1) eb1 ec1 ed1 ee1, attr_mk mo0 cl0 t0, attr_mk mo0 cl0 t1, attr_mk mo0 cl0 t2, attr_mk mo0 cl0 t3, attr_mk mo0 cl0 t4, ⟨_, PySem.W.mg_of X G n0, ⟨_, rfl⟩⟩⟩
  exact ⟨_, fun s v => .of_eq rfl, fun base _ _ => FnOk.law fun fu => ok_law V fu F26⟩
end LW
open PySem PySem.W PyProof.Rows
set_option maxHeartbeats 0 in
theorem PySem.Challenge.cw_standloss_k16_whole_draws_holds : PySem.Challenge.rw_standloss_k16_whole_draws.Holds := by
  w_on; o_law; k_head; (case hw => w_witness2)
  k_fill
  refine L2.walk_of (l := PySem.Challenge.rw_standloss_k16_whole_draws) (n := 63) (k := 208) (x := "_law_script") (CX := fun w => L2.CX PySem.Challenge.pw_standloss_k16_whole_draws w) (sp := fun w => AM.spL _ (fun fu => LW.m_law fu)) rfl (by decide) rfl ⟨rfl, by decide, by decide⟩ (fun w h Y => PySem.W.kIn_of Y) ?F (fun _ _ a ns hl _ hS => AM.spL_mk hS (LW.law_ok ns hl)) (fun _ _ _ _ _ h => AM.noCX h)
  case F =>
    intro w mg fa h KX G hmg
    refine' LW.all_mk KX G hmg ?qa0 ?qb0 ?qc0 ?qd0 ?qe0 ?qg0 ?qh0 ?a0 ?l0 ?c0 ?k0 ?a1 ?l1 ?c1 ?k1 ?a2 ?l2 ?c2 ?k2 ?a3 ?l3 ?c3 ?k3 ?a4 ?l4 ?c4 ?k4 ?a5 ?l5 ?c5 ?k5 ?a6 ?l6 ?c6 ?k6 ?a7 ?l7 ?c7 ?k7 ?a8 ?l8 ?c8 ?k8 ?a9 ?i9 ?l9 ?c9 ?k9 ?a10 ?l10 ?c10 ?k10 ?a11 ?l11 ?c11 ?k11 ?a12 ?i12 ?l12 ?c12 ?k12 ?a13 ?i13 ?l13 ?c13 ?k13 ?a14 ?l14 ?c14 ?k14 ?a15 ?i15 ?l15 ?c15 ?k15 ?a16 ?i16 ?l16 ?c16 ?k16 ?a17 ?i17 ?l17 ?c17 ?k17 ?a18 ?i18 ?l18 ?c18 ?k18 ?a19 ?l19 ?c19 ?k19 ?a20 ?l20 ?c20 ?k20 ?a21 ?l21 ?c21 ?k21 ?a22 ?l22 ?c22 ?k22 ?a23 ?l23 ?c23 ?k23 ?a24 ?l24 ?c24 ?k24 ?a25 ?l25 ?c25 ?k25 ?a26 ?l26 ?c26 ?k26 ?z0 ?z1 ?z2 ?z3 ?z4 ?z5 ?z6 ?z7 ?z8 ?ea0 ?eb0 ?ec0 ?ed0 ?ee0 ?ea1 ?eb1 ?ec1 ?ed1 ?ee1 ?t0 ?t1 ?t2 ?t3 ?t4 ?n0
    (case qa0 => k_is)
    (case qb0 => k_is)
    (case qc0 => k_is)
    (case qd0 => k_is)
    (case qe0 => k_is)
    (case qg0 => k_is)
    (case qh0 => k_is)
    (case a0 => k_is)
    (case l0 => k_is)
    (case c0 => k_is)
    (case k0 => k_is)
    (case a1 => k_is)
    (case l1 => k_is)
    (case c1 => k_is)
    (case k1 => k_is)
    (case a2 => k_is)
    (case l2 => k_is)
    (case c2 => k_is)
    (case k2 => k_is)
    (case a3 => k_is)
    (case l3 => k_is)
    (case c3 => k_is)
    (case k3 => k_is)
    (case a4 => k_is)
    (case l4 => k_is)
    (case c4 => k_is)
    (case k4 => k_is)
    (case a5 => k_is)
    (case l5 => k_is)
    (case c5 => k_is)
    (case k5 => k_is)
    (case a6 => k_is)
    (case l6 => k_is)
    (case c6 => k_is)
    (case k6 => k_is)
    (case a7 => k_is)
    (case l7 => k_is)
    (case c7 => k_is)
    (case k7 => k_is)
    (case a8 => k_is)
    (case l8 => k_is)
    (case c8 => k_is)
    (case k8 => k_is)
    (case a9 => k_is)
    (case i9 => k_is)
    (case l9 => k_is)
    (case c9 => k_is)
    (case k9 => k_is)
    (case a10 => k_is)
    (case l10 => k_is)
    (case c10 => k_is)
    (case k10 => k_is)
    (case a11 => k_is)
    (case l11 => k_is)
    (case c11 => k_is)
    (case k11 => k_is)
    (case a12 => k_is)
    (case i12 => k_is)
    (case l12 => k_is)
    (case c12 => k_is)
    (case k12 => k_is)
    (case a13 => k_is)
    (case i13 => k_is)
    (case l13 => k_is)
    (case c13 => k_is)
    (case k13 => k_is)
    (case a14 => k_is)
    (case l14 => k_is)
    (case c14 => k_is)
    (case k14 => k_is)
    (case a15 => k_is)
    (case i15 => k_is)
    (case l15 => k_is)
    (case c15 => k_is)
    (case k15 => k_is)
    (case a16 => k_is)
    (case i16 => k_is)
    (case l16 => k_is)
    (case c16 => k_is)
    (case k16 => k_is)
    (case a17 => k_is)
    (case i17 => k_is)
    (case l17 => k_is)
    (case c17 => k_is)
    (case k17 => k_is)
    (case a18 => k_is)
    (case i18 => k_is)
    (case l18 => k_is)
    (case c18 => k_is)
    (case k18 => k_is)
    (case a19 => k_is)
    (case l19 => k_is)
    (case c19 => k_is)
    (case k19 => k_is)
    (case a20 => k_is)
    (case l20 => k_is)
    (case c20 => k_is)
    (case k20 => k_is)
    (case a21 => k_is)
    (case l21 => k_is)
    (case c21 => k_is)
    (case k21 => k_is)
    (case a22 => k_is)
    (case l22 => k_is)
    (case c22 => k_is)
    (case k22 => k_is)
    (case a23 => k_is)
    (case l23 => k_is)
    (case c23 => k_is)
    (case k23 => k_is)
    (case a24 => k_is)
    (case l24 => k_is)
    (case c24 => k_is)
    (case k24 => k_is)
    (case a25 => k_is)
    (case l25 => k_is)
    (case c25 => k_is)
    (case k25 => k_is)
    (case a26 => k_is)
    (case l26 => k_is)
    (case c26 => k_is)
    (case k26 => k_is)
    (case z0 => k_is)
    (case z1 => k_is)
    (case z2 => k_is)
    (case z3 => k_is)
    (case z4 => k_is)
    (case z5 => k_is)
    (case z6 => k_is)
    (case z7 => k_is)
    (case z8 => k_is)
    (case ea0 => k_is)
    (case eb0 => k_exc)
    (case ec0 => k_is)
    (case ed0 => k_is)
    (case ee0 => k_is)
    (case ea1 => k_is)
    (case eb1 => k_exc)
    (case ec1 => k_is)
    (case ed1 => k_is)
    (case ee1 => k_is)
    (case t0 => k_is)
    (case t1 => k_is)
    (case t2 => k_is)
    (case t3 => k_is)
    (case t4 => k_is)
    (case n0 => k_is)
