import PyProof.Rows.All
import Wide.All
import OpenK.AllK
import Wide.FinOn
import HandS.ForMost
import HandS.ForExc
import HandS.Walk
import HandS.Wide
import HandS.Deep
import HandS.WideBits
import HandS.TupAny
import HandS.SortInts
import HandS.More
import HandS.Conv
import HandS.ForSpec
import HandS.IsInst
import HandS.Style
import HandS.TupLe
import HandS.Text
import HandS.ExcInit
import HandS.ExcValue
import HandS.ExcField
import KE.KExcIs
import PyProof.ReprRoads
import PyProof.ReprLen
import PyProof.Rows.RegStrFacts
import HandS.Ends
import PyProof.LongRange
import HandS.NoneIn
import HandS.Dict
import KE.KDictDisplayH
import KE.SortData
import KE.DataMinMax
import HandS.TupSets
import KE.GoesZip
import KE.GoesMore
import KE.GoesEnum
import HandS.SetFor
import HandS.Strs
import PyProof.StrOps2
import KE.GoesRaise
import KE.KAsSuite
import HandS.SuiteRaise
import HandS.RaiseFrom
import HandS.ExcInitHot
import HandS.Codes
import PyProof.Rows.StrPartPair
import PyProof.Rows.StrSplitMax
import PySem.Challenge.RW_standloss_k62_sayings_as_texts
set_option Elab.async false
set_option linter.all false
set_option maxRecDepth 100000
namespace AM
open PySem L2
/-- plain data -/
inductive D where
  | non | bl (b : Bool) | int (i : Int) | str (s : Str) | lst (ds : List D) | tup (ds : List D) | exc (c : Str) (ds : List D) | scr (ns : List Int) | obj (c : Str) (fs : List Str) (ds : List D) | fn (c : Str)
/-- what a slot holds: shared data, or a tree whose lists, objects, dicts nobody else knows -/
inductive W where
  | sh (d : D) | ol (ws : List W) | ot (ws : List W) | ob (c : Str) (fs : List Str) (ws : List W) | dk (ks : List Key) (ws : List W) | dt (ks : List (List Key)) (ws : List W)
structure GX where
  K : PySem.W.Frag
  mg : Str → Option Value
/-- an exception that is held as a value -/
def exv (a C : Addr) (d : Option Addr) : HO := .ext fun h => ∃ (oe : Obj) (vs : Array Value), h.get? a = some oe ∧ oe.cls = .ref C ∧ oe.dict = d ∧ oe.data = .fields vs
section
variable (G : GX) (B H : Hp)
mutual
def repD : D → V → Prop
  | .non, v => v = .non
  | .bl b, v => v = .bl b
  | .int i, v => v = .int i
  | .str s, v => v = .str s
  | .lst ds, v => ∃ a vs, v = .ref a ∧ B a = some (.lst vs) ∧ repDs ds vs
  | .scr ns, v => ∃ a, v = .ref a ∧ SqL G.K B a (ns.map V.int)
  | .fn c, v => ∃ f, v = .ref f ∧ G.mg c = some (.ref f) ∧ PySem.W.keepIn G.K (.ref f) = true
  | .tup ds, v => ∃ a vs, v = .ref a ∧ SqT G.K B a vs ∧ repDs ds vs
  | .exc c ds, v => ∃ a C d, v = .ref a ∧ G.mg c = some (.ref C) ∧ B a = some (exv a C d) ∧
      ((d = none ∧ ds = []) ∨ ∃ dd x, d = some dd ∧ B dd = some (.xd [(("place" : Str), x)]) ∧ repDs ds [x])
  | .obj c fs ds, v => ∃ p dx C vs, v = .ref p ∧ G.mg c = some (.ref C) ∧ B p = some (.ins C dx (fs.zip vs)) ∧ B dx = some (.own p) ∧ fs.length = vs.length ∧ repDs ds vs
def repDs : List D → List V → Prop
  | [], vs => vs = []
  | d :: ds, vs => ∃ v r, vs = v :: r ∧ repD d v ∧ repDs ds r
end
mutual
def relW : W → V → List Addr → Prop
  | .sh d, v, f => repD G B d v ∧ f = []
  | .ol ws, v, f => ∃ p vs g, v = .ref p ∧ H p = some (.lst vs) ∧ relWs ws vs g ∧ f = p :: g
  | .ot ws, v, f => ∃ p vs, v = .ref p ∧ B p = some (.tup vs) ∧ relWs ws vs f
  | .ob c fs ws, v, f => ∃ p dx C vs g, v = .ref p ∧ G.mg c = some (.ref C) ∧ H p = some (.ins C dx (fs.zip vs)) ∧ H dx = some (.own p) ∧ fs.length = vs.length ∧ relWs ws vs g ∧ f = p :: dx :: g
  | .dk ks ws, v, f => ∃ p vs g, v = .ref p ∧ H p = some (.dK (ks.zip vs)) ∧ ks.length = vs.length ∧ relWs ws vs g ∧ f = p :: g
  | .dt ks ws, v, f => ∃ p vs g, v = .ref p ∧ H p = some (.dT (ks.zip vs)) ∧ ks.length = vs.length ∧ relWs ws vs g ∧ f = p :: g
def relWs : List W → List V → List Addr → Prop
  | [], vs, f => vs = [] ∧ f = []
  | w :: ws, vs, f => ∃ v r g1 g2, vs = v :: r ∧ relW w v g1 ∧ relWs ws r g2 ∧ f = g1 ++ g2
end
end
mutual
def W.toD : W → Option D
  | .sh d => some d
  | .ol ws => (W.toDs ws).map D.lst
  | .ot ws => (W.toDs ws).map D.tup
  | .ob c fs ws => (W.toDs ws).map (D.obj c fs)
  | .dk _ _ => none
  | .dt _ _ => none
def W.toDs : List W → Option (List D)
  | [] => some []
  | w :: ws => match W.toD w, W.toDs ws with
    | some d, some ds => some (d :: ds)
    | _, _ => none
end
section
variable {G : GX} {B H B' H' : Hp}
theorem sqT_of_same {K : PySem.W.Frag} {a : Addr} {xs : List V} (e : Same B B') (h : SqT K B a xs) : SqT K B' a xs := by
  rcases h with (h | ⟨o, h⟩) | h
  · exact .inl (.inl (e _ _ h))
  · exact .inl (.inr ⟨o, e _ _ h⟩)
  · exact .inr h
mutual
theorem repD_mono (e : Same B B') : ∀ {d : D} {v : V}, repD G B d v → repD G B' d v
  | .non, _, h => by simpa [repD] using h
  | .bl _, _, h => by simpa [repD] using h
  | .int _, _, h => by simpa [repD] using h
  | .str _, _, h => by simpa [repD] using h
  | .lst ds, v, h => by
    simp only [repD] at h ⊢
    obtain ⟨a, vs, h1, h2, h3⟩ := h
    exact ⟨a, vs, h1, e _ _ h2, repDs_mono e h3⟩
  | .scr ns, v, h => by
    simp only [repD] at h ⊢
    obtain ⟨a, h1, h2⟩ := h
    exact ⟨a, h1, Same.seq e h2⟩
  | .fn c, v, h => by
    simp only [repD] at h ⊢
    exact h
  | .tup ds, v, h => by
    simp only [repD] at h ⊢
    obtain ⟨a, vs, h1, h2, h3⟩ := h
    exact ⟨a, vs, h1, sqT_of_same e h2, repDs_mono e h3⟩
  | .exc c ds, v, h => by
    simp only [repD] at h ⊢
    obtain ⟨a, C, d, h1, h2, h3, h4⟩ := h
    refine ⟨a, C, d, h1, h2, e _ _ h3, ?_⟩
    rcases h4 with h4 | ⟨dd, x, h5, h6, h7⟩
    · exact .inl h4
    · exact .inr ⟨dd, x, h5, e _ _ h6, repDs_mono e h7⟩
  | .obj c fs ds, v, h => by
    simp only [repD] at h ⊢
    obtain ⟨p, dx, C, vs, h1, h2, h3, h4, h5, h6⟩ := h
    exact ⟨p, dx, C, vs, h1, h2, e _ _ h3, e _ _ h4, h5, repDs_mono e h6⟩
theorem repDs_mono (e : Same B B') : ∀ {ds : List D} {vs : List V}, repDs G B ds vs → repDs G B' ds vs
  | [], _, h => by simpa [repDs] using h
  | d :: ds, vs, h => by
    simp only [repDs] at h ⊢
    obtain ⟨v, r, h1, h2, h3⟩ := h
    exact ⟨v, r, h1, repD_mono e h2, repDs_mono e h3⟩
end
mutual
theorem relW_frame (e : Same B B') : ∀ {w : W} {v : V} {f : List Addr}, relW G B H w v f → (∀ q ∈ f, H' q = H q) → relW G B' H' w v f
  | .sh d, v, f, h, _ => by
    simp only [relW] at h ⊢
    exact ⟨repD_mono e h.1, h.2⟩
  | .ol ws, v, f, h, k => by
    simp only [relW] at h ⊢
    obtain ⟨p, vs, g, h1, h2, h3, rfl⟩ := h
    exact ⟨p, vs, g, h1, (k p (by simp)).trans h2, relWs_frame e h3 (fun q hq => k q (by simp [hq])), rfl⟩
  | .ot ws, v, f, h, k => by
    simp only [relW] at h ⊢
    obtain ⟨p, vs, h1, h2, h3⟩ := h
    exact ⟨p, vs, h1, e _ _ h2, relWs_frame e h3 k⟩
  | .ob c fs ws, v, f, h, k => by
    simp only [relW] at h ⊢
    obtain ⟨p, dx, C, vs, g, h1, h2, h3, h4, h5, h6, rfl⟩ := h
    exact ⟨p, dx, C, vs, g, h1, h2, (k p (by simp)).trans h3, (k dx (by simp)).trans h4, h5, relWs_frame e h6 (fun q hq => k q (by simp [hq])), rfl⟩
  | .dk ks ws, v, f, h, k => by
    simp only [relW] at h ⊢
    obtain ⟨p, vs, g, h1, h2, h3, h4, rfl⟩ := h
    exact ⟨p, vs, g, h1, (k p (by simp)).trans h2, h3, relWs_frame e h4 (fun q hq => k q (by simp [hq])), rfl⟩
  | .dt ks ws, v, f, h, k => by
    simp only [relW] at h ⊢
    obtain ⟨p, vs, g, h1, h2, h3, h4, rfl⟩ := h
    exact ⟨p, vs, g, h1, (k p (by simp)).trans h2, h3, relWs_frame e h4 (fun q hq => k q (by simp [hq])), rfl⟩
theorem relWs_frame (e : Same B B') : ∀ {ws : List W} {vs : List V} {f : List Addr}, relWs G B H ws vs f → (∀ q ∈ f, H' q = H q) → relWs G B' H' ws vs f
  | [], _, _, h, _ => by simpa [relWs] using h
  | w :: ws, vs, f, h, k => by
    simp only [relWs] at h ⊢
    obtain ⟨v, r, g1, g2, h1, h2, h3, rfl⟩ := h
    exact ⟨v, r, g1, g2, h1, relW_frame e h2 (fun q hq => k q (by simp [hq])), relWs_frame e h3 (fun q hq => k q (by simp [hq])), rfl⟩
end
mutual
theorem relW_live : ∀ {w : W} {v : V} {f : List Addr}, relW G B H w v f → ∀ q ∈ f, H q ≠ none
  | .sh d, v, f, h, q, hq => by
    simp only [relW] at h
    rw [h.2] at hq
    simp at hq
  | .ol ws, v, f, h, q, hq => by
    simp only [relW] at h
    obtain ⟨p, vs, g, h1, h2, h3, rfl⟩ := h
    rcases List.mem_cons.mp hq with rfl | hq
    · simp [h2]
    · exact relWs_live h3 q hq
  | .ot ws, v, f, h, q, hq => by
    simp only [relW] at h
    obtain ⟨p, vs, h1, h2, h3⟩ := h
    exact relWs_live h3 q hq
  | .ob c fs ws, v, f, h, q, hq => by
    simp only [relW] at h
    obtain ⟨p, dx, C, vs, g, h1, h2, h3, h4, h5, h6, rfl⟩ := h
    rcases List.mem_cons.mp hq with rfl | hq
    · simp [h3]
    · rcases List.mem_cons.mp hq with rfl | hq
      · simp [h4]
      · exact relWs_live h6 q hq
  | .dk ks ws, v, f, h, q, hq => by
    simp only [relW] at h
    obtain ⟨p, vs, g, h1, h2, h3, h4, rfl⟩ := h
    rcases List.mem_cons.mp hq with rfl | hq
    · simp [h2]
    · exact relWs_live h4 q hq
  | .dt ks ws, v, f, h, q, hq => by
    simp only [relW] at h
    obtain ⟨p, vs, g, h1, h2, h3, h4, rfl⟩ := h
    rcases List.mem_cons.mp hq with rfl | hq
    · simp [h2]
    · exact relWs_live h4 q hq
theorem relWs_live : ∀ {ws : List W} {vs : List V} {f : List Addr}, relWs G B H ws vs f → ∀ q ∈ f, H q ≠ none
  | [], _, _, h, q, hq => by
    simp only [relWs] at h
    rw [h.2] at hq
    simp at hq
  | w :: ws, vs, f, h, q, hq => by
    simp only [relWs] at h
    obtain ⟨v, r, g1, g2, h1, h2, h3, rfl⟩ := h
    rcases List.mem_append.mp hq with hq | hq
    · exact relW_live h2 q hq
    · exact relWs_live h3 q hq
end
mutual
theorem relW_toD (e : Same B B') : ∀ {w : W} {v : V} {f : List Addr} {d : D}, relW G B H w v f → w.toD = some d → (∀ q ∈ f, B' q = H q) → repD G B' d v
  | .sh d0, v, f, d, h, t, k => by
    simp only [relW] at h
    simp only [W.toD, Option.some.injEq] at t
    subst t
    exact repD_mono e h.1
  | .ol ws, v, f, d, h, t, k => by
    simp only [relW] at h
    obtain ⟨p, vs, g, h1, h2, h3, rfl⟩ := h
    simp only [W.toD, Option.map_eq_some_iff] at t
    obtain ⟨ds, t1, rfl⟩ := t
    simp only [repD]
    exact ⟨p, vs, h1, (k p (by simp)).trans h2, relWs_toD e h3 t1 (fun q hq => k q (by simp [hq]))⟩
  | .ot ws, v, f, d, h, t, k => by
    simp only [relW] at h
    obtain ⟨p, vs, h1, h2, h3⟩ := h
    simp only [W.toD, Option.map_eq_some_iff] at t
    obtain ⟨ds, t1, rfl⟩ := t
    simp only [repD]
    exact ⟨p, vs, h1, SqT.of (e _ _ h2), relWs_toD e h3 t1 k⟩
  | .ob c fs ws, v, f, d, h, t, k => by
    simp only [relW] at h
    obtain ⟨p, dx, C, vs, g, h1, h2, h3, h4, h5, h6, rfl⟩ := h
    simp only [W.toD, Option.map_eq_some_iff] at t
    obtain ⟨ds, t1, rfl⟩ := t
    simp only [repD]
    exact ⟨p, dx, C, vs, h1, h2, (k p (by simp)).trans h3, (k dx (by simp)).trans h4, h5, relWs_toD e h6 t1 (fun q hq => k q (by simp [hq]))⟩
  | .dk _ _, _, _, _, _, t, _ => by simp [W.toD] at t
  | .dt _ _, _, _, _, _, t, _ => by simp [W.toD] at t
theorem relWs_toD (e : Same B B') : ∀ {ws : List W} {vs : List V} {f : List Addr} {ds : List D}, relWs G B H ws vs f → W.toDs ws = some ds → (∀ q ∈ f, B' q = H q) → repDs G B' ds vs
  | [], vs, f, ds, h, t, k => by
    simp only [relWs] at h
    simp only [W.toDs, Option.some.injEq] at t
    subst t
    simp only [repDs]
    exact h.1
  | w :: ws, vs, f, ds, h, t, k => by
    simp only [relWs] at h
    obtain ⟨v, r, g1, g2, h1, h2, h3, rfl⟩ := h
    simp only [W.toDs] at t
    split at t
    · rename_i d ds' e1 e2
      simp only [Option.some.injEq] at t
      subst t
      simp only [repDs]
      exact ⟨v, r, h1, relW_toD e h2 e1 (fun q hq => k q (by simp [hq])), relWs_toD e h3 e2 (fun q hq => k q (by simp [hq]))⟩
    · exact absurd t (by simp)
end
theorem repDs_length : ∀ {ds : List D} {vs : List V}, repDs G B ds vs → ds.length = vs.length
  | [], _, h => by simp only [repDs] at h; simp [h]
  | d :: ds, vs, h => by
    simp only [repDs] at h
    obtain ⟨v, r, rfl, _, h3⟩ := h
    simp [repDs_length h3]
theorem relWs_length : ∀ {ws : List W} {vs : List V} {f : List Addr}, relWs G B H ws vs f → ws.length = vs.length
  | [], _, _, h => by simp only [relWs] at h; simp [h.1]
  | w :: ws, vs, f, h => by
    simp only [relWs] at h
    obtain ⟨v, r, g1, g2, rfl, _, h3, _⟩ := h
    simp [relWs_length h3]
theorem repDs_get : ∀ {ds : List D} {vs : List V} {i : Nat} {d : D}, repDs G B ds vs → ds[i]? = some d → ∃ v, vs[i]? = some v ∧ repD G B d v
  | [], _, i, d, _, e => by simp at e
  | d0 :: ds, vs, 0, d, h, e => by
    simp only [repDs] at h
    obtain ⟨v, r, rfl, h2, h3⟩ := h
    simp at e
    subst e
    exact ⟨v, by simp, h2⟩
  | d0 :: ds, vs, i + 1, d, h, e => by
    simp only [repDs] at h
    obtain ⟨v, r, rfl, h2, h3⟩ := h
    simp at e
    obtain ⟨u, h4, h5⟩ := repDs_get h3 e
    exact ⟨u, by simpa using h4, h5⟩
theorem repDs_append : ∀ {ds es : List D} {vs us : List V}, repDs G B ds vs → repDs G B es us → repDs G B (ds ++ es) (vs ++ us)
  | [], es, vs, us, h, k => by
    simp only [repDs] at h
    subst h
    simpa using k
  | d :: ds, es, vs, us, h, k => by
    simp only [repDs] at h
    obtain ⟨v, r, rfl, h2, h3⟩ := h
    show repDs G B (d :: (ds ++ es)) (v :: (r ++ us))
    simp only [repDs]
    exact ⟨v, r ++ us, rfl, h2, repDs_append h3 k⟩
theorem relWs_append : ∀ {ws xs : List W} {vs us : List V} {f g : List Addr}, relWs G B H ws vs f → relWs G B H xs us g → relWs G B H (ws ++ xs) (vs ++ us) (f ++ g)
  | [], xs, vs, us, f, g, h, k => by
    simp only [relWs] at h
    obtain ⟨rfl, rfl⟩ := h
    simpa using k
  | w :: ws, xs, vs, us, f, g, h, k => by
    simp only [relWs] at h
    obtain ⟨v, r, g1, g2, rfl, h2, h3, rfl⟩ := h
    show relWs G B H (w :: (ws ++ xs)) (v :: (r ++ us)) _
    simp only [relWs]
    exact ⟨v, r ++ us, g1, g2 ++ g, rfl, h2, relWs_append h3 k, by simp⟩
theorem relWs_sh : ∀ {ds : List D} {vs : List V}, repDs G B ds vs → relWs G B H (ds.map W.sh) vs []
  | [], vs, h => by
    simp only [repDs] at h
    simp [relWs, h]
  | d :: ds, vs, h => by
    simp only [repDs] at h
    obtain ⟨v, r, rfl, h2, h3⟩ := h
    show relWs G B H (W.sh d :: ds.map W.sh) _ _
    simp only [relWs]
    exact ⟨v, r, [], [], rfl, by simp only [relW]; exact ⟨h2, trivial⟩, relWs_sh h3, rfl⟩
/-- one of a row of trees taken out -/
theorem relWs_split : ∀ {ws : List W} {vs : List V} {f : List Addr} {i : Nat} {w : W}, relWs G B H ws vs f → ws[i]? = some w →
    ∃ w1 w2 v1 v v2 f1 g f2, ws = w1 ++ w :: w2 ∧ vs = v1 ++ v :: v2 ∧ w1.length = i ∧ v1.length = i ∧ f = f1 ++ (g ++ f2) ∧ relWs G B H w1 v1 f1 ∧ relW G B H w v g ∧ relWs G B H w2 v2 f2
  | [], _, _, i, w, _, e => by simp at e
  | w0 :: ws, vs, f, 0, w, h, e => by
    simp only [relWs] at h
    obtain ⟨v, r, g1, g2, rfl, h2, h3, rfl⟩ := h
    simp at e
    subst e
    exact ⟨[], ws, [], v, r, [], g1, g2, rfl, rfl, rfl, rfl, by simp, by simp [relWs], h2, h3⟩
  | w0 :: ws, vs, f, i + 1, w, h, e => by
    simp only [relWs] at h
    obtain ⟨v, r, g1, g2, rfl, h2, h3, rfl⟩ := h
    simp at e
    obtain ⟨w1, w2, v1, u, v2, f1, g, f2, rfl, rfl, h4, h5, rfl, h6, h7, h8⟩ := relWs_split h3 e
    exact ⟨w0 :: w1, w2, v :: v1, u, v2, g1 ++ f1, g, f2, rfl, rfl, by simp [h4], by simp [h5], by simp, by simp only [relWs]; exact ⟨v, v1, g1, f1, rfl, h2, h6, rfl⟩, h7, h8⟩
theorem relWs_join {w1 w2 : List W} {v1 v2 : List V} {w : W} {v : V} {f1 g f2 : List Addr} (h1 : relWs G B H w1 v1 f1) (h : relW G B H w v g) (h2 : relWs G B H w2 v2 f2) : relWs G B H (w1 ++ w :: w2) (v1 ++ v :: v2) (f1 ++ (g ++ f2)) :=
  relWs_append h1 (by simp only [relWs]; exact ⟨v, v2, g, f2, rfl, h, h2, rfl⟩)
end
end AM
set_option Elab.async false
set_option linter.all false
set_option maxRecDepth 100000
namespace AM
open PySem L2
abbrev Env := List (Option W)
structure XV where
  c : Str
  ds : List D
inductive Res (α : Type) where
  | ok (a : α)
  | ex (e : XV)
abbrev ME (α : Type) := Env → Option (Res α × Env)
def ME.bind {α β : Type} (m : ME α) (f : α → ME β) : ME β := fun env => match m env with
  | none => none
  | some (.ok a, e) => f a e
  | some (.ex x, e) => some (.ex x, e)
def ME.pure {α : Type} (a : α) : ME α := fun env => some (.ok a, env)
def ME.stuck {α : Type} : ME α := fun _ => none
/-- what a partial function of the data gives -/
def ME.op {α β : Type} (g : α → Option β) (a : α) : ME β := fun env => (g a).map fun b => (.ok b, env)
section
variable (G : GX)
def relS (B H : Hp) (o : Option V) (w : Option W) (f : List Addr) : Prop :=
  match w with
  | none => f = []
  | some w => ∃ v, o = some v ∧ relW G B H w v f
def relE (B H : Hp) : St → Env → List Addr → Prop
  | σ, [], f => σ = [] ∧ f = []
  | σ, w :: e, f => ∃ o τ f1 f2, σ = o :: τ ∧ relS G B H o w f1 ∧ relE B H τ e f2 ∧ f = f1 ++ f2
structure Ok (B H : Hp) (σ : St) (env : Env) (fp : List Addr) : Prop where
  sub : Same B H
  rel : relE G B H σ env fp
  nd : fp.Nodup
  out : ∀ q ∈ fp, B q = none
end
/-- what a piece of code may do to the heap: change what it owns, lay new things, let things go into the common ground -/
structure Step (B H : Hp) (fp : List Addr) (B' H' : Hp) (S : List Addr) : Prop where
  keep : ∀ a o, H a = some o → a ∉ fp → H' a = some o
  bext : Same B B'
  bold : ∀ a, H a ≠ none → a ∉ fp → B' a = B a
  new : ∀ a ∈ S, a ∈ fp ∨ H a = none
  live : ∀ a, H a ≠ none → H' a ≠ none
section
variable {G : GX} {B H B' H' B1 H1 B2 H2 : Hp} {σ : St} {env : Env} {fp S T : List Addr}
theorem Step.refl (h : ∀ a ∈ S, a ∈ fp) : Step B H fp B H S := ⟨fun _ _ h _ => h, fun _ _ h => h, fun _ _ _ => rfl, fun a ha => .inl (h a ha), fun _ h => h⟩
theorem Step.trans {f1 : List Addr} (a : Step B H fp B1 H1 (S ++ f1)) (b : Step B1 H1 f1 B2 H2 T) : Step B H fp B2 H2 (S ++ T) where
  keep := fun x o h n => b.keep x o (a.keep x o h n) fun z => by
    rcases a.new x (by simp [z]) with z | z
    · exact n z
    · rw [z] at h; cases h
  bext := fun x o h => b.bext x o (a.bext x o h)
  bold := fun x h n => (b.bold x (a.live x h) fun z => by
    rcases a.new x (by simp [z]) with z | z
    · exact n z
    · exact h z).trans (a.bold x h n)
  new := fun x hx => by
    rcases List.mem_append.mp hx with hx | hx
    · exact a.new x (by simp [hx])
    · rcases b.new x hx with z | z
      · exact a.new x (by simp [z])
      · refine .inr ?_
        cases q : H x with
        | none => rfl
        | some o => exact absurd z (a.live x (by simp [q]))
  live := fun x h => b.live x (a.live x h)
theorem Step.mono (a : Step B H fp B' H' S) (h : ∀ x ∈ T, x ∈ S) : Step B H fp B' H' T := ⟨a.keep, a.bext, a.bold, fun x hx => a.new x (h x hx), a.live⟩
theorem Step.drop {f1 : List Addr} (a : Step B H fp B' H' (S ++ f1)) : Step B H fp B' H' ([] ++ f1) := a.mono fun x hx => by
  have : x ∈ f1 := by simpa using hx
  simp [this]
theorem relS_frame {o : Option V} {w : Option W} {f : List Addr} (e : Same B B') (h : relS G B H o w f) (k : ∀ q ∈ f, H' q = H q) : relS G B' H' o w f := by
  cases w with
  | none => exact h
  | some w =>
    obtain ⟨v, h1, h2⟩ := h
    exact ⟨v, h1, relW_frame e h2 k⟩
theorem relE_frame (e : Same B B') : ∀ {env : Env} {σ : St} {f : List Addr}, relE G B H σ env f → (∀ q ∈ f, H' q = H q) → relE G B' H' σ env f
  | [], _, _, h, _ => h
  | w :: env, σ, f, h, k => by
    obtain ⟨o, τ, f1, f2, h1, h2, h3, rfl⟩ := h
    exact ⟨o, τ, f1, f2, h1, relS_frame e h2 (fun q hq => k q (by simp [hq])), relE_frame e h3 (fun q hq => k q (by simp [hq])), rfl⟩
theorem relE_live : ∀ {env : Env} {σ : St} {f : List Addr}, relE G B H σ env f → ∀ q ∈ f, H q ≠ none
  | [], _, _, h, q, hq => by
    rw [h.2] at hq
    simp at hq
  | w :: env, σ, f, h, q, hq => by
    obtain ⟨o, τ, f1, f2, h1, h2, h3, rfl⟩ := h
    rcases List.mem_append.mp hq with hq | hq
    · cases w with
      | none =>
        rw [show f1 = [] from h2] at hq
        simp at hq
      | some w =>
        obtain ⟨v, _, h2⟩ := h2
        exact relW_live h2 q hq
    · exact relE_live h3 q hq
theorem relE_length : ∀ {env : Env} {σ : St} {f : List Addr}, relE G B H σ env f → σ.length = env.length
  | [], _, _, h => by simp [h.1]
  | w :: env, σ, f, h => by
    obtain ⟨o, τ, f1, f2, rfl, h2, h3, rfl⟩ := h
    simp [relE_length h3]
theorem relE_split : ∀ {env : Env} {σ : St} {f : List Addr} {i : Nat} {w : Option W}, relE G B H σ env f → env[i]? = some w →
    ∃ e1 e2 s1 o s2 f1 g f2, env = e1 ++ w :: e2 ∧ σ = s1 ++ o :: s2 ∧ e1.length = i ∧ s1.length = i ∧ f = f1 ++ (g ++ f2) ∧ relE G B H s1 e1 f1 ∧ relS G B H o w g ∧ relE G B H s2 e2 f2
  | [], σ, f, i, w, _, e => by simp at e
  | w0 :: env, σ, f, 0, w, h, e => by
    obtain ⟨o, τ, f1, f2, rfl, h2, h3, rfl⟩ := h
    simp at e
    subst e
    exact ⟨[], env, [], o, τ, [], f1, f2, rfl, rfl, rfl, rfl, by simp, ⟨rfl, rfl⟩, h2, h3⟩
  | w0 :: env, σ, f, i + 1, w, h, e => by
    obtain ⟨o, τ, f1, f2, rfl, h2, h3, rfl⟩ := h
    simp at e
    obtain ⟨e1, e2, s1, u, s2, g1, g, g2, rfl, rfl, h4, h5, rfl, h6, h7, h8⟩ := relE_split h3 e
    exact ⟨w0 :: e1, e2, o :: s1, u, s2, f1 ++ g1, g, g2, rfl, rfl, by simp [h4], by simp [h5], by simp, ⟨o, s1, f1, g1, rfl, h2, h6, rfl⟩, h7, h8⟩
theorem relE_append : ∀ {e1 e2 : Env} {s1 s2 : St} {f1 f2 : List Addr}, relE G B H s1 e1 f1 → relE G B H s2 e2 f2 → relE G B H (s1 ++ s2) (e1 ++ e2) (f1 ++ f2)
  | [], _, _, _, _, _, h, k => by
    obtain ⟨rfl, rfl⟩ := h
    simpa using k
  | w :: e1, e2, s1, s2, f1, f2, h, k => by
    obtain ⟨o, τ, g1, g2, rfl, h2, h3, rfl⟩ := h
    exact ⟨o, τ ++ s2, g1, g2 ++ f2, rfl, h2, relE_append h3 k, by simp⟩
theorem relE_join {e1 e2 : Env} {s1 s2 : St} {w : Option W} {o : Option V} {f1 g f2 : List Addr} (h1 : relE G B H s1 e1 f1) (h : relS G B H o w g) (h2 : relE G B H s2 e2 f2) : relE G B H (s1 ++ o :: s2) (e1 ++ w :: e2) (f1 ++ (g ++ f2)) :=
  relE_append h1 ⟨o, s2, g, f2, rfl, h, h2, rfl⟩
theorem set_mid {α : Type} {a b : List α} {x y : α} {i : Nat} (h : a.length = i) : (a ++ x :: b).set i y = a ++ y :: b := by
  subst h
  simp
theorem get_mid {α : Type} {a b : List α} {x : α} {i : Nat} (h : a.length = i) : (a ++ x :: b)[i]? = some x := by
  subst h
  simp
end
/-- the relation of a result: from the ground, the heap, the mirror's value, the machine's, the owned addresses -/
abbrev RR (α β : Type) := Hp → Hp → α → β → List Addr → Prop
structure RR.Good {α β : Type} (R : RR α β) : Prop where
  frame : ∀ {B H B' H' : Hp} {a : α} {b : β} {f : List Addr}, R B H a b f → Same B B' → (∀ q ∈ f, H' q = H q) → R B' H' a b f
  live : ∀ {B H : Hp} {a : α} {b : β} {f : List Addr}, R B H a b f → ∀ q ∈ f, H q ≠ none
def rW (G : GX) : RR W V := relW G
def rWs (G : GX) : RR (List W) (List V) := relWs G
def rEqv (α : Type) : RR α α := fun _ _ a b f => a = b ∧ f = []
def rPair {α β γ δ : Type} (R : RR α β) (T : RR γ δ) : RR (α × γ) (β × δ) := fun B H a b f => ∃ f1 f2, R B H a.1 b.1 f1 ∧ T B H a.2 b.2 f2 ∧ f = f1 ++ f2
theorem rW_good (G : GX) : (rW G).Good := ⟨fun h e k => relW_frame e h k, fun h => relW_live h⟩
theorem rEqv_good (α : Type) : (rEqv α).Good := ⟨fun h _ _ => h, fun h q hq => by rw [h.2] at hq; simp at hq⟩
structure Post {α β : Type} (G : GX) (k p : Bool) (R : RR α β) (B H : Hp) (σ : St) (env : Env) (fp : List Addr) (a : α) (env' : Env) (b : β) (H' B' : Hp) (f0 fp2 : List Addr) : Prop where
  ok : Ok G B' H' σ env' fp2
  rel : R B' H' a b f0
  out : ∀ q ∈ f0, B' q = none
  step : Step B H fp B' H' (f0 ++ fp2)
  own : k = true → f0.Nodup ∧ ∀ q ∈ f0, q ∉ fp2
  pure : p = true → Same H H' ∧ (∀ q, H q ≠ none → B' q = B q) ∧ env' = env ∧ fp2 = fp
/-- an exception on its way: class, own dict -/
def relX (G : GX) (H : Hp) (x : XV) (cls : Value) (d : Option Addr) : Prop :=
  ∃ C, cls = .ref C ∧ G.mg x.c = some (.ref C) ∧ ((d = none ∧ x.ds = []) ∨ ∃ dd v y, d = some dd ∧ H dd = some (.xd [(("place" : Str), v)]) ∧ x.ds = [y] ∧ repD G (fun _ => none) y v)
def Cont {α β : Type} (G : GX) (k p : Bool) (R : RR α β) (Wx : WX) (B H : Hp) (σ : St) (env : Env) (fp : List Addr) (r : Option (Res α × Env)) (Q : β → Hp → Prop) : Prop :=
  match r with
  | none => False
  | some (.ok a, env') => ∀ b H' B' f0 fp2, Post G k p R B H σ env fp a env' b H' B' f0 fp2 → Q b H'
  | some (.ex x, env') => ∀ cls d H' B' fp2, Ok G B' H' σ env' fp2 → Step B H fp B' H' fp2 → relX G H' x cls d → (∀ dd, d = some dd → B' dd = none ∧ dd ∉ fp2 ∧ H dd = none) → Wx cls d σ H'
def Sim {α β : Type} (G : GX) (k p : Bool) (Wx : WX) (R : RR α β) (t : St → Hp → (β → Hp → Prop) → Prop) (m : ME α) : Prop :=
  ∀ B H σ env fp, Ok G B H σ env fp → ∀ Q, Cont G k p R Wx B H σ env fp (m env) Q → t σ H Q
/-- a reading of values alone -/
def OpS {α β γ δ : Type} (R : RR α β) (T : RR γ δ) (r : β → Hp → (δ → Hp → Prop) → Prop) (g : α → Option γ) : Prop :=
  ∀ (B H : Hp) (a : α) (b : β) (f : List Addr) (c : γ), Same B H → R B H a b f → (∀ q ∈ f, B q = none) → g a = some c → ∀ Q : δ → Hp → Prop,
    (∀ y H' B' f', Same H H' → Same B B' → Same B' H' → (∀ q, H q ≠ none → B' q = B q) → (∀ q ∈ f', H q = none ∧ B' q = none) → f'.Nodup → T B' H' c y f' → Q y H') → r b H Q
section
variable {α β γ δ : Type} {G : GX} {k p k2 p2 : Bool} {Wx : WX} {R : RR α β} {T : RR γ δ} {t : St → Hp → (β → Hp → Prop) → Prop} {u : St → Hp → (δ → Hp → Prop) → Prop} {m : ME α} {n : ME γ}
theorem same_some {H H' : Hp} (s : Same H H') {q : Addr} (h : H q ≠ none) : H' q = H q := by
  cases e : H q with
  | none => exact absurd e h
  | some o => exact s q o e
/-- one behind the other -/
theorem Sim.pair (gR : R.Good) (h1 : Sim G k p Wx R t m) (h2 : Sim G k2 p2 Wx T u n) (hc : k = true ∨ p2 = true) :
    Sim G (k && k2) (p && p2) Wx (rPair R T) (fun σ H Q => t σ H fun x H1 => u σ H1 fun y H2 => Q (x, y) H2) (m.bind fun a => n.bind fun b => ME.pure (a, b)) := by
  intro B H σ env fp O Q c
  refine h1 B H σ env fp O _ ?_
  unfold ME.bind at c
  cases e1 : m env with
  | none => rw [e1] at c; exact c
  | some r1 =>
    obtain ⟨r1, env1⟩ := r1
    rw [e1] at c
    cases r1 with
    | ex x => exact c
    | ok a =>
      intro x H1 B1 f1 fp1 P1
      refine h2 B1 H1 σ env1 fp1 P1.ok _ ?_
      simp only at c
      cases e2 : n env1 with
      | none => rw [e2] at c; exact c
      | some r2 =>
        obtain ⟨r2, env2⟩ := r2
        rw [e2] at c
        cases r2 with
        | ex x =>
          intro cls d H2 B2 fp2 O2 S2 hx hd
          refine c cls d H2 B2 fp2 O2 (P1.step.drop.trans S2) hx fun dd e => ?_
          obtain ⟨a1, a2, a3⟩ := hd dd e
          refine ⟨a1, a2, ?_⟩
          cases q : H dd with
          | none => rfl
          | some o => exact absurd a3 (P1.step.live dd (by simp [q]))
        | ok b =>
          intro y H2 B2 f2 fp2 P2
          have live1 := gR.live P1.rel
          have kp : ∀ q ∈ f1, H2 q = H1 q := fun q hq => by
            rcases hc with hc | hc
            · have hn := (P1.own hc).2 q hq
              cases e : H1 q with
              | none => exact absurd e (live1 q hq)
              | some o => exact P2.step.keep q o e hn
            · exact same_some (P2.pure hc).1 (live1 q hq)
          refine c (x, y) H2 B2 (f1 ++ f2) fp2 ⟨P2.ok, ⟨f1, f2, gR.frame P1.rel P2.step.bext kp, P2.rel, rfl⟩, fun q hq => ?_, ?_, fun hk => ?_, fun hp => ?_⟩
          · rcases List.mem_append.mp hq with hq | hq
            · rcases hc with hc | hc
              · rw [P2.step.bold q (live1 q hq) ((P1.own hc).2 q hq)]
                exact P1.out q hq
              · rw [(P2.pure hc).2.1 q (live1 q hq)]
                exact P1.out q hq
            · exact P2.out q hq
          · have := P1.step.trans P2.step
            rw [List.append_assoc]
            exact this
          · simp only [Bool.and_eq_true] at hk
            obtain ⟨n1, d1⟩ := P1.own hk.1
            obtain ⟨n2, d2⟩ := P2.own hk.2
            have dis : ∀ q ∈ f1, q ∉ f2 ++ fp2 := fun q hq z => by
              rcases P2.step.new q z with z | z
              · exact d1 q hq z
              · exact live1 q hq z
            refine ⟨List.nodup_append.mpr ⟨n1, n2, fun q hq r hr e => ?_⟩, fun q hq z => ?_⟩
            · subst e
              exact dis q hq (by simp [hr])
            · rcases List.mem_append.mp hq with hq | hq
              · exact dis q hq (by simp [z])
              · exact d2 q hq z
          · simp only [Bool.and_eq_true] at hp
            obtain ⟨s1, b1, v1, u1⟩ := P1.pure hp.1
            obtain ⟨s2, b2, v2, u2⟩ := P2.pure hp.2
            exact ⟨fun q o h => s2 q o (s1 q o h), fun q h => (b2 q (P1.step.live q h)).trans (b1 q h), v2.trans v1, u2.trans u1⟩
/-- an operation on what a reading gives; what it gives is new -/
theorem Sim.op {r : β → Hp → (δ → Hp → Prop) → Prop} {g : α → Option γ} (h : Sim G k p Wx R t m) (ho : OpS R T r g) : Sim G true p Wx T (fun σ H Q => t σ H fun x H1 => r x H1 Q) (m.bind (ME.op g)) := by
  intro B H σ env fp O Q c
  refine h B H σ env fp O _ ?_
  unfold ME.bind at c
  cases e1 : m env with
  | none => rw [e1] at c; exact c
  | some r1 =>
    obtain ⟨r1, env1⟩ := r1
    rw [e1] at c
    cases r1 with
    | ex x => exact c
    | ok a =>
      intro x H1 B1 f1 fp1 P1
      simp only [ME.op] at c
      cases e2 : g a with
      | none => rw [e2] at c; exact c.elim
      | some b =>
        rw [e2] at c
        refine ho B1 H1 a x f1 b P1.ok.sub P1.rel P1.out e2 Q fun y H2 B2 f2 s1 s2 s3 s4 s5 s6 s7 => ?_
        have liveE := relE_live P1.ok.rel
        have fresh : ∀ q ∈ f2, q ∉ fp1 := fun q hq z => liveE q z (s5 q hq).1
        refine c y H2 B2 f2 fp1 ⟨⟨s3, relE_frame s2 P1.ok.rel fun q hq => same_some s1 (liveE q hq), P1.ok.nd, fun q hq => ?_⟩, s7, fun q hq => (s5 q hq).2, ⟨fun q o e n => ?_, fun q o e => s2 q o (P1.step.bext q o e), fun q h n => ?_, fun q hq => ?_, fun q h => ?_⟩, fun _ => ⟨s6, fresh⟩, fun hp => ?_⟩
        · rw [s4 q (liveE q hq)]
          exact P1.ok.out q hq
        · exact s1 q o (P1.step.keep q o e n)
        · rw [s4 q (P1.step.live q h)]
          exact P1.step.bold q h n
        · rcases List.mem_append.mp hq with hq | hq
          · refine .inr ?_
            cases e : H q with
            | none => rfl
            | some o => exact absurd (s5 q hq).1 (P1.step.live q (by simp [e]))
          · exact P1.step.new q (by simp [hq])
        · rw [same_some s1 (P1.step.live q h)]
          exact P1.step.live q h
        · obtain ⟨a1, a2, a3, a4⟩ := P1.pure hp
          exact ⟨fun q o e => s1 q o (a1 q o e), fun q e => (s4 q (P1.step.live q e)).trans (a2 q e), a3, a4⟩
/-- the weaker reading of a result -/
theorem Sim.own (h : Sim G true p Wx R t m) (k' : Bool) : Sim G k' p Wx R t m := by
  intro B H σ env fp O Q c
  refine h B H σ env fp O Q ?_
  cases e : m env with
  | none => rw [e] at c; exact c
  | some r =>
    obtain ⟨r, env'⟩ := r
    rw [e] at c
    cases r with
    | ex x => exact c
    | ok a => exact fun b H' B' f0 fp2 P => c b H' B' f0 fp2 ⟨P.ok, P.rel, P.out, P.step, fun _ => P.own rfl, P.pure⟩
theorem Sim.unpure (h : Sim G k true Wx R t m) (p' : Bool) : Sim G k p' Wx R t m := by
  intro B H σ env fp O Q c
  refine h B H σ env fp O Q ?_
  cases e : m env with
  | none => rw [e] at c; exact c
  | some r =>
    obtain ⟨r, env'⟩ := r
    rw [e] at c
    cases r with
    | ex x => exact c
    | ok a => exact fun b H' B' f0 fp2 P => c b H' B' f0 fp2 ⟨P.ok, P.rel, P.out, P.step, P.own, fun _ => P.pure rfl⟩
end
end AM
set_option Elab.async false
set_option linter.all false
set_option maxRecDepth 100000
namespace AM
open PySem L2
abbrev gx (X : Cx) : GX := ⟨X.K, X.mg⟩
/-- an expression does what m does -/
def SE (X : Cx) (Wx : WX) (k p : Bool) (e : Expr) (m : ME W) : Prop := ∃ t : TE, PE X e t ∧ Sim (gx X) k p Wx (rW (gx X)) t m
def SA (X : Cx) (Wx : WX) (k p : Bool) (es : List Expr) (m : ME (List W)) : Prop := ∃ t : TA, PA X es t ∧ Sim (gx X) k p Wx (rWs (gx X)) t m
def STt (X : Cx) (Wx : WX) (p : Bool) (e : Expr) (m : ME Bool) : Prop := ∃ t : TT, PT X e t ∧ Sim (gx X) true p Wx (rEqv Bool) t m
def mVar (i : Nat) : ME W := fun env => match env[i]? with
  | some (some w) => some (.ok w, env)
  | _ => none
def mVarS (i : Nat) : ME W := fun env => match env[i]? with
  | some (some (.sh d)) => some (.ok (.sh d), env)
  | _ => none
def mMov (i : Nat) : ME W := fun env => match env[i]? with
  | some (some w) => some (.ok w, env.set i none)
  | _ => none
def mFrz (i : Nat) : ME W := fun env => match env[i]? with
  | some (some w) => w.toD.map fun d => (.ok (.sh d), env.set i (some (.sh d)))
  | _ => none
/-- the ground grown by what stands at g -/
def grd (B H : Hp) (g : List Addr) : Hp := fun a => if a ∈ g then H a else B a
theorem grd_in {B H : Hp} {g : List Addr} {a : Addr} (h : a ∈ g) : grd B H g a = H a := if_pos h
theorem grd_out {B H : Hp} {g : List Addr} {a : Addr} (h : a ∉ g) : grd B H g a = B a := if_neg h
theorem grd_bext {B H : Hp} {g : List Addr} (h : ∀ q ∈ g, B q = none) : Same B (grd B H g) := fun a o e => by
  rw [grd_out (fun z => by rw [h a z] at e; cases e)]
  exact e
theorem grd_sub {B H : Hp} {g : List Addr} (s : Same B H) : Same (grd B H g) H := fun a o e => by
  unfold grd at e
  split at e
  · exact e
  · exact s a o e
section
variable {G : GX} {Wx : WX} {i : Nat}
theorem sim_var : Sim G false true Wx (rW G) (tVar i) (mVar i) := by
  intro B H σ env fp O Q c
  unfold mVar at c
  cases e : env[i]? with
  | none => rw [e] at c; exact c.elim
  | some w =>
    rw [e] at c
    cases w with
    | none => exact c.elim
    | some w =>
      obtain ⟨e1, e2, s1, o, s2, f1, g, f2, rfl, rfl, h1, h2, rfl, r1, ⟨v, rfl, rv⟩, r2⟩ := relE_split O.rel e
      refine ⟨v, get_mid h2, c v H B g (f1 ++ (g ++ f2)) ⟨O, rv, fun q hq => O.out q (by simp [hq]), Step.refl (fun a ha => by simp only [List.mem_append] at ha ⊢; grind), fun z => (Bool.noConfusion z), fun _ => ⟨Same.refl H, fun _ _ => rfl, rfl, rfl⟩⟩⟩
theorem sim_varS : Sim G true true Wx (rW G) (tVar i) (mVarS i) := by
  intro B H σ env fp O Q c
  unfold mVarS at c
  cases e : env[i]? with
  | none => rw [e] at c; exact c.elim
  | some w =>
    rw [e] at c
    cases w with
    | none => exact c.elim
    | some w =>
      cases w with
      | sh d =>
        obtain ⟨e1, e2, s1, o, s2, f1, g, f2, rfl, rfl, h1, h2, rfl, r1, ⟨v, rfl, rv⟩, r2⟩ := relE_split O.rel e
        refine ⟨v, get_mid h2, c v H B [] (f1 ++ (g ++ f2)) ⟨O, ?_, fun q hq => by simp at hq, Step.refl (by simp), fun z => ⟨List.nodup_nil, fun q hq => by simp at hq⟩, fun _ => ⟨Same.refl H, fun _ _ => rfl, rfl, rfl⟩⟩⟩
        simp only [relW] at rv
        show relW G B H _ _ _
        simp only [relW]
        exact ⟨rv.1, trivial⟩
      | ol _ => exact c.elim
      | ot _ => exact c.elim
      | ob _ _ _ => exact c.elim
      | dk _ _ => exact c.elim
      | dt _ _ => exact c.elim
theorem sim_mov (p : Bool) (hp : p = false) : Sim G true p Wx (rW G) (tVar i) (mMov i) := by
  intro B H σ env fp O Q c
  unfold mMov at c
  cases e : env[i]? with
  | none => rw [e] at c; exact c.elim
  | some w =>
    rw [e] at c
    cases w with
    | none => exact c.elim
    | some w =>
      obtain ⟨e1, e2, s1, o, s2, f1, g, f2, rfl, rfl, h1, h2, rfl, r1, ⟨v, rfl, rv⟩, r2⟩ := relE_split O.rel e
      have nd := O.nd
      simp only [List.nodup_append, List.mem_append] at nd
      obtain ⟨n1, ⟨n2, n3, n4⟩, n5⟩ := nd
      have O' : Ok G B H (s1 ++ some v :: s2) ((e1 ++ some w :: e2).set i none) (f1 ++ ([] ++ f2)) := by
        rw [set_mid h1]
        refine ⟨O.sub, relE_join r1 rfl r2, ?_, fun q hq => O.out q ?_⟩
        · simp only [List.nil_append, List.nodup_append]
          exact ⟨n1, n3, fun a ha b hb => n5 a ha b (.inr hb)⟩
        · simp only [List.nil_append, List.mem_append] at hq ⊢
          rcases hq with hq | hq
          · exact .inl hq
          · exact .inr (.inr hq)
      refine ⟨v, get_mid h2, c v H B g (f1 ++ ([] ++ f2)) ⟨O', rv, fun q hq => O.out q (by simp [hq]), Step.refl ?_, fun _ => ⟨n2, fun q hq z => ?_⟩, fun z => by rw [hp] at z; cases z⟩⟩
      · intro a ha
        simp only [List.nil_append, List.mem_append] at ha ⊢
        rcases ha with ha | ha | ha
        · exact .inr (.inl ha)
        · exact .inl ha
        · exact .inr (.inr ha)
      · simp only [List.nil_append, List.mem_append] at z
        rcases z with z | z
        · exact n5 q z q (.inl hq) rfl
        · exact n4 q hq q z rfl
theorem sim_frz (p : Bool) (hp : p = false) : Sim G true p Wx (rW G) (tVar i) (mFrz i) := by
  intro B H σ env fp O Q c
  unfold mFrz at c
  cases e : env[i]? with
  | none => rw [e] at c; exact c.elim
  | some w =>
    rw [e] at c
    cases w with
    | none => exact c.elim
    | some w =>
      simp only at c
      cases ed : w.toD with
      | none => rw [ed] at c; exact c.elim
      | some d =>
        rw [ed] at c
        obtain ⟨e1, e2, s1, o, s2, f1, g, f2, rfl, rfl, h1, h2, rfl, r1, ⟨v, rfl, rv⟩, r2⟩ := relE_split O.rel e
        have nd := O.nd
        simp only [List.nodup_append, List.mem_append] at nd
        obtain ⟨n1, ⟨n2, n3, n4⟩, n5⟩ := nd
        have og : ∀ q ∈ g, B q = none := fun q hq => O.out q (by simp [hq])
        have be := grd_bext (H := H) og
        have rd : repD G (grd B H g) d v := relW_toD be rv ed fun q hq => grd_in hq
        have rsh : relW G (grd B H g) H (.sh d) v [] := by simp only [relW]; exact ⟨rd, trivial⟩
        have O' : Ok G (grd B H g) H (s1 ++ some v :: s2) ((e1 ++ some w :: e2).set i (some (.sh d))) (f1 ++ ([] ++ f2)) := by
          rw [set_mid h1]
          refine ⟨grd_sub O.sub, relE_join (relE_frame be r1 fun _ _ => rfl) ⟨v, rfl, rsh⟩ (relE_frame be r2 fun _ _ => rfl), ?_, fun q hq => ?_⟩
          · simp only [List.nil_append, List.nodup_append]
            exact ⟨n1, n3, fun a ha b hb => n5 a ha b (.inr hb)⟩
          · simp only [List.nil_append, List.mem_append] at hq
            rw [grd_out fun z => ?_]
            · exact O.out q (by rcases hq with hq | hq <;> simp [hq])
            · rcases hq with hq | hq
              · exact n5 q hq q (.inl z) rfl
              · exact n4 q z q hq rfl
        refine ⟨v, get_mid h2, c v H (grd B H g) [] (f1 ++ ([] ++ f2)) ⟨O', rsh, fun q hq => by simp at hq, ⟨fun _ _ h _ => h, be, fun a _ n => grd_out fun z => n (by simp [z]), fun a ha => .inl ?_, fun _ h => h⟩, fun _ => ⟨List.nodup_nil, fun q hq => by simp at hq⟩, fun z => by rw [hp] at z; cases z⟩⟩
        simp only [List.nil_append, List.mem_append] at ha ⊢
        rcases ha with ha | ha
        · exact .inl ha
        · exact .inr (.inr ha)
def mC (d : D) : ME W := ME.pure (.sh d)
theorem sim_c {v : V} {d : D} (h : ∀ B : Hp, repD G B d v) : Sim G true true Wx (rW G) (tC v) (mC d) := by
  intro B H σ env fp O Q c
  refine c v H B [] fp ⟨O, ?_, fun q hq => by simp at hq, Step.refl (by simp), fun _ => ⟨List.nodup_nil, fun q hq => by simp at hq⟩, fun _ => ⟨Same.refl H, fun _ _ => rfl, rfl, rfl⟩⟩
  show relW G B H _ _ _
  simp only [relW]
  exact ⟨h B, trivial⟩
end
section
variable {X : Cx} {Wx : WX} {i : Nat} {x : Str} {pos : Pos}
theorem se_var (i : Nat) (h : PE X (.Name x pos) (tVar i)) : SE X Wx false true (.Name x pos) (mVar i) := ⟨_, h, sim_var⟩
theorem se_varS (i : Nat) (h : PE X (.Name x pos) (tVar i)) : SE X Wx true true (.Name x pos) (mVarS i) := ⟨_, h, sim_varS⟩
theorem se_mov (i : Nat) (h : PE X (.Name x pos) (tVar i)) : SE X Wx true false (.Name x pos) (mMov i) := ⟨_, h, sim_mov false rfl⟩
theorem se_frz (i : Nat) (h : PE X (.Name x pos) (tVar i)) : SE X Wx true false (.Name x pos) (mFrz i) := ⟨_, h, sim_frz false rfl⟩
theorem se_int {i : Int} {j} : SE X Wx true true (.Constant (.int i) j pos) (mC (.int i)) := ⟨_, pe_int, sim_c fun _ => by simp [repD]⟩
theorem se_bl {b : Bool} {j} : SE X Wx true true (.Constant (.bool b) j pos) (mC (.bl b)) := ⟨_, pe_bl, sim_c fun _ => by simp [repD]⟩
theorem se_str {s : Str} {j} : SE X Wx true true (.Constant (.str s) j pos) (mC (.str s)) := ⟨_, pe_str, sim_c fun _ => by simp [repD]⟩
/-- a module's constant -/
theorem se_gint {i : Int} {u : Value} (hg : Gl X x) (hm : X.mg x = some u) (r : RelV (.int i) u) (hd : (x == ("__debug__" : Str)) = false := by decide) : SE X Wx true true (.Name x pos) (mC (.int i)) := ⟨_, pe_glob hg hm r hd, sim_c fun _ => by simp [repD]⟩
theorem se_gstr {s : Str} {u : Value} (hg : Gl X x) (hm : X.mg x = some u) (r : RelV (.str s) u) (hd : (x == ("__debug__" : Str)) = false := by decide) : SE X Wx true true (.Name x pos) (mC (.str s)) := ⟨_, pe_glob hg hm r hd, sim_c fun _ => by simp [repD]⟩
end
section
variable {G : GX} {α β : Type} {R : RR α β}
theorem OpS.or {δ γ : Type} {T : RR γ δ} {r r' : β → Hp → (δ → Hp → Prop) → Prop} {g g' : α → Option γ} (h : OpS R T r g) (h' : OpS R T r' g') : OpS R T (fun b H Q => r b H Q ∨ r' b H Q) (fun a => (g a).or (g' a)) := by
  intro B H a b f c s ra o e Q q
  have e : (g a).or (g' a) = some c := e
  cases e1 : g a with
  | some c1 =>
    rw [e1] at e
    cases e
    exact .inl (h B H a b f _ s ra o e1 Q q)
  | none =>
    rw [e1] at e
    exact .inr (h' B H a b f _ s ra o e Q q)
theorem OpR.or {X : Cx} {f : Value → Value → Sem Value} {r r' : R2} (h : OpR X f r) (h' : OpR X f r') : OpR X f (fun x y H Q => r x y H Q ∨ r' x y H Q) :=
  fun pins s σ H x y v u Q I rx ry q => q.elim (h pins s σ H x y v u Q I rx ry) (h' pins s σ H x y v u Q I rx ry)
/-- the answer does not hang on the heap -/
theorem ops_flat {r : β → Hp → VK → Prop} {g : α → Option W} (h : ∀ (B H : Hp) (a : α) (b : β) (f : List Addr) (c : W), Same B H → R B H a b f → g a = some c → ∃ d v, c = .sh d ∧ repD G B d v ∧ ∀ Q : VK, Q v H → r b H Q) : OpS R (rW G) r g := by
  intro B H a b f c s ra o e Q q
  obtain ⟨d, v, rfl, rd, k⟩ := h B H a b f c s ra e
  refine k Q (q v H B [] (Same.refl H) (Same.refl B) s (fun _ _ => rfl) (fun q hq => by simp at hq) List.nodup_nil ?_)
  show relW G B H _ _ _
  simp only [relW]
  exact ⟨rd, trivial⟩
/-- a new list of shared things -/
theorem ops_newL {r : β → Hp → VK → Prop} {g : α → Option W} (h : ∀ (B H : Hp) (a : α) (b : β) (f : List Addr) (c : W), Same B H → R B H a b f → g a = some c → ∃ ds vs, c = .ol (ds.map W.sh) ∧ repDs G B ds vs ∧ ∀ Q : VK, (∀ p, H p = none → Q (.ref p) (upd H p (.lst vs))) → r b H Q) : OpS R (rW G) r g := by
  intro B H a b f c s ra o e Q q
  obtain ⟨ds, vs, rfl, rd, k⟩ := h B H a b f c s ra e
  refine k Q fun p np => ?_
  have nB : B p = none := by
    cases z : B p with
    | none => rfl
    | some o' => rw [s p o' z] at np; cases np
  have sm : Same H (upd H p (.lst vs)) := fun a o e => by rw [upd_ne (ne_of_none e np)]; exact e
  refine q _ _ B [p] sm (Same.refl B) (s.trans sm) (fun _ _ => rfl) (fun x hx => by simp at hx; subst hx; exact ⟨np, nB⟩) (by simp) ?_
  show relW G B _ _ _ _
  simp only [relW]
  exact ⟨p, vs, [], rfl, upd_same, relWs_sh rd, rfl⟩
/-- a new tuple of shared things -/
theorem ops_newT {r : β → Hp → VK → Prop} {g : α → Option W} (h : ∀ (B H : Hp) (a : α) (b : β) (f : List Addr) (c : W), Same B H → R B H a b f → g a = some c → ∃ ds vs, c = .sh (.tup ds) ∧ repDs G B ds vs ∧ ∀ Q : VK, (∀ p, H p = none → Q (.ref p) (upd H p (.tup vs))) → r b H Q) : OpS R (rW G) r g := by
  intro B H a b f c s ra o e Q q
  obtain ⟨ds, vs, rfl, rd, k⟩ := h B H a b f c s ra e
  refine k Q fun p np => ?_
  have nB : B p = none := by
    cases z : B p with
    | none => rfl
    | some o' => rw [s p o' z] at np; cases np
  have sm : Same H (upd H p (.tup vs)) := fun a o e => by rw [upd_ne (ne_of_none e np)]; exact e
  have sB : Same B (upd B p (.tup vs)) := fun a o e => by rw [upd_ne (ne_of_none e nB)]; exact e
  refine q _ _ (upd B p (.tup vs)) [] sm sB (fun a o e => ?_) (fun a ha => ?_) (fun x hx => by simp at hx) List.nodup_nil ?_
  · by_cases ea : a = p
    · subst ea
      rw [upd_same] at e ⊢
      exact e
    · rw [upd_ne ea] at e ⊢
      exact s a o e
  · rw [upd_ne (fun z => ha (by rw [z]; exact np))]
  · show relW G _ _ _ _ _
    simp only [relW, repD]
    exact ⟨⟨p, vs, rfl, SqT.of upd_same, repDs_mono sB rd⟩, trivial⟩
end
def mOp2 (g : W × W → Option W) (ma mb : ME W) : ME W := (ma.bind fun a => mb.bind fun b => ME.pure (a, b)).bind (ME.op g)
def mOp1 (g : W → Option W) (ma : ME W) : ME W := ma.bind (ME.op g)
abbrev rWW (G : GX) : RR (W × W) (V × V) := rPair (rW G) (rW G)
section
variable {X : Cx} {Wx : WX} {k1 p1 k2 p2 : Bool} {a b : Expr} {ma mb : ME W} {pos : Pos} {r : R2} {g : W × W → Option W}
theorem se_op {op : Operator} (ho : OpR X (binaryOp op) r) (hs : OpS (rWW (gx X)) (rW (gx X)) (fun xy => r xy.1 xy.2) g) (ha : SE X Wx k1 p1 a ma) (hb : SE X Wx k2 p2 b mb) (hc : k1 = true ∨ p2 = true := by decide) : SE X Wx true (p1 && p2) (.BinOp a op b pos) (mOp2 g ma mb) := by
  obtain ⟨ta, pa, sa⟩ := ha
  obtain ⟨tb, pb, sb⟩ := hb
  exact ⟨_, pe_op ho pa pb, (Sim.pair (rW_good _) sa sb hc).op hs⟩
theorem se_cmp {op : CmpOp} (ho : OpR X (compareOp op) r) (hs : OpS (rWW (gx X)) (rW (gx X)) (fun xy => r xy.1 xy.2) g) (hm : behindInMarks op b = false) (ha : SE X Wx k1 p1 a ma) (hb : SE X Wx k2 p2 b mb) (hc : k1 = true ∨ p2 = true := by decide) : SE X Wx true (p1 && p2) (.Compare a [op] [b] pos) (mOp2 g ma mb) := by
  obtain ⟨ta, pa, sa⟩ := ha
  obtain ⟨tb, pb, sb⟩ := hb
  exact ⟨_, pe_cmpR ho pa pb hm, (Sim.pair (rW_good _) sa sb hc).op hs⟩
theorem se_un {op : UnaryOp} {r : V → Hp → VK → Prop} {g : W → Option W} (ho : UnR X (unaryOp op) r) (hs : OpS (rW (gx X)) (rW (gx X)) r g) (ha : SE X Wx k1 p1 a ma) : SE X Wx true p1 (.UnaryOp op a pos) (mOp1 g ma) := by
  obtain ⟨ta, pa, sa⟩ := ha
  exact ⟨_, pe_un ho pa, sa.op hs⟩
end
def wInt : W → Option Int
  | .sh (.int i) => some i
  | _ => none
def wStr : W → Option Str
  | .sh (.str s) => some s
  | _ => none
def wBl : W → Option Bool
  | .sh (.bl b) => some b
  | _ => none
theorem wInt_eq {w : W} {i : Int} (h : wInt w = some i) : w = .sh (.int i) := by
  unfold wInt at h
  split at h
  · cases h; rfl
  · cases h
theorem wStr_eq {w : W} {i : Str} (h : wStr w = some i) : w = .sh (.str i) := by
  unfold wStr at h
  split at h
  · cases h; rfl
  · cases h
theorem wBl_eq {w : W} {i : Bool} (h : wBl w = some i) : w = .sh (.bl i) := by
  unfold wBl at h
  split at h
  · cases h; rfl
  · cases h
/-- two whole numbers -/
def gII (C : Int → Int → Bool) (f : Int → Int → D) : W × W → Option W := fun p => match wInt p.1, wInt p.2 with
  | some i, some j => if C i j then some (.sh (f i j)) else none
  | _, _ => none
def gI (f : Int → D) : W → Option W := fun w => (wInt w).map fun i => .sh (f i)
section
variable {G : GX}
theorem ops_II {C : Int → Int → Prop} {C' : Int → Int → Bool} {f : Int → Int → D} {fv : Int → Int → V} (hC : ∀ i j, C' i j = true → C i j) (hf : ∀ B i j, repD G B (f i j) (fv i j)) : OpS (rWW G) (rW G) (fun xy => rI C fv xy.1 xy.2) (gII C' f) := by
  refine ops_flat fun B H a b fp c s ra e => ?_
  obtain ⟨f1, f2, r1, r2, _⟩ := ra
  unfold gII at e
  split at e
  · rename_i i j h1 h2
    split at e
    · rename_i h3
      rw [wInt_eq h1] at r1
      rw [wInt_eq h2] at r2
      have r1 : relW _ _ _ _ _ _ := r1
      have r2 : relW _ _ _ _ _ _ := r2
      simp only [relW, repD] at r1 r2
      cases e
      exact ⟨_, fv i j, rfl, hf B i j, fun Q q => ⟨i, j, r1.1, r2.1, hC i j h3, q⟩⟩
    · cases e
  · cases e
theorem ops_II0 {f : Int → Int → D} {fv : Int → Int → V} (hf : ∀ B i j, repD G B (f i j) (fv i j)) : OpS (rWW G) (rW G) (fun xy => rI0 fv xy.1 xy.2) (gII (fun _ _ => true) f) := by
  refine ops_flat fun B H a b fp c s ra e => ?_
  obtain ⟨f1, f2, r1, r2, _⟩ := ra
  unfold gII at e
  split at e
  · rename_i i j h1 h2
    rw [wInt_eq h1] at r1
    rw [wInt_eq h2] at r2
    have r1 : relW _ _ _ _ _ _ := r1
    have r2 : relW _ _ _ _ _ _ := r2
    simp only [relW, repD] at r1 r2
    cases e
    exact ⟨_, fv i j, rfl, hf B i j, fun Q q => ⟨i, j, r1.1, r2.1, q⟩⟩
  · cases e
theorem ops_I {f : Int → D} {fv : Int → V} (hf : ∀ B i, repD G B (f i) (fv i)) : OpS (rW G) (rW G) (rU fv) (gI f) := by
  refine ops_flat fun B H a b fp c s ra e => ?_
  unfold gI at e
  simp only [Option.map_eq_some_iff] at e
  obtain ⟨i, h1, rfl⟩ := e
  rw [wInt_eq h1] at ra
  have ra : relW _ _ _ _ _ _ := ra
  simp only [relW, repD] at ra
  exact ⟨_, fv i, rfl, hf B i, fun Q q => ⟨i, ra.1, q⟩⟩
end
end AM
set_option Elab.async false
set_option linter.all false
set_option maxRecDepth 100000
namespace AM
open PySem L2
/-- an operation that hands on what it was handed -/
def OpG {α β γ δ : Type} (R : RR α β) (T : RR γ δ) (r : β → Hp → (δ → Hp → Prop) → Prop) (g : α → Option γ) : Prop :=
  ∀ (B H : Hp) (a : α) (b : β) (f : List Addr) (c : γ), Same B H → R B H a b f → (∀ q ∈ f, B q = none) → f.Nodup → g a = some c → ∀ Q : δ → Hp → Prop,
    (∀ y H' B' f', Same H H' → Same B B' → Same B' H' → (∀ q, H q ≠ none → B' q = B q) → (∀ q ∈ f', B' q = none ∧ (q ∈ f ∨ H q = none)) → f'.Nodup → T B' H' c y f' → Q y H') → r b H Q
/-- an operation that tells a part of what it was handed -/
def OpP {α β γ δ : Type} (R : RR α β) (T : RR γ δ) (r : β → Hp → (δ → Hp → Prop) → Prop) (g : α → Option γ) : Prop :=
  ∀ (B H : Hp) (a : α) (b : β) (f : List Addr) (c : γ), Same B H → R B H a b f → g a = some c → ∀ Q : δ → Hp → Prop,
    (∀ y f', (∀ q ∈ f', q ∈ f) → (f.Nodup → f'.Nodup) → T B H c y f' → Q y H) → r b H Q
section
variable {α β γ δ : Type} {G : GX} {k p : Bool} {Wx : WX} {R : RR α β} {T : RR γ δ} {t : St → Hp → (β → Hp → Prop) → Prop} {m : ME α}
theorem Sim.opG {r : β → Hp → (δ → Hp → Prop) → Prop} {g : α → Option γ} (h : Sim G true p Wx R t m) (ho : OpG R T r g) : Sim G true p Wx T (fun σ H Q => t σ H fun x H1 => r x H1 Q) (m.bind (ME.op g)) := by
  intro B H σ env fp O Q c
  refine h B H σ env fp O _ ?_
  unfold ME.bind at c
  cases e1 : m env with
  | none => rw [e1] at c; exact c
  | some r1 =>
    obtain ⟨r1, env1⟩ := r1
    rw [e1] at c
    cases r1 with
    | ex x => exact c
    | ok a =>
      intro x H1 B1 f1 fp1 P1
      simp only [ME.op] at c
      cases e2 : g a with
      | none => rw [e2] at c; exact c.elim
      | some b =>
        rw [e2] at c
        obtain ⟨nd1, ds1⟩ := P1.own rfl
        refine ho B1 H1 a x f1 b P1.ok.sub P1.rel P1.out nd1 e2 Q fun y H2 B2 f2 s1 s2 s3 s4 s5 s6 s7 => ?_
        have liveE := relE_live P1.ok.rel
        have fresh : ∀ q ∈ f2, q ∉ fp1 := fun q hq z => by
          rcases (s5 q hq).2 with y | y
          · exact ds1 q y z
          · exact liveE q z y
        refine c y H2 B2 f2 fp1 ⟨⟨s3, relE_frame s2 P1.ok.rel fun q hq => same_some s1 (liveE q hq), P1.ok.nd, fun q hq => ?_⟩, s7, fun q hq => (s5 q hq).1, ⟨fun q o e n => ?_, fun q o e => s2 q o (P1.step.bext q o e), fun q h n => ?_, fun q hq => ?_, fun q h => ?_⟩, fun _ => ⟨s6, fresh⟩, fun hp => ?_⟩
        · rw [s4 q (liveE q hq)]
          exact P1.ok.out q hq
        · exact s1 q o (P1.step.keep q o e n)
        · rw [s4 q (P1.step.live q h)]
          exact P1.step.bold q h n
        · rcases List.mem_append.mp hq with hq | hq
          · rcases (s5 q hq).2 with y | y
            · exact P1.step.new q (by simp [y])
            · refine .inr ?_
              cases e : H q with
              | none => rfl
              | some o => exact absurd y (P1.step.live q (by simp [e]))
          · exact P1.step.new q (by simp [hq])
        · rw [same_some s1 (P1.step.live q h)]
          exact P1.step.live q h
        · obtain ⟨a1, a2, a3, a4⟩ := P1.pure hp
          exact ⟨fun q o e => s1 q o (a1 q o e), fun q e => (s4 q (P1.step.live q e)).trans (a2 q e), a3, a4⟩
theorem Sim.opP {r : β → Hp → (δ → Hp → Prop) → Prop} {g : α → Option γ} (h : Sim G k p Wx R t m) (ho : OpP R T r g) : Sim G k p Wx T (fun σ H Q => t σ H fun x H1 => r x H1 Q) (m.bind (ME.op g)) := by
  intro B H σ env fp O Q c
  refine h B H σ env fp O _ ?_
  unfold ME.bind at c
  cases e1 : m env with
  | none => rw [e1] at c; exact c
  | some r1 =>
    obtain ⟨r1, env1⟩ := r1
    rw [e1] at c
    cases r1 with
    | ex x => exact c
    | ok a =>
      intro x H1 B1 f1 fp1 P1
      simp only [ME.op] at c
      cases e2 : g a with
      | none => rw [e2] at c; exact c.elim
      | some b =>
        rw [e2] at c
        refine ho B1 H1 a x f1 b P1.ok.sub P1.rel e2 Q fun y f2 s1 s2 s3 => ?_
        exact c y H1 B1 f2 fp1 ⟨P1.ok, s3, fun q hq => P1.out q (s1 q hq), P1.step.mono fun q hq => by
          rcases List.mem_append.mp hq with hq | hq
          · simp [s1 q hq]
          · simp [hq], fun z => ⟨s2 (P1.own z).1, fun q hq => (P1.own z).2 q (s1 q hq)⟩, P1.pure⟩
/-- what is shared data is nobody's -/
def wSh : W → Option W
  | .sh d => some (.sh d)
  | _ => none
def mSh (m : ME W) : ME W := m.bind (ME.op wSh)
theorem Sim.sh {t : TE} {m : ME W} (h : Sim G k p Wx (rW G) t m) : Sim G true p Wx (rW G) t (mSh m) := by
  intro B H σ env fp O Q c
  refine h B H σ env fp O _ ?_
  unfold mSh ME.bind at c
  cases e1 : m env with
  | none => rw [e1] at c; exact c
  | some r1 =>
    obtain ⟨r1, env1⟩ := r1
    rw [e1] at c
    cases r1 with
    | ex x => exact c
    | ok a =>
      intro x H1 B1 f1 fp1 P1
      cases a with
      | sh d =>
        have P1r : relW G B1 H1 (.sh d) x f1 := P1.rel
        have e0 : f1 = [] := by simp only [relW] at P1r; exact P1r.2
        subst e0
        exact c x H1 B1 [] fp1 ⟨P1.ok, P1.rel, P1.out, P1.step, fun _ => ⟨List.nodup_nil, fun q hq => by simp at hq⟩, P1.pure⟩
      | ol _ => exact c.elim
      | ot _ => exact c.elim
      | ob _ _ _ => exact c.elim
      | dk _ _ => exact c.elim
      | dt _ _ => exact c.elim
end
section
variable {X : Cx} {Wx : WX} {k p k1 p1 k2 p2 : Bool} {e a b : Expr} {es : List Expr} {m ma mb : ME W} {ms : ME (List W)} {pos : Pos}
def mNil : ME (List W) := ME.pure []
def mCons (m : ME W) (ms : ME (List W)) : ME (List W) := (m.bind fun a => ms.bind fun b => ME.pure (a, b)).bind (ME.op fun p => some (p.1 :: p.2))
theorem sim_nil {G : GX} : Sim G true true Wx (rWs G) tNil mNil := by
  intro B H σ env fp O Q c
  refine c [] H B [] fp ⟨O, ?_, fun q hq => by simp at hq, Step.refl (by simp), fun _ => ⟨List.nodup_nil, fun q hq => by simp at hq⟩, fun _ => ⟨Same.refl H, fun _ _ => rfl, rfl, rfl⟩⟩
  show relWs G B H [] [] []
  simp [relWs]
theorem sa_nil : SA X Wx true true [] mNil := ⟨_, pa_nil, sim_nil⟩
theorem sa_cons (h : SE X Wx k1 p1 e m) (hr : SA X Wx k2 p2 es ms) (hc : k1 = true ∨ p2 = true := by decide) (hs : starEach (e :: es) X.env = (false, eval e X.env) :: starEach es X.env := by rfl) : SA X Wx (k1 && k2) (p1 && p2) (e :: es) (mCons m ms) := by
  obtain ⟨t, pe, s⟩ := h
  obtain ⟨u, pr, sr⟩ := hr
  refine ⟨_, pa_cons pe pr hs, ?_⟩
  have := (Sim.pair (rW_good _) s sr hc).opP (T := rWs (gx X)) (r := fun (xy : V × List V) H (Q : List V → Hp → Prop) => Q (xy.1 :: xy.2) H) (g := fun p => some (p.1 :: p.2)) (by
    intro B H a b f c sb ra e Q q
    obtain ⟨f1, f2, r1, r2, rfl⟩ := ra
    cases e
    refine q _ (f1 ++ f2) (fun _ h => h) (fun h => h) ?_
    show relWs _ _ _ _ _ _
    simp only [relWs]
    exact ⟨b.1, b.2, f1, f2, rfl, r1, r2, rfl⟩)
  exact this
def shsOf : List W → Option (List D)
  | [] => some []
  | .sh d :: ws => (shsOf ws).map fun ds => d :: ds
  | _ :: _ => none
theorem shsOf_eq : ∀ {ws : List W} {ds : List D}, shsOf ws = some ds → ws = ds.map W.sh
  | [], ds, h => by cases h; rfl
  | .sh d :: ws, ds, h => by
    simp only [shsOf, Option.map_eq_some_iff] at h
    obtain ⟨r, h1, rfl⟩ := h
    rw [shsOf_eq h1]
    rfl
  | .ol _ :: _, _, h => by simp [shsOf] at h
  | .ot _ :: _, _, h => by simp [shsOf] at h
  | .ob _ _ _ :: _, _, h => by simp [shsOf] at h
  | .dk _ _ :: _, _, h => by simp [shsOf] at h
  | .dt _ _ :: _, _, h => by simp [shsOf] at h
theorem relWs_shs {G : GX} {B H : Hp} : ∀ {ds : List D} {vs : List V} {f : List Addr}, relWs G B H (ds.map W.sh) vs f → repDs G B ds vs ∧ f = []
  | [], vs, f, h => by
    simp only [List.map_nil, relWs] at h
    simp [repDs, h]
  | d :: ds, vs, f, h => by
    simp only [List.map_cons, relWs, relW] at h
    obtain ⟨v, r, g1, g2, rfl, ⟨h1, rfl⟩, h2, rfl⟩ := h
    obtain ⟨h3, rfl⟩ := relWs_shs h2
    exact ⟨by simp only [repDs]; exact ⟨v, r, rfl, h1, h3⟩, rfl⟩
def gLst (ws : List W) : Option W := if ws.length ≤ 100000 then some (.ol ws) else none
def gTup (ws : List W) : Option W := if ws.length ≤ 100000 then some (match shsOf ws with
  | some ds => .sh (.tup ds)
  | none => .ot ws) else none
theorem sz_ok {n : Nat} (h : n ≤ 100000) : n ≤ sizeLine := Nat.le_trans h (by decide)
theorem none_of_sub {B H : Hp} (s : Same B H) {p : Addr} (h : H p = none) : B p = none := by
  cases z : B p with
  | none => rfl
  | some o' => rw [s p o' z] at h; cases h
theorem same_new {H : Hp} {p : Addr} {o : HO} (np : H p = none) : Same H (upd H p o) := fun a u e => by rw [upd_ne (ne_of_none e np)]; exact e
theorem opg_lst {G : GX} : OpG (rWs G) (rW G) (fun (xs : List V) H (Q : VK) => xs.length ≤ sizeLine ∧ ∀ p, H p = none → Q (.ref p) (upd H p (.lst xs))) gLst := by
  intro B H ws vs f c s ra o nd e Q q
  have ra : relWs _ _ _ _ _ _ := ra
  unfold gLst at e
  split at e
  · rename_i hl
    cases e
    refine ⟨by rw [← relWs_length ra]; exact sz_ok hl, fun p np => ?_⟩
    have nB := none_of_sub s np
    have sm : Same H (upd H p (.lst vs)) := same_new np
    have lv := relWs_live ra
    refine q _ _ B (p :: f) sm (Same.refl B) (s.trans sm) (fun _ _ => rfl) (fun x hx => ?_) (List.nodup_cons.mpr ⟨fun z => lv p z np, nd⟩) ?_
    · rcases List.mem_cons.mp hx with rfl | hx
      · exact ⟨nB, .inr np⟩
      · exact ⟨o x hx, .inl hx⟩
    · show relW _ _ _ _ _ _
      simp only [relW]
      exact ⟨p, vs, f, rfl, upd_same, relWs_frame (Same.refl B) ra fun x hx => by rw [upd_ne (fun z => lv x hx (by rw [z]; exact np))], rfl⟩
  · cases e
theorem opg_tup {G : GX} : OpG (rWs G) (rW G) (fun (xs : List V) H (Q : VK) => xs.length ≤ sizeLine ∧ ∀ p, H p = none → Q (.ref p) (upd H p (.tup xs))) gTup := by
  intro B H ws vs f c s ra o nd e Q q
  have ra : relWs _ _ _ _ _ _ := ra
  unfold gTup at e
  split at e
  · rename_i hl
    cases e
    refine ⟨by rw [← relWs_length ra]; exact sz_ok hl, fun p np => ?_⟩
    have nB := none_of_sub s np
    have sm : Same H (upd H p (.tup vs)) := same_new np
    have sB : Same B (upd B p (.tup vs)) := same_new nB
    have lv := relWs_live ra
    have nep : ∀ x ∈ f, x ≠ p := fun x hx z => lv x hx (by rw [z]; exact np)
    refine q _ _ (upd B p (.tup vs)) f sm sB (fun a u z => ?_) (fun a ha => by rw [upd_ne (fun z => ha (by rw [z]; exact np))]) (fun x hx => ⟨by rw [upd_ne (nep x hx)]; exact o x hx, .inl hx⟩) nd ?_
    · by_cases ea : a = p
      · subst ea
        rw [upd_same] at z ⊢
        exact z
      · rw [upd_ne ea] at z ⊢
        exact s a u z
    · have ra' := relWs_frame sB ra (H' := upd H p (.tup vs)) fun x hx => upd_ne (nep x hx)
      cases es : shsOf ws with
      | none =>
        show relW _ _ _ (.ot ws) _ _
        simp only [relW]
        exact ⟨p, vs, rfl, upd_same, ra'⟩
      | some ds =>
        rw [shsOf_eq es] at ra'
        obtain ⟨r1, rfl⟩ := relWs_shs ra'
        show relW _ _ _ (.sh (.tup ds)) _ _
        simp only [relW, repD]
        exact ⟨⟨p, vs, rfl, SqT.of upd_same, r1⟩, trivial⟩
  · cases e
def mLst (m : ME (List W)) : ME W := m.bind (ME.op gLst)
def mTup (m : ME (List W)) : ME W := m.bind (ME.op gTup)
theorem se_lst (h : SA X Wx true p es ms) : SE X Wx true p (.List es pos) (mLst ms) := by
  obtain ⟨t, pa, s⟩ := h
  exact ⟨_, pe_lst pa, s.opG opg_lst⟩
theorem se_tup {x1} (h : SA X Wx true p es ms) : SE X Wx true p (.Tuple es x1 pos) (mTup ms) := by
  obtain ⟨t, pa, s⟩ := h
  exact ⟨_, pe_tup pa, s.opG opg_tup⟩
end
mutual
def D.pd : D → Option PyData
  | .non => some .none
  | .bl b => some (.bool b)
  | .int i => some (.int i)
  | .str s => some (.str s)
  | .lst ds => (D.pds ds).map .list
  | .tup ds => (D.pds ds).map .tuple
  | .exc _ _ => none
  | .scr _ => none
  | .fn _ => none
  | .obj _ _ _ => none
def D.pds : List D → Option (List PyData)
  | [] => some []
  | d :: ds => match D.pd d, D.pds ds with
    | some x, some xs => some (x :: xs)
    | _, _ => none
end
section
variable {G : GX} {B H : Hp}
mutual
theorem repD_dp : ∀ {d : D} {v : V} {x : PyData}, repD G H d v → d.pd = some x → Dp G.K H v x
  | .non, v, x, h, e => by simp only [repD] at h; simp only [D.pd] at e; cases e; subst h; exact .non
  | .bl b, v, x, h, e => by simp only [repD] at h; simp only [D.pd] at e; cases e; subst h; exact .bl b
  | .int i, v, x, h, e => by simp only [repD] at h; simp only [D.pd] at e; cases e; subst h; exact .int i
  | .str s, v, x, h, e => by simp only [repD] at h; simp only [D.pd] at e; cases e; subst h; exact .str s
  | .lst ds, v, x, h, e => by
    simp only [repD] at h
    simp only [D.pd, Option.map_eq_some_iff] at e
    obtain ⟨xs, e1, rfl⟩ := e
    obtain ⟨a, vs, rfl, h1, h2⟩ := h
    exact .lst (SqL.of h1) (repDs_dp h2 e1)
  | .tup ds, v, x, h, e => by
    simp only [repD] at h
    simp only [D.pd, Option.map_eq_some_iff] at e
    obtain ⟨xs, e1, rfl⟩ := e
    obtain ⟨a, vs, rfl, h1, h2⟩ := h
    exact .tup h1 (repDs_dp h2 e1)
  | .exc _ _, _, _, _, e => by simp [D.pd] at e
  | .scr _, _, _, _, e => by simp [D.pd] at e
  | .fn _, _, _, _, e => by simp [D.pd] at e
  | .obj _ _ _, _, _, _, e => by simp [D.pd] at e
theorem repDs_dp : ∀ {ds : List D} {vs : List V} {xs : List PyData}, repDs G H ds vs → D.pds ds = some xs → DpAll G.K H vs xs
  | [], vs, xs, h, e => by simp only [repDs] at h; simp only [D.pds] at e; cases e; subst h; exact .nil
  | d :: ds, vs, xs, h, e => by
    simp only [repDs] at h
    obtain ⟨v, r, rfl, h1, h2⟩ := h
    simp only [D.pds] at e
    split at e
    · rename_i x xs' e1 e2
      cases e
      exact .cons (repD_dp h1 e1) (repDs_dp h2 e2)
    · cases e
end
theorem relW_D {w : W} {v : V} {f : List Addr} {d : D} (s : Same B H) (r : relW G B H w v f) (e : w.toD = some d) : repD G H d v := relW_toD s r e fun _ _ => rfl
def wPd (w : W) : Option PyData := match w.toD.bind D.pd with
  | some x => if SeqAt.shaped x then some x else none
  | none => none
theorem relW_pd {w : W} {v : V} {f : List Addr} {x : PyData} (s : Same B H) (r : relW G B H w v f) (e : wPd w = some x) : Dp G.K H v x ∧ SeqAt.shaped x = true := by
  unfold wPd at e
  split at e
  · rename_i y h
    split at e
    · rename_i h2
      cases e
      simp only [Option.bind_eq_some_iff] at h
      obtain ⟨d, e1, e2⟩ := h
      exact ⟨repD_dp (relW_D s r e1) e2, h2⟩
    · cases e
  · cases e
def gDD (f : PyData → PyData → Option Bool) : W × W → Option W := fun p => match wPd p.1, wPd p.2 with
  | some x, some y => (f x y).map fun b => .sh (.bl b)
  | _, _ => none
def fEq (x y : PyData) : Option Bool := some (PyData.eqv x y)
def fNe (x y : PyData) : Option Bool := some (!PyData.eqv x y)
def fIn (x y : PyData) : Option Bool := match y with
  | .list ds => some (ds.any fun z => PyData.eqv z x)
  | _ => none
theorem ops_DD {r : R2} {f : PyData → PyData → Option Bool} (hr : ∀ (H : Hp) (x y : V) (d e : PyData) (b : Bool) (Q : VK), Dp G.K H x d → Dp G.K H y e → SeqAt.shaped d = true → SeqAt.shaped e = true → f d e = some b → Q (.bl b) H → r x y H Q) :
    OpS (rWW G) (rW G) (fun xy => r xy.1 xy.2) (gDD f) := by
  refine ops_flat fun B H a b fp c s ra e => ?_
  obtain ⟨f1, f2, r1, r2, _⟩ := ra
  unfold gDD at e
  split at e
  · rename_i x y h1 h2
    simp only [Option.map_eq_some_iff] at e
    obtain ⟨z, e1, rfl⟩ := e
    obtain ⟨d1, s1⟩ := relW_pd s r1 h1
    obtain ⟨d2, s2⟩ := relW_pd s r2 h2
    exact ⟨.bl z, .bl z, rfl, by simp [repD], fun Q q => hr H _ _ x y z Q d1 d2 s1 s2 e1 q⟩
  · cases e
end
section
variable {X : Cx} {Wx : WX} {k p k1 p1 k2 p2 : Bool} {e a b : Expr} {m ma mb : ME W} {pos : Pos}
def gEq : W × W → Option W := gDD fEq
def gNe : W × W → Option W := gDD fNe
/-- in a list of data, a part of a text -/
def gInS (neg : Bool) : W × W → Option W := fun p => match wStr p.1, wStr p.2 with
  | some x, some y => some (.sh (.bl (if neg then !(!(Builtin.Str.occurrences y x 0 y.length 1).isEmpty) else !(Builtin.Str.occurrences y x 0 y.length 1).isEmpty)))
  | _, _ => none
def dFlat : D → Option V
  | .non => some .non
  | .bl b => some (.bl b)
  | .int i => some (.int i)
  | .str s => some (.str s)
  | _ => none
def dFlats : List D → Option (List V)
  | [] => some []
  | d :: ds => match dFlat d, dFlats ds with
    | some x, some xs => some (x :: xs)
    | _, _ => none
theorem dFlat_eq {G : GX} {B : Hp} {d : D} {x v : V} (h : dFlat d = some x) (r : repD G B d v) : v = x ∧ flatV x = true := by
  unfold dFlat at h
  split at h <;> first | (cases h; simp only [repD] at r; exact ⟨r, rfl⟩) | cases h
theorem dFlats_eq {G : GX} {B : Hp} : ∀ {ds : List D} {xs vs : List V}, dFlats ds = some xs → repDs G B ds vs → vs = xs ∧ xs.all flatV = true
  | [], xs, vs, h, r => by simp only [dFlats] at h; cases h; simp only [repDs] at r; simp [r]
  | d :: ds, xs, vs, h, r => by
    simp only [repDs] at r
    obtain ⟨v, r', rfl, r1, r2⟩ := r
    simp only [dFlats] at h
    split at h
    · rename_i x xs' h1 h2
      cases h
      obtain ⟨rfl, f1⟩ := dFlat_eq h1 r1
      obtain ⟨rfl, f2⟩ := dFlats_eq h2 r2
      exact ⟨rfl, by simp [f1, f2]⟩
    · cases h
def gInT (neg : Bool) : W × W → Option W := fun p => match p.1, p.2 with
  | .sh d, .sh (.tup ds) => match dFlat d, dFlats ds with
    | some x, some xs => some (.sh (.bl (if neg then !inV x xs else inV x xs)))
    | _, _ => none
  | _, _ => none
theorem ops_inT {G : GX} (neg : Bool) : OpS (rWW G) (rW G) (fun xy => rIn G.K neg xy.1 xy.2) (gInT neg) := by
  refine ops_flat fun B H a b fp c s ra e => ?_
  obtain ⟨f1, f2, r1, r2, _⟩ := ra
  obtain ⟨a1, a2⟩ := a
  unfold gInT at e
  simp only at e r1 r2
  split at e
  · rename_i d ds
    have r1 : relW _ _ _ _ _ _ := r1
    have r2 : relW _ _ _ _ _ _ := r2
    simp only [relW, repD] at r1 r2
    obtain ⟨⟨p, vs, e2, h2, h3⟩, _⟩ := r2
    split at e
    · rename_i x xs h4 h5
      cases e
      obtain ⟨e1, fx⟩ := dFlat_eq h4 r1.1
      obtain ⟨e3, fs⟩ := dFlats_eq h5 h3
      subst e3
      exact ⟨.bl _, .bl (if neg then !inV x vs else inV x vs), rfl, by simp [repD], fun Q q => ⟨p, _, e2, .inr (sqT_of_same s h2), by rw [e1]; exact fx, fs, by rw [e1]; exact q⟩⟩
    · cases e
  · cases e
theorem ops_inS {G : GX} : OpS (rWW G) (rW G) (fun xy => (fun x y H (Q : VK) => ∃ i j, x = V.str i ∧ y = V.str j ∧ Q (.bl (!(Builtin.Str.occurrences j i 0 j.length 1).isEmpty)) H) xy.1 xy.2) (gInS false) := by
  refine ops_flat fun B H a b fp c s ra e => ?_
  obtain ⟨f1, f2, r1, r2, _⟩ := ra
  unfold gInS at e
  split at e
  · rename_i x y h1 h2
    cases e
    rw [wStr_eq h1] at r1
    rw [wStr_eq h2] at r2
    have r1 : relW _ _ _ _ _ _ := r1
    have r2 : relW _ _ _ _ _ _ := r2
    simp only [relW, repD] at r1 r2
    exact ⟨.bl _, .bl _, rfl, by simp [repD], fun Q q => ⟨x, y, r1.1, r2.1, q⟩⟩
  · cases e
def gIn : W × W → Option W := fun p => (gDD fIn p).or ((gInT false p).or (gInS false p))
def gLt := gII (fun _ _ => true) fun i j => .bl (decide (i < j))
def gGt := gII (fun _ _ => true) fun i j => .bl (decide (j < i))
def gGe := gII (fun _ _ => true) fun i j => .bl (decide (j ≤ i))
def gSub := gII (fun _ _ => true) fun i j => .int (i - j)
def gMulI := gII (fun i j => decide (i.natAbs.log2 + j.natAbs.log2 < 100000000)) fun i j => .int (i * j)
def gDivP := gII (fun _ j => decide (0 < j) && decide (j.natAbs.log2 < 9000)) fun i j => .int (i / j)
def gDivN := gII (fun _ j => decide (j ≠ 0) && decide (j.natAbs < 1073741824)) fun i j => .int (i.fdiv j)
def gModP := gII (fun _ j => decide (0 < j)) fun i j => .int (i % j)
def gModN := gII (fun _ j => decide (j ≠ 0)) fun i j => .int (i.fmod j)
def gPow := gII (fun i j => decide (0 ≤ j) && decide (j ≤ 1000000) && decide (i.natAbs < 2 ^ 64)) fun i j => .int (i ^ j.toNat)
def gDiv : W × W → Option W := fun p => (gDivP p).or (gDivN p)
def gMod : W × W → Option W := fun p => (gModP p).or (gModN p)
theorem se_sub (ha : SE X Wx k1 p1 a ma) (hb : SE X Wx k2 p2 b mb) (hc : k1 = true ∨ p2 = true := by decide) : SE X Wx true (p1 && p2) (.BinOp a .Sub b pos) (mOp2 gSub ma mb) := se_op op_sub (ops_II0 fun _ _ _ => by simp [repD]) ha hb hc
theorem se_fdiv (ha : SE X Wx k1 p1 a ma) (hb : SE X Wx k2 p2 b mb) (hc : k1 = true ∨ p2 = true := by decide) : SE X Wx true (p1 && p2) (.BinOp a .FloorDiv b pos) (mOp2 gDiv ma mb) :=
  se_op (OpR.or op_fdivW op_fdivN) (OpS.or (ops_II (fun i j h => by simpa [CDivW] using h) fun _ _ _ => by simp [repD]) (ops_II (fun i j h => by simpa [CDivN] using h) fun _ _ _ => by simp [repD])) ha hb hc
theorem se_mod (ha : SE X Wx k1 p1 a ma) (hb : SE X Wx k2 p2 b mb) (hc : k1 = true ∨ p2 = true := by decide) : SE X Wx true (p1 && p2) (.BinOp a .Mod b pos) (mOp2 gMod ma mb) :=
  se_op (OpR.or op_mod op_modN) (OpS.or (ops_II (fun i j h => by simpa using h) fun _ _ _ => by simp [repD]) (ops_II (fun i j h => by simpa using h) fun _ _ _ => by simp [repD])) ha hb hc
theorem se_pow (ha : SE X Wx k1 p1 a ma) (hb : SE X Wx k2 p2 b mb) (hc : k1 = true ∨ p2 = true := by decide) : SE X Wx true (p1 && p2) (.BinOp a .Pow b pos) (mOp2 gPow ma mb) :=
  se_op op_pow (ops_II (fun i j h => by simp only [Bool.and_eq_true, decide_eq_true_eq] at h; exact ⟨h.1.1, h.1.2, h.2⟩) fun _ _ _ => by simp [repD]) ha hb hc
def gNeg := gI fun i => .int (-i)
theorem se_neg (ha : SE X Wx k1 p1 a ma) : SE X Wx true p1 (.UnaryOp .USub a pos) (mOp1 gNeg ma) := se_un un_neg (ops_I fun _ _ => by simp [repD]) ha
def gAddI := gII (fun _ _ => true) fun i j => .int (i + j)
def gAddS : W × W → Option W := fun p => match wStr p.1, wStr p.2 with
  | some x, some y => if x.length + y.length ≤ 100000 then some (.sh (.str (x ++ y))) else none
  | _, _ => none
/-- the shared things in a list -/
def wEls : W → Option (List D)
  | .sh (.lst ds) => some ds
  | .ol ws => shsOf ws
  | _ => none
def wTEls : W → Option (List D)
  | .sh (.tup ds) => some ds
  | _ => none
theorem wEls_eq {G : GX} {B H : Hp} {w : W} {v : V} {f : List Addr} {ds : List D} (s : Same B H) (r : relW G B H w v f) (e : wEls w = some ds) : ∃ a vs, v = .ref a ∧ H a = some (.lst vs) ∧ repDs G B ds vs := by
  unfold wEls at e
  split at e
  · cases e
    simp only [relW, repD] at r
    obtain ⟨⟨a, vs, h1, h2, h3⟩, _⟩ := r
    exact ⟨a, vs, h1, s _ _ h2, h3⟩
  · rename_i ws
    simp only [relW] at r
    obtain ⟨p, vs, g, h1, h2, h3, _⟩ := r
    rw [shsOf_eq e] at h3
    exact ⟨p, vs, h1, h2, (relWs_shs h3).1⟩
  · cases e
def gCat : W × W → Option W := fun p => match wEls p.1, wEls p.2 with
  | some x, some y => if x.length + y.length ≤ 100000 then some (.ol ((x ++ y).map W.sh)) else none
  | _, _ => none
theorem ops_addS {G : GX} : OpS (rWW G) (rW G) (fun xy => (fun x y H (Q : VK) => ∃ i j, x = V.str i ∧ y = V.str j ∧ i.length + j.length ≤ sizeLine ∧ Q (.str (i ++ j)) H) xy.1 xy.2) gAddS := by
  refine ops_flat fun B H a b fp c s ra e => ?_
  obtain ⟨f1, f2, r1, r2, _⟩ := ra
  unfold gAddS at e
  split at e
  · rename_i x y h1 h2
    split at e
    · rename_i h3
      cases e
      rw [wStr_eq h1] at r1
      rw [wStr_eq h2] at r2
      have r1 : relW _ _ _ _ _ _ := r1
      have r2 : relW _ _ _ _ _ _ := r2
      simp only [relW, repD] at r1 r2
      exact ⟨.str _, .str _, rfl, by simp [repD], fun Q q => ⟨x, y, r1.1, r2.1, sz_ok h3, q⟩⟩
    · cases e
  · cases e
theorem ops_cat {G : GX} : OpS (rWW G) (rW G) (fun xy => rCat xy.1 xy.2) gCat := by
  refine ops_newL fun B H a b fp c s ra e => ?_
  obtain ⟨f1, f2, r1, r2, _⟩ := ra
  unfold gCat at e
  split at e
  · rename_i x y h1 h2
    split at e
    · rename_i h3
      cases e
      obtain ⟨l1, v1, e1, g1, d1⟩ := wEls_eq s r1 h1
      obtain ⟨l2, v2, e2, g2, d2⟩ := wEls_eq s r2 h2
      exact ⟨x ++ y, v1 ++ v2, rfl, repDs_append d1 d2, fun Q q => ⟨l1, l2, v1, v2, e1, e2, g1, g2, by rw [← repDs_length d1, ← repDs_length d2]; exact sz_ok h3, q⟩⟩
    · cases e
  · cases e
def gAdd : W × W → Option W := fun p => (gAddI p).or ((gAddS p).or (gCat p))
theorem se_add (ha : SE X Wx k1 p1 a ma) (hb : SE X Wx k2 p2 b mb) (hc : k1 = true ∨ p2 = true := by decide) : SE X Wx true (p1 && p2) (.BinOp a .Add b pos) (mOp2 gAdd ma mb) :=
  se_op (OpR.or op_add (OpR.or op_add_str op_cat)) (OpS.or (ops_II0 fun _ _ _ => by simp [repD]) (OpS.or ops_addS ops_cat)) ha hb hc
def gRep : W × W → Option W := fun p => match wEls p.1, wInt p.2 with
  | some x, some k => if x.length * k.toNat ≤ 100000 ∧ -100000 ≤ k ∧ k ≤ 100000 then some (.ol ((List.replicate k.toNat x).flatten.map W.sh)) else none
  | _, _ => none
theorem repDs_flatten {G : GX} {B : Hp} {ds : List D} {vs : List V} (h : repDs G B ds vs) : ∀ n : Nat, repDs G B (List.replicate n ds).flatten (List.replicate n vs).flatten
  | 0 => by simp [repDs]
  | n + 1 => by
    simp only [List.replicate_succ, List.flatten_cons]
    exact repDs_append h (repDs_flatten h n)
theorem ops_rep {G : GX} : OpS (rWW G) (rW G) (fun xy => rRep xy.1 xy.2) gRep := by
  refine ops_newL fun B H a b fp c s ra e => ?_
  obtain ⟨f1, f2, r1, r2, _⟩ := ra
  unfold gRep at e
  split at e
  · rename_i x k h1 h2
    split at e
    · rename_i h3
      cases e
      obtain ⟨l1, v1, e1, g1, d1⟩ := wEls_eq s r1 h1
      rw [wInt_eq h2] at r2
      have r2 : relW _ _ _ _ _ _ := r2
      simp only [relW, repD] at r2
      exact ⟨_, _, rfl, repDs_flatten d1 k.toNat, fun Q q => ⟨l1, k, v1, e1, r2.1, g1, by omega, by omega, by rw [← repDs_length d1]; exact sz_ok h3.1, q⟩⟩
    · cases e
  · cases e
theorem mulX_log {i j : Int} (h : decide (i.natAbs.log2 + j.natAbs.log2 < 100000000) = true) : CMulX i j := by
  have h1 := of_decide_eq_true h
  exact mulx_ok (Nat.lt_log2_self) (Nat.lt_log2_self) (show i.natAbs.log2 + 1 + (j.natAbs.log2 + 1) ≤ 134217728 by omega)
def gMul : W × W → Option W := fun p => (gMulI p).or (gRep p)
theorem se_mul (ha : SE X Wx k1 p1 a ma) (hb : SE X Wx k2 p2 b mb) (hc : k1 = true ∨ p2 = true := by decide) : SE X Wx true (p1 && p2) (.BinOp a .Mult b pos) (mOp2 gMul ma mb) :=
  se_op (OpR.or op_mulX op_rep) (OpS.or (ops_II (fun i j h => mulX_log h) fun _ _ _ => by simp [repD]) ops_rep) ha hb hc
end
end AM
set_option Elab.async false
set_option linter.all false
set_option maxRecDepth 100000
namespace AM
open PySem L2
/-- a comparison's rule -/
def CR (X : Cx) (op : CmpOp) (b : Expr) (g : W × W → Option W) : Prop := ∃ r : R2, OpR X (compareOp op) r ∧ OpS (rWW (gx X)) (rW (gx X)) (fun xy => r xy.1 xy.2) g ∧ behindInMarks op b = false
section
variable {X : Cx} {Wx : WX} {k p k1 p1 k2 p2 k3 p3 : Bool} {e a b c : Expr} {m ma mb mc : ME W} {pos : Pos}
theorem cr_lt : CR X .Lt b gLt := ⟨_, op_lt, ops_II0 fun _ _ _ => by simp [repD], nomark _⟩
theorem cr_gt : CR X .Gt b gGt := ⟨_, op_gt, ops_II0 fun _ _ _ => by simp [repD], nomark _⟩
theorem cr_ge : CR X .GtE b gGe := ⟨_, op_ge, ops_II0 fun _ _ _ => by simp [repD], nomark _⟩
theorem cr_eq (hu : X.A.units + 64 < cLine) : CR X .Eq b gEq := ⟨_, op_eqD hu, ops_DD (G := gx X) fun H x y d e b Q h1 h2 h3 h4 hf q => ⟨d, e, h1, h2, h3, h4, by cases hf; exact q⟩, nomark _⟩
theorem cr_ne (hu : X.A.units + 64 < cLine) : CR X .NotEq b gNe := ⟨_, op_neD hu, ops_DD (G := gx X) fun H x y d e b Q h1 h2 h3 h4 hf q => ⟨d, e, h1, h2, h3, h4, by cases hf; exact q⟩, nomark _⟩
theorem cr_in (hu : X.A.units + 65 < cLine) (hm : behindInMarks .In b = false) : CR X .In b gIn := by
  refine ⟨_, OpR.or (op_inD hu) (OpR.or op_in_seq op_in_str), OpS.or (ops_DD (G := gx X) fun H x y d e b Q h1 h2 h3 h4 hf q => ?_) (OpS.or (ops_inT false) ops_inS), hm⟩
  unfold fIn at hf
  split at hf
  · cases hf
    exact ⟨d, _, h1, h2, h3, h4, q⟩
  · cases hf
theorem se_c {op : CmpOp} {g : W × W → Option W} (hr : CR X op b g) (ha : SE X Wx k1 p1 a ma) (hb : SE X Wx k2 p2 b mb) (hc : k1 = true ∨ p2 = true := by decide) : SE X Wx true (p1 && p2) (.Compare a [op] [b] pos) (mOp2 g ma mb) := by
  obtain ⟨r, ho, hs, hm⟩ := hr
  exact se_cmp ho hs hm ha hb hc
end
def mB (m : ME W) : ME Bool := m.bind (ME.op wBl)
section
variable {G : GX} {k p : Bool} {Wx : WX} {t : TE} {m : ME W}
theorem ops_bl {G : GX} : OpS (rW G) (rEqv Bool) (fun (x : V) H (Q : Bool → Hp → Prop) => ∃ k, x = .bl k ∧ Q k H) wBl := by
  intro B H a b f c s ra o e Q q
  have e1 := wBl_eq e
  subst e1
  have ra : relW _ _ _ _ _ _ := ra
  simp only [relW, repD] at ra
  exact ⟨c, ra.1, q c H B [] (Same.refl H) (Same.refl B) s (fun _ _ => rfl) (fun x hx => by simp at hx) List.nodup_nil ⟨rfl, rfl⟩⟩
theorem Sim.test (h : Sim G k p Wx (rW G) t m) : Sim G true p Wx (rEqv Bool) (fun σ H Q => t σ H fun x H' => ∃ k, x = .bl k ∧ Q k H') (mB m) := h.op ops_bl
/-- by the answer of a test -/
theorem Sim.ite {α β : Type} {R : RR α β} {tt : TT} {mt : ME Bool} {u1 u2 : St → Hp → (β → Hp → Prop) → Prop} {n1 n2 : ME α} {q pq : Bool} (h : Sim G true p Wx (rEqv Bool) tt mt) (h1 : Sim G q pq Wx R u1 n1) (h2 : Sim G q pq Wx R u2 n2) :
    Sim G q (p && pq) Wx R (fun σ H Q => tt σ H fun c H1 => if c = true then u1 σ H1 Q else u2 σ H1 Q) (mt.bind fun c => if c then n1 else n2) := by
  intro B H σ env fp O Q c
  refine h B H σ env fp O _ ?_
  unfold ME.bind at c
  cases e1 : mt env with
  | none => rw [e1] at c; exact c
  | some r1 =>
    obtain ⟨r1, env1⟩ := r1
    rw [e1] at c
    cases r1 with
    | ex x => exact c
    | ok a =>
      intro x H1 B1 f1 fp1 P1
      obtain ⟨ea, ef⟩ := P1.rel
      subst ea ef
      have key : ∀ (u : St → Hp → (β → Hp → Prop) → Prop) (n : ME α), Sim G q pq Wx R u n → Cont G q (p && pq) R Wx B H σ env fp (n env1) Q → u σ H1 Q := fun u n hn cn => by
        refine hn B1 H1 σ env1 fp1 P1.ok Q ?_
        cases e2 : n env1 with
        | none => rw [e2] at cn; exact cn
        | some r2 =>
          obtain ⟨r2, env2⟩ := r2
          rw [e2] at cn
          cases r2 with
          | ex x =>
            intro cls d H2 B2 fp2 O2 S2 hx hd
            refine cn cls d H2 B2 fp2 O2 (P1.step.drop.trans S2) hx fun dd e => ?_
            obtain ⟨a1, a2, a3⟩ := hd dd e
            refine ⟨a1, a2, ?_⟩
            cases q : H dd with
            | none => rfl
            | some o => exact absurd a3 (P1.step.live dd (by simp [q]))
          | ok b =>
            intro y H2 B2 f2 fp2 P2
            refine cn y H2 B2 f2 fp2 ⟨P2.ok, P2.rel, P2.out, P1.step.trans (S := []) P2.step, P2.own, fun hp => ?_⟩
            simp only [Bool.and_eq_true] at hp
            obtain ⟨s1, b1, v1, u1⟩ := P1.pure hp.1
            obtain ⟨s2, b2, v2, u2⟩ := P2.pure hp.2
            exact ⟨fun q o h => s2 q o (s1 q o h), fun q h => (b2 q (P1.step.live q h)).trans (b1 q h), v2.trans v1, u2.trans u1⟩
      show if a = true then _ else _
      cases a with
      | true =>
        rw [if_pos rfl]
        exact key u1 n1 h1 c
      | false =>
        rw [if_neg Bool.false_ne_true]
        exact key u2 n2 h2 c
theorem sim_pureB {b : Bool} {Wx : WX} : Sim G true true Wx (rEqv Bool) (fun _ H Q => Q b H) (ME.pure b) := by
  intro B H σ env fp O Q c
  exact c b H B [] fp ⟨O, ⟨rfl, rfl⟩, fun q hq => by simp at hq, Step.refl (by simp), fun _ => ⟨List.nodup_nil, fun q hq => by simp at hq⟩, fun _ => ⟨Same.refl H, fun _ _ => rfl, rfl, rfl⟩⟩
end
def STw (X : Cx) (Wx : WX) (p : Bool) (e : Expr) (m : ME Bool) : Prop := ∃ t : TT, PW X e t ∧ Sim (gx X) true p Wx (rEqv Bool) t m
def mAnd (a b : ME Bool) : ME Bool := a.bind fun c => if c then b else ME.pure false
def mOr (a b : ME Bool) : ME Bool := a.bind fun c => if c then ME.pure true else b
def mNot (a : ME Bool) : ME Bool := a.bind (ME.op fun c => some (!c))
def mIf {α : Type} (c : ME Bool) (a b : ME α) : ME α := c.bind fun c => if c then a else b
section
variable {X : Cx} {Wx : WX} {k p k1 p1 k2 p2 k3 p3 : Bool} {e a b c : Expr} {es : List Expr} {m ma mb mc : ME W} {n na nb : ME Bool} {pos : Pos}
theorem st_c {op : CmpOp} {g : W × W → Option W} (hr : CR X op b g) (ha : SE X Wx k1 p1 a ma) (hb : SE X Wx k2 p2 b mb) (hc : k1 = true ∨ p2 = true := by decide) : STt X Wx (p1 && p2) (.Compare a [op] [b] pos) (mB (mOp2 g ma mb)) := by
  obtain ⟨r, ho, hs, hm⟩ := hr
  obtain ⟨ta, pa, sa⟩ := ha
  obtain ⟨tb, pb, sb⟩ := hb
  exact ⟨_, pt_cmpR ho pa pb hm, ((Sim.pair (rW_good _) sa sb hc).op hs).test⟩
theorem st_val (ha : SE X Wx k p a ma) (he : ∀ whole, isTrue a X.env whole = (do let v ← whole; standAt a.pos; holding [v] (truthy v)) := by intro _; rfl) : STt X Wx p a (mB ma) := by
  obtain ⟨ta, pa, sa⟩ := ha
  exact ⟨_, pt_val pa he, sa.test⟩
theorem sw_and1 (ha : STt X Wx p a na) : STw X Wx p (.BoolOp .And [a] pos) na := by
  obtain ⟨t, pa, s⟩ := ha
  exact ⟨t, pw_and1 pa, s⟩
theorem sw_or1 (ha : STt X Wx p a na) : STw X Wx p (.BoolOp .Or [a] pos) na := by
  obtain ⟨t, pa, s⟩ := ha
  exact ⟨t, pw_or1 pa, s⟩
theorem sw_and (ha : STt X Wx p1 a na) (hb : STw X Wx p2 (.BoolOp .And (b :: es) pos) nb) : STw X Wx (p1 && p2) (.BoolOp .And (a :: b :: es) pos) (mAnd na nb) := by
  obtain ⟨t, pa, s⟩ := ha
  obtain ⟨u, pb, s2⟩ := hb
  refine ⟨_, pw_and pa pb, ?_⟩
  have hf : Sim (gx X) true p2 Wx (rEqv Bool) (fun _ H Q => Q false H) (ME.pure false) := by
    cases p2
    · exact sim_pureB.unpure false
    · exact sim_pureB
  exact Sim.ite s s2 hf
theorem sw_or (ha : STt X Wx p1 a na) (hb : STw X Wx p2 (.BoolOp .Or (b :: es) pos) nb) : STw X Wx (p1 && p2) (.BoolOp .Or (a :: b :: es) pos) (mOr na nb) := by
  obtain ⟨t, pa, s⟩ := ha
  obtain ⟨u, pb, s2⟩ := hb
  refine ⟨_, pw_or pa pb, ?_⟩
  have hf : Sim (gx X) true p2 Wx (rEqv Bool) (fun _ H Q => Q true H) (ME.pure true) := by
    cases p2
    · exact sim_pureB.unpure false
    · exact sim_pureB
  exact Sim.ite s hf s2
theorem st_w (h : STw X Wx p e n) : STt X Wx p e n := by
  obtain ⟨t, pa, s⟩ := h
  exact ⟨t, pa.pt, s⟩
theorem st_not (ha : STt X Wx p a na) : STt X Wx p (.UnaryOp .Not a pos) (mNot na) := by
  obtain ⟨t, pa, s⟩ := ha
  refine ⟨_, pt_not pa, ?_⟩
  refine s.op (T := rEqv Bool) (r := fun c H Q => Q (!c) H) ?_
  intro B H a b f c sb ra o e Q q
  cases e
  obtain ⟨rfl, rfl⟩ := ra
  exact q _ H B [] (Same.refl H) (Same.refl B) sb (fun _ _ => rfl) (fun x hx => by simp at hx) List.nodup_nil ⟨rfl, rfl⟩
theorem se_one {op} (h : SE X Wx k p a m) : SE X Wx k p (.BoolOp op [a] pos) m := by
  obtain ⟨t, pa, s⟩ := h
  exact ⟨t, pe_one pa, s⟩
def mAndV (a b : ME W) : ME W := (mB a).bind fun c => if c then b else mC (.bl false)
theorem se_andV (ha : SE X Wx k1 p1 a ma) (hb : SE X Wx true p2 (.BoolOp .And (b :: es) pos) mb) : SE X Wx true (p1 && p2) (.BoolOp .And (a :: b :: es) pos) (mAndV ma mb) := by
  obtain ⟨t, pa, s⟩ := ha
  obtain ⟨u, pb, s2⟩ := hb
  refine ⟨_, pe_and pa pb, ?_⟩
  have hf : Sim (gx X) true p2 Wx (rW (gx X)) (tC (.bl false)) (mC (.bl false)) := by
    cases p2
    · exact (sim_c fun _ => by simp [repD]).unpure false
    · exact sim_c fun _ => by simp [repD]
  exact Sim.ite s.test s2 hf
def gNotV : W → Option W := fun w => (wBl w).map fun b => .sh (.bl (!b))
theorem se_not (ha : SE X Wx k p a m) : SE X Wx true p (.UnaryOp .Not a pos) (mOp1 gNotV m) := by
  obtain ⟨t, pa, s⟩ := ha
  refine ⟨_, pe_not pa, s.op (r := fun x H Q => ∃ c, x = .bl c ∧ Q (.bl (!c)) H) (ops_flat fun B H a b fp c sb ra e => ?_)⟩
  unfold gNotV at e
  simp only [Option.map_eq_some_iff] at e
  obtain ⟨i, h1, rfl⟩ := e
  rw [wBl_eq h1] at ra
  have ra : relW _ _ _ _ _ _ := ra
  simp only [relW, repD] at ra
  exact ⟨.bl _, .bl _, rfl, by simp [repD], fun Q q => ⟨i, ra.1, q⟩⟩
theorem se_if (hc : STt X Wx p c n) (ha : SE X Wx k p1 a ma) (hb : SE X Wx k p1 b mb) : SE X Wx k (p && p1) (.IfExp c a b pos) (mIf n ma mb) := by
  obtain ⟨t, pc, s⟩ := hc
  obtain ⟨ta, pa, sa⟩ := ha
  obtain ⟨tb, pb, sb⟩ := hb
  exact ⟨_, pe_ifExp pc pa pb, Sim.ite s sa sb⟩
def gIx : W × W → Option W := fun p => match wInt p.2 with
  | none => none
  | some i => match p.1 with
    | .sh (.lst ds) => (atI ds i).map W.sh
    | .sh (.tup ds) => (atI ds i).map W.sh
    | .sh (.scr ns) => (atI ns i).map fun n => .sh (.int n)
    | .sh (.str z) => if z.length ≤ 100000 then (atI z.cps.toList i).map fun c => .sh (.str ⟨#[c]⟩) else none
    | .ol ws => atI ws i
    | .ot ws => atI ws i
    | _ => none
theorem atI_rel {α β : Type} {xs : List α} {ys : List β} {i : Int} {x : α} (hl : xs.length = ys.length) (h : atI xs i = some x) : ∃ j, ixN xs.length i = some j ∧ xs[j]? = some x ∧ ∀ y, ys[j]? = some y → atI ys i = some y := by
  unfold atI at h
  simp only [Option.bind_eq_some_iff] at h
  obtain ⟨j, h1, h2⟩ := h
  refine ⟨j, h1, h2, fun y hy => ?_⟩
  unfold atI
  rw [← hl, h1]
  exact hy
theorem opp_ix {G : GX} : OpP (rWW G) (rW G) (fun xy => rIx G.K xy.1 xy.2) gIx := by
  intro B H a b f c s ra e Q q
  obtain ⟨f1, f2, r1, r2, rfl⟩ := ra
  obtain ⟨a1, a2⟩ := a
  unfold gIx at e
  simp only at e r1 r2
  split at e
  · cases e
  · rename_i i hi
    rw [wInt_eq hi] at r2
    replace r2 : relW _ _ _ _ _ _ := r2
    simp only [relW, repD] at r2
    obtain ⟨r2, rfl⟩ := r2
    replace r1 : relW _ _ _ _ _ _ := r1
    split at e
    · rename_i ds
      simp only [Option.map_eq_some_iff] at e
      obtain ⟨d, e1, rfl⟩ := e
      simp only [relW, repD] at r1
      obtain ⟨⟨p, vs, h1, h2, h3⟩, rfl⟩ := r1
      obtain ⟨j, j1, j2, j3⟩ := atI_rel (repDs_length h3) e1
      obtain ⟨v, j4, j5⟩ := repDs_get h3 j2
      refine .inl ⟨p, vs, i, v, h1, r2, SqL.of (s _ _ h2), j3 v j4, q v [] (by simp) (fun _ => List.nodup_nil) ?_⟩
      show relW _ _ _ _ _ _
      simp only [relW]
      exact ⟨j5, trivial⟩
    · rename_i ds
      simp only [Option.map_eq_some_iff] at e
      obtain ⟨d, e1, rfl⟩ := e
      simp only [relW, repD] at r1
      obtain ⟨⟨p, vs, h1, h2, h3⟩, rfl⟩ := r1
      obtain ⟨j, j1, j2, j3⟩ := atI_rel (repDs_length h3) e1
      obtain ⟨v, j4, j5⟩ := repDs_get h3 j2
      refine .inr (.inl ⟨p, vs, i, v, h1, r2, sqT_of_same s h2, j3 v j4, q v [] (by simp) (fun _ => List.nodup_nil) ?_⟩)
      show relW _ _ _ _ _ _
      simp only [relW]
      exact ⟨j5, trivial⟩
    · rename_i ns
      simp only [Option.map_eq_some_iff] at e
      obtain ⟨d, e1, rfl⟩ := e
      simp only [relW, repD] at r1
      obtain ⟨⟨p, h1, h2⟩, rfl⟩ := r1
      obtain ⟨j, j1, j2, j3⟩ := atI_rel (xs := ns) (ys := ns.map V.int) (by simp) e1
      refine .inl ⟨p, _, i, .int d, h1, r2, Same.seq s h2, j3 _ (by simp [j2]), q _ [] (by simp) (fun _ => List.nodup_nil) ?_⟩
      show relW _ _ _ _ _ _
      simp [relW, repD]
    · rename_i z
      split at e
      · rename_i hz
        simp only [Option.map_eq_some_iff] at e
        obtain ⟨d, e1, rfl⟩ := e
        simp only [relW, repD] at r1
        obtain ⟨h1, rfl⟩ := r1
        refine .inr (.inr ⟨z, i, d, h1, r2, sz_ok hz, e1, q _ [] (by simp) (fun _ => List.nodup_nil) ?_⟩)
        show relW _ _ _ _ _ _
        simp [relW, repD]
      · cases e
    · rename_i ws
      simp only [relW] at r1
      obtain ⟨p, vs, g, h1, h2, h3, rfl⟩ := r1
      obtain ⟨j, j1, j2, j3⟩ := atI_rel (relWs_length h3) e
      obtain ⟨w1, w2, v1, v, v2, g1, g0, g2, rfl, rfl, l1, l2, rfl, r3, r4, r5⟩ := relWs_split h3 j2
      refine .inl ⟨p, _, i, v, h1, r2, SqL.of h2, j3 v (get_mid l2), q v g0 (by grind) (fun nd => ?_) r4⟩
      grind
    · rename_i ws
      simp only [relW] at r1
      obtain ⟨p, vs, h1, h2, h3⟩ := r1
      obtain ⟨j, j1, j2, j3⟩ := atI_rel (relWs_length h3) e
      obtain ⟨w1, w2, v1, v, v2, g1, g0, g2, rfl, rfl, l1, l2, rfl, r3, r4, r5⟩ := relWs_split h3 j2
      refine .inr (.inl ⟨p, _, i, v, h1, r2, SqT.of (s _ _ h2), j3 v (get_mid l2), q v g0 (by grind) (fun nd => ?_) r4⟩)
      grind
    · cases e
def mIx (ma mb : ME W) : ME W := (ma.bind fun a => mb.bind fun b => ME.pure (a, b)).bind (ME.op gIx)
theorem se_ix (ha : SE X Wx k1 p1 a ma) (hb : SE X Wx k2 p2 b mb) (hs : PlainIx b) (hc : k1 = true ∨ p2 = true := by decide) : SE X Wx (k1 && k2) (p1 && p2) (.Subscript a b pos) (mIx ma mb) := by
  obtain ⟨ta, pa, sa⟩ := ha
  obtain ⟨tb, pb, sb⟩ := hb
  exact ⟨_, pe_ix ix_seq pa pb hs, (Sim.pair (rW_good _) sa sb hc).opP opp_ix⟩
end
def SO (X : Cx) (Wx : WX) (p : Bool) (e : Option Expr) (m : ME (Option Int)) : Prop := ∃ t : TO, PO X e t ∧ Sim (gx X) true p Wx (rEqv (Option Int)) t m
def mNoPart : ME (Option Int) := ME.pure none
def mPart (m : ME W) : ME (Option Int) := m.bind (ME.op fun w => (wInt w).map some)
def cutL {α : Type} (xs : List α) (lo hi : Option Int) : List α := (xs.drop (HT.sIx xs.length 0 lo)).take (HT.sIx xs.length xs.length hi - HT.sIx xs.length 0 lo)
def gSl : W × (Option Int × Option Int) → Option W := fun p => match p.1 with
  | .sh (.str z) => if z.length ≤ 100000 then some (.sh (.str (cutS z p.2.1 p.2.2))) else none
  | .sh (.tup ds) => some (.sh (.tup (cutL ds p.2.1 p.2.2)))
  | w => (wEls w).map fun ds => .ol ((cutL ds p.2.1 p.2.2).map W.sh)
def mSl (m : ME W) (lo hi : ME (Option Int)) : ME W := (m.bind fun a => (lo.bind fun b => hi.bind fun c => ME.pure (b, c)).bind fun d => ME.pure (a, d)).bind (ME.op gSl)
section
variable {X : Cx} {Wx : WX} {k p k1 p1 k2 p2 k3 p3 : Bool} {e a b c : Expr} {es : List Expr} {m ma mb mc : ME W} {pos p2' : Pos} {lo hi : Option Expr} {ml mh : ME (Option Int)}
theorem so_none : SO X Wx true none mNoPart := by
  refine ⟨_, po_none, ?_⟩
  intro B H σ env fp O Q c
  exact c none H B [] fp ⟨O, ⟨rfl, rfl⟩, fun q hq => by simp at hq, Step.refl (by simp), fun _ => ⟨List.nodup_nil, fun q hq => by simp at hq⟩, fun _ => ⟨Same.refl H, fun _ _ => rfl, rfl, rfl⟩⟩
theorem so_some (h : SE X Wx k p e m) : SO X Wx p (some e) (mPart m) := by
  obtain ⟨t, pe, s⟩ := h
  refine ⟨_, po_some pe, s.op (T := rEqv (Option Int)) (r := fun (x : V) H (Q : Option Int → Hp → Prop) => ∃ i, x = V.int i ∧ Q (some i) H) ?_⟩
  intro B H a b f c sb ra o e Q q
  simp only [Option.map_eq_some_iff] at e
  obtain ⟨i, e1, rfl⟩ := e
  rw [wInt_eq e1] at ra
  have ra : relW _ _ _ _ _ _ := ra
  simp only [relW, repD] at ra
  exact ⟨i, ra.1, q _ H B [] (Same.refl H) (Same.refl B) sb (fun _ _ => rfl) (fun x hx => by simp at hx) List.nodup_nil ⟨rfl, rfl⟩⟩
theorem repDs_take {G : GX} {B : Hp} : ∀ {ds : List D} {vs : List V} (n : Nat), repDs G B ds vs → repDs G B (ds.take n) (vs.take n)
  | _, _, 0, _ => by simp [repDs]
  | [], vs, n + 1, h => by simp only [repDs] at h; subst h; simp [repDs]
  | d :: ds, vs, n + 1, h => by
    simp only [repDs] at h
    obtain ⟨v, r, rfl, h1, h2⟩ := h
    simp only [List.take_succ_cons, repDs]
    exact ⟨v, r.take n, rfl, h1, repDs_take n h2⟩
theorem repDs_drop {G : GX} {B : Hp} : ∀ {ds : List D} {vs : List V} (n : Nat), repDs G B ds vs → repDs G B (ds.drop n) (vs.drop n)
  | _, _, 0, h => by simpa using h
  | [], vs, n + 1, h => by simp only [repDs] at h; subst h; simp [repDs]
  | d :: ds, vs, n + 1, h => by
    simp only [repDs] at h
    obtain ⟨v, r, rfl, h1, h2⟩ := h
    simp only [List.drop_succ_cons]
    exact repDs_drop n h2
theorem repDs_cut {G : GX} {B : Hp} {ds : List D} {vs : List V} (h : repDs G B ds vs) (lo hi : Option Int) : repDs G B (cutL ds lo hi) (cutV vs lo hi) := by
  unfold cutL cutV
  rw [repDs_length h]
  exact repDs_take _ (repDs_drop _ h)
def rSlAll (K : PySem.W.Frag) : V → Option Int → Option Int → Hp → VK → Prop := fun x lo hi H Q => rSlS x lo hi H Q ∨ (rSlA K x lo hi H Q ∨ rSlL K x lo hi H Q)
theorem opp_sl {G : GX} : OpS (rPair (rW G) (rPair (rEqv (Option Int)) (rEqv (Option Int)))) (rW G) (fun (b : V × (Option Int × Option Int)) H Q => rSlAll G.K b.1 b.2.1 b.2.2 H Q) gSl := by
  intro B H a b f c s ra o e Q q
  obtain ⟨f1, f2, r1, ⟨f3, f4, ⟨e3, rfl⟩, ⟨e4, rfl⟩, rfl⟩, rfl⟩ := ra
  obtain ⟨a1, a2, a3⟩ := a
  obtain ⟨b1, b2, b3⟩ := b
  simp only at e3 e4 r1
  subst e3 e4
  replace r1 : relW _ _ _ _ _ _ := r1
  unfold gSl at e
  simp only at e
  split at e
  · rename_i z
    split at e
    · rename_i hz
      cases e
      simp only [relW, repD] at r1
      refine .inl ⟨z, r1.1, sz_ok hz, q _ H B [] (Same.refl H) (Same.refl B) s (fun _ _ => rfl) (fun x hx => by simp at hx) List.nodup_nil ?_⟩
      show relW _ _ _ _ _ _
      simp [relW, repD]
    · cases e
  · rename_i ds
    cases e
    simp only [relW, repD] at r1
    obtain ⟨⟨p, vs, h1, h2, h3⟩, _⟩ := r1
    refine .inr (.inl ⟨p, vs, h1, sqT_of_same s h2, fun hw => ?_, fun hn p2 np => ?_⟩)
    · refine q _ H B [] (Same.refl H) (Same.refl B) s (fun _ _ => rfl) (fun x hx => by simp at hx) List.nodup_nil ?_
      show relW _ _ _ _ _ _
      simp only [relW, repD]
      refine ⟨⟨p, vs, rfl, h2, ?_⟩, trivial⟩
      have : cutL ds a2 a3 = ds := by
        unfold cutL
        rw [repDs_length h3, hw.1, hw.2]
        simp [← repDs_length h3]
      rw [this]
      exact h3
    · have nB := none_of_sub s np
      have sB : Same B (upd B p2 (.tup (cutV vs a2 a3))) := same_new nB
      refine q _ _ (upd B p2 (.tup (cutV vs a2 a3))) [] (same_new np) sB (fun a u z => ?_) (fun a ha => by rw [upd_ne (fun z => ha (by rw [z]; exact np))]) (fun x hx => by simp at hx) List.nodup_nil ?_
      · by_cases ea : a = p2
        · subst ea
          rw [upd_same] at z ⊢
          exact z
        · rw [upd_ne ea] at z ⊢
          exact s a u z
      · show relW _ _ _ _ _ _
        simp only [relW, repD]
        exact ⟨⟨p2, _, rfl, SqT.of upd_same, repDs_mono sB (repDs_cut h3 _ _)⟩, trivial⟩
  · simp only [Option.map_eq_some_iff] at e
    obtain ⟨ds, e1, rfl⟩ := e
    obtain ⟨l, vs, h1, h2, h3⟩ := wEls_eq s r1 e1
    refine .inr (.inr ⟨l, vs, h1, SqL.of h2, fun p np => ?_⟩)
    have nB := none_of_sub s np
    have sm : Same H (upd H p (.lst (cutV vs a2 a3))) := same_new np
    refine q _ _ B [p] sm (Same.refl B) (s.trans sm) (fun _ _ => rfl) (fun x hx => by simp at hx; subst hx; exact ⟨np, nB⟩) (by simp) ?_
    show relW _ _ _ _ _ _
    simp only [relW]
    exact ⟨p, _, [], rfl, upd_same, relWs_sh (repDs_cut h3 _ _), rfl⟩
theorem se_sl (ha : SE X Wx k1 p1 e m) (hl : SO X Wx p2 lo ml) (hh : SO X Wx p3 hi mh) (hc : k1 = true ∨ (p2 && p3) = true := by decide) : SE X Wx true (p1 && (p2 && p3)) (.Subscript e (.Slice lo hi none p2') pos) (mSl m ml mh) := by
  obtain ⟨ta, pa, sa⟩ := ha
  obtain ⟨tl, pl, sl⟩ := hl
  obtain ⟨th, ph, sh⟩ := hh
  exact ⟨_, pe_slice (SlR.or sl_str (SlR.or sl_tupA sl_list)) pa pl ph, (Sim.pair (rW_good _) sa (Sim.pair (rEqv_good _) sl sh (.inl rfl)) hc).op opp_sl⟩
end
end AM
set_option Elab.async false
set_option linter.all false
set_option maxRecDepth 100000
namespace AM
open PySem L2
abbrev Path := Nat × List Nat
def kids : W → Option (List W)
  | .ol ws => some ws
  | .ot ws => some ws
  | .ob _ _ ws => some ws
  | _ => none
def setKid (w : W) (j : Nat) (x : W) : W := match w with
  | .ol ws => .ol (ws.set j x)
  | .ot ws => .ot (ws.set j x)
  | .ob c fs ws => .ob c fs (ws.set j x)
  | w => w
def getP : W → List Nat → Option W
  | w, [] => some w
  | w, j :: js => match (kids w).bind (·[j]?) with
    | some x => getP x js
    | none => none
def putP : W → List Nat → W → Option W
  | _, [], x => some x
  | w, j :: js, x => match (kids w).bind (·[j]?) with
    | some y => (putP y js x).map fun z => setKid w j z
    | none => none
def getE (env : Env) (path : Path) : Option W := match env[path.1]? with
  | some (some w) => getP w path.2
  | _ => none
def setE (env : Env) (path : Path) (x : W) : Option Env := match env[path.1]? with
  | some (some w) => (putP w path.2 x).map fun u => env.set path.1 (some u)
  | _ => none
/-- from v down the path stands u -/
def locV (H : Hp) : V → List Nat → V → Prop
  | v, [], u => u = v
  | v, j :: js, u => ∃ a x, v = .ref a ∧ ((∃ vs, H a = some (.lst vs) ∧ vs[j]? = some x) ∨ (∃ vs, H a = some (.tup vs) ∧ vs[j]? = some x) ∨ ∃ C dx fs, H a = some (.ins C dx fs) ∧ fs[j]?.map Prod.snd = some x) ∧ locV H x js u
def locE (H : Hp) (σ : St) (path : Path) (u : V) : Prop := ∃ v, σ[path.1]? = some (some v) ∧ locV H v path.2 u
section
variable {G : GX} {B H H' : Hp} {σ : St} {env : Env}
theorem locV_mono (s : Same H H') : ∀ {js : List Nat} {v u : V}, locV H v js u → locV H' v js u
  | [], _, _, h => h
  | j :: js, v, u, ⟨a, x, h1, h2, h3⟩ => by
    refine ⟨a, x, h1, ?_, locV_mono s h3⟩
    rcases h2 with ⟨vs, e, g⟩ | ⟨vs, e, g⟩ | ⟨C, dx, fs, e, g⟩
    · exact .inl ⟨vs, s _ _ e, g⟩
    · exact .inr (.inl ⟨vs, s _ _ e, g⟩)
    · exact .inr (.inr ⟨C, dx, fs, s _ _ e, g⟩)
theorem locE_mono {path : Path} {u : V} (s : Same H H') (h : locE H σ path u) : locE H' σ path u := by
  obtain ⟨v, h1, h2⟩ := h
  exact ⟨v, h1, locV_mono s h2⟩
theorem zip_get {fs : List Str} {vs : List V} {j : Nat} (h : fs.length = vs.length) : (fs.zip vs)[j]?.map Prod.snd = vs[j]? := by
  rw [← List.getElem?_map]
  congr 1
  exact List.map_snd_zip (by omega)
/-- the tree at a path, and another put in its place -/
theorem relW_zip (sub : Same B H) : ∀ {js : List Nat} {w w0 : W} {v v0 : V} {f : List Addr}, relW G B H w v f → getP w js = some w0 → locV H v js v0 →
    ∃ f1 g f2, f = f1 ++ (g ++ f2) ∧ relW G B H w0 v0 g ∧ ∀ (B' H' : Hp) (w' : W) (g' : List Addr), Same B B' → (∀ q ∈ f1, H' q = H q) → (∀ q ∈ f2, H' q = H q) → relW G B' H' w' v0 g' →
      ∃ w1, putP w js w' = some w1 ∧ relW G B' H' w1 v (f1 ++ (g' ++ f2))
  | [], w, w0, v, v0, f, r, e, l => by
    simp only [getP, Option.some.injEq] at e
    subst e
    have l' : v0 = v := l
    subst l'
    exact ⟨[], f, [], by simp, r, fun B' H' w' g' _ _ _ r' => ⟨w', rfl, by simpa using r'⟩⟩
  | j :: js, w, w0, v, v0, f, r, e, l => by
    obtain ⟨a, x, h1, h2, h3⟩ := l
    simp only [getP] at e
    split at e
    · rename_i y hy
      simp only [Option.bind_eq_some_iff] at hy
      obtain ⟨ws, k1, k2⟩ := hy
      cases w with
      | sh d => simp [kids] at k1
      | dk _ _ => simp [kids] at k1
      | dt _ _ => simp [kids] at k1
      | ol ws' =>
        simp only [kids, Option.some.injEq] at k1
        subst k1
        simp only [relW] at r
        obtain ⟨p, vs, g, hv, hp, hr, rfl⟩ := r
        rw [hv] at h1
        cases h1
        obtain ⟨w1, w2, v1, u, v2, f1, g0, f2, rfl, rfl, l1, l2, rfl, r1, r2, r3⟩ := relWs_split hr k2
        have ex : x = u := by
          rcases h2 with ⟨vs', e1, e2⟩ | ⟨vs', e1, e2⟩ | ⟨C, dx, fs, e1, e2⟩
          · rw [hp] at e1
            cases e1
            rw [get_mid l2] at e2
            exact (Option.some.inj e2).symm
          · rw [hp] at e1; cases e1
          · rw [hp] at e1; cases e1
        subst ex
        obtain ⟨a1, a0, a2, rfl, ra, k⟩ := relW_zip sub r2 e h3
        refine ⟨a :: (f1 ++ a1), a0, a2 ++ f2, by simp, ra, fun B' H' w' g' sB q1 q2 r' => ?_⟩
        obtain ⟨z, z1, z2⟩ := k B' H' w' g' sB (fun q hq => q1 q (by simp [hq])) (fun q hq => q2 q (by simp [hq])) r'
        refine ⟨.ol ((w1 ++ y :: w2).set j z), ?_, ?_⟩
        · simp only [putP]
          rw [show ((kids (W.ol (w1 ++ y :: w2))).bind (·[j]?)) = some y by simp only [kids, Option.bind_some]; exact get_mid l1]
          simp only [z1, Option.map_some, setKid]
        · rw [set_mid l1]
          simp only [relW]
          refine ⟨a, _, f1 ++ ((a1 ++ (g' ++ a2)) ++ f2), hv, (q1 a (by simp)).trans hp, relWs_join (relWs_frame sB r1 fun q hq => q1 q (by simp [hq])) z2 (relWs_frame sB r3 fun q hq => q2 q (by simp [hq])), by simp⟩
      | ot ws' =>
        simp only [kids, Option.some.injEq] at k1
        subst k1
        simp only [relW] at r
        obtain ⟨p, vs, hv, hp, hr⟩ := r
        rw [hv] at h1
        cases h1
        obtain ⟨w1, w2, v1, u, v2, f1, g0, f2, rfl, rfl, l1, l2, rfl, r1, r2, r3⟩ := relWs_split hr k2
        have ex : x = u := by
          rcases h2 with ⟨vs', e1, e2⟩ | ⟨vs', e1, e2⟩ | ⟨C, dx, fs, e1, e2⟩
          · rw [sub _ _ hp] at e1; cases e1
          · rw [sub _ _ hp] at e1
            cases e1
            rw [get_mid l2] at e2
            exact (Option.some.inj e2).symm
          · rw [sub _ _ hp] at e1; cases e1
        subst ex
        obtain ⟨a1, a0, a2, rfl, ra, k⟩ := relW_zip sub r2 e h3
        refine ⟨f1 ++ a1, a0, a2 ++ f2, by simp, ra, fun B' H' w' g' sB q1 q2 r' => ?_⟩
        obtain ⟨z, z1, z2⟩ := k B' H' w' g' sB (fun q hq => q1 q (by simp [hq])) (fun q hq => q2 q (by simp [hq])) r'
        refine ⟨.ot ((w1 ++ y :: w2).set j z), ?_, ?_⟩
        · simp only [putP]
          rw [show ((kids (W.ot (w1 ++ y :: w2))).bind (·[j]?)) = some y by simp only [kids, Option.bind_some]; exact get_mid l1]
          simp only [z1, Option.map_some, setKid]
        · rw [set_mid l1]
          simp only [relW]
          refine ⟨a, _, hv, sB _ _ hp, ?_⟩
          have := relWs_join (relWs_frame sB r1 fun q hq => q1 q (by simp [hq])) z2 (relWs_frame sB r3 fun q hq => q2 q (by simp [hq]))
          simpa using this
      | ob c fs ws' =>
        simp only [kids, Option.some.injEq] at k1
        subst k1
        simp only [relW] at r
        obtain ⟨p, dx, C, vs, g, hv, hm, hp, hd, hl, hr, rfl⟩ := r
        rw [hv] at h1
        cases h1
        obtain ⟨w1, w2, v1, u, v2, f1, g0, f2, rfl, rfl, l1, l2, rfl, r1, r2, r3⟩ := relWs_split hr k2
        have ex : x = u := by
          rcases h2 with ⟨vs', e1, e2⟩ | ⟨vs', e1, e2⟩ | ⟨C', dx', fs', e1, e2⟩
          · rw [hp] at e1; cases e1
          · rw [hp] at e1; cases e1
          · rw [hp] at e1
            cases e1
            rw [zip_get hl, get_mid l2] at e2
            exact (Option.some.inj e2).symm
        subst ex
        obtain ⟨a1, a0, a2, rfl, ra, k⟩ := relW_zip sub r2 e h3
        refine ⟨a :: dx :: (f1 ++ a1), a0, a2 ++ f2, by simp, ra, fun B' H' w' g' sB q1 q2 r' => ?_⟩
        obtain ⟨z, z1, z2⟩ := k B' H' w' g' sB (fun q hq => q1 q (by simp [hq])) (fun q hq => q2 q (by simp [hq])) r'
        refine ⟨.ob c fs ((w1 ++ y :: w2).set j z), ?_, ?_⟩
        · simp only [putP]
          rw [show ((kids (W.ob c fs (w1 ++ y :: w2))).bind (·[j]?)) = some y by simp only [kids, Option.bind_some]; exact get_mid l1]
          simp only [z1, Option.map_some, setKid]
        · rw [set_mid l1]
          simp only [relW]
          refine ⟨a, dx, C, _, f1 ++ ((a1 ++ (g' ++ a2)) ++ f2), hv, hm, (q1 a (by simp)).trans hp, (q1 dx (by simp)).trans hd, hl, relWs_join (relWs_frame sB r1 fun q hq => q1 q (by simp [hq])) z2 (relWs_frame sB r3 fun q hq => q2 q (by simp [hq])), by simp⟩
    · cases e
theorem relE_zip (sub : Same B H) {path : Path} {w0 : W} {v0 : V} {fp : List Addr} (r : relE G B H σ env fp) (e : getE env path = some w0) (l : locE H σ path v0) :
    ∃ f1 g f2, fp = f1 ++ (g ++ f2) ∧ relW G B H w0 v0 g ∧ ∀ (B' H' : Hp) (w' : W) (g' : List Addr), Same B B' → (∀ q ∈ f1, H' q = H q) → (∀ q ∈ f2, H' q = H q) → relW G B' H' w' v0 g' →
      ∃ env', setE env path w' = some env' ∧ relE G B' H' σ env' (f1 ++ (g' ++ f2)) := by
  unfold getE at e
  split at e
  · rename_i w hw
    obtain ⟨v, hv, lv⟩ := l
    obtain ⟨e1, e2, s1, o, s2, f1, g, f2, rfl, rfl, l1, l2, rfl, r1, ⟨u, rfl, r2⟩, r3⟩ := relE_split r hw
    rw [get_mid l2] at hv
    have : u = v := Option.some.inj (Option.some.inj hv)
    subst this
    obtain ⟨a1, a0, a2, rfl, ra, k⟩ := relW_zip sub r2 e lv
    refine ⟨f1 ++ a1, a0, a2 ++ f2, by simp, ra, fun B' H' w' g' sB q1 q2 r' => ?_⟩
    obtain ⟨z, z1, z2⟩ := k B' H' w' g' sB (fun q hq => q1 q (by simp [hq])) (fun q hq => q2 q (by simp [hq])) r'
    refine ⟨(e1 ++ some w :: e2).set path.1 (some z), ?_, ?_⟩
    · unfold setE
      rw [get_mid l1]
      simp only [z1, Option.map_some]
    · rw [set_mid l1]
      have := relE_join (relE_frame sB r1 fun q hq => q1 q (by simp [hq])) (show relS G B' H' (some u) (some z) _ from ⟨u, rfl, z2⟩) (relE_frame sB r3 fun q hq => q2 q (by simp [hq]))
      simpa using this
  · cases e
end
def SimL (G : GX) (t : TE) (m : ME Path) : Prop := ∀ (B H : Hp) (σ : St) (env : Env) (fp : List Addr), Ok G B H σ env fp → ∀ Q : VK,
  (match m env with
  | some (.ok path, env') => ∀ v H' B', env' = env → Ok G B' H' σ env fp → Step B H fp B' H' fp → Same H H' → (∀ q, H q ≠ none → B' q = B q) → locE H' σ path v → Q v H'
  | _ => False) → t σ H Q
def SL (X : Cx) (e : Expr) (m : ME Path) : Prop := ∃ t : TE, PE X e t ∧ SimL (gx X) t m
def lIx (ml : ME Path) (mi : ME W) : ME Path := fun env => match ml env with
  | some (.ok path, env1) => match mi env1 with
    | some (.ok w, env2) => match wInt w, (getE env2 path).bind kids with
      | some i, some ws => match getE env2 path with
        | some (.ob _ _ _) => none
        | _ => (ixN ws.length i).bind fun j => if j < ws.length then some (.ok (path.1, path.2 ++ [j]), env2) else none
      | _, _ => none
    | _ => none
  | _ => none
theorem locV_snoc {H : Hp} : ∀ {js : List Nat} {v u x : V} {j : Nat}, locV H v js u → locV H u [j] x → locV H v (js ++ [j]) x
  | [], v, u, x, j, h, k => by
    have : u = v := h
    subst this
    exact k
  | i :: js, v, u, x, j, ⟨a, y, h1, h2, h3⟩, k => ⟨a, y, h1, h2, locV_snoc h3 k⟩
def lVar (i : Nat) : ME Path := fun env => match env[i]? with | some (some _) => some (.ok (i, []), env) | _ => none
section
variable {X : Cx} {Wx : WX} {x : Str} {pos : Pos} {a b : Expr} {ml : ME Path} {mb : ME W} {k : Bool} {G : GX}
theorem simL_var {i : Nat} : SimL G (tVar i) (lVar i) := by
  intro B H σ env fp O Q c
  unfold lVar at c
  cases e : env[i]? with
  | none => rw [e] at c; exact c.elim
  | some w =>
    rw [e] at c
    cases w with
    | none => exact c.elim
    | some w =>
      obtain ⟨e1, e2, s1, o, s2, f1, g, f2, rfl, rfl, l1, l2, rfl, r1, ⟨u, rfl, r2⟩, r3⟩ := relE_split O.rel e
      exact ⟨u, get_mid l2, c u H B rfl O (Step.refl fun _ h => h) (Same.refl H) (fun _ _ => rfl) ⟨u, get_mid l2, rfl⟩⟩
theorem sl_var (i : Nat) (h : PE X (.Name x pos) (tVar i)) : SL X (.Name x pos) (lVar i) := ⟨_, h, simL_var⟩
theorem simL_ix {ta tb : TE} (ha : SimL G ta ml) (hb : Sim G k true Wx (rW G) tb mb) : SimL G (tOp (rIx G.K) ta tb) (lIx ml mb) := by
  intro B H σ env fp O Q c
  refine ha B H σ env fp O _ ?_
  unfold lIx at c
  cases e1 : ml env with
  | none => rw [e1] at c; exact c
  | some r1 =>
    obtain ⟨r1, env1⟩ := r1
    rw [e1] at c
    cases r1 with
    | ex x => exact c
    | ok path =>
      intro v H1 B1 ee O1 S1 s1 b1 L1
      subst ee
      simp only at c
      refine hb B1 H1 σ env1 fp O1 _ ?_
      cases e2 : mb env1 with
      | none => rw [e2] at c; exact c
      | some r2 =>
        obtain ⟨r2, env2⟩ := r2
        rw [e2] at c
        cases r2 with
        | ex x => exact c.elim
        | ok w =>
          intro y H2 B2 f0 fp2 P
          obtain ⟨s2, b2, rfl, rfl⟩ := P.pure rfl
          simp only at c
          cases e3 : wInt w with
          | none => rw [e3] at c; exact c.elim
          | some i =>
            cases e4 : getE env2 path with
            | none => simp [e3, e4] at c
            | some u =>
              cases e5 : kids u with
              | none => simp [e3, e4, e5] at c
              | some ws =>
                have L2 := locE_mono s2 L1
                obtain ⟨f1, g, f2, ef, ru, _⟩ := relE_zip P.ok.sub P.ok.rel e4 L2
                have ry : relW G B2 H2 w y f0 := P.rel
                rw [wInt_eq e3] at ry
                simp only [relW, repD] at ry
                have stp : Step B H fp2 B2 H2 fp2 := Step.trans (S := []) S1 (P.step.mono fun q hq => by simp [hq])
                have fin : ∀ (p : Addr) (z : V) (j : Nat), v = .ref p → ((∃ vs, H2 p = some (.lst vs) ∧ vs[j]? = some z) ∨ (∃ vs, H2 p = some (.tup vs) ∧ vs[j]? = some z)) → ixN ws.length i = some j → j < ws.length → (∀ c fs xs, u ≠ .ob c fs xs) → Q z H2 := by
                  intro p z j hv hz hj hlt hno
                  simp only [e3, e4, e5, Option.bind_some, hj, if_pos hlt] at c
                  have c' : ∀ v' H' B', env2 = env2 → Ok G B' H' σ env2 fp2 → Step B H fp2 B' H' fp2 → Same H H' → (∀ q, H q ≠ none → B' q = B q) → locE H' σ (path.1, path.2 ++ [j]) v' → Q v' H' := by
                    cases u with
                    | ob c1 fs xs => exact absurd rfl (hno c1 fs xs)
                    | sh d => simp [kids] at e5
                    | dk _ _ => simp [kids] at e5
                    | dt _ _ => simp [kids] at e5
                    | ol _ => exact c
                    | ot _ => exact c
                  obtain ⟨v0, q1, q2⟩ := L2
                  refine c' z H2 B2 rfl P.ok stp (fun q o e => s2 q o (s1 q o e)) (fun q h => (b2 q (S1.live q h)).trans (b1 q h)) ⟨v0, q1, locV_snoc q2 ⟨p, z, hv, ?_, rfl⟩⟩
                  rcases hz with hz | hz
                  · exact .inl hz
                  · exact .inr (.inl hz)
                cases ej : ixN ws.length i with
                | none =>
                  cases u <;> simp [e3, e4, e5, ej] at c
                | some j =>
                  by_cases hlt : j < ws.length
                  · have ew : ws[j]? = some ws[j] := List.getElem?_eq_getElem hlt
                    cases u with
                    | sh d => simp [kids] at e5
                    | dk _ _ => simp [kids] at e5
                    | dt _ _ => simp [kids] at e5
                    | ob c1 fs xs => simp [e3, e4, e5] at c
                    | ol xs =>
                      simp only [kids, Option.some.injEq] at e5
                      subst e5
                      simp only [relW] at ru
                      obtain ⟨p, vs, gg, hv, hp, hr, _⟩ := ru
                      obtain ⟨w1, w2, v1, z, v2, g1, g0, g2, hw, rfl, l1, l2, _, _, _, _⟩ := relWs_split hr ew
                      refine .inl ⟨p, _, i, z, hv, ry.1, SqL.of hp, ?_, fin p z j hv (.inl ⟨_, hp, get_mid l2⟩) ej hlt (fun _ _ _ h => nomatch h)⟩
                      unfold atI
                      rw [← relWs_length hr, ej]
                      exact get_mid l2
                    | ot xs =>
                      simp only [kids, Option.some.injEq] at e5
                      subst e5
                      simp only [relW] at ru
                      obtain ⟨p, vs, hv, hp, hr⟩ := ru
                      obtain ⟨w1, w2, v1, z, v2, g1, g0, g2, hw, rfl, l1, l2, _, _, _, _⟩ := relWs_split hr ew
                      have hp2 := P.ok.sub _ _ hp
                      refine .inr (.inl ⟨p, _, i, z, hv, ry.1, SqT.of hp2, ?_, fin p z j hv (.inr ⟨_, hp2, get_mid l2⟩) ej hlt (fun _ _ _ h => nomatch h)⟩)
                      unfold atI
                      rw [← relWs_length hr, ej]
                      exact get_mid l2
                  · cases u <;> simp [e3, e4, e5, ej, hlt] at c
theorem sl_ix (ha : SL X a ml) (hb : SE X Wx k true b mb) (hs : PlainIx b) : SL X (.Subscript a b pos) (lIx ml mb) := by
  obtain ⟨ta, pa, sa⟩ := ha
  obtain ⟨tb, pb, sb⟩ := hb
  exact ⟨_, pe_ix ix_seq pa pb hs, simL_ix sa sb⟩
end
def OpI (G : GX) (r : V → List V → Hp → VK → Prop) (g : W → List W → Option (W × W)) : Prop :=
  ∀ (B H : Hp) (w : W) (v : V) (ga : List Addr) (ws : List W) (vs : List V) (fa : List Addr) (w' c : W), Same B H → relW G B H w v ga → relWs G B H ws vs fa → (ga ++ fa).Nodup → (∀ q ∈ ga ++ fa, B q = none) → g w ws = some (w', c) → ∀ Q : VK,
    (∀ y H' B' g' fr, (∀ a o, H a = some o → a ∉ ga → H' a = some o) → Same B B' → Same B' H' → (∀ q, H q ≠ none → B' q = B q) → (∀ q ∈ g' ++ fr, B' q = none ∧ (q ∈ ga ++ fa ∨ H q = none)) → (g' ++ fr).Nodup → (∀ a, H a ≠ none → H' a ≠ none) → relW G B' H' w' v g' → relW G B' H' c y fr → Q y H') → r v vs H Q
def mIn (g : W → List W → Option (W × W)) (ml : ME Path) (ma : ME (List W)) : ME W := fun env => match ml env with
  | some (.ok path, env1) => match ma env1 with
    | some (.ok ws, env2) => (getE env2 path).bind fun w => (g w ws).bind fun p => (setE env2 path p.1).map fun env3 => (.ok p.2, env3)
    | some (.ex x, env2) => some (.ex x, env2)
    | none => none
  | _ => none
/-- the place is a name alone -/
def Root (m : ME Path) : Prop := ∀ env path env', m env = some (.ok path, env') → path.2 = []
section
variable {G : GX} {Wx : WX} {p : Bool} {tl : TE} {ta : TA} {ml : ME Path} {ma : ME (List W)} {r : V → List V → Hp → VK → Prop} {g : W → List W → Option (W × W)}
theorem Sim.inPlace (hl : SimL G tl ml) (ha : Sim G true p Wx (rWs G) ta ma) (hc : p = true ∨ Root ml) (ho : OpI G r g) : Sim G true false Wx (rW G) (fun σ H Q => tl σ H fun x H1 => ta σ H1 fun xs H2 => r x xs H2 Q) (mIn g ml ma) := by
  intro B H σ env fp O Q c
  refine hl B H σ env fp O _ ?_
  unfold mIn at c
  cases e1 : ml env with
  | none => rw [e1] at c; exact c
  | some r1 =>
    obtain ⟨r1, env1⟩ := r1
    rw [e1] at c
    cases r1 with
    | ex x => exact c.elim
    | ok path =>
      intro v H1 B1 ee O1 S1 s1 b1 L1
      subst ee
      simp only at c
      refine ha B1 H1 σ env1 fp O1 _ ?_
      cases e2 : ma env1 with
      | none => rw [e2] at c; exact c.elim
      | some r2 =>
        obtain ⟨r2, env2⟩ := r2
        rw [e2] at c
        cases r2 with
        | ex x =>
          intro cls d H2 B2 fp2 O2 S2 hx hd
          refine c cls d H2 B2 fp2 O2 (S1.trans (S := []) S2) hx fun dd e => ?_
          obtain ⟨a1, a2, a3⟩ := hd dd e
          refine ⟨a1, a2, ?_⟩
          cases q : H dd with
          | none => rfl
          | some o => exact absurd a3 (S1.live dd (by simp [q]))
        | ok ws =>
          intro vs H2 B2 fa fp2 P
          have L2 : locE H2 σ path v := by
            rcases hc with hc | hc
            · exact locE_mono (P.pure hc).1 L1
            · obtain ⟨v0, q1, q2⟩ := L1
              have := hc _ _ _ e1
              rw [this] at q2
              exact ⟨v0, q1, by rw [this]; exact q2⟩
          simp only at c
          cases e3 : getE env2 path with
          | none => rw [e3] at c; exact c.elim
          | some w =>
            rw [e3, Option.bind_some] at c
            cases e4 : g w ws with
            | none => rw [e4] at c; exact c.elim
            | some pr =>
              obtain ⟨w', z⟩ := pr
              rw [e4, Option.bind_some] at c
              obtain ⟨f1, ga, f2, rfl, rw', back⟩ := relE_zip P.ok.sub P.ok.rel e3 L2
              obtain ⟨ndA, disA⟩ := P.own rfl
              have ndE := P.ok.nd
              simp only [List.nodup_append, List.mem_append] at ndE
              obtain ⟨n1, ⟨n2, n3, n4⟩, n5⟩ := ndE
              have liveE := relE_live P.ok.rel
              refine ho B2 H2 w v ga ws vs fa w' z P.ok.sub rw' P.rel ?_ ?_ e4 Q fun y H3 B3 g' fr k1 k2 k3 k4 k5 k6 k7 k8 k9 => ?_
              · refine List.nodup_append.mpr ⟨n2, ndA, fun a ha b hb e => ?_⟩
                subst e
                exact disA a hb (by simp [ha])
              · intro q hq
                rcases List.mem_append.mp hq with hq | hq
                · exact P.ok.out q (by simp [hq])
                · exact P.out q hq
              · have keepE : ∀ q, q ∈ f1 ∨ q ∈ f2 → H3 q = H2 q := fun q hq => by
                  have hl : H2 q ≠ none := liveE q (by rcases hq with hq | hq <;> simp [hq])
                  cases e : H2 q with
                  | none => exact absurd e hl
                  | some o =>
                    refine k1 q o e fun z => ?_
                    rcases hq with hq | hq
                    · exact n5 q hq q (.inl z) rfl
                    · exact n4 q z q hq rfl
                obtain ⟨env3, e5, rE⟩ := back B3 H3 w' g' k2 (fun q hq => keepE q (.inl hq)) (fun q hq => keepE q (.inr hq)) k8
                rw [e5] at c
                have dis : ∀ q ∈ g' ++ fr, q ∉ f1 ∧ q ∉ f2 := fun q hq => by
                  rcases (k5 q hq).2 with z | z
                  · rcases List.mem_append.mp z with z | z
                    · exact ⟨fun y => n5 q y q (.inl z) rfl, fun y => n4 q z q y rfl⟩
                    · exact ⟨fun y => disA q z (by simp [y]), fun y => disA q z (by simp [y])⟩
                  · exact ⟨fun y => liveE q (by simp [y]) z, fun y => liveE q (by simp [y]) z⟩
                simp only [List.nodup_append] at k6
                obtain ⟨m1, m2, m3⟩ := k6
                have nd3 : (f1 ++ (g' ++ f2)).Nodup := by
                  refine List.nodup_append.mpr ⟨n1, List.nodup_append.mpr ⟨m1, n3, fun a ha b hb e => ?_⟩, fun a ha b hb e => ?_⟩
                  · subst e
                    exact (dis a (by simp [ha])).2 hb
                  · subst e
                    rcases List.mem_append.mp hb with hb | hb
                    · exact (dis a (by simp [hb])).1 ha
                    · exact n5 a ha a (.inr hb) rfl
                have outE : ∀ q ∈ f1 ++ (g' ++ f2), B3 q = none := fun q hq => by
                  simp only [List.mem_append] at hq
                  rcases hq with hq | hq | hq
                  · rw [k4 q (liveE q (by simp [hq]))]
                    exact P.ok.out q (by simp [hq])
                  · exact (k5 q (by simp [hq])).1
                  · rw [k4 q (liveE q (by simp [hq]))]
                    exact P.ok.out q (by simp [hq])
                have S12 : Step B H fp B2 H2 (fa ++ (f1 ++ (ga ++ f2))) := S1.trans (S := []) P.step
                refine c y H3 B3 fr (f1 ++ (g' ++ f2)) ⟨⟨k3, rE, nd3, outE⟩, k9, fun q hq => (k5 q (by simp [hq])).1, ⟨fun q o e n => ?_, fun q o e => k2 q o (S12.bext q o e), fun q h n => ?_, fun q hq => ?_, fun q h => k7 q (S12.live q h)⟩, fun _ => ⟨m2, fun q hq z => ?_⟩, fun z => Bool.noConfusion z⟩
                · refine k1 q o (S12.keep q o e n) fun z => ?_
                  rcases S12.new q (by simp [z]) with y | y
                  · exact n y
                  · rw [e] at y; cases y
                · rw [k4 q (S12.live q h)]
                  exact S12.bold q h n
                · have key : ∀ q, q ∈ ga ++ fa ∨ H2 q = none → q ∈ fp ∨ H q = none := fun q z => by
                    rcases z with z | z
                    · exact S12.new q (by simp only [List.mem_append] at z ⊢; grind)
                    · refine .inr ?_
                      cases e : H q with
                      | none => rfl
                      | some o => exact absurd z (S12.live q (by simp [e]))
                  simp only [List.mem_append] at hq
                  rcases hq with hq | hq | hq | hq
                  · exact key q (k5 q (by simp [hq])).2
                  · exact S12.new q (by simp [hq])
                  · exact key q (k5 q (by simp [hq])).2
                  · exact S12.new q (by simp [hq])
                · simp only [List.mem_append] at z
                  rcases z with z | z | z
                  · exact (dis q (by simp [hq])).1 z
                  · exact m3 q z q hq rfl
                  · exact (dis q (by simp [hq])).2 z
end
end AM
set_option Elab.async false
set_option linter.all false
set_option maxRecDepth 100000
namespace AM
open PySem L2
def isOl : W → Bool
  | .ol _ => true
  | _ => false
def lChk (ck : W → Bool) (ml : ME Path) : ME Path := fun env => match ml env with
  | some (.ok path, env1) => if ((getE env1 path).map ck) = some true then some (.ok path, env1) else none
  | _ => none
theorem root_chk {ck : W → Bool} {ml : ME Path} (h : Root ml) : Root (lChk ck ml) := fun env path env' q => by
  unfold lChk at q
  split at q
  · rename_i e2 pa2 e3 h2
    split at q
    · cases q
      exact h _ _ _ h2
    · cases q
  · cases q
theorem simL_list {G : GX} {tl : TE} {ml : ME Path} (hl : SimL G tl ml) : SimL G (fun σ H Q => tl σ H fun x H1 => tyV G.K "list" x H1 ∧ Q x H1) (lChk isOl ml) := by
  intro B H σ env fp O Q c
  refine hl B H σ env fp O _ ?_
  unfold lChk at c
  cases e : ml env with
  | none => rw [e] at c; exact c.elim
  | some r =>
    obtain ⟨r, e1⟩ := r
    rw [e] at c
    cases r with
    | ex x => exact c.elim
    | ok pa =>
      simp only at c
      by_cases hk : ((getE e1 pa).map isOl) = some true
      · rw [if_pos hk] at c
        intro v H' B' ee O' S' s' b' L'
        subst ee
        refine ⟨?_, c v H' B' rfl O' S' s' b' L'⟩
        simp only [Option.map_eq_some_iff] at hk
        obtain ⟨w, w1, w2⟩ := hk
        obtain ⟨f1, ga, f2, _, rw', _⟩ := relE_zip O'.sub O'.rel w1 L'
        cases w with
        | ol ws =>
          simp only [relW] at rw'
          obtain ⟨q, vs, gg, rfl, hq, _⟩ := rw'
          exact .inl ⟨rfl, vs, SqL.of hq⟩
        | sh _ => cases w2
        | ot _ => cases w2
        | ob _ _ _ => cases w2
        | dk _ _ => cases w2
        | dt _ _ => cases w2
      · rw [if_neg hk] at c
        exact c.elim
section
variable {X : Cx} {Wx : WX} {p : Bool} {o e : Expr} {es : List Expr} {ml : ME Path} {ma : ME (List W)} {name : Str} {id : String} {apos cpos : Pos} {r : V → List V → Hp → VK → Prop} {g : W → List W → Option (W × W)}
theorem se_meth (slot : Slot "list" name id) (hty : typeOf (.builtin id) = pure (.type "method_descriptor")) (hm : MtR X id r) (ho : OpI (gx X) r g) (hl : SL X o ml) (ha : SA X Wx true p (e :: es) ma) (hc : p = true ∨ Root ml)
    (hbase : attributeBase o name X.env (eval o X.env) = eval o X.env := by rfl)
    (hfew : ((backTo cpos (starEach (e :: es) X.env)).all (fun x => !x.1) && (backToKw cpos (keywordEach [] X.env)).all (fun x => x.1.isSome)
      && decide ((e :: es).length + ([] : List Keyword).length + (if ([] : List Keyword).isEmpty then 0 else 1) < 30)) = true := by rfl)
    (hline : (apos.endLine == cpos.line) = true := by rfl) (hs : starEach (e :: es) X.env = (false, eval e X.env) :: starEach es X.env := by rfl) (hplain : (backTo cpos (starEach es X.env)).any (·.1) = false := by rfl) :
    SE X Wx true false (.Call (.Attribute o name apos) (e :: es) [] cpos) (mIn g (lChk isOl ml) ma) := by
  obtain ⟨tl, pl, sl⟩ := hl
  obtain ⟨ta, pa, sa⟩ := ha
  exact ⟨_, pe_bm PySem.F.plainAttrs_list slot hty hm pl pa hbase hfew hline hs hplain, Sim.inPlace (simL_list sl) sa (hc.imp (fun h => h) root_chk) ho⟩
theorem se_meth0 (slot : Slot "list" name id) (hty : typeOf (.builtin id) = pure (.type "method_descriptor")) (hm : MtR X id r) (ho : OpI (gx X) r g) (hl : SL X o ml)
    (hbase : attributeBase o name X.env (eval o X.env) = eval o X.env := by rfl) (hline : (apos.endLine == cpos.line) = true := by rfl) :
    SE X Wx true false (.Call (.Attribute o name apos) [] [] cpos) (mIn g (lChk isOl ml) mNil) := by
  obtain ⟨tl, pl, sl⟩ := hl
  refine ⟨_, pe_bm0 PySem.F.plainAttrs_list slot hty hm pl hbase hline, ?_⟩
  exact Sim.inPlace (p := true) (simL_list sl) sim_nil (.inl rfl) ho
end
theorem opi_list {G : GX} {r : V → List V → Hp → VK → Prop} {g : List W → List W → Option (List W × W)}
    (h : ∀ (B H : Hp) (p : Addr) (ws : List W) (vs : List V) (f : List Addr) (as : List W) (avs : List V) (fa : List Addr) (ws' : List W) (c : W), Same B H → H p = some (.lst vs) → relWs G B H ws vs f → relWs G B H as avs fa → g ws as = some (ws', c) →
      ∃ vs' y f' fr, relWs G B H ws' vs' f' ∧ relW G B H c y fr ∧ (∀ q ∈ f' ++ fr, q ∈ f ++ fa) ∧ ((f ++ fa).Nodup → (f' ++ fr).Nodup) ∧ ∀ Q : VK, Q y (upd H p (.lst vs')) → r (.ref p) avs H Q) :
    OpI G r (fun w as => match w with | .ol ws => (g ws as).map fun p => (.ol p.1, p.2) | _ => none) := by
  intro B H w v ga as avs fa w' c s rw' ra nd out e Q q
  cases w with
  | ol ws =>
    simp only [Option.map_eq_some_iff] at e
    obtain ⟨⟨ws', c'⟩, e1, e2⟩ := e
    cases e2
    simp only [relW] at rw'
    obtain ⟨p, vs, f, rfl, hp, rs, rfl⟩ := rw'
    obtain ⟨vs', y, f', fr, k1, k2, k3, k4, k5⟩ := h B H p ws vs f as avs fa ws' c' s hp rs ra e1
    have ndp : p ∉ f ++ fa := by
      simp only [List.cons_append, List.nodup_cons] at nd
      exact nd.1
    have ndr : (f ++ fa).Nodup := by
      simp only [List.cons_append, List.nodup_cons] at nd
      exact nd.2
    have nep : ∀ x ∈ f' ++ fr, x ≠ p := fun x hx z => ndp (by rw [← z]; exact k3 x hx)
    refine k5 Q (q y _ B (p :: f') fr (fun a o ha hn => by rw [upd_ne (fun z => hn (by simp [z]))]; exact ha) (Same.refl B) (fun a o ha => ?_) (fun _ _ => rfl) (fun x hx => ?_) ?_ (fun a ha => ?_) ?_ ?_)
    · rw [upd_ne (fun z => ?_)]
      · exact s a o ha
      · rw [z, out p (by simp)] at ha
        cases ha
    · simp only [List.cons_append, List.mem_cons] at hx
      rcases hx with rfl | hx
      · exact ⟨out x (by simp), .inl (by simp)⟩
      · have := k3 x hx
        exact ⟨out x (by simp only [List.cons_append, List.mem_cons]; exact .inr this), .inl (by simp only [List.cons_append, List.mem_cons]; exact .inr this)⟩
    · simp only [List.cons_append, List.nodup_cons]
      exact ⟨fun z => nep p z rfl, k4 ndr⟩
    · by_cases z : a = p
      · rw [z, upd_same]; simp
      · rw [upd_ne z]; exact ha
    · simp only [relW]
      exact ⟨p, vs', f', rfl, upd_same, relWs_frame (Same.refl B) k1 fun x hx => upd_ne (nep x (by simp [hx])), rfl⟩
    · exact relW_frame (Same.refl B) k2 fun x hx => upd_ne (nep x (by simp [hx]))
  | sh _ => cases e
  | ot _ => cases e
  | ob _ _ _ => cases e
  | dk _ _ => cases e
  | dt _ _ => cases e
def onL (g : List W → List W → Option (List W × W)) : W → List W → Option (W × W) := fun w as => match w with | .ol ws => (g ws as).map fun p => (.ol p.1, p.2) | _ => none
def gApp (ws as : List W) : Option (List W × W) := match as with
  | [x] => if ws.length < 100000 then some (ws ++ [x], .sh .non) else none
  | _ => none
theorem relW_non {G : GX} {B H : Hp} : relW G B H (.sh .non) .non [] := by simp [relW, repD]
theorem opi_app {G : GX} : OpI G rAppend (onL gApp) := by
  refine opi_list fun B H p ws vs f as avs fa ws' c s hp rs ra e => ?_
  unfold gApp at e
  split at e
  · rename_i x
    split at e
    · rename_i hl
      cases e
      simp only [relWs] at ra
      obtain ⟨y, rr, g1, g2, rfl, ry, ⟨rfl, rfl⟩, rfl⟩ := ra
      refine ⟨vs ++ [y], .non, f ++ g1, [], relWs_append rs (by simp only [relWs]; exact ⟨y, [], g1, [], rfl, ry, ⟨rfl, rfl⟩, by simp⟩), relW_non, by simp, by simp, fun Q q => ⟨p, vs, y, rfl, rfl, hp, ?_, q⟩⟩
      rw [← relWs_length rs]
      exact Nat.lt_of_lt_of_le hl (by decide)
    · cases e
  · cases e
def gClr (ws as : List W) : Option (List W × W) := match as with
  | [] => some ([], .sh .non)
  | _ => none
theorem opi_clr {G : GX} : OpI G rClear (onL gClr) := by
  refine opi_list fun B H p ws vs f as avs fa ws' c s hp rs ra e => ?_
  unfold gClr at e
  split at e
  · cases e
    simp only [relWs] at ra
    obtain ⟨rfl, rfl⟩ := ra
    exact ⟨[], .non, [], [], by simp [relWs], relW_non, by simp, by simp, fun Q q => ⟨p, vs, rfl, rfl, hp, q⟩⟩
  · cases e
end AM
set_option Elab.async false
set_option linter.all false
set_option maxRecDepth 100000
namespace AM
open PySem L2
def mBi (g : List W → Option W) (ma : ME (List W)) : ME W := ma.bind (ME.op g)
section
variable {X : Cx} {Wx : WX} {k p : Bool} {e : Expr} {es : List Expr} {ma : ME (List W)} {g : List W → Option W} {r : List V → Hp → VK → Prop} {x : Str} {id T : String} {pp pos : Pos}
theorem se_bi (hc : CallR X (.builtin id) r) (ho : OpS (rWs (gx X)) (rW (gx X)) r g) (hg : Gl X x) (hm : X.mg x = none) (hv : bootBuiltins x = some (.builtin id)) (ha : SA X Wx k p (e :: es) ma) (hn : x ≠ "__name__" := by decide) (hdb : (x == ("__debug__" : Str)) = false := by decide)
    (he : starEach (e :: es) X.env = (false, eval e X.env) :: starEach es X.env := by rfl) (hpl : (backTo pos (starEach es X.env)).any (·.1) = false := by rfl) : SE X Wx true p (.Call (.Name x pp) (e :: es) [] pos) (mBi g ma) := by
  obtain ⟨ta, pa, sa⟩ := ha
  exact ⟨_, pe_callB hc hg hm hv pa hn hdb he hpl, sa.op ho⟩
theorem se_ty (hc : CallR X (.type T) r) (ho : OpS (rWs (gx X)) (rW (gx X)) r g) (hg : Gl X x) (hm : X.mg x = none) (hv : bootBuiltins x = some (.type T)) (ha : SA X Wx k p (e :: es) ma) (hn : x ≠ "__name__" := by decide) (hdb : (x == ("__debug__" : Str)) = false := by decide)
    (he : starEach (e :: es) X.env = (false, eval e X.env) :: starEach es X.env := by rfl) (hpl : (backTo pos (starEach es X.env)).any (·.1) = false := by rfl) : SE X Wx true p (.Call (.Name x pp) (e :: es) [] pos) (mBi g ma) := by
  obtain ⟨ta, pa, sa⟩ := ha
  exact ⟨_, pe_callTy hc hg hm hv pa hn hdb he hpl, sa.op ho⟩
end
section
variable {G : GX} {X : Cx}
theorem rel1 {B H : Hp} {w : W} {vs : List V} {f : List Addr} (h : rWs G B H [w] vs f) : ∃ v, vs = [v] ∧ relW G B H w v f := by
  have h : relWs _ _ _ _ _ _ := h
  simp only [relWs] at h
  obtain ⟨v, r, g1, g2, rfl, h1, ⟨rfl, rfl⟩, rfl⟩ := h
  exact ⟨v, rfl, by simpa using h1⟩
theorem relI {B H : Hp} {i : Int} {v : V} {f : List Addr} (h : relW G B H (.sh (.int i)) v f) : v = .int i := by simp only [relW, repD] at h; exact h.1
theorem relSt {B H : Hp} {i : Str} {v : V} {f : List Addr} (h : relW G B H (.sh (.str i)) v f) : v = .str i := by simp only [relW, repD] at h; exact h.1
theorem relBl {B H : Hp} {i : Bool} {v : V} {f : List Addr} (h : relW G B H (.sh (.bl i)) v f) : v = .bl i := by simp only [relW, repD] at h; exact h.1
def gLen (as : List W) : Option W := match as with
  | [.sh (.str z)] => if z.length ≤ 100000 then some (.sh (.int z.length)) else none
  | [.sh (.lst ds)] => some (.sh (.int ds.length))
  | [.sh (.tup ds)] => some (.sh (.int ds.length))
  | [.sh (.scr ns)] => some (.sh (.int ns.length))
  | [.ol ws] => some (.sh (.int ws.length))
  | [.ot ws] => some (.sh (.int ws.length))
  | _ => none
theorem ops_len : OpS (rWs G) (rW G) (fun xs H (Q : VK) => ∃ x n, xs = [x] ∧ LenV G.K x H n ∧ Q (.int n) H) gLen := by
  refine ops_flat fun B H a b fp c s ra e => ?_
  unfold gLen at e
  split at e
  · rename_i z
    split at e
    · rename_i hz
      cases e
      obtain ⟨v, rfl, r⟩ := rel1 ra
      exact ⟨_, .int z.length, rfl, by simp [repD], fun Q q => ⟨v, z.length, rfl, by rw [relSt r]; exact ⟨sz_ok hz, rfl⟩, q⟩⟩
    · cases e
  · rename_i ds
    cases e
    obtain ⟨v, rfl, r⟩ := rel1 ra
    simp only [relW, repD] at r
    obtain ⟨⟨a, vs, rfl, h1, h2⟩, _⟩ := r
    exact ⟨_, .int ds.length, rfl, by simp [repD], fun Q q => ⟨_, ds.length, rfl, .inl ⟨vs, SqL.of (s _ _ h1), repDs_length h2⟩, q⟩⟩
  · rename_i ds
    cases e
    obtain ⟨v, rfl, r⟩ := rel1 ra
    simp only [relW, repD] at r
    obtain ⟨⟨a, vs, rfl, h1, h2⟩, _⟩ := r
    exact ⟨_, .int ds.length, rfl, by simp [repD], fun Q q => ⟨_, ds.length, rfl, .inr ⟨vs, sqT_of_same s h1, repDs_length h2⟩, q⟩⟩
  · rename_i ns
    cases e
    obtain ⟨v, rfl, r⟩ := rel1 ra
    simp only [relW, repD] at r
    obtain ⟨⟨a, rfl, h1⟩, _⟩ := r
    exact ⟨_, .int ns.length, rfl, by simp [repD], fun Q q => ⟨_, ns.length, rfl, .inl ⟨_, Same.seq s h1, by simp⟩, q⟩⟩
  · rename_i ws
    cases e
    obtain ⟨v, rfl, r⟩ := rel1 ra
    simp only [relW] at r
    obtain ⟨a, vs, g, rfl, h1, h2, _⟩ := r
    exact ⟨_, .int ws.length, rfl, by simp [repD], fun Q q => ⟨_, ws.length, rfl, .inl ⟨vs, SqL.of h1, relWs_length h2⟩, q⟩⟩
  · rename_i ws
    cases e
    obtain ⟨v, rfl, r⟩ := rel1 ra
    simp only [relW] at r
    obtain ⟨a, vs, rfl, h1, h2⟩ := r
    exact ⟨_, .int ws.length, rfl, by simp [repD], fun Q q => ⟨_, ws.length, rfl, .inr ⟨vs, SqT.of (s _ _ h1), relWs_length h2⟩, q⟩⟩
  · cases e
theorem CallR.or {f : Value} {r r' : List V → Hp → VK → Prop} (h : CallR X f r) (h' : CallR X f r') : CallR X f (fun xs H Q => r xs H Q ∨ r' xs H Q) :=
  fun pins s σ H xs us Q I rx q => q.elim (h pins s σ H xs us Q I rx) (h' pins s σ H xs us Q I rx)
def gAbs (as : List W) : Option W := match as with
  | [w] => (wInt w).map fun i => .sh (.int (if i < 0 then -i else i))
  | _ => none
theorem ops_abs : OpS (rWs G) (rW G) (fun xs H (Q : VK) => ∃ i, xs = [.int i] ∧ Q (.int (if i < 0 then -i else i)) H) gAbs := by
  refine ops_flat fun B H a b fp c s ra e => ?_
  unfold gAbs at e
  split at e
  · rename_i w
    simp only [Option.map_eq_some_iff] at e
    obtain ⟨i, e1, rfl⟩ := e
    obtain ⟨v, rfl, r⟩ := rel1 ra
    rw [wInt_eq e1] at r
    exact ⟨_, .int (if i < 0 then -i else i), rfl, by simp [repD], fun Q q => ⟨i, by rw [relI r], q⟩⟩
  · cases e
/-- int of a number, a truth, a text -/
def gToInt (as : List W) : Option W := match as with
  | [.sh (.int i)] => some (.sh (.int i))
  | [.sh (.bl k)] => some (.sh (.int (if k then 1 else 0)))
  | [.sh (.str a)] => if a.length ≤ 640 then (PySem.intText? a).map fun n => .sh (.int n) else none
  | _ => none
theorem ops_int : OpS (rWs G) (rW G) (fun xs H (Q : VK) => ((∃ i, xs = [.int i] ∧ Q (.int i) H) ∨ ∃ k, xs = [.bl k] ∧ Q (.int (if k then 1 else 0)) H) ∨ ∃ a n, xs = [.str a] ∧ PySem.intText? a = some n ∧ a.length ≤ 640 ∧ Q (.int n) H) gToInt := by
  refine ops_flat fun B H a b fp c s ra e => ?_
  unfold gToInt at e
  split at e
  · rename_i i
    cases e
    obtain ⟨v, rfl, r⟩ := rel1 ra
    exact ⟨_, .int i, rfl, by simp [repD], fun Q q => .inl (.inl ⟨i, by rw [relI r], q⟩)⟩
  · rename_i k
    cases e
    obtain ⟨v, rfl, r⟩ := rel1 ra
    exact ⟨_, .int (if k then 1 else 0), rfl, by simp [repD], fun Q q => .inl (.inr ⟨k, by rw [relBl r], q⟩)⟩
  · rename_i z
    split at e
    · rename_i hz
      simp only [Option.map_eq_some_iff] at e
      obtain ⟨n, e1, rfl⟩ := e
      obtain ⟨v, rfl, r⟩ := rel1 ra
      exact ⟨_, .int n, rfl, by simp [repD], fun Q q => .inr ⟨z, n, by rw [relSt r], e1, hz, q⟩⟩
    · cases e
  · cases e
def gStr (as : List W) : Option W := match as with
  | [w] => (wInt w).bind fun i => if i.natAbs.log2 < 1920 then some (.sh (.str (toString i))) else none
  | _ => none
theorem ops_str : OpS (rWs G) (rW G) (fun xs H (Q : VK) => ∃ i, xs = [.int i] ∧ i.natAbs.log2 < 1920 ∧ Q (.str (toString i)) H) gStr := by
  refine ops_flat fun B H a b fp c s ra e => ?_
  unfold gStr at e
  split at e
  · rename_i w
    simp only [Option.bind_eq_some_iff] at e
    obtain ⟨i, e1, e⟩ := e
    split at e
    · rename_i hz
      cases e
      obtain ⟨v, rfl, r⟩ := rel1 ra
      rw [wInt_eq e1] at r
      exact ⟨_, .str (toString i), rfl, by simp [repD], fun Q q => ⟨i, by rw [relI r], hz, q⟩⟩
    · cases e
  · cases e
/-- the shared things in a list or tuple, also the script's -/
def wSeq (w : W) : Option (List D) := match w with
  | .sh (.tup ds) => some ds
  | .sh (.scr ns) => some (ns.map .int)
  | w => wEls w
theorem repDs_of_ints {B : Hp} : ∀ ns : List Int, repDs G B (ns.map .int) (ns.map V.int)
  | [] => by simp [repDs]
  | n :: ns => by
    simp only [List.map_cons, repDs, repD]
    exact ⟨_, _, rfl, rfl, repDs_of_ints ns⟩
theorem wSeq_rel {B H : Hp} {w : W} {v : V} {f : List Addr} {ds : List D} (s : Same B H) (r : relW G B H w v f) (e : wSeq w = some ds) : ∃ a vs, v = .ref a ∧ (SqL G.K H a vs ∨ SqT G.K H a vs) ∧ repDs G B ds vs := by
  unfold wSeq at e
  split at e
  · cases e
    simp only [relW, repD] at r
    obtain ⟨⟨a, vs, h1, h2, h3⟩, _⟩ := r
    exact ⟨a, vs, h1, .inr (sqT_of_same s h2), h3⟩
  · cases e
    simp only [relW, repD] at r
    obtain ⟨⟨a, h1, h2⟩, _⟩ := r
    exact ⟨a, _, h1, .inl (Same.seq s h2), repDs_of_ints _⟩
  · obtain ⟨a, vs, h1, h2, h3⟩ := wEls_eq s r e
    exact ⟨a, vs, h1, .inl (SqL.of h2), h3⟩
def gList (as : List W) : Option W := match as with
  | [w] => (wSeq w).map fun ds => .ol (ds.map .sh)
  | _ => none
theorem ops_list : OpS (rWs G) (rW G) (fun xs H (Q : VK) => ∃ p ys, xs = [.ref p] ∧ (SqL G.K H p ys ∨ SqT G.K H p ys) ∧ ∀ l, H l = none → Q (.ref l) (upd H l (.lst ys))) gList := by
  refine ops_newL fun B H a b fp c s ra e => ?_
  unfold gList at e
  split at e
  · rename_i w
    simp only [Option.map_eq_some_iff] at e
    obtain ⟨ds, e1, rfl⟩ := e
    obtain ⟨v, rfl, r⟩ := rel1 ra
    obtain ⟨p, vs, rfl, h1, h2⟩ := wSeq_rel s r e1
    exact ⟨ds, vs, rfl, h2, fun Q q => ⟨p, vs, rfl, h1, q⟩⟩
  · cases e
end
def mMs (g : W × List W → Option W) (m : ME W) (ma : ME (List W)) : ME W := ((m.bind (ME.op fun w => (wStr w).map fun s => W.sh (.str s))).bind fun a => ma.bind fun b => ME.pure (a, b)).bind (ME.op g)
section
variable {X : Cx} {Wx : WX} {k p k2 p2 : Bool} {o e : Expr} {es : List Expr} {m : ME W} {ma : ME (List W)} {name : Str} {id : String} {apos cpos : Pos} {r : V → List V → Hp → VK → Prop} {g : W × List W → Option W}
theorem se_ms (slot : Slot "str" name id) (hty : typeOf (.builtin id) = pure (.type "method_descriptor")) (hm : MtR X id r) (ho : OpS (rPair (rW (gx X)) (rWs (gx X))) (rW (gx X)) (fun (xy : V × List V) H Q => r xy.1 xy.2 H Q) g) (hl : SE X Wx k p o m) (ha : SA X Wx k2 p2 (e :: es) ma)
    (hbase : attributeBase o name X.env (eval o X.env) = eval o X.env := by rfl)
    (hfew : ((backTo cpos (starEach (e :: es) X.env)).all (fun x => !x.1) && (backToKw cpos (keywordEach [] X.env)).all (fun x => x.1.isSome)
      && decide ((e :: es).length + ([] : List Keyword).length + (if ([] : List Keyword).isEmpty then 0 else 1) < 30)) = true := by rfl)
    (hline : (apos.endLine == cpos.line) = true := by rfl) (hs : starEach (e :: es) X.env = (false, eval e X.env) :: starEach es X.env := by rfl) (hplain : (backTo cpos (starEach es X.env)).any (·.1) = false := by rfl) :
    SE X Wx true (p && p2) (.Call (.Attribute o name apos) (e :: es) [] cpos) (mMs g m ma) := by
  obtain ⟨tl, pl, sl⟩ := hl
  obtain ⟨ta, pa, sa⟩ := ha
  refine ⟨_, pe_bm PySem.F.plainAttrs_str slot hty hm pl pa hbase hfew hline hs hplain, ?_⟩
  have s1 : Sim (gx X) true p Wx (rW (gx X)) (fun σ H Q => tl σ H fun x H1 => tyV X.K "str" x H1 ∧ Q x H1) (m.bind (ME.op fun w => (wStr w).map fun s => W.sh (.str s))) := by
    refine sl.op (r := fun x H Q => tyV X.K "str" x H ∧ Q x H) (ops_flat fun B H a b fp c s ra e => ?_)
    simp only [Option.map_eq_some_iff] at e
    obtain ⟨z, e1, rfl⟩ := e
    rw [wStr_eq e1] at ra
    have := relSt ra
    subst this
    exact ⟨.str z, .str z, rfl, by simp [repD], fun Q q => ⟨rfl, q⟩⟩
  exact (Sim.pair (rW_good _) s1 sa (.inl rfl)).op ho
def dStrs : List D → Option (List Str)
  | [] => some []
  | .str i :: ds => (dStrs ds).map (i :: ·)
  | _ => none
theorem dStrs_rel {G : GX} {B : Hp} : ∀ {ds : List D} {bs : List Str} {vs : List V}, dStrs ds = some bs → repDs G B ds vs → vs = bs.map V.str
  | [], ns, vs, h, r => by simp only [dStrs] at h; cases h; simpa [repDs] using r
  | .str i :: ds, ns, vs, h, r => by
    simp only [dStrs, Option.map_eq_some_iff] at h
    obtain ⟨q, h1, rfl⟩ := h
    simp only [repDs, repD] at r
    obtain ⟨v, r', rfl, rfl, h2⟩ := r
    rw [dStrs_rel h1 h2]
    rfl
  | .non :: _, _, _, h, _ => by simp [dStrs] at h
  | .int _ :: _, _, _, h, _ => by simp [dStrs] at h
  | .bl _ :: _, _, _, h, _ => by simp [dStrs] at h
  | .lst _ :: _, _, _, h, _ => by simp [dStrs] at h
  | .tup _ :: _, _, _, h, _ => by simp [dStrs] at h
  | .exc _ _ :: _, _, _, h, _ => by simp [dStrs] at h
  | .scr _ :: _, _, _, h, _ => by simp [dStrs] at h
  | .fn _ :: _, _, _, h, _ => by simp [dStrs] at h
def gJoin : W × List W → Option W := fun p => match p.2 with
  | [w] => match wStr p.1, (wSeq w).bind dStrs with
    | some a, some ys => if (ys.map (·.length)).sum + ys.length * a.length ≤ 100000 then some (.sh (.str (Txt.join a ys))) else none
    | _, _ => none
  | _ => none
theorem ops_join {G : GX} : OpS (rPair (rW G) (rWs G)) (rW G) (fun (xy : V × List V) H (Q : VK) => ∃ a p, ∃ ys : List Str, xy.1 = .str a ∧ xy.2 = [.ref p] ∧ (SqL G.K H p (ys.map V.str) ∨ SqT G.K H p (ys.map V.str)) ∧
    (ys.map (·.length)).sum + ys.length * a.length ≤ 16777216 ∧ Q (.str (Txt.join a ys)) H) gJoin := by
  refine ops_flat fun B H a b fp c s ra e => ?_
  obtain ⟨f1, f2, r1, r2, _⟩ := ra
  obtain ⟨a1, a2⟩ := a
  unfold gJoin at e
  simp only at e r1 r2
  split at e
  · rename_i w
    split at e
    · rename_i z ys h1 h2
      split at e
      · rename_i hz
        cases e
        simp only [Option.bind_eq_some_iff] at h2
        obtain ⟨ds, h2, h3⟩ := h2
        rw [wStr_eq h1] at r1
        obtain ⟨v, ev, r⟩ := rel1 r2
        obtain ⟨p, vs, rfl, h4, h5⟩ := wSeq_rel s r h2
        rw [dStrs_rel h3 h5] at h4
        exact ⟨_, .str (Txt.join z ys), rfl, by simp [repD], fun Q q => ⟨z, p, ys, relSt r1, ev, h4, by omega, q⟩⟩
      · cases e
    · cases e
  · cases e
def gSplit : W × List W → Option W := fun p => match p.2 with
  | [w] => match wStr p.1, wStr w with
    | some a, some b => if (b.length == 0) = false ∧ a.length ≤ 90000 then some (.ol ((Txt.split a b).map fun z => .sh (.str z))) else none
    | _, _ => none
  | _ => none
theorem repDs_of_strs {G : GX} {B : Hp} : ∀ ns : List Str, repDs G B (ns.map .str) (ns.map V.str)
  | [] => by simp [repDs]
  | n :: ns => by
    simp only [List.map_cons, repDs, repD]
    exact ⟨_, _, rfl, rfl, repDs_of_strs ns⟩
theorem ops_split {G : GX} : OpS (rPair (rW G) (rWs G)) (rW G) (fun (xy : V × List V) H (Q : VK) => ∃ a b, xy.1 = .str a ∧ xy.2 = [.str b] ∧ (b.length == 0) = false ∧ a.length + 2 ≤ sizeLine ∧ rNewStrs (Txt.split a b) H Q) gSplit := by
  refine ops_newL fun B H a b fp c s ra e => ?_
  obtain ⟨f1, f2, r1, r2, _⟩ := ra
  obtain ⟨a1, a2⟩ := a
  unfold gSplit at e
  simp only at e r1 r2
  split at e
  · rename_i w
    split at e
    · rename_i z y h1 h2
      split at e
      · rename_i hz
        cases e
        rw [wStr_eq h1] at r1
        obtain ⟨v, ev, r⟩ := rel1 r2
        rw [wStr_eq h2] at r
        refine ⟨(Txt.split z y).map .str, (Txt.split z y).map V.str, by simp, repDs_of_strs _, fun Q q => ⟨z, y, relSt r1, by rw [ev, relSt r], hz.1, ?_, q⟩⟩
        have : (90002 : Nat) ≤ sizeLine := by decide
        omega
      · cases e
    · cases e
  · cases e
def gPart : W × List W → Option W := fun p => match p.2 with
  | [w] => match wStr p.1, wStr w with
    | some a, some b => if (b.length == 0) = false ∧ a.length ≤ 90000 then some (.sh (.tup [.str (Txt.partition a b).1, .str (Txt.partition a b).2.1, .str (Txt.partition a b).2.2])) else none
    | _, _ => none
  | _ => none
theorem ops_part {G : GX} : OpS (rPair (rW G) (rWs G)) (rW G) (fun (xy : V × List V) H (Q : VK) => ∃ a b, xy.1 = .str a ∧ xy.2 = [.str b] ∧ (b.length == 0) = false ∧ a.length ≤ sizeLine ∧
    ∀ p, H p = none → Q (.ref p) (upd H p (.tup [.str (Txt.partition a b).1, .str (Txt.partition a b).2.1, .str (Txt.partition a b).2.2]))) gPart := by
  refine ops_newT fun B H a b fp c s ra e => ?_
  obtain ⟨f1, f2, r1, r2, _⟩ := ra
  obtain ⟨a1, a2⟩ := a
  unfold gPart at e
  simp only at e r1 r2
  split at e
  · rename_i w
    split at e
    · rename_i z y h1 h2
      split at e
      · rename_i hz
        cases e
        rw [wStr_eq h1] at r1
        obtain ⟨v, ev, r⟩ := rel1 r2
        rw [wStr_eq h2] at r
        refine ⟨_, _, rfl, ?_, fun Q q => ⟨z, y, relSt r1, by rw [ev, relSt r], hz.1, sz_ok (by omega), q⟩⟩
        simp only [repDs, repD]
        exact ⟨_, _, rfl, rfl, _, _, rfl, rfl, _, _, rfl, rfl, rfl⟩
      · cases e
    · cases e
  · cases e
end
end AM
set_option Elab.async false
set_option linter.all false
set_option maxRecDepth 100000
namespace AM
open PySem L2
inductive Fl where
  | nx | bk | ct
  | rt (w : W)
abbrev MS := ME Fl
section
variable (G : GX)
structure PostS (pn : Nat → Bool) (B H : Hp) (σ : St) (fp : List Addr) (env' : Env) (σ' : St) (H' B' : Hp) (f0 fp2 : List Addr) : Prop where
  ok : Ok G B' H' σ' env' fp2
  step : Step B H fp B' H' (f0 ++ fp2)
  pin : ∀ i, pn i = true → σ'[i]? = σ[i]?
def ContS (pn : Nat → Bool) (Wx : WX) (B H : Hp) (σ : St) (fp : List Addr) (r : Option (Res Fl × Env)) (D : Ends) : Prop :=
  match r with
  | none => False
  | some (.ok .nx, e) => ∀ σ' H' B' fp2, PostS G pn B H σ fp e σ' H' B' [] fp2 → D.nx σ' H'
  | some (.ok .bk, e) => ∀ σ' H' B' fp2, PostS G pn B H σ fp e σ' H' B' [] fp2 → D.bk σ' H'
  | some (.ok .ct, e) => ∀ σ' H' B' fp2, PostS G pn B H σ fp e σ' H' B' [] fp2 → D.ct σ' H'
  | some (.ok (.rt w), e) => ∀ v σ' H' B' f0 fp2, PostS G pn B H σ fp e σ' H' B' f0 fp2 → relW G B' H' w v f0 → (∀ q ∈ f0, B' q = none) → f0.Nodup → (∀ q ∈ f0, q ∉ fp2) → D.rt v H'
  | some (.ex x, e) => ∀ cls d σ' H' B' fp2, PostS G pn B H σ fp e σ' H' B' [] fp2 → relX G H' x cls d → (∀ dd, d = some dd → B' dd = none ∧ dd ∉ fp2 ∧ H dd = none) → Wx cls d σ' H'
def SimS (pn : Nat → Bool) (Wx : WX) (t : TS) (m : MS) : Prop := ∀ B H σ env fp, Ok G B H σ env fp → ∀ D, ContS G pn Wx B H σ fp (m env) D → t D σ H
end
def SS (X : Cx) (pn : Nat → Bool) (Wx : WX) (st : Stmt) (m : MS) : Prop := ∃ t : TS, PS X st t ∧ SimS (gx X) pn Wx t m
def SSs (X : Cx) (pn : Nat → Bool) (Wx : WX) (sts : List Stmt) (m : MS) : Prop := ∃ t : TS, PSs X sts t ∧ SimS (gx X) pn Wx t m
section
variable {G : GX} {pn : Nat → Bool} {Wx : WX} {B H B1 H1 : Hp} {σ σ1 : St} {fp fp1 : List Addr} {env1 : Env}
/-- what comes first, then the rest -/
theorem ContS.after (P : PostS G pn B H σ fp env1 σ1 H1 B1 [] fp1) {r : Option (Res Fl × Env)} {D : Ends} (c : ContS G pn Wx B H σ fp r D) : ContS G pn Wx B1 H1 σ1 fp1 r D := by
  have tr : ∀ {e : Env} {σ' : St} {H' B' : Hp} {f0 fp2 : List Addr}, PostS G pn B1 H1 σ1 fp1 e σ' H' B' f0 fp2 → PostS G pn B H σ fp e σ' H' B' f0 fp2 := fun Q =>
    ⟨Q.ok, Step.trans (S := []) P.step Q.step, fun i hi => (Q.pin i hi).trans (P.pin i hi)⟩
  unfold ContS at c ⊢
  split at c
  · exact c
  · exact fun σ' H' B' fp2 Q => c σ' H' B' fp2 (tr Q)
  · exact fun σ' H' B' fp2 Q => c σ' H' B' fp2 (tr Q)
  · exact fun σ' H' B' fp2 Q => c σ' H' B' fp2 (tr Q)
  · exact fun v σ' H' B' f0 fp2 Q => c v σ' H' B' f0 fp2 (tr Q)
  · refine fun cls d σ' H' B' fp2 Q hx hd => c cls d σ' H' B' fp2 (tr Q) hx fun dd e => ?_
    obtain ⟨a1, a2, a3⟩ := hd dd e
    refine ⟨a1, a2, ?_⟩
    cases q : H dd with
    | none => rfl
    | some o => exact absurd a3 (P.step.live dd (by simp [q]))
end
def mNx : MS := ME.pure .nx
def mSeq (a b : MS) : MS := fun env => match a env with
  | some (.ok .nx, e) => b e
  | r => r
section
variable {X : Cx} {pn : Nat → Bool} {Wx : WX} {k p : Bool} {st : Stmt} {sts : List Stmt} {a b : MS} {e : Expr} {m : ME W} {pos : Pos} {G : GX} {i : Nat}
theorem simS_nx : SimS G pn Wx tNext mNx := fun B H σ env fp O D c => c σ H B fp ⟨O, Step.refl (by simp), fun _ _ => rfl⟩
theorem sss_nil : SSs X pn Wx [] mNx := ⟨_, pss_nil, simS_nx⟩
theorem simS_seq {t u : TS} (h1 : SimS G pn Wx t a) (h2 : SimS G pn Wx u b) : SimS G pn Wx (tSeq t u) (mSeq a b) := by
  intro B H σ env fp O D c
  refine h1 B H σ env fp O _ ?_
  unfold mSeq at c
  cases e1 : a env with
  | none => rw [e1] at c; exact c
  | some r =>
    obtain ⟨r, env1⟩ := r
    rw [e1] at c
    cases r with
    | ex x => exact c
    | ok f =>
      cases f with
      | nx =>
        intro σ1 H1 B1 fp1 P
        exact h2 B1 H1 σ1 env1 fp1 P.ok D (c.after P)
      | bk => exact c
      | ct => exact c
      | rt w => exact c
theorem sss_cons (h1 : SS X pn Wx st a) (h2 : SSs X pn Wx sts b) : SSs X pn Wx (st :: sts) (mSeq a b) := by
  obtain ⟨t, p1, s1⟩ := h1
  obtain ⟨u, p2, s2⟩ := h2
  exact ⟨_, pss_cons p1 p2, simS_seq s1 s2⟩
theorem sss_one (h1 : SS X pn Wx st a) : SSs X pn Wx [st] a := by
  obtain ⟨t, p1, s1⟩ := h1
  exact ⟨_, pss_one p1, s1⟩
/-- what follows an expression's value -/
def MS.after (m : ME W) (f : W → MS) : MS := fun env => match m env with
  | none => none
  | some (.ok w, e) => f w e
  | some (.ex x, e) => some (.ex x, e)
def mDrop (m : ME W) : MS := m.bind fun _ => mNx
theorem ContS.ofEx {B H : Hp} {σ : St} {env : Env} {fp : List Addr} {x : XV} {e : Env} {D : Ends} (c : ContS G pn Wx B H σ fp (some (.ex x, e)) D) : ∀ cls d H' B' fp2, Ok G B' H' σ e fp2 → Step B H fp B' H' fp2 → relX G H' x cls d → (∀ dd, d = some dd → B' dd = none ∧ dd ∉ fp2 ∧ H dd = none) → Wx cls d σ H' :=
  fun cls d H' B' fp2 O S hx hd => c cls d σ H' B' fp2 ⟨O, by simpa using S, fun _ _ => rfl⟩ hx hd
theorem ss_expr (he : SE X Wx k p e m) (hs : swapsWith e none pos.line X.env = pure false := by rfl) : SS X pn Wx (.Expr e pos) (mDrop m) := by
  obtain ⟨t, pe, s⟩ := he
  refine ⟨_, ps_expr pe hs, fun B H σ env fp O D c => ?_⟩
  refine s B H σ env fp O _ ?_
  unfold mDrop ME.bind at c
  cases e1 : m env with
  | none => rw [e1] at c; exact c
  | some r =>
    obtain ⟨r, env1⟩ := r
    rw [e1] at c
    cases r with
    | ex x => exact c.ofEx (env := env)
    | ok w => exact fun v H1 B1 f0 fp1 P => c σ H1 B1 fp1 ⟨P.ok, P.step.mono fun q hq => by simp at hq; simp [hq], fun _ _ => rfl⟩
def mRet (m : ME W) : MS := m.bind fun w => ME.pure (.rt w)
theorem ss_ret (he : SE X Wx true p e m) : SS X pn Wx (.Return (some e) pos) (mRet m) := by
  obtain ⟨t, pe, s⟩ := he
  refine ⟨_, ps_ret pe, fun B H σ env fp O D c => ?_⟩
  refine s B H σ env fp O _ ?_
  unfold mRet ME.bind at c
  cases e1 : m env with
  | none => rw [e1] at c; exact c
  | some r =>
    obtain ⟨r, env1⟩ := r
    rw [e1] at c
    cases r with
    | ex x => exact c.ofEx (env := env)
    | ok w => exact fun v H1 B1 f0 fp1 P => c v σ H1 B1 f0 fp1 ⟨P.ok, P.step, fun _ _ => rfl⟩ P.rel P.out (P.own rfl).1 (P.own rfl).2
/-- if -/
def mIfS (c : ME Bool) (a b : MS) : MS := c.bind fun c => if c then a else b
theorem ss_if {c : Expr} {n : ME Bool} {sa sb : List Stmt} (hc : STt X Wx p c n) (ha : SSs X pn Wx sa a) (hb : SSs X pn Wx sb b) : SS X pn Wx (.If c sa sb pos) (mIfS n a b) := by
  obtain ⟨t, pc, s⟩ := hc
  obtain ⟨ta, pa, s1⟩ := ha
  obtain ⟨tb, pb, s2⟩ := hb
  refine ⟨_, ps_if pc pa pb, fun B H σ env fp O D c => ?_⟩
  refine s B H σ env fp O _ ?_
  unfold mIfS ME.bind at c
  cases e1 : n env with
  | none => rw [e1] at c; exact c
  | some r =>
    obtain ⟨r, env1⟩ := r
    rw [e1] at c
    cases r with
    | ex x => exact c.ofEx (env := env)
    | ok w =>
      intro v H1 B1 f0 fp1 P
      obtain ⟨rfl, rfl⟩ := P.rel
      have PS1 : PostS (gx X) pn B H σ fp env1 σ H1 B1 [] fp1 := ⟨P.ok, P.step, fun _ _ => rfl⟩
      have c' := ContS.after PS1 c
      cases w with
      | true =>
        show if true = true then _ else _
        rw [if_pos rfl]
        exact s1 B1 H1 σ env1 fp1 P.ok D c'
      | false =>
        show if false = true then _ else _
        rw [if_neg Bool.false_ne_true]
        exact s2 B1 H1 σ env1 fp1 P.ok D c'
end
abbrev MG := W → ME Unit
def SimG (G : GX) (pn : Nat → Bool) (qq : Bool) (g : TG) (m : MG) : Prop := ∀ (B H : Hp) (σ : St) (env : Env) (fp : List Addr) (w : W) (v : V) (f0 : List Addr), Ok G B H σ env fp → relW G B H w v f0 → (∀ q ∈ f0, B q = none) → f0.Nodup → (∀ q ∈ f0, q ∉ fp) →
  ∀ Q : St → Hp → Prop, (match m w env with
  | some (.ok _, e) => ∀ σ' H' B' fp2, Ok G B' H' σ' e fp2 → Step B H (f0 ++ fp) B' H' fp2 → σ'.length = σ.length → (∀ i, pn i = true → σ'[i]? = σ[i]?) → (qq = true → Same H H' ∧ ∀ a, H a ≠ none → B' a = B a) → Q σ' H'
  | _ => False) → g v σ H Q
def SimGs (G : GX) (pn : Nat → Bool) (qq : Bool) (g : TGs) (m : List W → ME Unit) : Prop := ∀ (B H : Hp) (σ : St) (env : Env) (fp : List Addr) (ws : List W) (vs : List V) (f0 : List Addr), Ok G B H σ env fp → relWs G B H ws vs f0 → (∀ q ∈ f0, B q = none) → f0.Nodup → (∀ q ∈ f0, q ∉ fp) →
  ∀ Q : St → Hp → Prop, (match m ws env with
  | some (.ok _, e) => ∀ σ' H' B' fp2, Ok G B' H' σ' e fp2 → Step B H (f0 ++ fp) B' H' fp2 → σ'.length = σ.length → (∀ i, pn i = true → σ'[i]? = σ[i]?) → (qq = true → Same H H' ∧ ∀ a, H a ≠ none → B' a = B a) → Q σ' H'
  | _ => False) → g vs σ H Q
def SG (X : Cx) (pn : Nat → Bool) (qq : Bool) (e : Expr) (m : MG) : Prop := ∃ t : TG, PG X e t ∧ SimG (gx X) pn qq t m
def SGs (X : Cx) (pn : Nat → Bool) (qq : Bool) (es : List Expr) (m : List W → ME Unit) : Prop := ∃ t : TGs, PGs X es t ∧ SimGs (gx X) pn qq t m
def gSet (i : Nat) : MG := fun w env => if i < env.length then some (.ok (), env.set i (some w)) else none
section
variable {X : Cx} {pn : Nat → Bool} {Wx : WX} {k p : Bool} {G : GX} {i : Nat} {x : Str} {pos : Pos} {e : Expr} {es : List Expr} {m : ME W} {mg : MG} {ms : List W → ME Unit} {qq : Bool}
/-- a slot gets a new tree -/
theorem Ok.set {B H : Hp} {σ : St} {env : Env} {fp : List Addr} {w : W} {v : V} {f0 : List Addr} (O : Ok G B H σ env fp) (r : relW G B H w v f0) (out : ∀ q ∈ f0, B q = none) (nd : f0.Nodup) (dis : ∀ q ∈ f0, q ∉ fp) (hi : i < env.length) :
    ∃ fp2, Ok G B H (σ.set i (some v)) (env.set i (some w)) fp2 ∧ ∀ q ∈ fp2, q ∈ f0 ++ fp := by
  have hx := List.getElem?_eq_getElem hi
  generalize env[i] = w0 at hx
  obtain ⟨e1, e2, s1, o, s2, f1, g, f2, rfl, rfl, l1, l2, rfl, r1, r2, r3⟩ := relE_split O.rel hx
  have n := O.nd
  simp only [List.nodup_append, List.mem_append] at n dis
  refine ⟨f1 ++ (f0 ++ f2), ⟨O.sub, ?_, ?_, fun q hq => ?_⟩, fun q hq => ?_⟩
  · rw [set_mid l1, set_mid l2]
    exact relE_join r1 ⟨v, rfl, r⟩ r3
  · simp only [List.nodup_append, List.mem_append]
    grind
  · simp only [List.mem_append] at hq
    rcases hq with hq | hq | hq
    · exact O.out q (by simp [hq])
    · exact out q hq
    · exact O.out q (by simp [hq])
  · simp only [List.mem_append] at hq ⊢
    grind
theorem simG_name (hp : pn i = false) : SimG G pn qq (gName i) (gSet i) := by
  intro B H σ env fp w v f0 O r out nd dis Q c
  unfold gSet at c
  by_cases hi : i < env.length
  · rw [if_pos hi] at c
    obtain ⟨fp2, O2, sub⟩ := O.set r out nd dis hi
    refine c (σ.set i (some v)) H B fp2 O2 (Step.refl sub) (by simp) (fun j hj => ?_) fun _ => ⟨Same.refl H, fun _ _ => rfl⟩
    rw [List.getElem?_set_ne (fun z => by rw [z, hj] at hp; cases hp)]
  · rw [if_neg hi] at c
    exact c.elim
theorem sg_name (hN : X.N.Nodup) (hi : X.N[i]? = some x) (hx : Loc X.env.scope x) (hp : pn i = false) (hf : X.fn x = true ∨ X.env.scope.names.lookup x = some .local := by first | exact .inl rfl | exact .inr rfl | assumption) : SG X pn qq (.Name x pos) (gSet i) :=
  ⟨_, pg_name hN hi hx hf, simG_name hp⟩
def gsNil : List W → ME Unit := fun ws => match ws with
  | [] => ME.pure ()
  | _ => ME.stuck
def gsCons (a : MG) (b : List W → ME Unit) : List W → ME Unit := fun ws => match ws with
  | w :: r => (a w).bind fun _ => b r
  | [] => ME.stuck
theorem sgs_nil : SGs X pn qq [] gsNil := by
  refine ⟨_, pgs_nil, fun B H σ env fp ws vs f0 O r out nd dis Q c => ?_⟩
  cases ws with
  | nil =>
    simp only [relWs] at r
    obtain ⟨rfl, rfl⟩ := r
    exact ⟨rfl, c σ H B fp O (Step.refl (by simp)) rfl (fun _ _ => rfl) fun _ => ⟨Same.refl H, fun _ _ => rfl⟩⟩
  | cons w r => exact c.elim
theorem sgs_cons (h1 : SG X pn qq e mg) (h2 : SGs X pn qq es ms) (hs : (assignEach (e :: es) X.env).map (·.2) = assign e X.env :: (assignEach es X.env).map (·.2) := by rfl) : SGs X pn qq (e :: es) (gsCons mg ms) := by
  obtain ⟨t, p1, s1⟩ := h1
  obtain ⟨u, p2, s2⟩ := h2
  refine ⟨_, pgs_cons p1 p2 hs, fun B H σ env fp ws vs f0 O r out nd dis Q c => ?_⟩
  cases ws with
  | nil => exact c.elim
  | cons w r' =>
    simp only [relWs] at r
    obtain ⟨v, vr, g1, g2, rfl, r1, r2, rfl⟩ := r
    simp only [List.nodup_append] at nd
    refine ⟨v, vr, rfl, s1 B H σ env fp w v g1 O r1 (fun q hq => out q (by simp [hq])) nd.1 (fun q hq => dis q (by simp [hq])) _ ?_⟩
    simp only [gsCons, ME.bind] at c
    cases e1 : mg w env with
    | none => rw [e1] at c; exact c
    | some rr =>
      obtain ⟨rr, env1⟩ := rr
      rw [e1] at c
      cases rr with
      | ex x => exact c
      | ok _ =>
        intro σ1 H1 B1 fp1 O1 S1 ln1 pin1 pu1
        have lv := relWs_live r2
        have dis1 : ∀ q ∈ g2, q ∉ g1 ++ fp := fun q hq z => by
          rcases List.mem_append.mp z with z | z
          · exact nd.2.2 q z q hq rfl
          · exact dis q (by simp [hq]) z
        have keep1 : ∀ q ∈ g2, H1 q = H q := fun q hq => by
          cases e : H q with
          | none => exact absurd e (lv q hq)
          | some o => exact S1.keep q o e (dis1 q hq)
        refine s2 B1 H1 σ1 env1 fp1 r' vr g2 O1 (relWs_frame S1.bext r2 keep1) (fun q hq => ?_) nd.2.1 (fun q hq z => ?_) Q ?_
        · rw [S1.bold q (lv q hq) (dis1 q hq)]
          exact out q (by simp [hq])
        · rcases S1.new q z with y | y
          · exact dis1 q hq y
          · exact lv q hq y
        · simp only at c
          cases e2 : ms r' env1 with
          | none => rw [e2] at c; exact c
          | some r2' =>
            obtain ⟨r2', env2⟩ := r2'
            rw [e2] at c
            cases r2' with
            | ex x => exact c
            | ok _ =>
              intro σ2 H2 B2 fp2 O2 S2 ln2 pin2 pu2
              refine c σ2 H2 B2 fp2 O2 ⟨fun a o h n => S2.keep a o (S1.keep a o h (by simp at n ⊢; grind)) ?_, fun a o h => S2.bext a o (S1.bext a o h), fun a h n => ?_, fun a ha => ?_, fun a h => S2.live a (S1.live a h)⟩ (ln2.trans ln1) (fun i hi => (pin2 i hi).trans (pin1 i hi)) fun hq => ⟨fun a o h => (pu2 hq).1 a o ((pu1 hq).1 a o h), fun a h => ((pu2 hq).2 a (S1.live a h)).trans ((pu1 hq).2 a h)⟩
              · intro z
                rcases List.mem_append.mp z with z | z
                · exact n (by simp [z])
                · rcases S1.new a z with y | y
                  · exact n (by simp at y ⊢; grind)
                  · rw [h] at y; cases y
              · refine (S2.bold a (S1.live a h) fun z => ?_).trans (S1.bold a h (by simp at n ⊢; grind))
                rcases List.mem_append.mp z with z | z
                · exact n (by simp [z])
                · rcases S1.new a z with y | y
                  · exact n (by simp at y ⊢; grind)
                  · exact h y
              · have key : ∀ a, a ∈ fp1 → a ∈ g1 ++ g2 ++ fp ∨ H a = none := fun a z => by
                  rcases S1.new a z with y | y
                  · exact .inl (by simp at y ⊢; grind)
                  · exact .inr y
                rcases S2.new a ha with z | z
                · rcases List.mem_append.mp z with z | z
                  · exact .inl (by simp [z])
                  · exact key a z
                · refine .inr ?_
                  cases q : H a with
                  | none => rfl
                  | some o => exact absurd z (S1.live a (by simp [q]))
def wUn : W → Option (List W)
  | .sh (.tup ds) => some (ds.map .sh)
  | .ot ws => some ws
  | _ => none
def gUn (n : Nat) (ms : List W → ME Unit) : MG := fun w env => match wUn w with
  | some ws => if ws.length = n then ms ws env else none
  | none => none
theorem sg_tup {kk : Nat} {n : Nat} (hc : X.calm = true) (h : SGs X pn qq es ms) (hn : (assignEach es X.env).length = n := by rfl) (hst : (assignEach es X.env).findIdx? (·.1) = none := by rfl) : SG X pn qq (.Tuple es kk pos) (gUn n ms) := by
  obtain ⟨t, p1, s1⟩ := h
  refine ⟨_, pg_tup hc p1 hn hst, fun B H σ env fp w v f0 O r out nd dis Q c => ?_⟩
  unfold gUn at c
  cases e1 : wUn w with
  | none => rw [e1] at c; exact c.elim
  | some ws =>
    rw [e1] at c
    simp only at c
    by_cases hl : ws.length = n
    · rw [if_pos hl] at c
      have key : ∃ a vs, v = .ref a ∧ SqT X.K H a vs ∧ relWs (gx X) B H ws vs f0 := by
        unfold wUn at e1
        split at e1
        · cases e1
          simp only [relW, repD] at r
          obtain ⟨⟨a, vs, h1, h2, h3⟩, rfl⟩ := r
          exact ⟨a, vs, h1, sqT_of_same O.sub h2, relWs_sh h3⟩
        · cases e1
          simp only [relW] at r
          obtain ⟨a, vs, h1, h2, h3⟩ := r
          exact ⟨a, vs, h1, SqT.of (O.sub _ _ h2), h3⟩
        · cases e1
      obtain ⟨a, vs, rfl, h1, h2⟩ := key
      exact ⟨a, vs, rfl, h1, by rw [← relWs_length h2]; exact hl, s1 B H σ env fp ws vs f0 O h2 out nd dis Q c⟩
    · rw [if_neg hl] at c
      exact c.elim
/-- target = value -/
def mAsg (m : ME W) (g : MG) : MS := m.bind fun w => fun env => match g w env with
  | some (.ok _, e) => some (.ok .nx, e)
  | _ => none
theorem simS_asg {te : TE} {g : TG} (h : Sim G true p Wx (rW G) te m) (hg : SimG G pn qq g mg) : SimS G pn Wx (tAsg te g) (mAsg m mg) := by
  intro B H σ env fp O D c
  refine h B H σ env fp O _ ?_
  unfold mAsg ME.bind at c
  cases e1 : m env with
  | none => rw [e1] at c; exact c
  | some r =>
    obtain ⟨r, env1⟩ := r
    rw [e1] at c
    cases r with
    | ex x => exact c.ofEx (env := env)
    | ok w =>
      intro v H1 B1 f0 fp1 P
      obtain ⟨nd, dis⟩ := P.own rfl
      refine hg B1 H1 σ env1 fp1 w v f0 P.ok P.rel P.out nd dis _ ?_
      simp only at c
      cases e2 : mg w env1 with
      | none => rw [e2] at c; exact c
      | some r2 =>
        obtain ⟨r2, env2⟩ := r2
        rw [e2] at c
        cases r2 with
        | ex x => exact c.elim
        | ok _ =>
          intro σ' H' B' fp2 O2 S2 ln pin pu
          refine c σ' H' B' fp2 ⟨O2, ⟨fun a o h n => S2.keep a o (P.step.keep a o h n) fun z => ?_, fun a o h => S2.bext a o (P.step.bext a o h), fun a h n => (S2.bold a (P.step.live a h) fun z => ?_).trans (P.step.bold a h n), fun a ha => ?_, fun a h => S2.live a (P.step.live a h)⟩, pin⟩
          · rcases P.step.new a z with y | y
            · exact n y
            · rw [h] at y; cases y
          · rcases P.step.new a z with y | y
            · exact n y
            · exact h y
          · rcases S2.new a ha with z | z
            · exact P.step.new a z
            · refine .inr ?_
              cases q : H a with
              | none => rfl
              | some o => exact absurd z (P.step.live a (by simp [q]))
theorem ss_asg {tg : Expr} (he : SE X Wx true p e m) (hg : SG X pn qq tg mg) (hs : swapsWithSole [tg] e pos.line X.env = pure false := by rfl) (hw : swappedStores [tg] e X.env = pure none := by rfl)
    (h1 : (assignEach [tg] X.env).map (·.2) = [assign tg X.env] := by rfl) : SS X pn Wx (.Assign [tg] e pos) (mAsg m mg) := by
  obtain ⟨t, pe, s⟩ := he
  obtain ⟨u, pg, sg⟩ := hg
  exact ⟨_, ps_asg pe pg hs hw h1, simS_asg s sg⟩
theorem ss_set {pos' : Pos} (hN : X.N.Nodup) (hi : X.N[i]? = some x) (hx : Loc X.env.scope x) (hp : pn i = false) (he : SE X Wx true p e m) (hs : swapsWith e (some (.Name x pos')) pos.line X.env = pure false := by rfl) (hf : X.fn x = true ∨ X.env.scope.names.lookup x = some .local := by first | exact .inl rfl | exact .inr rfl | assumption) :
    SS X pn Wx (.Assign [.Name x pos'] e pos) (mAsg m (gSet i)) := by
  obtain ⟨t, pe, s⟩ := he
  exact ⟨_, L2.ps_set hN hi hx pe hs hf, simS_asg (qq := true) s (simG_name hp)⟩
end
end AM
set_option Elab.async false
set_option linter.all false
set_option maxRecDepth 100000
namespace AM
open PySem L2
/-- what a turn yields: the i-th of ds -/
def YD (G : GX) (B1 : Hp) (ds : List D) (i : Nat) (H2 : Hp) (x : V) (H3 : Hp) : Prop :=
  ∃ d, ds[i]? = some d ∧ ((H3 = H2 ∧ repD G B1 d x) ∨ ∃ T xs es, x = .ref T ∧ H2 T = none ∧ H3 = upd H2 T (.tup xs) ∧ d = .tup es ∧ repDs G B1 es xs)
structure PostI (G : GX) (p : Bool) (B H : Hp) (σ : St) (env : Env) (fp : List Addr) (ds : List D) (env' : Env) (J : It) (H1 B1 : Hp) (fp1 : List Addr) : Prop where
  ok : Ok G B1 H1 σ env' fp1
  step : Step B H fp B1 H1 fp1
  pure : p = true → Same H H1 ∧ (∀ q, H q ≠ none → B1 q = B q) ∧ env' = env ∧ fp1 = fp
  walk : ∃ (Gd : Hp → Prop) (Y : Nat → Hp → V → Hp → Prop), Walk J ds.length Gd Y ∧ (∀ H2, Same B1 H2 → Gd H2) ∧ ∀ i H2 x H3, i < ds.length → Gd H2 → Y i H2 x H3 → YD G B1 ds i H2 x H3
def SimI (G : GX) (p : Bool) (Wx : WX) (t : TI) (m : ME (List D)) : Prop := ∀ B H σ env fp, Ok G B H σ env fp → ∀ R : It → Hp → Prop,
  (match m env with
  | none => False
  | some (.ok ds, env') => ∀ J H1 B1 fp1, PostI G p B H σ env fp ds env' J H1 B1 fp1 → R J H1
  | some (.ex x, env') => ∀ cls d H' B' fp2, Ok G B' H' σ env' fp2 → Step B H fp B' H' fp2 → relX G H' x cls d → (∀ dd, d = some dd → B' dd = none ∧ dd ∉ fp2 ∧ H dd = none) → Wx cls d σ H') → t σ H R
def SI (X : Cx) (Wx : WX) (p : Bool) (tg iter : Expr) (m : ME (List D)) : Prop := ∃ t : TI, PI X tg iter t ∧ SimI (gx X) p Wx t m
def mLoop (g : MG) (body : MS) : List D → MS
  | [] => mNx
  | d :: ds => fun env => match g (.sh d) env with
    | some (.ok _, e1) => match body e1 with
      | some (.ok .nx, e2) => mLoop g body ds e2
      | some (.ok .ct, e2) => mLoop g body ds e2
      | some (.ok .bk, e2) => some (.ok .nx, e2)
      | some (.ok (.rt w), e2) => some (.ok (.rt w), e2)
      | some (.ex x, e2) => some (.ex x, e2)
      | none => none
    | _ => none
def mFor (mi : ME (List D)) (g : MG) (body : MS) : MS := mi.bind fun ds => mLoop g body ds
section
variable {G : GX} {pn : Nat → Bool} {Wx : WX} {p : Bool} {wi : TI} {g : TG} {tb : TS} {mi : ME (List D)} {mg : MG} {mb : MS} {qq : Bool}
/-- the ground grown by a new tuple -/
theorem Ok.newT {B H : Hp} {σ : St} {env : Env} {fp : List Addr} {T : Addr} {xs : List V} (O : Ok G B H σ env fp) (nT : H T = none) : Ok G (upd B T (.tup xs)) (upd H T (.tup xs)) σ env fp := by
  have nB := none_of_sub O.sub nT
  have lv := relE_live O.rel
  have ne : ∀ q ∈ fp, q ≠ T := fun q hq z => lv q hq (by rw [z]; exact nT)
  refine ⟨fun a o h => ?_, relE_frame (same_new nB) O.rel fun q hq => upd_ne (ne q hq), O.nd, fun q hq => by rw [upd_ne (ne q hq)]; exact O.out q hq⟩
  by_cases ea : a = T
  · subst ea
    rw [upd_same] at h ⊢
    exact h
  · rw [upd_ne ea] at h ⊢
    exact O.sub a o h
theorem step_newT {B H : Hp} {fp : List Addr} {T : Addr} {xs : List V} (s : Same B H) (nT : H T = none) : Step B H fp (upd B T (.tup xs)) (upd H T (.tup xs)) fp := by
  have nB := none_of_sub s nT
  exact ⟨fun a o h _ => same_new nT a o h, same_new nB, fun a h _ => upd_ne fun z => h (by rw [z]; exact nT), fun a h => .inl h, fun a h => by
    rw [upd_ne fun z => h (by rw [z]; exact nT)]
    exact h⟩
/-- a yielded thing in hand -/
theorem yd_hand {B B1 H : Hp} {σ : St} {env : Env} {fp : List Addr} {ds : List D} {i : Nat} {x : V} {H3 : Hp} (sB : Same B1 B) (O : Ok G B H σ env fp) (y : YD G B1 ds i H x H3) :
    ∃ d B3, ds[i]? = some d ∧ Ok G B3 H3 σ env fp ∧ Step B H fp B3 H3 fp ∧ repD G B3 d x ∧ Same B B3 ∧ Same H H3 ∧ ∀ q, H q ≠ none → B3 q = B q := by
  obtain ⟨d, hd, ⟨rfl, r⟩ | ⟨T, xs, es, rfl, nT, rfl, rfl, r⟩⟩ := y
  · exact ⟨d, B, hd, O, Step.refl fun _ h => h, repD_mono sB r, Same.refl B, Same.refl _, fun _ _ => rfl⟩
  · have nB := none_of_sub O.sub nT
    refine ⟨_, upd B T (.tup xs), hd, O.newT nT, step_newT O.sub nT, ?_, same_new nB, same_new nT, fun q hq => upd_ne fun z => hq (by rw [z]; exact nT)⟩
    simp only [repD]
    exact ⟨T, xs, rfl, SqT.of upd_same, repDs_mono (fun a o h => same_new nB a o (sB a o h)) r⟩
theorem simS_for (hi : SimI G p Wx wi mi) (hg : SimG G pn qq g mg) (hb : SimS G pn Wx tb mb) : SimS G pn Wx (tFor wi g tb) (mFor mi mg mb) := by
  intro B H σ env fp O D c
  refine hi B H σ env fp O _ ?_
  unfold mFor ME.bind at c
  cases e1 : mi env with
  | none => rw [e1] at c; exact c
  | some r =>
    obtain ⟨r, env1⟩ := r
    rw [e1] at c
    cases r with
    | ex x => exact c.ofEx (env := env)
    | ok ds =>
      intro J H1 B1 fp1 PI
      simp only at c
      obtain ⟨Gd, Y, wk, gd, yd⟩ := PI.walk
      refine for_it wk (fun i σ' H' => ∃ env' B' fp', PostS G pn B H σ fp env' σ' H' B' [] fp' ∧ Same B1 B' ∧ ContS G pn Wx B H σ fp (mLoop mg mb (ds.drop i) env') D) ?_ ?_ ?_ ?_
      · exact ⟨env1, B1, fp1, ⟨PI.ok, PI.step, fun _ _ => rfl⟩, Same.refl B1, c⟩
      · rintro i σ' H' _ ⟨env', B', fp', P, sB, _⟩
        exact gd H' fun a o h => P.ok.sub a o (sB a o h)
      · rintro i x σ' H' H'' hi' ⟨env', B', fp', P, sB, ct⟩ y
        have hG : Gd H' := gd H' fun a o h => P.ok.sub a o (sB a o h)
        obtain ⟨d, B3, hd, O3, S3, r3, sB3, _, _⟩ := yd_hand sB P.ok (yd i H' x H'' hi' hG y)
        have P3 : PostS G pn B H σ fp env' σ' H'' B3 [] fp' := ⟨O3, Step.trans (S := []) P.step S3, P.pin⟩
        have ed : ds.drop i = d :: ds.drop (i + 1) := by
          rw [List.drop_eq_getElem_cons hi']
          congr 1
          rw [List.getElem?_eq_getElem hi'] at hd
          exact Option.some.inj hd
        rw [ed] at ct
        refine hg B3 H'' σ' env' fp' (.sh d) x [] O3 (by simp only [relW]; exact ⟨r3, trivial⟩) (by simp) List.nodup_nil (by simp) _ ?_
        simp only [mLoop] at ct
        cases e2 : mg (.sh d) env' with
        | none => rw [e2] at ct; exact ct
        | some r2 =>
          obtain ⟨r2, env2⟩ := r2
          rw [e2] at ct
          cases r2 with
          | ex x => exact ct.elim
          | ok u =>
            intro σ2 H2 B2 fp2 O2 S2 ln2 pin2 pu2
            have P2 : PostS G pn B H σ fp env2 σ2 H2 B2 [] fp2 := ⟨O2, Step.trans (S := []) P3.step S2, fun j hj => (pin2 j hj).trans (P3.pin j hj)⟩
            have sB2 : Same B1 B2 := fun a o h => S2.bext a o (sB3 a o (sB a o h))
            refine hb B2 H2 σ2 env2 fp2 O2 _ ?_
            simp only at ct
            cases e3 : mb env2 with
            | none => rw [e3] at ct; exact ct
            | some r3 =>
              obtain ⟨r3, env3⟩ := r3
              rw [e3] at ct
              have tr : ∀ {σ' : St} {H' B' : Hp} {f0 fp' : List Addr}, PostS G pn B2 H2 σ2 fp2 env3 σ' H' B' f0 fp' → PostS G pn B H σ fp env3 σ' H' B' f0 fp' := fun Q =>
                ⟨Q.ok, Step.trans (S := []) P2.step Q.step, fun i hi => (Q.pin i hi).trans (P2.pin i hi)⟩
              cases r3 with
              | ex x =>
                intro cls dd σ' H' B' fp' Q hx hd
                refine ct cls dd σ' H' B' fp' (tr Q) hx fun z e => ?_
                obtain ⟨a1, a2, a3⟩ := hd z e
                refine ⟨a1, a2, ?_⟩
                cases q : H z with
                | none => rfl
                | some o => exact absurd a3 (P2.step.live z (by simp [q]))
              | ok f =>
                cases f with
                | nx => exact fun σ' H' B' fp' Q => ⟨env3, B', fp', tr Q, fun a o h => Q.step.bext a o (sB2 a o h), ct⟩
                | ct => exact fun σ' H' B' fp' Q => ⟨env3, B', fp', tr Q, fun a o h => Q.step.bext a o (sB2 a o h), ct⟩
                | bk => exact fun σ' H' B' fp' Q => ct σ' H' B' fp' (tr Q)
                | rt w => exact fun v σ' H' B' f0 fp' Q r o n dj => ct v σ' H' B' f0 fp' (tr Q) r o n dj
      · rintro σ' H' ⟨env', B', fp', P, sB, ct⟩
        rw [List.drop_length] at ct
        exact ct σ' H' B' fp' P
end
section
variable {X : Cx} {pn : Nat → Bool} {Wx : WX} {k p : Bool} {pos : Pos} {c tg iter e : Expr} {body : List Stmt} {mi : ME (List D)} {mg : MG} {mb : MS} {qq : Bool} {mc : ME Bool} {m : ME W}
theorem ss_for (hp : PassesOwn (model X.prog X.w) X.A X.env X.xe) (hc : X.calm = true) (hi : SI X Wx p tg iter mi) (hg : SG X pn qq tg mg) (hb : SSs X pn Wx body mb) (hs : ∀ x, foldedSetIterable iter X.env x = pure x := by intro _; rfl) : SS X pn Wx (.For tg iter body [] pos) (mFor mi mg mb) := by
  obtain ⟨t1, p1, s1⟩ := hi
  obtain ⟨t2, p2, s2⟩ := hg
  obtain ⟨t3, p3, s3⟩ := hb
  exact ⟨_, ps_for hp hc p1 p2 p3 hs, simS_for s1 s2 s3⟩
/-- a list of shared things (it is let go), a tuple -/
def mItL (m : ME W) : ME (List D) := m.bind (ME.op wEls)
def mItT (m : ME W) : ME (List D) := m.bind (ME.op wTEls)
theorem repDs_yd {G : GX} {B1 : Hp} {ds : List D} {vs : List V} (r : repDs G B1 ds vs) {i : Nat} {x : V} (h : vs[i]? = some x) : ∃ d, ds[i]? = some d ∧ repD G B1 d x := by
  have hl : i < ds.length := by
    rw [repDs_length r]
    exact (List.getElem?_eq_some_iff.mp h).1
  obtain ⟨v, h1, h2⟩ := repDs_get r (List.getElem?_eq_getElem hl)
  rw [h] at h1
  cases h1
  exact ⟨_, List.getElem?_eq_getElem hl, h2⟩
theorem si_list (h : SE X Wx true p e m) : SI X Wx p tg e (mItL m) := by
  obtain ⟨t, pe, s⟩ := h
  refine ⟨_, pi_list pe, fun B H σ env fp O R c => ?_⟩
  refine s B H σ env fp O _ ?_
  unfold mItL ME.bind at c
  cases e1 : m env with
  | none => rw [e1] at c; exact c
  | some r =>
    obtain ⟨r, env1⟩ := r
    rw [e1] at c
    cases r with
    | ex x => exact c
    | ok w =>
      intro v H1 B1 f0 fp1 P
      simp only [ME.op] at c
      cases e2 : wEls w with
      | none => rw [e2] at c; exact c.elim
      | some ds =>
        rw [e2] at c
        -- the list goes into the ground
        have rw' : relW (gx X) B1 H1 w v f0 := P.rel
        obtain ⟨nd, dis⟩ := P.own rfl
        have be := grd_bext (H := H1) P.out
        obtain ⟨a, vs, rfl, h1, h2⟩ := wEls_eq P.ok.sub rw' e2
        have ha : grd B1 H1 f0 a = some (.lst vs) := by
          unfold wEls at e2
          split at e2
          · cases e2
            simp only [relW, repD] at rw'
            obtain ⟨⟨a', vs', q1, q2, q3⟩, rfl⟩ := rw'
            cases q1
            have := P.ok.sub _ _ q2
            rw [h1] at this
            cases this
            exact be _ _ q2
          · rename_i ws
            simp only [relW] at rw'
            obtain ⟨p', vs', g, q1, q2, q3, rfl⟩ := rw'
            cases q1
            rw [grd_in (by simp)]
            exact h1
          · cases e2
        have O2 : Ok (gx X) (grd B1 H1 f0) H1 σ env1 fp1 := ⟨grd_sub P.ok.sub, relE_frame be P.ok.rel fun _ _ => rfl, P.ok.nd, fun q hq => by
          rw [grd_out fun z => dis q z hq]
          exact P.ok.out q hq⟩
        refine ⟨a, rfl, ⟨vs, SqL.of h1⟩, c _ H1 (grd B1 H1 f0) fp1 ⟨O2, ⟨P.step.keep, fun a o h => be a o (P.step.bext a o h), fun q h n => ?_, fun q hq => P.step.new q (by simp [hq]), P.step.live⟩, fun hp => ?_, _, _, by rw [repDs_length h2]; exact walk_list (xs := vs), fun H2 s2 => SqL.of (s2 _ _ ha), fun i H2 x H3 hi _ y => ?_⟩⟩
        · rw [grd_out fun z => ?_]
          · exact P.step.bold q h n
          · rcases P.step.new q (by simp [z]) with y | y
            · exact n y
            · exact h y
        · obtain ⟨s1, s2, s3, s4⟩ := P.pure hp
          refine ⟨s1, fun q hq => ?_, s3, s4⟩
          rw [grd_out fun z => ?_]
          · exact s2 q hq
          · rcases P.step.new q (by simp [z]) with y | y
            · exact dis q z (by rw [s4]; exact y)
            · exact hq y
        · obtain ⟨d, hd, rd⟩ := repDs_yd h2 y.2
          exact ⟨d, hd, .inl ⟨y.1, repD_mono be rd⟩⟩
theorem si_tup (h : SE X Wx k p e m) : SI X Wx p tg e (mItT m) := by
  obtain ⟨t, pe, s⟩ := h
  refine ⟨_, pi_tup pe, fun B H σ env fp O R c => ?_⟩
  refine s B H σ env fp O _ ?_
  unfold mItT ME.bind at c
  cases e1 : m env with
  | none => rw [e1] at c; exact c
  | some r =>
    obtain ⟨r, env1⟩ := r
    rw [e1] at c
    cases r with
    | ex x => exact c
    | ok w =>
      intro v H1 B1 f0 fp1 P
      simp only [ME.op] at c
      cases e2 : wTEls w with
      | none => rw [e2] at c; exact c.elim
      | some ds =>
        rw [e2] at c
        have rw' : relW (gx X) B1 H1 w v f0 := P.rel
        unfold wTEls at e2
        split at e2
        · cases e2
          simp only [relW, repD] at rw'
          obtain ⟨⟨a, vs, rfl, h1, h2⟩, rfl⟩ := rw'
          refine ⟨a, rfl, ⟨vs, sqT_of_same P.ok.sub h1⟩, c _ H1 B1 fp1 ⟨P.ok, P.step, P.pure, _, _, by rw [repDs_length h2]; exact walk_tup (xs := vs), fun H2 s2 => sqT_of_same s2 h1, fun i H2 x H3 hi _ y => ?_⟩⟩
          obtain ⟨d, hd, rd⟩ := repDs_yd h2 y.2
          exact ⟨d, hd, .inl ⟨y.1, rd⟩⟩
        · cases e2
end
end AM
set_option Elab.async false
set_option linter.all false
set_option maxRecDepth 100000
namespace AM
open PySem L2
def rgL (lo c : Int) (n : Nat) : List D := (List.range n).map fun k => .int (lo + (k : Nat) * c)
def mItR (g : List W → Option (List D)) (ma : ME (List W)) : ME (List D) := ma.bind (ME.op g)
def inR (i : Int) : Bool := decide (-(2 ^ 62) ≤ i) && decide (i < 2 ^ 62)
def gRg1 (as : List W) : Option (List D) := match as with
  | [a] => (wInt a).bind fun j => if inR j = true then some (rgL 0 1 j.toNat) else none
  | _ => none
theorem rgL_get {lo c : Int} {n i : Nat} (h : i < n) : (rgL lo c n)[i]? = some (.int (lo + (i : Nat) * c)) := by
  unfold rgL
  rw [List.getElem?_map, List.getElem?_range h]
  rfl
theorem rgL_len {lo c : Int} {n : Nat} : (rgL lo c n).length = n := by simp [rgL]
theorem relW_int {G : GX} {B H : Hp} {w : W} {v : V} {f : List Addr} {i : Int} (r : relW G B H w v f) (e : wInt w = some i) : v = .int i := by
  rw [wInt_eq e] at r
  exact relI r
section
variable {G : GX} {Wx : WX} {k p : Bool} {ta : TA} {ma : ME (List W)}
/-- numbers alone are asked of the arguments -/
theorem simI_num {g : List W → Option (List D)} {R : Hp → List V → (It → Hp → Prop) → Prop} (h : Sim G k p Wx (rWs G) ta ma)
    (hg : ∀ (B H : Hp) (ws : List W) (vs : List V) (f : List Addr) (ds : List D), relWs G B H ws vs f → g ws = some ds → ∃ J, (∃ (Gd : Hp → Prop) (Y : Nat → Hp → V → Hp → Prop), Walk J ds.length Gd Y ∧ (∀ H2, Same B H2 → Gd H2) ∧ ∀ i H2 x H3, i < ds.length → Gd H2 → Y i H2 x H3 → YD G B ds i H2 x H3) ∧ ∀ Q : It → Hp → Prop, Q J H → R H vs Q) :
    SimI G p Wx (fun σ H Q => ta σ H fun vs H1 => R H1 vs Q) (mItR g ma) := by
  intro B H σ env fp O Q c
  refine h B H σ env fp O _ ?_
  unfold mItR ME.bind at c
  cases e1 : ma env with
  | none => rw [e1] at c; exact c
  | some r =>
    obtain ⟨r, env1⟩ := r
    rw [e1] at c
    cases r with
    | ex x => exact c
    | ok ws =>
      intro vs H1 B1 f0 fp1 P
      simp only [ME.op] at c
      cases e2 : g ws with
      | none => rw [e2] at c; exact c.elim
      | some ds =>
        rw [e2] at c
        obtain ⟨J, hw, hQ⟩ := hg B1 H1 ws vs f0 ds P.rel e2
        exact hQ Q (c J H1 B1 fp1 ⟨P.ok, P.step.mono fun q hq => by simp [hq], P.pure, hw⟩)
theorem walk_rgL {B : Hp} {lo : Int} {n : Nat} : ∃ (Gd : Hp → Prop) (Y : Nat → Hp → V → Hp → Prop), Walk (Itr lo n) (rgL lo 1 n).length Gd Y ∧ (∀ H2, Same B H2 → Gd H2) ∧ ∀ i H2 x H3, i < (rgL lo 1 n).length → Gd H2 → Y i H2 x H3 → YD G B (rgL lo 1 n) i H2 x H3 := by
  refine ⟨_, _, by rw [rgL_len]; exact walk_range, fun _ _ => trivial, fun i H2 x H3 hi _ y => ?_⟩
  rw [rgL_len] at hi
  obtain ⟨rfl, rfl⟩ := y
  exact ⟨_, rgL_get hi, .inl ⟨rfl, by simp [repD]⟩⟩
theorem inR_iff {i : Int} (h : inR i = true) : -(2 ^ 62) ≤ i ∧ i < 2 ^ 62 := by
  unfold inR at h
  simpa using h
theorem simI_rg1 (h : Sim G k p Wx (rWs G) ta ma) : SimI G p Wx (iRng1 ta) (mItR gRg1 ma) := by
  refine simI_num (R := fun H vs Q => ∃ j : Int, vs = [.int j] ∧ -(2 ^ 62) ≤ j ∧ j < 2 ^ 62 ∧ Q (Itr 0 j.toNat) H) h fun B H ws vs f ds r e => ?_
  unfold gRg1 at e
  split at e
  · rename_i a
    simp only [Option.bind_eq_some_iff] at e
    obtain ⟨j, e1, e⟩ := e
    split at e
    · rename_i hj
      cases e
      obtain ⟨v, rfl, r1⟩ := rel1 r
      obtain ⟨b1, b2⟩ := inR_iff hj
      exact ⟨_, walk_rgL, fun Q q => ⟨j, by rw [relW_int r1 e1], b1, b2, q⟩⟩
    · cases e
  · cases e
end
section
variable {X : Cx} {Wx : WX} {k p : Bool} {tg a b c : Expr} {ma : ME (List W)} {pp pos tpos : Pos} {elts : List Expr} {kk : Nat}
theorem si_rg1 (hg : Gl X "range") (hm : X.mg "range" = none) (ha : SA X Wx k p [a] ma) (hs : starEach [a] X.env = [(false, eval a X.env)] := by rfl) : SI X Wx p tg (.Call (.Name "range" pp) [a] [] pos) (mItR gRg1 ma) := by
  obtain ⟨t, pa, s⟩ := ha
  exact ⟨_, pi_range1 hg hm pa hs, simI_rg1 s⟩
end
end AM
set_option Elab.async false
set_option linter.all false
set_option maxRecDepth 100000
namespace AM
open PySem L2
def wipeE (env : Env) : List Nat → Env
  | [] => env
  | v :: vs => (wipeE env vs).set v none
/-- all slots but these stand still -/
def offs (vs : List Nat) : Nat → Bool := fun i => !vs.contains i
section
variable {G : GX}
theorem relE_none {B H : Hp} {σ : St} {env : Env} {f : List Addr} (v : Nat) (r : relE G B H σ env f) : ∃ f', relE G B H σ (env.set v none) f' ∧ (∀ q ∈ f', q ∈ f) ∧ (f.Nodup → f'.Nodup) := by
  by_cases h : v < env.length
  · have hx := List.getElem?_eq_getElem h
    generalize env[v] = w0 at hx
    obtain ⟨e1, e2, s1, o, s2, f1, g, f2, rfl, rfl, l1, l2, rfl, r1, r2, r3⟩ := relE_split r hx
    refine ⟨f1 ++ ([] ++ f2), ?_, fun q hq => ?_, fun n => ?_⟩
    · rw [set_mid l1]
      exact relE_join r1 rfl r3
    · simp only [List.nil_append, List.mem_append] at hq ⊢
      grind
    · simp only [List.nil_append, List.nodup_append, List.mem_append] at n ⊢
      grind
  · rw [List.set_eq_of_length_le (by omega)]
    exact ⟨f, r, fun _ h => h, fun h => h⟩
theorem relE_wipe {B H : Hp} {σ : St} {env : Env} {f : List Addr} (r : relE G B H σ env f) : ∀ vs : List Nat, ∃ f', relE G B H σ (wipeE env vs) f' ∧ (∀ q ∈ f', q ∈ f) ∧ (f.Nodup → f'.Nodup)
  | [] => ⟨f, r, fun _ h => h, fun h => h⟩
  | v :: vs => by
    obtain ⟨f1, r1, s1, n1⟩ := relE_wipe r vs
    obtain ⟨f2, r2, s2, n2⟩ := relE_none v r1
    exact ⟨f2, r2, fun q hq => s1 q (s2 q hq), fun n => n2 (n1 n)⟩
theorem wipeE_in {env : Env} {i : Nat} : ∀ {vs : List Nat}, i ∈ vs → (wipeE env vs)[i]? = some none ∨ (wipeE env vs)[i]? = none
  | v :: vs, h => by
    by_cases e : v = i
    · subst e
      show ((wipeE env vs).set v none)[v]? = some none ∨ ((wipeE env vs).set v none)[v]? = none
      by_cases hl : v < (wipeE env vs).length
      · left
        rw [List.getElem?_set_self hl]
      · right
        rw [List.getElem?_eq_none_iff, List.length_set]
        omega
    · rcases List.mem_cons.mp h with h | h
      · exact absurd h.symm e
      · show ((wipeE env vs).set v none)[i]? = some none ∨ ((wipeE env vs).set v none)[i]? = none
        rw [List.getElem?_set_ne e]
        exact wipeE_in h
/-- the machine's other slots do not matter where the mirror knows nothing -/
theorem relE_congr {B H : Hp} : ∀ {env : Env} {σ τ : St} {f : List Addr}, relE G B H σ env f → τ.length = σ.length → (∀ (i : Nat) (w : W), (env[i]? : Option (Option W)) = some (some w) → (τ[i]? : Option (Option V)) = σ[i]?) → relE G B H τ env f
  | [], σ, τ, f, h, hl, _ => by
    obtain ⟨rfl, rfl⟩ := h
    exact ⟨List.length_eq_zero_iff.mp (by simpa using hl), rfl⟩
  | w :: env, σ, τ, f, h, hl, k => by
    obtain ⟨o, σ', f1, f2, rfl, h2, h3, rfl⟩ := h
    cases τ with
    | nil => simp at hl
    | cons t τ' =>
      refine ⟨t, τ', f1, f2, rfl, ?_, relE_congr h3 (by simpa using hl) fun i w e => by simpa using k (i + 1) w (by simpa using e), rfl⟩
      cases w with
      | none => exact h2
      | some w =>
        have := k 0 w (by simp)
        simp at this
        subst this
        exact h2
/-- the slots at vs forgotten, on both sides -/
theorem Ok.wipe {B H : Hp} {σ : St} {env : Env} {fp : List Addr} (O : Ok G B H σ env fp) (vs : List Nat) : ∃ fp', Ok G B H (L2.wipe σ vs) (wipeE env vs) fp' ∧ ∀ q ∈ fp', q ∈ fp := by
  obtain ⟨f', r, s, n⟩ := relE_wipe O.rel vs
  refine ⟨f', ⟨O.sub, relE_congr r (wipe_length σ vs) fun i w e => ?_, n O.nd, fun q hq => O.out q (s q hq)⟩, s⟩
  refine wipe_out fun h => ?_
  rcases wipeE_in (env := env) h with z | z <;> rw [e] at z <;> cases z
/-- back in the outer frame -/
theorem Ok.unwipe {B H : Hp} {σ τ : St} {env : Env} {fp : List Addr} (O : Ok G B H τ env fp) (vs : List Nat) (h : L2.wipe τ vs = L2.wipe σ vs) : ∃ fp', Ok G B H σ (wipeE env vs) fp' ∧ ∀ q ∈ fp', q ∈ fp := by
  obtain ⟨f', r, s, n⟩ := relE_wipe O.rel vs
  have hl : σ.length = τ.length := by rw [← wipe_length σ vs, ← h, wipe_length]
  refine ⟨f', ⟨O.sub, relE_congr r hl fun i w e => ?_, n O.nd, fun q hq => O.out q (s q hq)⟩, s⟩
  have hi : i ∉ vs := fun h => by
    rcases wipeE_in (env := env) h with z | z <;> rw [e] at z <;> cases z
  rw [← wipe_out (σ := σ) hi, ← h, wipe_out hi]
theorem wipe_eq {σ τ : St} {vs : List Nat} (hl : τ.length = σ.length) (h : ∀ i, i ∉ vs → τ[i]? = σ[i]?) : L2.wipe τ vs = L2.wipe σ vs := by
  have key : ∀ (us : List Nat) (i : Nat), (∀ j, j ∉ vs → τ[j]? = σ[j]?) → i ∉ vs → i ∉ us → (L2.wipe τ us)[i]? = (L2.wipe σ us)[i]? := fun us i k h1 h2 => by rw [wipe_out h2, wipe_out h2, k i h1]
  have inn : ∀ (us : List Nat) (ρ : St) (i : Nat), i ∈ us → i < ρ.length → (L2.wipe ρ us)[i]? = some none := by
    intro us
    induction us with
    | nil => intro ρ i h; simp at h
    | cons u us ih =>
      intro ρ i h hlt
      show ((L2.wipe ρ us).set u none)[i]? = some none
      by_cases e : u = i
      · subst e
        rw [List.getElem?_set_self (by rw [wipe_length]; exact hlt)]
      · rw [List.getElem?_set_ne e]
        rcases List.mem_cons.mp h with h | h
        · exact absurd h.symm e
        · exact ih ρ i h hlt
  refine List.ext_getElem? fun i => ?_
  by_cases hi : i ∈ vs
  · by_cases hlt : i < σ.length
    · rw [inn vs τ i hi (by omega), inn vs σ i hi hlt]
    · rw [List.getElem?_eq_none_iff.mpr (by rw [wipe_length]; omega), List.getElem?_eq_none_iff.mpr (by rw [wipe_length]; omega)]
  · rw [wipe_out hi, wipe_out hi]
    exact h i hi
end
def mCL (g : MG) (c : ME Bool) (e : ME W) (vs : List Nat) : List D → List W → ME (List W)
  | [], acc => ME.pure acc
  | d :: ds, acc => fun env => match g (.sh d) env with
    | some (.ok _, e1) => match c e1 with
      | some (.ok true, e2) => match e e2 with
        | some (.ok w, e3) => if acc.length < 100000 then mCL g c e vs ds (acc ++ [w]) (wipeE e3 vs) else none
        | _ => none
      | some (.ok false, e2) => mCL g c e vs ds acc (wipeE e2 vs)
      | _ => none
    | _ => none
/-- .. whose turns change nothing -/
def mCLP (g : MG) (c : ME Bool) (e : ME W) (env0 : Env) : List D → List W → Option (List W)
  | [], acc => some acc
  | d :: ds, acc => match g (.sh d) env0 with
    | some (.ok _, e1) => match c e1 with
      | some (.ok true, e2) => match e e2 with
        | some (.ok w, _) => if acc.length < 100000 then mCLP g c e env0 ds (acc ++ [w]) else none
        | _ => none
      | some (.ok false, _) => mCLP g c e env0 ds acc
      | _ => none
    | _ => none
def mComp (mi : ME (List D)) (g : MG) (c : ME Bool) (e : ME W) (vs : List Nat) : ME W := fun env => match mi env with
  | some (.ok ds, e1) => match mCL g c e vs ds [] (wipeE e1 vs) with
    | some (.ok ws, e2) => some (.ok (.ol ws), e2)
    | _ => none
  | some (.ex x, e1) => some (.ex x, e1)
  | none => none
def mCompP (mi : ME (List D)) (g : MG) (c : ME Bool) (e : ME W) (vs : List Nat) : ME W := fun env => match mi env with
  | some (.ok ds, e1) => (mCLP g c e (wipeE e1 vs) ds []).map fun ws => (.ok (.ol ws), e1)
  | some (.ex x, e1) => some (.ex x, e1)
  | none => none
section
variable {G : GX} {Wx Wx0 : WX} {p : Bool} {wi : TI} {g : TG} {tt : TT} {te : TE} {mi : ME (List D)} {mg : MG} {mc : ME Bool} {me : ME W} {vs : List Nat} {qq : Bool}
theorem not_off {vs : List Nat} {i : Nat} (h : i ∉ vs) : offs vs i = true := by
  unfold offs
  simp [h]
/-- what a comprehension has made so far -/
structure Made (G : GX) (B H : Hp) (fp : List Addr) (σ : St) (env : Env) (B' H' : Hp) (fp' : List Addr) (D : Addr) (ws : List W) (acc : List V) (fA : List Addr) : Prop where
  ok : Ok G B' H' σ env fp'
  step : Step B H fp B' H' (D :: fA ++ fp')
  here : H' D = some (.lst acc)
  rel : relWs G B' H' ws acc fA
  nd : (D :: fA).Nodup
  dis : ∀ q ∈ D :: fA, q ∉ fp'
  out : ∀ q ∈ D :: fA, B' q = none
theorem Made.live {B H B' H' : Hp} {fp fp' : List Addr} {σ : St} {env : Env} {D : Addr} {ws : List W} {acc : List V} {fA : List Addr} (M : Made G B H fp σ env B' H' fp' D ws acc fA) : ∀ q ∈ D :: fA, H' q ≠ none := fun q hq => by
  rcases List.mem_cons.mp hq with rfl | hq
  · rw [M.here]; simp
  · exact relWs_live M.rel q hq
/-- something runs beside what is made -/
theorem Made.beside {B H B1 H1 B2 H2 : Hp} {fp fp1 fp2 : List Addr} {σ σ2 : St} {env env2 : Env} {D : Addr} {ws : List W} {acc : List V} {fA : List Addr} {f0 : List Addr} (M : Made G B H fp σ env B1 H1 fp1 D ws acc fA)
    (S : Step B1 H1 fp1 B2 H2 (f0 ++ fp2)) (O : Ok G B2 H2 σ2 env2 fp2) : Made G B H fp σ2 env2 B2 H2 fp2 D ws acc fA ∧ Step B H fp B2 H2 (D :: fA ++ (f0 ++ fp2)) ∧ ∀ q ∈ f0, q ∉ D :: fA := by
  have lv := M.live
  have nf : ∀ q ∈ D :: fA, q ∉ f0 ++ fp2 := fun q hq z => by
    rcases S.new q z with y | y
    · exact M.dis q hq y
    · exact lv q hq y
  have kp : ∀ q ∈ D :: fA, H2 q = H1 q := fun q hq => by
    cases e : H1 q with
    | none => exact absurd e (lv q hq)
    | some o => exact S.keep q o e (M.dis q hq)
  have S2 : Step B H fp B2 H2 (D :: fA ++ (f0 ++ fp2)) := Step.trans M.step S
  refine ⟨⟨O, S2.mono fun q hq => by simp only [List.mem_append] at hq ⊢; grind, (kp D (by simp)).trans M.here, relWs_frame S.bext M.rel fun q hq => kp q (by simp [hq]), M.nd, fun q hq z => nf q hq (by simp [z]), fun q hq => ?_⟩, S2, fun q hq z => nf q z (by simp [hq])⟩
  rw [S.bold q (lv q hq) (M.dis q hq)]
  exact M.out q hq
theorem Made.thin {B H B1 H1 : Hp} {fp fp1 fp2 : List Addr} {σ σ2 : St} {env env2 : Env} {D : Addr} {ws : List W} {acc : List V} {fA : List Addr} (M : Made G B H fp σ env B1 H1 fp1 D ws acc fA) (O : Ok G B1 H1 σ2 env2 fp2) (h : ∀ q ∈ fp2, q ∈ fp1) : Made G B H fp σ2 env2 B1 H1 fp2 D ws acc fA :=
  ⟨O, M.step.mono fun q hq => by simp only [List.mem_append] at hq ⊢; grind, M.here, M.rel, M.nd, fun q hq z => M.dis q hq (h q z), M.out⟩
/-- one more item -/
theorem Made.more {B H B1 H1 : Hp} {fp fp1 : List Addr} {σ : St} {env : Env} {D : Addr} {ws : List W} {acc : List V} {fA f0 : List Addr} {w : W} {v : V} (M : Made G B H fp σ env B1 H1 fp1 D ws acc fA) (r : relW G B1 H1 w v f0) (nd : f0.Nodup) (dis : ∀ q ∈ f0, q ∉ fp1 ∧ q ∉ D :: fA) (out : ∀ q ∈ f0, B1 q = none)
    (S : Step B H fp B1 H1 (D :: fA ++ (f0 ++ fp1))) : Made G B H fp σ env B1 (upd H1 D (.lst (acc ++ [v]))) fp1 D (ws ++ [w]) (acc ++ [v]) (fA ++ f0) := by
  have nDA : D ∉ fA := (List.nodup_cons.mp M.nd).1
  have nA := (List.nodup_cons.mp M.nd).2
  have nD0 : D ∉ f0 := fun z => (dis D z).2 (by simp)
  have nDfp : D ∉ fp1 := M.dis D (by simp)
  have kA : ∀ q ∈ fA, upd H1 D (.lst (acc ++ [v])) q = H1 q := fun q hq => upd_ne fun z => nDA (by rw [← z]; exact hq)
  have k0 : ∀ q ∈ f0, upd H1 D (.lst (acc ++ [v])) q = H1 q := fun q hq => upd_ne fun z => nD0 (by rw [← z]; exact hq)
  have kE : ∀ q ∈ fp1, upd H1 D (.lst (acc ++ [v])) q = H1 q := fun q hq => upd_ne fun z => nDfp (by rw [← z]; exact hq)
  have BD : B1 D = none := M.out D (by simp)
  refine ⟨⟨fun a o h => ?_, relE_frame (Same.refl B1) M.ok.rel kE, M.ok.nd, M.ok.out⟩, ⟨fun a o h n => ?_, S.bext, S.bold, fun a ha => S.new a (by simp only [List.cons_append, List.mem_cons, List.mem_append] at ha ⊢; grind), fun a h => ?_⟩, upd_same, ?_, ?_, fun q hq => ?_, fun q hq => ?_⟩
  · rw [upd_ne fun z => by rw [z, BD] at h; cases h]
    exact M.ok.sub a o h
  · by_cases ea : a = D
    · subst ea
      rcases S.new a (by simp) with y | y
      · exact absurd y n
      · rw [h] at y; cases y
    · rw [upd_ne ea]
      exact S.keep a o h n
  · by_cases ea : a = D
    · rw [ea, upd_same]; simp
    · rw [upd_ne ea]; exact S.live a h
  · refine relWs_append (relWs_frame (Same.refl B1) M.rel kA) ?_
    simp only [relWs]
    exact ⟨v, [], f0, [], rfl, relW_frame (Same.refl B1) r k0, ⟨rfl, rfl⟩, by simp⟩
  · refine List.nodup_cons.mpr ⟨fun z => ?_, List.nodup_append.mpr ⟨nA, nd, fun a ha b hb e => ?_⟩⟩
    · rcases List.mem_append.mp z with z | z
      · exact nDA z
      · exact nD0 z
    · subst e
      exact (dis a hb).2 (by simp [ha])
  · rcases List.mem_cons.mp hq with rfl | hq
    · exact nDfp
    · rcases List.mem_append.mp hq with hq | hq
      · exact M.dis q (by simp [hq])
      · exact (dis q hq).1
  · rcases List.mem_cons.mp hq with rfl | hq
    · exact BD
    · rcases List.mem_append.mp hq with hq | hq
      · exact M.out q (by simp [hq])
      · exact out q hq
theorem sim_comp (hi : SimI G p Wx wi mi) (hg : SimG G (offs vs) qq g mg) (hc : Sim G true p Wx0 (rEqv Bool) tt mc) (he : Sim G true p Wx0 (rW G) te me) : Sim G true false Wx (rW G) (tLc wi g tt te vs) (mComp mi mg mc me vs) := by
  intro B H σ env fp O Q c
  refine hi B H σ env fp O _ ?_
  unfold mComp at c
  cases e1 : mi env with
  | none => rw [e1] at c; exact c
  | some r =>
    obtain ⟨r, env1⟩ := r
    rw [e1] at c
    cases r with
    | ex x => exact c
    | ok ds =>
      intro J H1 B1 fp1 PI D nD
      simp only at c
      obtain ⟨Gd, Y, wk, gd, yd⟩ := PI.walk
      obtain ⟨fpW, OW, subW⟩ := PI.ok.wipe vs
      -- the outer frame's view: σ with the slots forgotten in the mirror
      obtain ⟨fp0, O0, sub0⟩ := PI.ok.unwipe (σ := σ) vs rfl
      have BD := none_of_sub PI.ok.sub nD
      have ok0 : Ok G B1 (upd H1 D (.lst [])) σ (wipeE env1 vs) fp0 := by
        have lv := relE_live O0.rel
        exact ⟨fun a o h => by rw [upd_ne fun z => by rw [z, BD] at h; cases h]; exact O0.sub a o h, relE_frame (Same.refl B1) O0.rel fun q hq => upd_ne fun z => lv q hq (by rw [z]; exact nD), O0.nd, O0.out⟩
      have M0 : Made G B H fp σ (wipeE env1 vs) B1 (upd H1 D (.lst [])) fp0 D [] [] [] := by
        refine ⟨ok0, ⟨fun a o h n => ?_, PI.step.bext, PI.step.bold, fun a ha => ?_, fun a h => ?_⟩, upd_same, by simp [relWs], by simp, fun q hq z => ?_, fun q hq => ?_⟩
        · have := PI.step.keep a o h n
          rw [upd_ne fun z => by rw [z, nD] at this; cases this]
          exact this
        · simp only [List.append_nil, List.cons_append, List.nil_append, List.mem_cons] at ha
          rcases ha with rfl | ha
          · refine .inr ?_
            cases e : H a with
            | none => rfl
            | some o => exact absurd nD (PI.step.live a (by simp [e]))
          · exact PI.step.new a (sub0 a ha)
        · have := PI.step.live a h
          by_cases ea : a = D
          · rw [ea, upd_same]; simp
          · rw [upd_ne ea]; exact this
        · simp at hq
          subst hq
          exact relE_live O0.rel q z nD
        · simp at hq
          subst hq
          exact BD
      refine lc_it wk (fun i H' => ∃ env' B' fp' ws acc fA, Made G B H fp σ env' B' H' fp' D ws acc fA ∧ Same B1 B' ∧ (∀ v, v ∈ vs → env'[v]? = some none ∨ env'[v]? = none) ∧ (match mCL mg mc me vs (ds.drop i) ws env' with
        | some (.ok ws, e2) => ∀ H' B' fp' acc fA, Made G B H fp σ e2 B' H' fp' D ws acc fA → Q (.ref D) H'
        | _ => False)) ?_ ?_ ?_ ?_
      · refine ⟨_, B1, fp0, [], [], [], M0, Same.refl B1, fun v hv => wipeE_in hv, ?_⟩
        show match mCL mg mc me vs ds [] (wipeE env1 vs) with | some (.ok ws, e2) => _ | _ => False
        cases e2 : mCL mg mc me vs ds [] (wipeE env1 vs) with
        | none => rw [e2] at c; exact c.elim
        | some r2 =>
          obtain ⟨r2, env2⟩ := r2
          rw [e2] at c
          cases r2 with
          | ex x => exact c.elim
          | ok ws =>
            intro H' B' fp' acc fA M
            refine c (.ref D) H' B' (D :: fA) fp' ⟨M.ok, ?_, M.out, M.step, fun _ => ⟨M.nd, M.dis⟩, fun z => Bool.noConfusion z⟩
            show relW _ _ _ _ _ _
            simp only [relW]
            exact ⟨D, acc, fA, rfl, M.here, M.rel, rfl⟩
      · rintro i H' _ ⟨env', B', fp', ws, acc, fA, M, sB, _, _⟩
        exact gd H' fun a o h => M.ok.sub a o (sB a o h)
      · rintro i x H' H'' hi' ⟨env', B', fp', ws, acc, fA, M, sB, wz, ct⟩ y
        have hG : Gd H' := gd H' fun a o h => M.ok.sub a o (sB a o h)
        obtain ⟨d, B3, hd, O3, S3, r3, sB3, _, _⟩ := yd_hand sB M.ok (yd i H' x H'' hi' hG y)
        obtain ⟨M3, _, _⟩ := M.beside (f0 := []) S3 O3
        have ed : ds.drop i = d :: ds.drop (i + 1) := by
          rw [List.drop_eq_getElem_cons hi']
          congr 1
          rw [List.getElem?_eq_getElem hi'] at hd
          exact Option.some.inj hd
        rw [ed] at ct
        -- into the block's frame
        have OW3 : Ok G B3 H'' (L2.wipe σ vs) env' fp' := ⟨O3.sub, relE_congr O3.rel (wipe_length σ vs) (fun j w e => wipe_out (fun h => by
          rcases wz j h with z | z <;> rw [e] at z <;> cases z)), O3.nd, O3.out⟩
        refine hg B3 H'' (L2.wipe σ vs) env' fp' (.sh d) x [] OW3 (by simp only [relW]; exact ⟨r3, trivial⟩) (by simp) List.nodup_nil (by simp) _ ?_
        simp only [mCL] at ct
        cases e2 : mg (.sh d) env' with
        | none => rw [e2] at ct; exact ct
        | some r2 =>
          obtain ⟨r2, env2⟩ := r2
          rw [e2] at ct
          cases r2 with
          | ex x => exact ct.elim
          | ok u =>
            intro σ2 H2 B2 fp2 O2 S2 ln2 pin2 pu2
            have hw : L2.wipe σ2 vs = L2.wipe σ vs := by
              rw [← show L2.wipe (L2.wipe σ vs) vs = L2.wipe σ vs from wipe_eq (wipe_length σ vs) fun i hi => wipe_out hi]
              exact wipe_eq ln2 fun j hj => pin2 j (not_off hj)
            obtain ⟨M2, _, _⟩ := M3.beside (f0 := []) S2 O2
            have sB2 : Same B1 B2 := fun a o h => S2.bext a o (sB3 a o (sB a o h))
            refine ⟨hw, hc B2 H2 σ2 env2 fp2 O2 _ ?_⟩
            simp only at ct
            cases e3 : mc env2 with
            | none => rw [e3] at ct; exact ct
            | some r3 =>
              obtain ⟨r3, env3⟩ := r3
              rw [e3] at ct
              cases r3 with
              | ex x => exact ct.elim
              | ok b =>
                intro b' H4 B4 f4 fp4 P4
                obtain ⟨rfl, rfl⟩ := P4.rel
                obtain ⟨M4, _, _⟩ := M2.beside (f0 := []) P4.step P4.ok
                have sB4 : Same B1 B4 := fun a o h => P4.step.bext a o (sB2 a o h)
                -- back in the outer frame, all that is made kept
                have back : ∀ {env5 : Env} {B5 H5 : Hp} {fp5 : List Addr} {ws5 : List W} {acc5 : List V} {fA5 : List Addr}, Made G B H fp σ2 env5 B5 H5 fp5 D ws5 acc5 fA5 → ∃ fp6, Made G B H fp σ (wipeE env5 vs) B5 H5 fp6 D ws5 acc5 fA5 := fun M5 => by
                  obtain ⟨fp6, O6, s6⟩ := M5.ok.unwipe (σ := σ) vs hw
                  exact ⟨fp6, M5.thin O6 s6⟩
                cases b with
                | false =>
                  show if false = true then _ else _
                  rw [if_neg Bool.false_ne_true]
                  obtain ⟨fp6, M6⟩ := back M4
                  exact ⟨_, B4, fp6, ws, acc, fA, M6, sB4, fun v hv => wipeE_in hv, ct⟩
                | true =>
                  show if true = true then _ else _
                  rw [if_pos rfl]
                  refine he B4 H4 σ2 env3 fp4 P4.ok _ ?_
                  simp only at ct
                  cases e4 : me env3 with
                  | none => rw [e4] at ct; exact ct
                  | some r4 =>
                    obtain ⟨r4, env4⟩ := r4
                    rw [e4] at ct
                    cases r4 with
                    | ex x => exact ct.elim
                    | ok w =>
                      simp only at ct
                      intro v H5 B5 f5 fp5 P5
                      obtain ⟨M5, S5, ne5⟩ := M4.beside P5.step P5.ok
                      by_cases hlen : ws.length < 100000
                      · rw [if_pos hlen] at ct
                        obtain ⟨nd5, dis5⟩ := P5.own rfl
                        have M6 := M5.more P5.rel nd5 (fun q hq => ⟨dis5 q hq, ne5 q hq⟩) P5.out S5
                        obtain ⟨fp7, M7⟩ := back M6
                        refine ⟨acc, M5.here, ?_, _, B5, fp7, _, _, _, M7, fun a o h => P5.step.bext a o (sB4 a o h), fun v hv => wipeE_in hv, ct⟩
                        rw [← relWs_length M5.rel]
                        exact Nat.lt_of_lt_of_le hlen (by decide)
                      · rw [if_neg hlen] at ct
                        exact ct.elim
      · rintro H' ⟨env', B', fp', ws, acc, fA, M, sB, _, ct⟩
        rw [List.drop_length] at ct
        exact ct H' B' fp' acc fA M
theorem sim_compP (hi : SimI G p Wx wi mi) (hg : SimG G (offs vs) true g mg) (hc : Sim G true true Wx0 (rEqv Bool) tt mc) (he : Sim G true true Wx0 (rW G) te me) : Sim G true p Wx (rW G) (tLc wi g tt te vs) (mCompP mi mg mc me vs) := by
  intro B H σ env fp O Q c
  refine hi B H σ env fp O _ ?_
  unfold mCompP at c
  cases e1 : mi env with
  | none => rw [e1] at c; exact c
  | some r =>
    obtain ⟨r, env1⟩ := r
    rw [e1] at c
    cases r with
    | ex x => exact c
    | ok ds =>
      intro J H1 B1 fp1 PI D nD
      simp only at c
      obtain ⟨Gd, Y, wk, gd, yd⟩ := PI.walk
      have BD := none_of_sub PI.ok.sub nD
      have lv1 := relE_live PI.ok.rel
      have ok0 : Ok G B1 (upd H1 D (.lst [])) σ env1 fp1 :=
        ⟨fun a o h => by rw [upd_ne fun z => by rw [z, BD] at h; cases h]; exact PI.ok.sub a o h, relE_frame (Same.refl B1) PI.ok.rel fun q hq => upd_ne fun z => lv1 q hq (by rw [z]; exact nD), PI.ok.nd, PI.ok.out⟩
      have M0 : Made G B H fp σ env1 B1 (upd H1 D (.lst [])) fp1 D [] [] [] := by
        refine ⟨ok0, ⟨fun a o h n => ?_, PI.step.bext, PI.step.bold, fun a ha => ?_, fun a h => ?_⟩, upd_same, by simp [relWs], by simp, fun q hq z => ?_, fun q hq => ?_⟩
        · have := PI.step.keep a o h n
          rw [upd_ne fun z => by rw [z, nD] at this; cases this]
          exact this
        · simp only [List.append_nil, List.cons_append, List.nil_append, List.mem_cons] at ha
          rcases ha with rfl | ha
          · refine .inr ?_
            cases e : H a with
            | none => rfl
            | some o => exact absurd nD (PI.step.live a (by simp [e]))
          · exact PI.step.new a ha
        · have := PI.step.live a h
          by_cases ea : a = D
          · rw [ea, upd_same]; simp
          · rw [upd_ne ea]; exact this
        · simp at hq
          subst hq
          exact lv1 q z nD
        · simp at hq
          subst hq
          exact BD
      have s0 : Same H1 (upd H1 D (.lst [])) := same_new nD
      refine lc_it wk (fun i H' => ∃ B' ws acc fA, Made G B H fp σ env1 B' H' fp1 D ws acc fA ∧ Same B1 B' ∧ Same H1 H' ∧ (∀ q, H1 q ≠ none → B' q = B1 q) ∧ (match mCLP mg mc me (wipeE env1 vs) (ds.drop i) ws with
        | some ws => ∀ H' B' acc fA, Made G B H fp σ env1 B' H' fp1 D ws acc fA → Same H1 H' → (∀ q, H1 q ≠ none → B' q = B1 q) → Q (.ref D) H'
        | none => False)) ?_ ?_ ?_ ?_
      · refine ⟨B1, [], [], [], M0, Same.refl B1, s0, fun _ _ => rfl, ?_⟩
        show match mCLP mg mc me (wipeE env1 vs) ds [] with | some ws => _ | none => False
        cases e2 : mCLP mg mc me (wipeE env1 vs) ds [] with
        | none => rw [e2] at c; exact c.elim
        | some ws =>
          rw [e2] at c
          intro H' B' acc fA M sH sB
          refine c (.ref D) H' B' (D :: fA) fp1 ⟨M.ok, ?_, M.out, M.step, fun _ => ⟨M.nd, M.dis⟩, fun hp => ?_⟩
          · show relW _ _ _ _ _ _
            simp only [relW]
            exact ⟨D, acc, fA, rfl, M.here, M.rel, rfl⟩
          · obtain ⟨a1, a2, a3, a4⟩ := PI.pure hp
            exact ⟨fun a o h => sH a o (a1 a o h), fun q h => (sB q (PI.step.live q h)).trans (a2 q h), a3, a4⟩
      · rintro i H' _ ⟨B', ws, acc, fA, M, sB, _, _, _⟩
        exact gd H' fun a o h => M.ok.sub a o (sB a o h)
      · rintro i x H' H'' hi' ⟨B', ws, acc, fA, M, sB, sH, bB, ct⟩ y
        have hG : Gd H' := gd H' fun a o h => M.ok.sub a o (sB a o h)
        obtain ⟨d, B3, hd, O3, S3, r3, sB3, sH3, bB3⟩ := yd_hand sB M.ok (yd i H' x H'' hi' hG y)
        obtain ⟨M3, _, _⟩ := M.beside (f0 := []) S3 O3
        have ed : ds.drop i = d :: ds.drop (i + 1) := by
          rw [List.drop_eq_getElem_cons hi']
          congr 1
          rw [List.getElem?_eq_getElem hi'] at hd
          exact Option.some.inj hd
        rw [ed] at ct
        obtain ⟨fpW, OW3, subW⟩ := O3.wipe vs
        refine hg B3 H'' (L2.wipe σ vs) (wipeE env1 vs) fpW (.sh d) x [] OW3 (by simp only [relW]; exact ⟨r3, trivial⟩) (by simp) List.nodup_nil (by simp) _ ?_
        simp only [mCLP] at ct
        cases e2 : mg (.sh d) (wipeE env1 vs) with
        | none => rw [e2] at ct; exact ct
        | some r2 =>
          obtain ⟨r2, env2⟩ := r2
          rw [e2] at ct
          cases r2 with
          | ex x => exact ct.elim
          | ok u =>
            intro σ2 H2 B2 fp2 O2 S2 ln2 pin2 pu2
            obtain ⟨sH2, bB2⟩ := pu2 rfl
            have hw : L2.wipe σ2 vs = L2.wipe σ vs := by
              rw [← show L2.wipe (L2.wipe σ vs) vs = L2.wipe σ vs from wipe_eq (wipe_length σ vs) fun i hi => wipe_out hi]
              exact wipe_eq ln2 fun j hj => pin2 j (not_off hj)
            -- the outer frame beside what the turn does
            have outer : ∀ {B5 H5 : Hp} {f5 fp5 : List Addr}, Step B3 H'' fpW B5 H5 (f5 ++ fp5) → Same B5 H5 → Same H'' H5 → (∀ q, H'' q ≠ none → B5 q = B3 q) → (∀ q ∈ f5, H'' q = none) →
                Made G B H fp σ env1 B5 H5 fp1 D ws acc fA ∧ Step B H fp B5 H5 (D :: fA ++ (f5 ++ fp1)) ∧ ∀ q ∈ f5, q ∉ D :: fA := fun S sb sh bb fr => by
              have lv3 := relE_live M3.ok.rel
              exact M3.beside ⟨fun a o h _ => sh a o h, S.bext, fun a h _ => bb a h, fun a ha => by
                rcases List.mem_append.mp ha with ha | ha
                · exact .inr (fr a ha)
                · exact .inl ha, S.live⟩ ⟨sb, relE_frame S.bext M3.ok.rel fun q hq => same_some sh (lv3 q hq), M3.ok.nd, fun q hq => by
                rw [bb q (lv3 q hq)]
                exact M3.ok.out q hq⟩
            refine ⟨hw, hc B2 H2 σ2 env2 fp2 O2 _ ?_⟩
            simp only at ct
            cases e3 : mc env2 with
            | none => rw [e3] at ct; exact ct
            | some r3 =>
              obtain ⟨r3, env3⟩ := r3
              rw [e3] at ct
              cases r3 with
              | ex x => exact ct.elim
              | ok b =>
                intro b' H4 B4 f4 fp4 P4
                obtain ⟨rfl, rfl⟩ := P4.rel
                obtain ⟨sH4, bB4, rfl, rfl⟩ := P4.pure rfl
                have S4 : Step B3 H'' fpW B4 H4 ([] ++ fp4) := Step.trans (S := []) S2 P4.step
                have sHH4 : Same H'' H4 := fun a o h => sH4 a o (sH2 a o h)
                have bBB4 : ∀ q, H'' q ≠ none → B4 q = B3 q := fun q h => (bB4 q (S2.live q h)).trans (bB2 q h)
                cases b with
                | false =>
                  show if false = true then _ else _
                  rw [if_neg Bool.false_ne_true]
                  obtain ⟨M4, _, _⟩ := outer S4 P4.ok.sub sHH4 bBB4 (by simp)
                  exact ⟨B4, ws, acc, fA, M4, fun a o h => S4.bext a o (sB3 a o (sB a o h)), fun a o h => sHH4 a o (sH3 a o (sH a o h)), fun q h => (bBB4 q (by rw [same_some sH3 (by rw [same_some sH h]; exact h), same_some sH h]; exact h)).trans ((bB3 q (by rw [same_some sH h]; exact h)).trans (bB q h)), ct⟩
                | true =>
                  show if true = true then _ else _
                  rw [if_pos rfl]
                  refine he B4 H4 σ2 env3 fp4 P4.ok _ ?_
                  simp only at ct
                  cases e4 : me env3 with
                  | none => rw [e4] at ct; exact ct
                  | some r4 =>
                    obtain ⟨r4, env4⟩ := r4
                    rw [e4] at ct
                    cases r4 with
                    | ex x => exact ct.elim
                    | ok w =>
                      simp only at ct
                      intro v H5 B5 f5 fp5 P5
                      obtain ⟨sH5, bB5, rfl, rfl⟩ := P5.pure rfl
                      obtain ⟨nd5, dis5⟩ := P5.own rfl
                      have S5 : Step B3 H'' fpW B5 H5 (f5 ++ fp5) := Step.trans (S := []) S4 P5.step
                      have sHH5 : Same H'' H5 := fun a o h => sH5 a o (sHH4 a o h)
                      have bBB5 : ∀ q, H'' q ≠ none → B5 q = B3 q := fun q h => (bB5 q (S4.live q h)).trans (bBB4 q h)
                      have fr5 : ∀ q ∈ f5, H4 q = none := fun q hq => by
                        rcases P5.step.new q (by simp [hq]) with z | z
                        · exact absurd z (dis5 q hq)
                        · exact z
                      have fr : ∀ q ∈ f5, H'' q = none := fun q hq => by
                        cases e : H'' q with
                        | none => rfl
                        | some o => exact absurd (fr5 q hq) (S4.live q (by simp [e]))
                      obtain ⟨M5, S5', ne5⟩ := outer S5 P5.ok.sub sHH5 bBB5 fr
                      by_cases hlen : ws.length < 100000
                      · rw [if_pos hlen] at ct
                        have lvO := relE_live M5.ok.rel
                        have M6 := M5.more P5.rel nd5 (fun q hq => ⟨fun z => relE_live M3.ok.rel q z (fr q hq), ne5 q hq⟩) P5.out S5'
                        refine ⟨acc, M5.here, ?_, B5, _, _, _, M6, fun a o h => S5.bext a o (sB3 a o (sB a o h)), fun a o h => ?_, fun q h => (bBB5 q (by rw [same_some sH3 (by rw [same_some sH h]; exact h), same_some sH h]; exact h)).trans ((bB3 q (by rw [same_some sH h]; exact h)).trans (bB q h)), ct⟩
                        · rw [← relWs_length M5.rel]
                          exact Nat.lt_of_lt_of_le hlen (by decide)
                        · rw [upd_ne fun z => by rw [z, nD] at h; cases h]
                          exact sHH5 a o (sH3 a o (sH a o h))
                      · rw [if_neg hlen] at ct
                        exact ct.elim
      · rintro H' ⟨B', ws, acc, fA, M, sB, sH, bB, ct⟩
        rw [List.drop_length] at ct
        exact ct H' B' acc fA M sH bB
end
end AM
set_option Elab.async false
set_option linter.all false
set_option maxRecDepth 100000
namespace AM
open PySem L2
/-- a def as a function of its arguments: the answer, and what its in-out arguments are behind it -/
abbrev MF := List W → Option (Res W × List (Option W))
def ContF (G : GX) (B H : Hp) (vs : List V) (fp : List Addr) (r : Option (Res W × List (Option W))) (Q : VK) (E : XK) : Prop :=
  match r with
  | none => False
  | some (.ok w, outs) => ∀ v H' B' f0 f2, Same B' H' → relW G B' H' w v f0 → relE G B' H' (vs.map some) outs f2 → (f0 ++ f2).Nodup → (∀ q ∈ f0 ++ f2, B' q = none) → Step B H fp B' H' (f0 ++ f2) → Q v H'
  | some (.ex x, outs) => ∀ cls d H' B' f2, Same B' H' → relE G B' H' (vs.map some) outs f2 → f2.Nodup → (∀ q ∈ f2, B' q = none) → Step B H fp B' H' f2 → relX G H' x cls d → (∀ dd, d = some dd → B' dd = none ∧ dd ∉ f2 ∧ H dd = none) → E cls d H'
def spOf (G : GX) (n : Nat) (m : MF) : Sp := fun vs H Q E => vs.length = n ∧ ∃ B ws fp, Same B H ∧ relWs G B H ws vs fp ∧ fp.Nodup ∧ (∀ q ∈ fp, B q = none) ∧ ContF G B H vs fp (m ws) Q E
/-- what can stand at an owned address -/
def ownKind : HO → Bool
  | .lst _ => true
  | .ins _ _ _ => true
  | .own _ => true
  | .dK _ => true
  | .dT _ => true
  | _ => false
section
variable {G : GX} {B H : Hp}
mutual
theorem relW_kind : ∀ {w : W} {v : V} {f : List Addr}, relW G B H w v f → ∀ q ∈ f, ∃ o, H q = some o ∧ ownKind o = true
  | .sh d, v, f, h, q, hq => by
    simp only [relW] at h
    rw [h.2] at hq
    simp at hq
  | .ol ws, v, f, h, q, hq => by
    simp only [relW] at h
    obtain ⟨p, vs, g, h1, h2, h3, rfl⟩ := h
    rcases List.mem_cons.mp hq with rfl | hq
    · exact ⟨_, h2, rfl⟩
    · exact relWs_kind h3 q hq
  | .ot ws, v, f, h, q, hq => by
    simp only [relW] at h
    obtain ⟨p, vs, h1, h2, h3⟩ := h
    exact relWs_kind h3 q hq
  | .ob c fs ws, v, f, h, q, hq => by
    simp only [relW] at h
    obtain ⟨p, dx, C, vs, g, h1, h2, h3, h4, h5, h6, rfl⟩ := h
    rcases List.mem_cons.mp hq with rfl | hq
    · exact ⟨_, h3, rfl⟩
    · rcases List.mem_cons.mp hq with rfl | hq
      · exact ⟨_, h4, rfl⟩
      · exact relWs_kind h6 q hq
  | .dk ks ws, v, f, h, q, hq => by
    simp only [relW] at h
    obtain ⟨p, vs, g, h1, h2, h3, h4, rfl⟩ := h
    rcases List.mem_cons.mp hq with rfl | hq
    · exact ⟨_, h2, rfl⟩
    · exact relWs_kind h4 q hq
  | .dt ks ws, v, f, h, q, hq => by
    simp only [relW] at h
    obtain ⟨p, vs, g, h1, h2, h3, h4, rfl⟩ := h
    rcases List.mem_cons.mp hq with rfl | hq
    · exact ⟨_, h2, rfl⟩
    · exact relWs_kind h4 q hq
theorem relWs_kind : ∀ {ws : List W} {vs : List V} {f : List Addr}, relWs G B H ws vs f → ∀ q ∈ f, ∃ o, H q = some o ∧ ownKind o = true
  | [], _, _, h, q, hq => by
    simp only [relWs] at h
    rw [h.2] at hq
    simp at hq
  | w :: ws, vs, f, h, q, hq => by
    simp only [relWs] at h
    obtain ⟨v, r, g1, g2, h1, h2, h3, rfl⟩ := h
    rcases List.mem_append.mp hq with hq | hq
    · exact relW_kind h2 q hq
    · exact relWs_kind h3 q hq
end
theorem relE_kind : ∀ {env : Env} {σ : St} {f : List Addr}, relE G B H σ env f → ∀ q ∈ f, ∃ o, H q = some o ∧ ownKind o = true
  | [], _, _, h, q, hq => by
    rw [h.2] at hq
    simp at hq
  | w :: env, σ, f, h, q, hq => by
    obtain ⟨o, τ, f1, f2, h1, h2, h3, rfl⟩ := h
    rcases List.mem_append.mp hq with hq | hq
    · cases w with
      | none =>
        rw [show f1 = [] from h2] at hq
        simp at hq
      | some w =>
        obtain ⟨v, _, h2⟩ := h2
        exact relW_kind h2 q hq
    · exact relE_kind h3 q hq
end
mutual
def D.imm : D → Bool
  | .non => true
  | .bl _ => true
  | .int _ => true
  | .str _ => true
  | .lst _ => false
  | .tup ds => D.imms ds
  | .exc _ ds => D.imms ds
  | .scr _ => false
  | .fn _ => true
  | .obj _ _ _ => false
def D.imms : List D → Bool
  | [] => true
  | d :: ds => D.imm d && D.imms ds
end
mutual
def W.closed : W → Bool
  | .sh d => d.imm
  | .ol ws => W.closeds ws
  | .ot ws => W.closeds ws
  | .ob _ _ ws => W.closeds ws
  | .dk _ ws => W.closeds ws
  | .dt _ ws => W.closeds ws
def W.closeds : List W → Bool
  | [] => true
  | w :: ws => W.closed w && W.closeds ws
end
def outsClosed : List (Option W) → Bool
  | [] => true
  | none :: r => outsClosed r
  | some w :: r => w.closed && outsClosed r
/-- the ground without what was lent -/
def ung (B : Hp) (F : List Addr) : Hp := fun a => if a ∈ F then none else B a
section
variable {G : GX} {B H : Hp} {F : List Addr}
theorem ung_out {a : Addr} (h : a ∉ F) : ung B F a = B a := if_neg h
theorem ung_in {a : Addr} (h : a ∈ F) : ung B F a = none := if_pos h
theorem ung_sub : Same (ung B F) B := fun a o h => by
  unfold ung at h
  split at h
  · cases h
  · exact h
mutual
theorem repD_ung (hF : ∀ a ∈ F, ∀ o, B a = some o → ownKind o = true) : ∀ {d : D} {v : V}, d.imm = true → repD G B d v → repD G (ung B F) d v
  | .non, _, _, h => by simpa [repD] using h
  | .bl _, _, _, h => by simpa [repD] using h
  | .int _, _, _, h => by simpa [repD] using h
  | .str _, _, _, h => by simpa [repD] using h
  | .lst ds, v, i, h => by simp [D.imm] at i
  | .scr ds, v, i, h => by simp [D.imm] at i
  | .fn c, v, i, h => by
    simp only [repD] at h ⊢
    exact h
  | .tup ds, v, i, h => by
    simp only [repD] at h ⊢
    simp only [D.imm] at i
    obtain ⟨a, vs, h1, h2, h3⟩ := h
    refine ⟨a, vs, h1, ?_, repDs_ung hF i h3⟩
    rcases h2 with (h2 | ⟨o, h2⟩) | h2
    · refine .inl (.inl ?_)
      rw [ung_out fun z => by have := hF a z _ h2; cases this]
      exact h2
    · refine .inl (.inr ⟨o, ?_⟩)
      rw [ung_out fun z => by have := hF a z _ h2; cases this]
      exact h2
    · exact .inr h2
  | .exc c ds, v, i, h => by
    simp only [repD] at h ⊢
    simp only [D.imm] at i
    obtain ⟨a, C, d, h1, h2, h3, h4⟩ := h
    refine ⟨a, C, d, h1, h2, ?_, ?_⟩
    · rw [ung_out fun z => by have := hF a z _ h3; cases this]
      exact h3
    · rcases h4 with h4 | ⟨dd, x, h5, h6, h7⟩
      · exact .inl h4
      · refine .inr ⟨dd, x, h5, ?_, repDs_ung hF i h7⟩
        rw [ung_out fun z => by have := hF dd z _ h6; cases this]
        exact h6
theorem repDs_ung (hF : ∀ a ∈ F, ∀ o, B a = some o → ownKind o = true) : ∀ {ds : List D} {vs : List V}, D.imms ds = true → repDs G B ds vs → repDs G (ung B F) ds vs
  | [], _, _, h => by simpa [repDs] using h
  | d :: ds, vs, i, h => by
    simp only [repDs] at h ⊢
    simp only [D.imms, Bool.and_eq_true] at i
    obtain ⟨v, r, h1, h2, h3⟩ := h
    exact ⟨v, r, h1, repD_ung hF i.1 h2, repDs_ung hF i.2 h3⟩
end
mutual
theorem relW_ung (hF : ∀ a ∈ F, ∀ o, B a = some o → ownKind o = true) : ∀ {w : W} {v : V} {f : List Addr}, w.closed = true → relW G B H w v f → relW G (ung B F) H w v f
  | .sh d, v, f, i, h => by
    simp only [relW] at h ⊢
    simp only [W.closed] at i
    exact ⟨repD_ung hF i h.1, h.2⟩
  | .ol ws, v, f, i, h => by
    simp only [relW] at h ⊢
    simp only [W.closed] at i
    obtain ⟨p, vs, g, h1, h2, h3, h4⟩ := h
    exact ⟨p, vs, g, h1, h2, relWs_ung hF i h3, h4⟩
  | .ot ws, v, f, i, h => by
    simp only [relW] at h ⊢
    simp only [W.closed] at i
    obtain ⟨p, vs, h1, h2, h3⟩ := h
    refine ⟨p, vs, h1, ?_, relWs_ung hF i h3⟩
    rw [ung_out fun z => by have := hF p z _ h2; cases this]
    exact h2
  | .ob c fs ws, v, f, i, h => by
    simp only [relW] at h ⊢
    simp only [W.closed] at i
    obtain ⟨p, dx, C, vs, g, h1, h2, h3, h4, h5, h6, h7⟩ := h
    exact ⟨p, dx, C, vs, g, h1, h2, h3, h4, h5, relWs_ung hF i h6, h7⟩
  | .dk ks ws, v, f, i, h => by
    simp only [relW] at h ⊢
    simp only [W.closed] at i
    obtain ⟨p, vs, g, h1, h2, h3, h4, h5⟩ := h
    exact ⟨p, vs, g, h1, h2, h3, relWs_ung hF i h4, h5⟩
  | .dt ks ws, v, f, i, h => by
    simp only [relW] at h ⊢
    simp only [W.closed] at i
    obtain ⟨p, vs, g, h1, h2, h3, h4, h5⟩ := h
    exact ⟨p, vs, g, h1, h2, h3, relWs_ung hF i h4, h5⟩
theorem relWs_ung (hF : ∀ a ∈ F, ∀ o, B a = some o → ownKind o = true) : ∀ {ws : List W} {vs : List V} {f : List Addr}, W.closeds ws = true → relWs G B H ws vs f → relWs G (ung B F) H ws vs f
  | [], _, _, _, h => by simpa [relWs] using h
  | w :: ws, vs, f, i, h => by
    simp only [relWs] at h ⊢
    simp only [W.closeds, Bool.and_eq_true] at i
    obtain ⟨v, r, g1, g2, h1, h2, h3, h4⟩ := h
    exact ⟨v, r, g1, g2, h1, relW_ung hF i.1 h2, relWs_ung hF i.2 h3, h4⟩
end
theorem relE_ung (hF : ∀ a ∈ F, ∀ o, B a = some o → ownKind o = true) : ∀ {env : Env} {σ : St} {f : List Addr}, outsClosed env = true → relE G B H σ env f → relE G (ung B F) H σ env f
  | [], _, _, _, h => h
  | w :: env, σ, f, i, h => by
    obtain ⟨o, τ, f1, f2, h1, h2, h3, h4⟩ := h
    cases w with
    | none => exact ⟨o, τ, f1, f2, h1, h2, relE_ung hF i h3, h4⟩
    | some w =>
      simp only [outsClosed, Bool.and_eq_true] at i
      obtain ⟨v, h5, h6⟩ := h2
      exact ⟨o, τ, f1, f2, h1, ⟨v, h5, relW_ung hF i.1 h6⟩, relE_ung hF i.2 h3, h4⟩
end
inductive AW where
  | own (w : W)
  | bor (p : Path)
  | io (p : Path)
section
variable (G : GX)
def relA (B H : Hp) (σ : St) : AW → V → List Addr → Prop
  | .own w, v, f => relW G B H w v f
  | .bor p, v, f => locE H σ p v ∧ f = []
  | .io p, v, f => locE H σ p v ∧ f = []
def relAs (B H : Hp) (σ : St) : List AW → List V → List Addr → Prop
  | [], vs, f => vs = [] ∧ f = []
  | a :: as, vs, f => ∃ v r f1 f2, vs = v :: r ∧ relA G B H σ a v f1 ∧ relAs B H σ as r f2 ∧ f = f1 ++ f2
structure PostA (p : Bool) (B H : Hp) (σ : St) (env : Env) (fp : List Addr) (as : List AW) (env' : Env) (vs : List V) (H' B' : Hp) (f0 fp2 : List Addr) : Prop where
  ok : Ok G B' H' σ env' fp2
  rel : relAs G B' H' σ as vs f0
  out : ∀ q ∈ f0, B' q = none
  step : Step B H fp B' H' (f0 ++ fp2)
  own : f0.Nodup ∧ ∀ q ∈ f0, q ∉ fp2
  pure : p = true → Same H H' ∧ (∀ q, H q ≠ none → B' q = B q) ∧ env' = env ∧ fp2 = fp
def SimA (p : Bool) (Wx : WX) (t : TA) (m : ME (List AW)) : Prop := ∀ B H σ env fp, Ok G B H σ env fp → ∀ Q : List V → Hp → Prop,
  (match m env with
  | none => False
  | some (.ok as, env') => ∀ vs H' B' f0 fp2, PostA G p B H σ env fp as env' vs H' B' f0 fp2 → Q vs H'
  | some (.ex x, env') => ∀ cls d H' B' fp2, Ok G B' H' σ env' fp2 → Step B H fp B' H' fp2 → relX G H' x cls d → (∀ dd, d = some dd → B' dd = none ∧ dd ∉ fp2 ∧ H dd = none) → Wx cls d σ H') → t σ H Q
end
def SAw (X : Cx) (Wx : WX) (p : Bool) (es : List Expr) (m : ME (List AW)) : Prop := ∃ t : TA, PA X es t ∧ SimA (gx X) p Wx t m
def wNil : ME (List AW) := ME.pure []
def wOwn (m : ME W) (r : ME (List AW)) : ME (List AW) := m.bind fun w => r.bind fun as => ME.pure (.own w :: as)
def wLoc (mk : Path → AW) (m : ME Path) (r : ME (List AW)) : ME (List AW) := fun env => match m env with
  | some (.ok pa, e) => (r.bind fun as => ME.pure (mk pa :: as)) e
  | _ => none
def wBor := wLoc AW.bor
def wIo := wLoc AW.io
section
variable {G : GX} {Wx : WX} {p p1 p2 : Bool} {t : TE} {u : TA} {m : ME W} {ml : ME Path} {r : ME (List AW)}
theorem relAs_live {B H : Hp} {σ : St} : ∀ {as : List AW} {vs : List V} {f : List Addr}, relAs G B H σ as vs f → ∀ q ∈ f, H q ≠ none
  | [], _, _, h, q, hq => by
    rw [h.2] at hq
    simp at hq
  | a :: as, vs, f, h, q, hq => by
    obtain ⟨v, r, f1, f2, _, h2, h3, rfl⟩ := h
    rcases List.mem_append.mp hq with hq | hq
    · cases a with
      | own w => exact relW_live h2 q hq
      | bor p => rw [h2.2] at hq; simp at hq
      | io p => rw [h2.2] at hq; simp at hq
    · exact relAs_live h3 q hq
theorem simA_nil : SimA G true Wx tNil wNil := fun B H σ env fp O Q c => c [] H B [] fp ⟨O, ⟨rfl, rfl⟩, by simp, Step.refl (by simp), ⟨List.nodup_nil, by simp⟩, fun _ => ⟨Same.refl H, fun _ _ => rfl, rfl, rfl⟩⟩
theorem simA_own (h1 : Sim G true p1 Wx (rW G) t m) (h2 : SimA G p2 Wx u r) : SimA G (p1 && p2) Wx (tCons t u) (wOwn m r) := by
  intro B H σ env fp O Q c
  refine h1 B H σ env fp O _ ?_
  unfold wOwn ME.bind at c
  cases e1 : m env with
  | none => rw [e1] at c; exact c
  | some r1 =>
    obtain ⟨r1, env1⟩ := r1
    rw [e1] at c
    cases r1 with
    | ex x => exact c
    | ok w =>
      intro v H1 B1 f1 fp1 P1
      refine h2 B1 H1 σ env1 fp1 P1.ok _ ?_
      simp only at c
      cases e2 : r env1 with
      | none => rw [e2] at c; exact c
      | some r2 =>
        obtain ⟨r2, env2⟩ := r2
        rw [e2] at c
        cases r2 with
        | ex x =>
          intro cls d H2 B2 fp2 O2 S2 hx hd
          refine c cls d H2 B2 fp2 O2 (P1.step.drop.trans S2) hx fun dd e => ?_
          obtain ⟨a1, a2, a3⟩ := hd dd e
          refine ⟨a1, a2, ?_⟩
          cases q : H dd with
          | none => rfl
          | some o => exact absurd a3 (P1.step.live dd (by simp [q]))
        | ok as =>
          intro vs H2 B2 f2 fp2 P2
          have r1 : relW G B1 H1 w v f1 := P1.rel
          have live1 := relW_live r1
          obtain ⟨n1, d1⟩ := P1.own rfl
          obtain ⟨n2, d2⟩ := P2.own
          have kp : ∀ q ∈ f1, H2 q = H1 q := fun q hq => by
            cases e : H1 q with
            | none => exact absurd e (live1 q hq)
            | some o => exact P2.step.keep q o e (d1 q hq)
          have dis : ∀ q ∈ f1, q ∉ f2 ++ fp2 := fun q hq z => by
            rcases P2.step.new q z with z | z
            · exact d1 q hq z
            · exact live1 q hq z
          refine c (v :: vs) H2 B2 (f1 ++ f2) fp2 ⟨P2.ok, ⟨v, vs, f1, f2, rfl, relW_frame P2.step.bext r1 kp, P2.rel, rfl⟩, fun q hq => ?_, ?_, ⟨?_, fun q hq z => ?_⟩, fun hp => ?_⟩
          · rcases List.mem_append.mp hq with hq | hq
            · rw [P2.step.bold q (live1 q hq) (d1 q hq)]
              exact P1.out q hq
            · exact P2.out q hq
          · rw [List.append_assoc]
            exact P1.step.trans P2.step
          · exact List.nodup_append.mpr ⟨n1, n2, fun a ha b hb e => by subst e; exact dis a ha (by simp [hb])⟩
          · rcases List.mem_append.mp hq with hq | hq
            · exact dis q hq (by simp [z])
            · exact d2 q hq z
          · simp only [Bool.and_eq_true] at hp
            obtain ⟨s1, b1, v1, u1⟩ := P1.pure hp.1
            obtain ⟨s2, b2, v2, u2⟩ := P2.pure hp.2
            exact ⟨fun q o h => s2 q o (s1 q o h), fun q h => (b2 q (P1.step.live q h)).trans (b1 q h), v2.trans v1, u2.trans u1⟩
theorem simA_loc {mk : Path → AW} (hmk : ∀ B H σ pa v, locE H σ pa v → relA G B H σ (mk pa) v []) (h1 : SimL G t ml) (h2 : SimA G p2 Wx u r) (hc : p2 = true ∨ Root ml) : SimA G p2 Wx (tCons t u) (wLoc mk ml r) := by
  intro B H σ env fp O Q c
  refine h1 B H σ env fp O _ ?_
  unfold wLoc at c
  cases e1 : ml env with
  | none => rw [e1] at c; exact c
  | some r1 =>
    obtain ⟨r1, env1⟩ := r1
    rw [e1] at c
    cases r1 with
    | ex x => exact c.elim
    | ok pa =>
      intro v H1 B1 ee O1 S1 s1 b1 L1
      subst ee
      simp only [ME.bind] at c
      refine h2 B1 H1 σ env1 fp O1 _ ?_
      cases e2 : r env1 with
      | none => rw [e2] at c; exact c
      | some r2 =>
        obtain ⟨r2, env2⟩ := r2
        rw [e2] at c
        cases r2 with
        | ex x =>
          intro cls d H2 B2 fp2 O2 S2 hx hd
          refine c cls d H2 B2 fp2 O2 (S1.trans (S := []) S2) hx fun dd e => ?_
          obtain ⟨a1, a2, a3⟩ := hd dd e
          refine ⟨a1, a2, ?_⟩
          cases q : H dd with
          | none => rfl
          | some o => exact absurd a3 (S1.live dd (by simp [q]))
        | ok as =>
          intro vs H2 B2 f2 fp2 P2
          have L2 : locE H2 σ pa v := by
            rcases hc with hc | hc
            · exact locE_mono (P2.pure hc).1 L1
            · obtain ⟨v0, q1, q2⟩ := L1
              have := hc _ _ _ e1
              rw [this] at q2
              exact ⟨v0, q1, by rw [this]; exact q2⟩
          refine c (v :: vs) H2 B2 f2 fp2 ⟨P2.ok, ⟨v, vs, [], f2, rfl, hmk _ _ _ _ _ L2, P2.rel, rfl⟩, P2.out, Step.trans (S := []) S1 P2.step, P2.own, fun hp => ?_⟩
          obtain ⟨s2, b2, v2, u2⟩ := P2.pure hp
          exact ⟨fun q o h => s2 q o (s1 q o h), fun q h => (b2 q (S1.live q h)).trans (b1 q h), v2, u2⟩
end
section
variable {X : Cx} {Wx : WX} {p p1 p2 : Bool} {e : Expr} {es : List Expr} {m : ME W} {ml : ME Path} {r : ME (List AW)}
theorem sw_nil : SAw X Wx true [] wNil := ⟨_, pa_nil, simA_nil⟩
theorem sw_own (h : SE X Wx true p1 e m) (hr : SAw X Wx p2 es r) (hs : starEach (e :: es) X.env = (false, eval e X.env) :: starEach es X.env := by rfl) : SAw X Wx (p1 && p2) (e :: es) (wOwn m r) := by
  obtain ⟨t, pe, s⟩ := h
  obtain ⟨u, pr, sr⟩ := hr
  exact ⟨_, pa_cons pe pr hs, simA_own s sr⟩
theorem sw_bor (h : SL X e ml) (hr : SAw X Wx p2 es r) (hc : p2 = true ∨ Root ml) (hs : starEach (e :: es) X.env = (false, eval e X.env) :: starEach es X.env := by rfl) : SAw X Wx p2 (e :: es) (wBor ml r) := by
  obtain ⟨t, pe, s⟩ := h
  obtain ⟨u, pr, sr⟩ := hr
  exact ⟨_, pa_cons pe pr hs, simA_loc (fun _ _ _ _ _ h => ⟨h, rfl⟩) s sr hc⟩
theorem sw_io (h : SL X e ml) (hr : SAw X Wx p2 es r) (hc : p2 = true ∨ Root ml) (hs : starEach (e :: es) X.env = (false, eval e X.env) :: starEach es X.env := by rfl) : SAw X Wx p2 (e :: es) (wIo ml r) := by
  obtain ⟨t, pe, s⟩ := h
  obtain ⟨u, pr, sr⟩ := hr
  exact ⟨_, pa_cons pe pr hs, simA_loc (fun _ _ _ _ _ h => ⟨h, rfl⟩) s sr hc⟩
end
def ioOf : List AW → Option (Nat × Path)
  | [] => none
  | .io p :: _ => some (0, p)
  | _ :: as => (ioOf as).map fun q => (q.1 + 1, q.2)
def ioCount : List AW → Nat
  | [] => 0
  | .io _ :: as => ioCount as + 1
  | _ :: as => ioCount as
def hasBor : List AW → Bool
  | [] => false
  | .bor _ :: _ => true
  | _ :: as => hasBor as
/-- the arguments' trees: what is lent to be read is data -/
def argWs (env : Env) (wio : Option W) : List AW → Option (List W)
  | [] => some []
  | .own w :: as => (argWs env wio as).map (w :: ·)
  | .bor p :: as => match (getE env p).bind W.toD, argWs env wio as with
    | some d, some ws => some (.sh d :: ws)
    | _, _ => none
  | .io _ :: as => match wio, argWs env wio as with
    | some w, some ws => some (w :: ws)
    | _, _ => none
def resClosed : Res W → Bool
  | .ok w => w.closed
  | .ex _ => true
/-- without in-out arguments -/
def callK0 (mf : MF) (as : List AW) : ME W := fun env => match ioOf as with
  | some _ => none
  | none => match argWs env none as with
    | none => none
    | some ws => match mf ws with
      | none => none
      | some (r, _) => if hasBor as && !resClosed r then none else some (r, env)
def callK1 (mf : MF) (as : List AW) (i : Nat) (p : Path) : ME W := fun env => match getE env p with
  | none => none
  | some w => match argWs (env.set p.1 none) (some w) as with
    | none => none
    | some ws => match mf ws with
      | none => none
      | some (r, outs) => if hasBor as && !(resClosed r && outsClosed outs) then none else match outs[i]? with
        | some (some w') => (setE env p w').map fun e => (r, e)
        | _ => none
section
variable {G : GX}
theorem no_io : ∀ {as : List AW}, ioCount as = 0 → ioOf as = none
  | [], _ => rfl
  | .own w :: as, h => by simp only [ioCount] at h; simp [ioOf, no_io h]
  | .bor w :: as, h => by simp only [ioCount] at h; simp [ioOf, no_io h]
  | .io w :: as, h => by simp [ioCount] at h
theorem argWs_no {env : Env} : ∀ {as : List AW}, ioOf as = none → ∀ o : Option W, argWs env o as = argWs env none as
  | [], _, _ => rfl
  | .own w :: as, h, o => by
    simp only [argWs]
    rw [argWs_no (by simpa [ioOf] using h) o]
  | .bor w :: as, h, o => by
    simp only [argWs]
    rw [argWs_no (by simpa [ioOf] using h) o]
  | .io w :: as, h, o => by simp [ioOf] at h
/-- the arguments' trees, seen by the callee -/
theorem argWs_rel {B H B2 : Hp} {σ : St} {env : Env} {fp : List Addr} {wio : Option W} {vio : V} {gio : List Addr} (sub : Same B H) (rE : relE G B H σ env fp) (sB : Same B B2)
    (hio : ∀ w, wio = some w → relW G B2 H w vio gio) : ∀ {as : List AW} {vs : List V} {f : List Addr} {ws : List W}, (hasBor as = true → ∀ q ∈ fp, B2 q = H q) → relAs G B H σ as vs f → argWs env wio as = some ws → (∀ i p, ioOf as = some (i, p) → ioCount as = 1 ∧ vs[i]? = some vio) → (ioOf as = none → gio = []) →
      ∃ fa, relWs G B2 H ws vs fa ∧ (∀ q, q ∈ fa ↔ q ∈ f ∨ q ∈ gio) ∧ (f.Nodup → gio.Nodup → (∀ q ∈ f, q ∉ gio) → fa.Nodup)
  | [], vs, f, ws, _, r, e, _, hn => by
    obtain ⟨rfl, rfl⟩ := r
    simp only [argWs, Option.some.injEq] at e
    subst e
    exact ⟨[], by simp [relWs], by simp [hn rfl], by simp⟩
  | .own w :: as, vs, f, ws, hF, r, e, hi, hn => by
    obtain ⟨v, rr, f1, f2, rfl, r1, r2, rfl⟩ := r
    simp only [argWs, Option.map_eq_some_iff] at e
    obtain ⟨ws', e1, rfl⟩ := e
    obtain ⟨fa, k1, k2, k3⟩ := argWs_rel (as := as) sub rE sB hio (fun h => hF h) r2 e1 (fun i p h => by
      have := hi (i + 1) p (by simp [ioOf, h])
      exact ⟨by simpa [ioCount] using this.1, by simpa using this.2⟩) (fun h => hn (by simp [ioOf, h]))
    refine ⟨f1 ++ fa, ?_, fun q => ?_, fun n1 n2 n3 => ?_⟩
    · simp only [relWs]
      exact ⟨v, rr, f1, fa, rfl, relW_frame sB r1 (fun _ _ => rfl), k1, rfl⟩
    · simp only [List.mem_append, k2]
      grind
    · simp only [List.nodup_append, List.mem_append] at n1 n3 ⊢
      refine ⟨n1.1, k3 n1.2.1 n2 fun q hq => n3 q (.inr hq), fun a ha b hb => ?_⟩
      rcases (k2 b).mp hb with z | z
      · exact n1.2.2 a ha b z
      · intro e
        subst e
        exact n3 a (.inl ha) z
  | .bor p :: as, vs, f, ws, hF, r, e, hi, hn => by
    obtain ⟨v, rr, f1, f2, rfl, r1, r2, rfl⟩ := r
    obtain ⟨r1, rfl⟩ := r1
    simp only [argWs] at e
    split at e
    · rename_i d ws' h1 h2
      cases e
      simp only [Option.bind_eq_some_iff] at h1
      obtain ⟨w, h3, h4⟩ := h1
      obtain ⟨a1, g, a2, rfl, rw', _⟩ := relE_zip sub rE h3 r1
      obtain ⟨fa, k1, k2, k3⟩ := argWs_rel (as := as) sub rE sB hio (fun _ => hF rfl) r2 h2 (fun i p h => by
        have := hi (i + 1) p (by simp [ioOf, h])
        exact ⟨by simpa [ioCount] using this.1, by simpa using this.2⟩) (fun h => hn (by simp [ioOf, h]))
      refine ⟨fa, ?_, fun q => by simp [k2], fun n1 n2 n3 => k3 (by simpa using n1) n2 (by simpa using n3)⟩
      simp only [relWs]
      exact ⟨v, rr, [], fa, rfl, by simp only [relW]; exact ⟨relW_toD sB rw' h4 fun q hq => hF rfl q (by simp [hq]), trivial⟩, k1, rfl⟩
    · cases e
  | .io p :: as, vs, f, ws, hF, r, e, hi, hn => by
    obtain ⟨v, rr, f1, f2, rfl, r1, r2, rfl⟩ := r
    obtain ⟨r1, rfl⟩ := r1
    simp only [argWs] at e
    cases wio with
    | none => simp at e
    | some w =>
      cases h2 : argWs env (some w) as with
      | none => rw [h2] at e; simp at e
      | some ws' =>
        rw [h2] at e
        simp only [Option.some.injEq] at e
        subst e
        have hi0 := hi 0 p rfl
        have hv : v = vio := by simpa using hi0.2
        subst hv
        have hc : ioCount as = 0 := by simpa [ioCount] using hi0.1
        have hno := no_io hc
        have h2' : argWs env none as = some ws' := by rw [← argWs_no hno (some w)]; exact h2
        obtain ⟨fa, k1, k2, k3⟩ := argWs_rel (as := as) (wio := none) (vio := .non) (gio := []) sub rE sB (fun _ h => by cases h) (fun h => hF h) r2 h2' (fun i p h => by rw [hno] at h; cases h) (fun _ => rfl)
        refine ⟨gio ++ fa, ?_, fun q => ?_, fun n1 n2 n3 => ?_⟩
        · simp only [relWs]
          exact ⟨v, rr, gio, fa, rfl, hio w rfl, k1, rfl⟩
        · simp only [List.mem_append, k2]
          grind
        · simp only [List.nil_append] at n1 n3 ⊢
          refine List.nodup_append.mpr ⟨n2, k3 n1 List.nodup_nil (by simp), fun a ha b hb e => ?_⟩
          subst e
          rcases (k2 a).mp hb with z | z
          · exact n3 a z ha
          · simp at z
end
end AM
set_option Elab.async false
set_option linter.all false
set_option maxRecDepth 100000
namespace AM
open PySem L2
section
variable {G : GX} {Wx : WX} {p : Bool} {ta : TA} {ma : ME (List AW)} {mf : MF} {n : Nat}
theorem relE_zip2 {B H : Hp} {σ : St} {env : Env} (sub : Same B H) {path : Path} {w0 : W} {v0 : V} {fp : List Addr} (r : relE G B H σ env fp) (e : getE env path = some w0) (l : locE H σ path v0) :
    ∃ f1 g f2 F, fp = f1 ++ (g ++ f2) ∧ relW G B H w0 v0 g ∧ relE G B H σ (env.set path.1 none) F ∧ (∀ q ∈ F, q ∈ f1 ∨ q ∈ f2) ∧ ∀ (B' H' : Hp) (w' : W) (g' : List Addr), Same B B' → (∀ q ∈ f1, H' q = H q) → (∀ q ∈ f2, H' q = H q) → relW G B' H' w' v0 g' →
      ∃ env', setE env path w' = some env' ∧ relE G B' H' σ env' (f1 ++ (g' ++ f2)) := by
  unfold getE at e
  split at e
  · rename_i w hw
    obtain ⟨v, hv, lv⟩ := l
    obtain ⟨e1, e2, s1, o, s2, f1, g, f2, rfl, rfl, l1, l2, rfl, r1, ⟨u, rfl, r2⟩, r3⟩ := relE_split r hw
    rw [get_mid l2] at hv
    have : u = v := Option.some.inj (Option.some.inj hv)
    subst this
    obtain ⟨a1, a0, a2, rfl, ra, k⟩ := relW_zip sub r2 e lv
    refine ⟨f1 ++ a1, a0, a2 ++ f2, f1 ++ ([] ++ f2), by simp, ra, ?_, ?_, fun B' H' w' g' sB q1 q2 r' => ?_⟩
    · rw [set_mid l1]
      exact relE_join r1 rfl r3
    · intro q hq
      simp only [List.nil_append, List.mem_append] at hq ⊢
      grind
    · obtain ⟨z, z1, z2⟩ := k B' H' w' g' sB (fun q hq => q1 q (by simp [hq])) (fun q hq => q2 q (by simp [hq])) r'
      refine ⟨(e1 ++ some w :: e2).set path.1 (some z), ?_, ?_⟩
      · unfold setE
        rw [get_mid l1]
        simp only [z1, Option.map_some]
      · rw [set_mid l1]
        have := relE_join (relE_frame sB r1 fun q hq => q1 q (by simp [hq])) (show relS G B' H' (some u) (some z) _ from ⟨u, rfl, z2⟩) (relE_frame sB r3 fun q hq => q2 q (by simp [hq]))
        simpa using this
  · cases e
theorem none_back {H H' : Hp} (h : ∀ a, H a ≠ none → H' a ≠ none) {a : Addr} (n : H' a = none) : H a = none := by
  cases e : H a with
  | none => rfl
  | some o => exact absurd n (h a (by simp [e]))
def lend (b : Bool) (B H : Hp) (F : List Addr) : Hp := if b then grd B H F else B
def unlend (b : Bool) (B : Hp) (F : List Addr) : Hp := if b then ung B F else B
theorem lend_ext {b : Bool} {B H : Hp} {F : List Addr} (h : ∀ q ∈ F, B q = none) : Same B (lend b B H F) := by
  cases b
  · exact Same.refl B
  · exact grd_bext h
theorem lend_sub {b : Bool} {B H : Hp} {F : List Addr} (h : Same B H) : Same (lend b B H F) H := by
  cases b
  · exact h
  · exact grd_sub h
theorem lend_out {b : Bool} {B H : Hp} {F : List Addr} {a : Addr} (h : a ∉ F) : lend b B H F a = B a := by
  cases b
  · rfl
  · exact grd_out h
theorem unlend_out {b : Bool} {B : Hp} {F : List Addr} {a : Addr} (h : a ∉ F) : unlend b B F a = B a := by
  cases b
  · rfl
  · exact ung_out h
theorem unlend_sub {b : Bool} {B : Hp} {F : List Addr} : Same (unlend b B F) B := by
  cases b
  · exact Same.refl B
  · exact ung_sub
/-- what a callee leaves, seen by its caller: fp the caller's owned addresses, F those lent, g those lent to be changed, f0 those handed over -/
structure Left (b : Bool) (B H : Hp) (F f0 g : List Addr) (B' H' : Hp) (S : List Addr) : Prop where
  bext : Same B (unlend b B' F)
  sub : Same (unlend b B' F) H'
  keep : ∀ q, H q ≠ none → q ∉ f0 → q ∉ g → H' q = H q
  bold : ∀ q, H q ≠ none → q ∉ f0 → q ∉ g → q ∉ F → unlend b B' F q = B q
  lent : ∀ q ∈ F, unlend b B' F q = none
  kind : b = true → ∀ a ∈ F, ∀ o, B' a = some o → ownKind o = true
theorem left_of {b : Bool} {B H B' H' : Hp} {F f0 g fa S : List Addr} (s : Same B H) (oF : ∀ q ∈ F, B q = none) (lF : ∀ q ∈ F, ∃ o, H q = some o ∧ ownKind o = true) (d0 : ∀ q ∈ F, q ∉ f0 ∧ q ∉ g) (hfa : ∀ q, q ∈ fa ↔ q ∈ f0 ∨ q ∈ g) (s' : Same B' H') (st : Step (lend b B H F) H fa B' H' S)
    : Left b B H F f0 g B' H' S := by
  have nf : ∀ q ∈ F, q ∉ fa := fun q hq z => ((hfa q).mp z).elim (d0 q hq).1 (d0 q hq).2
  have lv : ∀ q ∈ F, H q ≠ none := fun q hq => by
    obtain ⟨o, h, _⟩ := lF q hq
    simp [h]
  refine ⟨fun a o h => ?_, fun a o h => s' a o (unlend_sub a o h), fun q h n1 n2 => ?_, fun q h n1 n2 n3 => ?_, fun q hq => ?_, fun hb a ha o h => ?_⟩
  · have hF : a ∉ F := fun z => by rw [oF a z] at h; cases h
    rw [unlend_out hF]
    exact st.bext a o (by rw [lend_out hF]; exact h)
  · cases e : H q with
    | none => exact absurd e h
    | some o => exact st.keep q o e fun z => ((hfa q).mp z).elim n1 n2
  · rw [unlend_out n3, st.bold q h fun z => ((hfa q).mp z).elim n1 n2, lend_out n3]
  · cases b with
    | true => exact ung_in hq
    | false =>
      show B' q = none
      rw [st.bold q (lv q hq) (nf q hq)]
      exact oF q hq
  · subst hb
    rw [st.bold a (lv a ha) (nf a ha)] at h
    obtain ⟨o', h1, h2⟩ := lF a ha
    have : lend true B H F a = H a := grd_in ha
    rw [this, h1] at h
    cases h
    exact h2
theorem relW_back {b : Bool} {B' H' : Hp} {F : List Addr} {w : W} {v : V} {f : List Addr} (hk : b = true → ∀ a ∈ F, ∀ o, B' a = some o → ownKind o = true) (hc : b = true → w.closed = true) (r : relW G B' H' w v f) : relW G (unlend b B' F) H' w v f := by
  cases b with
  | false => exact r
  | true => exact relW_ung (hk rfl) (hc rfl) r
theorem relE_back {b : Bool} {B' H' : Hp} {F : List Addr} {env : Env} {σ : St} {f : List Addr} (hk : b = true → ∀ a ∈ F, ∀ o, B' a = some o → ownKind o = true) (hc : b = true → outsClosed env = true) (r : relE G B' H' σ env f) : relE G (unlend b B' F) H' σ env f := by
  cases b with
  | false => exact r
  | true => exact relE_ung (hk rfl) (hc rfl) r
theorem bor_hF {B H : Hp} {F : List Addr} {as : List AW} : hasBor as = true → ∀ q ∈ F, lend (hasBor as) B H F q = H q := fun h q hq => by
  rw [h]
  exact grd_in hq
theorem sim_call0 (hn : ∀ ws r, mf ws = some r → ws.length = n) (ha : SimA G p Wx ta ma) : Sim G true p Wx (rW G) (fun σ H Q => ta σ H fun vs H1 => spOf G n mf vs H1 Q (WE Wx σ)) (ma.bind fun as => callK0 mf as) := by
  intro B H σ env fp O Q c
  refine ha B H σ env fp O _ ?_
  unfold ME.bind at c
  cases e1 : ma env with
  | none => rw [e1] at c; exact c
  | some r1 =>
    obtain ⟨r1, env1⟩ := r1
    rw [e1] at c
    cases r1 with
    | ex x => exact c
    | ok as =>
      intro vs H1 B1 f0 fp1 P
      simp only [callK0] at c
      cases hno : ioOf as with
      | some q => rw [hno] at c; exact c.elim
      | none =>
        rw [hno] at c
        simp only at c
        cases e2 : argWs env1 none as with
        | none => rw [e2] at c; exact c.elim
        | some ws =>
          rw [e2] at c
          simp only at c
          cases e3 : mf ws with
          | none => rw [e3] at c; exact c.elim
          | some ro =>
            obtain ⟨r, outs⟩ := ro
            rw [e3] at c
            simp only at c
            obtain ⟨nd0, dis0⟩ := P.own
            have liveE := relE_live P.ok.rel
            have live0 := relAs_live P.rel
            have oE := P.ok.out
            obtain ⟨fa, ra, hfa, nda⟩ := argWs_rel (B2 := lend (hasBor as) B1 H1 fp1) (vio := .non) (gio := []) P.ok.sub P.ok.rel (lend_ext oE) (fun _ h => by cases h) bor_hF P.rel e2 (fun i p h => by rw [hno] at h; cases h) fun _ => rfl
            have hfa0 : ∀ q, q ∈ fa ↔ q ∈ f0 ∨ q ∈ ([] : List Addr) := hfa
            have clr : hasBor as = true → resClosed r = true := fun hb => by
              rw [hb] at c
              cases e : resClosed r with
              | true => rfl
              | false => rw [e] at c; exact c.elim
            have c : Cont G true p (rW G) Wx B H σ env fp (some (r, env1)) Q := by
              split at c
              · exact c.elim
              · exact c
            refine ⟨by rw [← relWs_length ra]; exact hn ws _ e3, lend (hasBor as) B1 H1 fp1, ws, fa, lend_sub P.ok.sub, ra, nda nd0 List.nodup_nil (by simp), fun q hq => ?_, ?_⟩
            · have hq0 : q ∈ f0 := by simpa using (hfa q).mp hq
              rw [lend_out (dis0 q hq0)]
              exact P.out q hq0
            · rw [e3]
              have key : ∀ {H' B' : Hp} {S : List Addr}, Same B' H' → Step (lend (hasBor as) B1 H1 fp1) H1 fa B' H' S → Left (hasBor as) B1 H1 fp1 f0 [] B' H' S ∧ Ok G (unlend (hasBor as) B' fp1) H' σ env1 fp1 ∧ Step B H fp (unlend (hasBor as) B' fp1) H' (S ++ fp1) := fun {H' B' S} s' st => by
                have L := left_of P.ok.sub oE (relE_kind P.ok.rel) (fun q hq => ⟨fun z => dis0 q z hq, by simp⟩) hfa0 s' st
                have kE : ∀ q ∈ fp1, H' q = H1 q := fun q hq => L.keep q (liveE q hq) (fun z => dis0 q z hq) (by simp)
                refine ⟨L, ⟨L.sub, relE_frame L.bext P.ok.rel kE, P.ok.nd, L.lent⟩, ⟨fun a o h nf => ?_, fun a o h => L.bext a o (P.step.bext a o h), fun a h nf => ?_, fun a ha => ?_, fun a h => st.live a (P.step.live a h)⟩⟩
                · have h1 := P.step.keep a o h nf
                  have n0 : a ∉ f0 := fun z => by
                    rcases P.step.new a (by simp [z]) with y | y
                    · exact nf y
                    · rw [h] at y; cases y
                  rw [L.keep a (by simp [h1]) n0 (by simp)]
                  exact h1
                · have n0 : a ∉ f0 ++ fp1 := fun z => by
                    rcases P.step.new a z with y | y
                    · exact nf y
                    · exact h y
                  simp only [List.mem_append, not_or] at n0
                  rw [L.bold a (P.step.live a h) n0.1 (by simp) n0.2]
                  exact P.step.bold a h nf
                · rcases List.mem_append.mp ha with ha | ha
                  · rcases st.new a ha with z | z
                    · exact P.step.new a (by have := (hfa a).mp z; simp at this; simp [this])
                    · exact .inr (none_back P.step.live z)
                  · exact P.step.new a (by simp [ha])
              cases r with
              | ok w =>
                intro v H' B' fr f2 s' rw' ro nd out st
                obtain ⟨L, O3, S3⟩ := key s' (st.mono (T := fr) fun q hq => by simp [hq])
                refine c v H' (unlend (hasBor as) B' fp1) fr fp1 ⟨O3, relW_back L.kind (fun hb => clr hb) rw', fun q hq => ?_, S3, fun _ => ⟨(List.nodup_append.mp nd).1, fun q hq z => ?_⟩, fun hp => ?_⟩
                · have := out q (by simp [hq])
                  cases e : unlend (hasBor as) B' fp1 q with
                  | none => rfl
                  | some o => rw [unlend_sub q o e] at this; cases this
                · rcases st.new q (by simp [hq]) with y | y
                  · exact dis0 q (by simpa using (hfa q).mp y) z
                  · exact liveE q z y
                · obtain ⟨a1, a2, a3, a4⟩ := P.pure hp
                  have nf0 : ∀ q, H q ≠ none → q ∉ f0 := fun q h z => by
                    rcases P.step.new q (by simp [z]) with y | y
                    · exact dis0 q z (by rw [a4]; exact y)
                    · exact h y
                  refine ⟨fun q o h => ?_, fun q h => ?_, a3, a4⟩
                  · have h1 := a1 q o h
                    rw [L.keep q (by simp [h1]) (nf0 q (by simp [h])) (by simp)]
                    exact h1
                  · by_cases hq : q ∈ fp1
                    · rw [L.lent q hq]
                      exact (O.out q (by rw [← a4]; exact hq)).symm
                    · rw [L.bold q (P.step.live q h) (nf0 q h) (by simp) hq]
                      exact a2 q h
              | ex x =>
                intro cls d H' B' f2 s' ro nd out st hx hd
                obtain ⟨L, O3, S3⟩ := key s' (st.mono (T := []) fun q hq => by simp at hq)
                refine c cls d H' (unlend (hasBor as) B' fp1) fp1 O3 S3 hx fun dd e => ?_
                obtain ⟨b1, b2, b3⟩ := hd dd e
                refine ⟨?_, fun z => liveE dd z b3, none_back P.step.live b3⟩
                cases e : unlend (hasBor as) B' fp1 dd with
                | none => rfl
                | some o => rw [unlend_sub dd o e] at b1; cases b1
theorem ioOf_at {B H : Hp} {σ : St} : ∀ {as : List AW} {vs : List V} {f : List Addr} {i : Nat} {pa : Path}, relAs G B H σ as vs f → ioOf as = some (i, pa) → ∃ v, vs[i]? = some v ∧ locE H σ pa v
  | [], _, _, _, _, _, e => by cases e
  | .own w :: as, vs, f, i, pa, r, e => by
    obtain ⟨v, rr, f1, f2, rfl, r1, r2, rfl⟩ := r
    simp only [ioOf, Option.map_eq_some_iff] at e
    obtain ⟨⟨j, q⟩, e1, e2⟩ := e
    cases e2
    obtain ⟨v', h1, h2⟩ := ioOf_at r2 e1
    exact ⟨v', by simpa using h1, h2⟩
  | .bor w :: as, vs, f, i, pa, r, e => by
    obtain ⟨v, rr, f1, f2, rfl, r1, r2, rfl⟩ := r
    simp only [ioOf, Option.map_eq_some_iff] at e
    obtain ⟨⟨j, q⟩, e1, e2⟩ := e
    cases e2
    obtain ⟨v', h1, h2⟩ := ioOf_at r2 e1
    exact ⟨v', by simpa using h1, h2⟩
  | .io w :: as, vs, f, i, pa, r, e => by
    obtain ⟨v, rr, f1, f2, rfl, r1, r2, rfl⟩ := r
    simp only [ioOf, Option.some.injEq, Prod.mk.injEq] at e
    obtain ⟨rfl, rfl⟩ := e
    exact ⟨v, rfl, r1.1⟩
theorem sim_call1 (hn : ∀ ws r, mf ws = some r → ws.length = n) (ha : SimA G p Wx ta ma) : Sim G true false Wx (rW G) (fun σ H Q => ta σ H fun vs H1 => spOf G n mf vs H1 Q (WE Wx σ)) (ma.bind fun as => match ioOf as with
    | none => ME.stuck
    | some (i, pa) => if ioCount as = 1 then callK1 mf as i pa else ME.stuck) := by
  intro B H σ env fp O Q c
  refine ha B H σ env fp O _ ?_
  unfold ME.bind at c
  cases e1 : ma env with
  | none => rw [e1] at c; exact c
  | some r1 =>
    obtain ⟨r1, env1⟩ := r1
    rw [e1] at c
    cases r1 with
    | ex x => exact c
    | ok as =>
      intro vs H1 B1 f0 fp1 P
      simp only at c
      cases hio : ioOf as with
      | none => rw [hio] at c; exact c.elim
      | some q =>
        obtain ⟨i, pa⟩ := q
        rw [hio] at c
        simp only at c
        by_cases hcount : ioCount as = 1
        · rw [if_pos hcount] at c
          obtain ⟨vio, hvio, lio⟩ := ioOf_at P.rel hio
          simp only [callK1] at c
          cases eg : getE env1 pa with
          | none => rw [eg] at c; exact c.elim
          | some wio =>
            rw [eg] at c
            simp only at c
            cases e2 : argWs (env1.set pa.1 none) (some wio) as with
            | none => rw [e2] at c; exact c.elim
            | some ws =>
              rw [e2] at c
              simp only at c
              cases e3 : mf ws with
              | none => rw [e3] at c; exact c.elim
              | some ro =>
                obtain ⟨r, outs⟩ := ro
                rw [e3] at c
                simp only at c
                obtain ⟨g1, g, g2, F, rfl, rg, rF, subF, back⟩ := relE_zip2 P.ok.sub P.ok.rel eg lio
                obtain ⟨nd0, dis0⟩ := P.own
                have ndE := P.ok.nd
                simp only [List.nodup_append, List.mem_append] at ndE
                obtain ⟨n1, ⟨n2, n3, n4⟩, n5⟩ := ndE
                have liveE := relE_live P.ok.rel
                have live0 := relAs_live P.rel
                have oE := P.ok.out
                have Fsub : ∀ q ∈ F, q ∈ g1 ++ (g ++ g2) := fun q hq => by
                  rcases subF q hq with z | z <;> simp [z]
                have Fg : ∀ q ∈ F, q ∉ g := fun q hq z => by
                  rcases subF q hq with y | y
                  · exact n5 q y q (.inl z) rfl
                  · exact n4 q z q y rfl
                have oF : ∀ q ∈ F, B1 q = none := fun q hq => oE q (Fsub q hq)
                have dF : ∀ q ∈ F, q ∉ f0 ∧ q ∉ g := fun q hq => ⟨fun z => dis0 q z (Fsub q hq), Fg q hq⟩
                obtain ⟨fa, ra, hfa, nda⟩ := argWs_rel (B2 := lend (hasBor as) B1 H1 F) (vio := vio) (gio := g) P.ok.sub rF (lend_ext oF) (fun w h => by cases h; exact relW_frame (lend_ext oF) rg fun _ _ => rfl) bor_hF P.rel e2 (fun j p h => by
                  rw [hio] at h
                  cases h
                  exact ⟨hcount, hvio⟩) fun h => by rw [hio] at h; cases h
                have clr : hasBor as = true → resClosed r = true ∧ outsClosed outs = true := fun hb => by
                  rw [hb] at c
                  cases e : (resClosed r && outsClosed outs) with
                  | true => simpa using e
                  | false => rw [e] at c; exact c.elim
                have c : Cont G true false (rW G) Wx B H σ env fp (match outs[i]? with
                    | some (some w') => (setE env1 pa w').map fun e => (r, e)
                    | _ => none) Q := by
                  split at c
                  · exact c.elim
                  · exact c
                refine ⟨by rw [← relWs_length ra]; exact hn ws _ e3, lend (hasBor as) B1 H1 F, ws, fa, lend_sub P.ok.sub, ra, nda nd0 n2 (fun q hq z => dis0 q hq (by simp [z])), fun q hq => ?_, ?_⟩
                · rcases (hfa q).mp hq with z | z
                  · rw [lend_out fun y => (dF q y).1 z]
                    exact P.out q z
                  · rw [lend_out fun y => (dF q y).2 z]
                    exact oE q (by simp [z])
                · rw [e3]
                  cases eo : outs[i]? with
                  | none => rw [eo] at c; exact c.elim
                  | some o =>
                    cases o with
                    | none => rw [eo] at c; exact c.elim
                    | some w' =>
                      rw [eo] at c
                      simp only at c
                      have key : ∀ {H' B' : Hp} {S f2 : List Addr}, Same B' H' → Step (lend (hasBor as) B1 H1 F) H1 fa B' H' (S ++ f2) → relE G B' H' (vs.map some) outs f2 → (S ++ f2).Nodup → (∀ q ∈ S ++ f2, B' q = none) →
                          Left (hasBor as) B1 H1 F f0 g B' H' (S ++ f2) ∧ ∃ env3 fp3, setE env1 pa w' = some env3 ∧ Ok G (unlend (hasBor as) B' F) H' σ env3 fp3 ∧ Step B H fp (unlend (hasBor as) B' F) H' (S ++ fp3) ∧ (∀ q ∈ S, q ∉ fp3) ∧ ∀ q ∈ fp3, q ∈ f2 ∨ H1 q ≠ none := fun {H' B' S f2} s' st ro nd out => by
                        have L := left_of P.ok.sub oF (fun q hq => relE_kind P.ok.rel q (Fsub q hq)) dF hfa s' st
                        have ro' := relE_back L.kind (fun hb => (clr hb).2) ro
                        obtain ⟨o1, o2, s1, oo, s2, h1, g', h2, eouts, evs, l1, l2, rfl, _, ⟨vv, ev, rv⟩, _⟩ := relE_split ro' eo
                        have evv : vv = vio := by
                          have hx : (vs.map some)[i]? = some oo := by rw [evs]; exact get_mid l2
                          rw [List.getElem?_map, hvio, ev] at hx
                          exact (Option.some.inj (Option.some.inj hx)).symm
                        subst evv
                        have kE : ∀ q, q ∈ g1 ∨ q ∈ g2 → H' q = H1 q := fun q hq => L.keep q (liveE q (by rcases hq with z | z <;> simp [z])) (fun z => dis0 q z (by rcases hq with y | y <;> simp [y])) (fun z => by
                          rcases hq with y | y
                          · exact n5 q y q (.inl z) rfl
                          · exact n4 q z q y rfl)
                        obtain ⟨env3, e5, rE⟩ := back (unlend (hasBor as) B' F) H' w' g' L.bext (fun q hq => kE q (.inl hq)) (fun q hq => kE q (.inr hq)) rv
                        have outB : ∀ q ∈ S ++ (h1 ++ (g' ++ h2)), unlend (hasBor as) B' F q = none := fun q hq => by
                          have := out q hq
                          cases e : unlend (hasBor as) B' F q with
                          | none => rfl
                          | some o => rw [unlend_sub q o e] at this; cases this
                        simp only [List.nodup_append, List.mem_append] at nd
                        obtain ⟨m1, ⟨m2, ⟨m3, m4, m5⟩, m6⟩, m7⟩ := nd
                        -- what the callee tells is not the caller's else
                        have fresh : ∀ q, q ∈ S ∨ q ∈ h1 ∨ q ∈ g' ∨ q ∈ h2 → q ∉ g1 ∧ q ∉ g2 := fun q hq => by
                          rcases st.new q (by simp only [List.mem_append]; grind) with y | y
                          · rcases (hfa q).mp y with z | z
                            · exact ⟨fun y => dis0 q z (by simp [y]), fun y => dis0 q z (by simp [y])⟩
                            · exact ⟨fun y => n5 q y q (.inl z) rfl, fun y => n4 q z q y rfl⟩
                          · exact ⟨fun z => liveE q (by simp [z]) y, fun z => liveE q (by simp [z]) y⟩
                        have newS : ∀ q, q ∈ S ∨ q ∈ h1 ∨ q ∈ g' ∨ q ∈ h2 → q ∈ fp ∨ H q = none := fun q hq => by
                          rcases st.new q (by simp only [List.mem_append]; grind) with y | y
                          · rcases (hfa q).mp y with z | z
                            · exact P.step.new q (by simp [z])
                            · exact P.step.new q (by simp [z])
                          · exact .inr (none_back P.step.live y)
                        refine ⟨L, env3, g1 ++ (g' ++ g2), e5, ⟨L.sub, rE, ?_, fun q hq => ?_⟩, ⟨fun a o h nf => ?_, fun a o h => L.bext a o (P.step.bext a o h), fun a h nf => ?_, fun a ha => ?_, fun a h => st.live a (P.step.live a h)⟩, fun q hq z => ?_, fun q hq => ?_⟩
                        · refine List.nodup_append.mpr ⟨n1, List.nodup_append.mpr ⟨m3, n3, fun a ha b hb e => ?_⟩, fun a ha b hb e => ?_⟩
                          · subst e
                            exact (fresh a (.inr (.inr (.inl ha)))).2 hb
                          · subst e
                            rcases List.mem_append.mp hb with hb | hb
                            · exact (fresh a (.inr (.inr (.inl hb)))).1 ha
                            · exact n5 a ha a (.inr hb) rfl
                        · simp only [List.mem_append] at hq
                          have old : ∀ q, q ∈ g1 ∨ q ∈ g2 → unlend (hasBor as) B' F q = none := fun q hq => by
                            have lq : q ∈ g1 ++ (g ++ g2) := by rcases hq with z | z <;> simp [z]
                            by_cases hF : q ∈ F
                            · exact L.lent q hF
                            · rw [L.bold q (liveE q lq) (fun z => dis0 q z lq) (fun z => by
                                rcases hq with y | y
                                · exact n5 q y q (.inl z) rfl
                                · exact n4 q z q y rfl) hF]
                              exact oE q lq
                          rcases hq with hq | hq | hq
                          · exact old q (.inl hq)
                          · exact outB q (by simp [hq])
                          · exact old q (.inr hq)
                        · have h1 := P.step.keep a o h nf
                          have na : a ∉ f0 ++ (g1 ++ (g ++ g2)) := fun z => by
                            rcases P.step.new a z with y | y
                            · exact nf y
                            · rw [h] at y; cases y
                          simp only [List.mem_append, not_or] at na
                          rw [L.keep a (by simp [h1]) na.1 na.2.2.1]
                          exact h1
                        · have na : a ∉ f0 ++ (g1 ++ (g ++ g2)) := fun z => by
                            rcases P.step.new a z with y | y
                            · exact nf y
                            · exact h y
                          have nF : a ∉ F := fun z => na (List.mem_append_right _ (Fsub a z))
                          simp only [List.mem_append, not_or] at na
                          rw [L.bold a (P.step.live a h) na.1 na.2.2.1 nF]
                          exact P.step.bold a h nf
                        · simp only [List.mem_append] at ha
                          rcases ha with ha | ha | ha | ha
                          · exact newS a (.inl ha)
                          · exact P.step.new a (by simp [ha])
                          · exact newS a (.inr (.inr (.inl ha)))
                          · exact P.step.new a (by simp [ha])
                        · simp only [List.mem_append] at z
                          have fr := fresh q (.inl hq)
                          rcases z with z | z | z
                          · exact fr.1 z
                          · exact m7 q hq q (.inr (.inl z)) rfl
                          · exact fr.2 z
                        · simp only [List.mem_append] at hq
                          rcases hq with hq | hq | hq
                          · exact .inr (liveE q (by simp [hq]))
                          · exact .inl (by simp [hq])
                          · exact .inr (liveE q (by simp [hq]))
                      cases r with
                      | ok w =>
                        intro v H' B' fr f2 s' rw' ro nd out st
                        obtain ⟨L, env3, fp3, e5, O3, S3, dis3, _⟩ := key s' st ro nd out
                        rw [e5] at c
                        refine c v H' (unlend (hasBor as) B' F) fr fp3 ⟨O3, relW_back L.kind (fun hb => (clr hb).1) rw', fun q hq => ?_, S3, fun _ => ⟨(List.nodup_append.mp nd).1, dis3⟩, fun hp => Bool.noConfusion hp⟩
                        have := out q (by simp [hq])
                        cases e : unlend (hasBor as) B' F q with
                        | none => rfl
                        | some o => rw [unlend_sub q o e] at this; cases this
                      | ex x =>
                        intro cls d H' B' f2 s' ro nd out st hx hd
                        obtain ⟨L, env3, fp3, e5, O3, S3, dis3, sub3⟩ := key (S := []) s' (by simpa using st) ro (by simpa using nd) (by simpa using out)
                        rw [e5] at c
                        refine c cls d H' (unlend (hasBor as) B' F) fp3 O3 (by simpa using S3) hx fun dd e => ?_
                        obtain ⟨b1, b2, b3⟩ := hd dd e
                        refine ⟨?_, fun z => ?_, none_back P.step.live b3⟩
                        · cases e : unlend (hasBor as) B' F dd with
                          | none => rfl
                          | some o => rw [unlend_sub dd o e] at b1; cases b1
                        · rcases sub3 dd z with y | y
                          · exact b2 y
                          · exact y b3
        · rw [if_neg hcount] at c
          exact c.elim
end
end AM
set_option Elab.async false
set_option linter.all false
set_option maxRecDepth 100000
namespace AM
open PySem L2 PyProof.Rows
/-- which slots are never stored to: the in-out arguments -/
def pinOf (n : Nat) (nio : List Nat) : Nat → Bool := fun i => decide (i < n) && !(nio.contains i)
def fnM (n total : Nat) (nio : List Nat) (body : MS) : MF := fun ws => if ws.length = n then
    match body (ws.map some ++ List.replicate (total - n) none) with
    | some (.ok (.rt w), e) => if e.length = total then some (.ok w, (wipeE e nio).take n) else none
    | some (.ok .nx, e) => if e.length = total then some (.ok (.sh .non), (wipeE e nio).take n) else none
    | some (.ex x, e) => if e.length = total then some (.ex x, (wipeE e nio).take n) else none
    | _ => none
  else none
theorem fnM_len {n total : Nat} {nio : List Nat} {body : MS} : ∀ ws r, fnM n total nio body ws = some r → ws.length = n := fun ws r h => by
  unfold fnM at h
  split at h
  · assumption
  · cases h
section
variable {G : GX} {B H : Hp}
theorem relE_start : ∀ {ws : List W} {vs : List V} {fp : List Addr} (m : Nat), relWs G B H ws vs fp → relE G B H (vs.map some ++ List.replicate m none) (ws.map some ++ List.replicate m none) fp
  | [], vs, fp, m, h => by
    simp only [relWs] at h
    obtain ⟨rfl, rfl⟩ := h
    simp only [List.map_nil, List.nil_append]
    induction m with
    | zero => exact ⟨rfl, rfl⟩
    | succ m ih =>
      rw [List.replicate_succ]
      exact ⟨none, _, [], [], rfl, rfl, ih, rfl⟩
  | w :: ws, vs, fp, m, h => by
    simp only [relWs] at h
    obtain ⟨v, r, g1, g2, rfl, h1, h2, rfl⟩ := h
    exact ⟨some v, _, g1, g2, rfl, ⟨v, rfl, h1⟩, relE_start m h2, rfl⟩
theorem relE_take : ∀ {env : Env} {σ : L2.St} {f : List Addr} (n : Nat), relE G B H σ env f → ∃ f', relE G B H (σ.take n) (env.take n) f' ∧ (∀ q ∈ f', q ∈ f) ∧ (f.Nodup → f'.Nodup)
  | env, σ, f, 0, _ => ⟨[], by simp [relE], by simp, fun _ => List.nodup_nil⟩
  | [], σ, f, n + 1, h => by
    obtain ⟨rfl, rfl⟩ := h
    exact ⟨[], by simp [relE], by simp, fun _ => List.nodup_nil⟩
  | w :: env, σ, f, n + 1, h => by
    obtain ⟨o, τ, f1, f2, rfl, h2, h3, rfl⟩ := h
    obtain ⟨f', h4, h5, h6⟩ := relE_take n h3
    refine ⟨f1 ++ f', ⟨o, τ.take n, f1, f', by simp, h2, h4, rfl⟩, fun q hq => ?_, fun hn => ?_⟩
    · simp only [List.mem_append] at hq ⊢
      exact hq.imp id (h5 q)
    · simp only [List.nodup_append] at hn ⊢
      exact ⟨hn.1, h6 hn.2.1, fun a ha b hb => hn.2.2 a ha b (h5 b hb)⟩
/-- what the in-out arguments are behind a body -/
theorem outs_rel {σ : L2.St} {env : Env} {f : List Addr} {vs : List V} {n : Nat} {nio : List Nat} (r : relE G B H σ env f) (hl : vs.length = n) (hs : n ≤ σ.length) (pin : ∀ i, pinOf n nio i = true → σ[i]? = (vs.map some)[i]?) :
    ∃ f', relE G B H (vs.map some) ((wipeE env nio).take n) f' ∧ (∀ q ∈ f', q ∈ f) ∧ (f.Nodup → f'.Nodup) := by
  obtain ⟨f1, r1, s1, n1⟩ := relE_wipe r nio
  obtain ⟨f2, r2, s2, n2⟩ := relE_take n r1
  refine ⟨f2, relE_congr r2 (by simp [hl]; omega) fun i w e => ?_, fun q hq => s1 q (s2 q hq), fun h => n2 (n1 h)⟩
  have hi : i < n := by
    have := (List.getElem?_eq_some_iff.mp e).1
    rw [List.length_take] at this
    omega
  rw [List.getElem?_take_of_lt hi] at e ⊢
  have hni : i ∉ nio := fun h => by
    rcases wipeE_in (env := env) h with z | z <;> rw [e] at z <;> cases z
  exact (pin i (by simp [pinOf, hi, hni])).symm
end
section
variable {P : Program} {w : World} {K : PySem.W.Frag} {mg : Str → Option Value} {base : Heap}
theorem okC {CX : CXT} {x qual : Str} {st : Stmt} {f : Addr} {fd : FuncData} {N ps : List Str} {k : Nat} {sp : Sp} (F : Fun K x qual st f fd) (S : FnScope N ps (defScope st)) (len : ∀ vs H Q E, sp vs H Q E → vs.length = ps.length)
    (hbody : ∀ (cdv : Value) (A : Around) (outer : List PySem.Env) (s : Shared) (H : Hp) (vs : List V) (Q : VK) (E : XK), Room k (A.deeper (envOfC qual (defScope st) s.heap.objs.size f cdv)) → sp vs H Q E →
      ∃ t, PSs (cxOf CX P w K mg base N qual (defScope st) f cdv A outer s H E) (defBody st) t ∧ t { nx := fun _ H' => Q .non H', rt := Q } (start N vs) H) : FnOk P w K mg base CX (k + 1) f fd ps sp := by
  obtain ⟨oc, od, kV, doc, pm, an, cdv, ct, osl, rfl, lk, hcd⟩ := F.ex
  exact fn_of lk hcd S len fun A outer s H vs Q E hr hsp => hbody cdv A outer s H vs Q E hr hsp
theorem fn_ok {x qual : Str} {st : Stmt} {f : Addr} {fd : FuncData} {N ps : List Str} {k n : Nat} {nio : List Nat} {body : MS} {CX : CXT} (F : Fun K x qual st f fd) (S : FnScope N ps (defScope st)) (hn : ps.length = n) (hN : n ≤ N.length)
    (hbody : ∀ (cdv : Value) (A : Around) (outer : List PySem.Env) (s : Shared) (H : Hp) (E : XK), Room k (A.deeper (envOfC qual (defScope st) s.heap.objs.size f cdv)) →
      SSs (cxOf CX P w K mg base N qual (defScope st) f cdv A outer s H E) (pinOf n nio) (fun cls d _ H' => E cls d H') (defBody st) body) :
    FnOk P w K mg base CX (k + 1) f fd ps (spOf ⟨K, mg⟩ n (fnM n N.length nio body)) := by
  refine okC F S (fun vs H Q E h => h.1.trans hn.symm) fun cdv A outer s H vs Q E hr h => ?_
  obtain ⟨t, pt, sim⟩ := hbody cdv A outer s H E hr
  refine ⟨t, pt, ?_⟩
  obtain ⟨hl, B, ws, fp, sub, rw', nd, out, c⟩ := h
  have hlw : ws.length = n := by rw [relWs_length rw', hl]
  unfold fnM at c
  rw [if_pos hlw] at c
  have rE : relE ⟨K, mg⟩ B H (start N vs) (ws.map some ++ List.replicate (N.length - n) none) fp := by
    unfold L2.start
    rw [hl]
    exact relE_start _ rw'
  refine sim B H (start N vs) _ fp ⟨sub, rE, nd, out⟩ _ ?_
  have hst : (start N vs).length = N.length := by
    unfold L2.start
    simp [hl]
    omega
  have pin0 : ∀ i, pinOf n nio i = true → (start N vs)[i]? = (vs.map some)[i]? := fun i hi => by
    have : i < n := by
      simp [pinOf] at hi
      exact hi.1
    unfold L2.start
    rw [List.getElem?_append_left (by simp [hl]; exact this)]
  cases e : body (ws.map some ++ List.replicate (N.length - n) none) with
  | none => rw [e] at c; exact c
  | some r =>
    obtain ⟨r, env'⟩ := r
    rw [e] at c
    have outs : ∀ {σ' : L2.St} {H' B' : Hp} {f0 fp2 : List Addr}, PostS ⟨K, mg⟩ (pinOf n nio) B H (start N vs) fp env' σ' H' B' f0 fp2 → env'.length = N.length → ∃ f', relE ⟨K, mg⟩ B' H' (vs.map some) ((wipeE env' nio).take n) f' ∧ (∀ q ∈ f', q ∈ fp2) ∧ (fp2.Nodup → f'.Nodup) := fun Pq hlen =>
      outs_rel Pq.ok.rel hl (by rw [relE_length Pq.ok.rel]; omega) fun i hi => (Pq.pin i hi).trans (pin0 i hi)
    have fin : ∀ {σ' : L2.St} {H' B' : Hp} {f0 fp2 : List Addr} {w : W} {v : V}, PostS ⟨K, mg⟩ (pinOf n nio) B H (start N vs) fp env' σ' H' B' f0 fp2 → env'.length = N.length → relW ⟨K, mg⟩ B' H' w v f0 → (∀ q ∈ f0, B' q = none) → f0.Nodup → (∀ q ∈ f0, q ∉ fp2) →
        (∀ v H' B' f0 f2, Same B' H' → relW ⟨K, mg⟩ B' H' w v f0 → relE ⟨K, mg⟩ B' H' (vs.map some) ((wipeE env' nio).take n) f2 → (f0 ++ f2).Nodup → (∀ q ∈ f0 ++ f2, B' q = none) → Step B H fp B' H' (f0 ++ f2) → Q v H') → Q v H' := fun {σ' H' B' f0 fp2 w v} Pq hlen rv ov nv dv c => by
      obtain ⟨f', r1, s1, n1⟩ := outs Pq hlen
      refine c v H' B' f0 f' Pq.ok.sub rv r1 (List.nodup_append.mpr ⟨nv, n1 Pq.ok.nd, fun a ha b hb e => ?_⟩) (fun q hq => ?_) (Pq.step.mono fun q hq => ?_)
      · subst e
        exact dv a ha (s1 a hb)
      · rcases List.mem_append.mp hq with hq | hq
        · exact ov q hq
        · exact Pq.ok.out q (s1 q hq)
      · simp only [List.mem_append] at hq ⊢
        exact hq.imp id (s1 q)
    cases r with
    | ex x =>
      simp only at c
      by_cases hlen : env'.length = N.length
      · rw [if_pos hlen] at c
        intro cls d σ' H' B' fp2 Pq hx hd
        obtain ⟨f', r1, s1, n1⟩ := outs Pq hlen
        refine c cls d H' B' f' Pq.ok.sub r1 (n1 Pq.ok.nd) (fun q hq => Pq.ok.out q (s1 q hq)) (Pq.step.mono fun q hq => by simpa using s1 q hq) hx fun dd e => ?_
        obtain ⟨a1, a2, a3⟩ := hd dd e
        exact ⟨a1, fun z => a2 (s1 dd z), a3⟩
      · rw [if_neg hlen] at c
        exact c.elim
    | ok fl =>
      cases fl with
      | nx =>
        simp only at c
        by_cases hlen : env'.length = N.length
        · rw [if_pos hlen] at c
          intro σ' H' B' fp2 Pq
          exact fin (v := .non) Pq hlen (by simp [relW, repD]) (by simp) List.nodup_nil (by simp) c
        · rw [if_neg hlen] at c
          exact c.elim
      | bk => exact c.elim
      | ct => exact c.elim
      | rt w =>
        simp only at c
        by_cases hlen : env'.length = N.length
        · rw [if_pos hlen] at c
          intro v σ' H' B' f0 fp2 Pq rv ov nv dv
          exact fin Pq hlen rv ov nv dv c
        · rw [if_neg hlen] at c
          exact c.elim
/-- a def that stands at a name, by what it does -/
structure Df (P : Program) (w : World) (K : PySem.W.Frag) (mg : Str → Option Value) (base : Heap) (x : Str) (n : Nat) (mf : MF) (j : Nat) : Prop where
  ex : ∃ (f : Addr) (fd : FuncData) (ps : List Str), FnOk P w K mg base (L2.CX P w) j f fd ps (spOf ⟨K, mg⟩ n mf) ∧ mg x = some (.ref f) ∧ PySem.W.keepIn K (.ref f) = true ∧ Binds K fd ps []
  len : ∀ ws r, mf ws = some r → ws.length = n
end
section
variable {X : Cx} {Wx : WX} {p : Bool} {x : Str} {n j k : Nat} {mf : MF} {e : Expr} {es : List Expr} {ma : ME (List AW)} {pp pos : Pos}
theorem se_call0 (tk : Takes X Wx) (D : Df X.prog X.w X.K X.mg X.base x n mf j) (hr : Room j X.A) (hg : Gl X x) (ha : SAw X Wx p (e :: es) ma) (hdb : (x == ("__debug__" : Str)) = false := by decide)
    (he : starEach (e :: es) X.env = (false, eval e X.env) :: starEach es X.env := by rfl) (hpl : (backTo pos (starEach es X.env)).any (·.1) = false := by rfl) : SE X Wx true p (.Call (.Name x pp) (e :: es) [] pos) (ma.bind fun as => callK0 mf as) := by
  obtain ⟨f, fd, ps, F, hm, hk, hb⟩ := D.ex
  obtain ⟨ta, pa, sa⟩ := ha
  exact ⟨_, pe_callS F hr hg hm hk hb (fun σ => passAt tk σ) pa hdb he hpl, sim_call0 D.len sa⟩
theorem se_call1 (tk : Takes X Wx) (D : Df X.prog X.w X.K X.mg X.base x n mf j) (hr : Room j X.A) (hg : Gl X x) (ha : SAw X Wx p (e :: es) ma) (hdb : (x == ("__debug__" : Str)) = false := by decide)
    (he : starEach (e :: es) X.env = (false, eval e X.env) :: starEach es X.env := by rfl) (hpl : (backTo pos (starEach es X.env)).any (·.1) = false := by rfl) : SE X Wx true false (.Call (.Name x pp) (e :: es) [] pos) (ma.bind fun as => match ioOf as with
    | none => ME.stuck
    | some (i, pa) => if ioCount as = 1 then callK1 mf as i pa else ME.stuck) := by
  obtain ⟨f, fd, ps, F, hm, hk, hb⟩ := D.ex
  obtain ⟨ta, pa, sa⟩ := ha
  exact ⟨_, pe_callS F hr hg hm hk hb (fun σ => passAt tk σ) pa hdb he hpl, sim_call1 D.len sa⟩
end
end AM
set_option Elab.async false
set_option linter.all false
set_option maxRecDepth 100000
namespace AM
open PySem L2 PyProof.Rows
theorem PE.weak {X : Cx} {e : Expr} {t t' : TE} (h : PE X e t) (k : ∀ σ H Q, t' σ H Q → t σ H Q) : PE X e t' := ⟨fun pins s σ H Q I q => h.run pins s σ H Q I (k σ H Q q)⟩
theorem PTs.weak {X : Cx} {es : List Expr} {t t' : TT} (h : PTs X es t) (k : ∀ σ H Q, t' σ H Q → t σ H Q) : PTs X es t' := ⟨fun pins s σ H Q I q => h.run pins s σ H Q I (k σ H Q q)⟩
theorem PG.weak {X : Cx} {e : Expr} {t t' : TG} (h : PG X e t) (k : ∀ v σ H Q, t' v σ H Q → t v σ H Q) : PG X e t' := ⟨fun pins s σ H v u Q I r q => h.run pins s σ H v u Q I r (k v σ H Q q)⟩
/-- the frames of a comprehension's block -/
structure BF where
  s : Shared
  H : Hp
  C : Addr
  cl : List (Str × Addr)
  fp : List Addr
abbrev BF.cx (b : BF) (X : Cx) (scope : Scope) : Cx := X.blk b.s b.H scope (compEnvC scope b.cl b.C X.env) b.fp
abbrev W0 : WX := fun _ _ _ _ => False
def STts (X : Cx) (Wx : WX) (p : Bool) (es : List Expr) (m : ME Bool) : Prop := ∃ t : TT, PTs X es t ∧ Sim (gx X) true p Wx (rEqv Bool) t m
section
variable {X : Cx} {Wx : WX} {k p q : Bool} {e elt tg iter c : Expr} {ifs : List Expr} {m me : ME W} {n mc : ME Bool} {mg : MG} {mi : ME (List D)} {vs : List Nat} {scope : Scope}
theorem sts_nil : STts X Wx true [] (ME.pure true) := ⟨_, pts_nil, sim_pureB⟩
theorem sts_one (h : STt X Wx p c n) : STts X Wx p [c] n := by
  obtain ⟨t, p1, s⟩ := h
  exact ⟨t, pts_one p1, s⟩
theorem uni_e (h : ∀ b : BF, SE (b.cx X scope) W0 k p e m) : ∃ t : TE, (∀ b : BF, PE (b.cx X scope) e t) ∧ Sim (gx X) k p W0 (rW (gx X)) t m := by
  refine ⟨fun σ H Q => ∀ (b : BF) (t : TE), PE (b.cx X scope) e t → Sim (gx X) k p W0 (rW (gx X)) t m → t σ H Q, fun b => ?_, fun B H σ env fp O Q c b t _ s => s B H σ env fp O Q c⟩
  obtain ⟨t, h1, h2⟩ := h b
  exact PE.weak h1 fun σ H Q q => q b t h1 h2
theorem uni_t (h : ∀ b : BF, STts (b.cx X scope) W0 p ifs n) : ∃ t : TT, (∀ b : BF, PTs (b.cx X scope) ifs t) ∧ Sim (gx X) true p W0 (rEqv Bool) t n := by
  refine ⟨fun σ H Q => ∀ (b : BF) (t : TT), PTs (b.cx X scope) ifs t → Sim (gx X) true p W0 (rEqv Bool) t n → t σ H Q, fun b => ?_, fun B H σ env fp O Q c b t _ s => s B H σ env fp O Q c⟩
  obtain ⟨t, h1, h2⟩ := h b
  exact PTs.weak h1 fun σ H Q q => q b t h1 h2
theorem uni_g {pn : Nat → Bool} (h : ∀ b : BF, SG (b.cx X scope) pn q tg mg) : ∃ t : TG, (∀ b : BF, PG (b.cx X scope) tg t) ∧ SimG (gx X) pn q t mg := by
  refine ⟨fun v σ H Q => ∀ (b : BF) (t : TG), PG (b.cx X scope) tg t → SimG (gx X) pn q t mg → t v σ H Q, fun b => ?_, fun B H σ env fp w v f0 O r o nd d Q c b t _ s => s B H σ env fp w v f0 O r o nd d Q c⟩
  obtain ⟨t, h1, h2⟩ := h b
  exact PG.weak h1 fun v σ H Q q => q b t h1 h2
variable {own : List (Str × Nat)} {pos spos py : Pos} {i : Nat} {y : Str} {pn : Nat → Bool}
theorem se_lc (hc : X.calm = true) (hN : X.N.Nodup) (hi : SI X Wx p tg iter mi) (ok : BlkOk X.N X.env.scope scope own) (hg : ∀ b : BF, SG (b.cx X scope) (offs (own.map (·.2))) q tg mg) (ht : ∀ b : BF, STts (b.cx X scope) W0 p ifs mc) (he : ∀ b : BF, SE (b.cx X scope) W0 true p elt me) (hs : ∀ x, foldedSetIterable iter X.env x = pure x := by intro _; rfl) :
    SE X Wx true false (.ListComp elt [⟨tg, iter, ifs, 0⟩] scope pos) (mComp mi mg mc me (own.map (·.2))) := by
  obtain ⟨ti, pi, si⟩ := hi
  obtain ⟨t1, p1, s1⟩ := uni_g hg
  obtain ⟨t2, p2, s2⟩ := uni_t ht
  obtain ⟨t3, p3, s3⟩ := uni_e he
  exact ⟨_, pe_lc hc hN pi ok (fun s H C cl fp => p1 ⟨s, H, C, cl, fp⟩) (fun s H C cl fp => p2 ⟨s, H, C, cl, fp⟩) (fun s H C cl fp => p3 ⟨s, H, C, cl, fp⟩) hs, sim_comp si s1 s2 s3⟩
theorem se_lcP (hc : X.calm = true) (hN : X.N.Nodup) (hi : SI X Wx p tg iter mi) (ok : BlkOk X.N X.env.scope scope own) (hg : ∀ b : BF, SG (b.cx X scope) (offs (own.map (·.2))) true tg mg) (ht : ∀ b : BF, STts (b.cx X scope) W0 true ifs mc) (he : ∀ b : BF, SE (b.cx X scope) W0 true true elt me) (hs : ∀ x, foldedSetIterable iter X.env x = pure x := by intro _; rfl) :
    SE X Wx true p (.ListComp elt [⟨tg, iter, ifs, 0⟩] scope pos) (mCompP mi mg mc me (own.map (·.2))) := by
  obtain ⟨ti, pi, si⟩ := hi
  obtain ⟨t1, p1, s1⟩ := uni_g hg
  obtain ⟨t2, p2, s2⟩ := uni_t ht
  obtain ⟨t3, p3, s3⟩ := uni_e he
  exact ⟨_, pe_lc hc hN pi ok (fun s H C cl fp => p1 ⟨s, H, C, cl, fp⟩) (fun s H C cl fp => p2 ⟨s, H, C, cl, fp⟩) (fun s H C cl fp => p3 ⟨s, H, C, cl, fp⟩) hs, sim_compP si s1 s2 s3⟩
/-- name = [.. for ..] -/
theorem ss_lc (hp : pn i = false) (hc : X.calm = true) (hN : X.N.Nodup) (hy : X.N[i]? = some y) (hyl : X.env.scope.names.lookup y = some .local)
    (hsw : swapsWith (.ListComp elt [⟨tg, iter, ifs, 0⟩] scope pos) (some (.Name y py)) spos.line X.env = pure true) (hi : SI X Wx p tg iter mi) (ok : BlkOk X.N X.env.scope scope own) (hg : ∀ b : BF, SG (b.cx X scope) (offs (own.map (·.2))) q tg mg) (ht : ∀ b : BF, STts (b.cx X scope) W0 p ifs mc) (he : ∀ b : BF, SE (b.cx X scope) W0 true p elt me) (hs : ∀ x, foldedSetIterable iter X.env x = pure x := by intro _; rfl) :
    SS X pn Wx (.Assign [.Name y py] (.ListComp elt [⟨tg, iter, ifs, 0⟩] scope pos) spos) (mAsg (mComp mi mg mc me (own.map (·.2))) (gSet i)) := by
  obtain ⟨ti, pi, si⟩ := hi
  obtain ⟨t1, p1, s1⟩ := uni_g hg
  obtain ⟨t2, p2, s2⟩ := uni_t ht
  obtain ⟨t3, p3, s3⟩ := uni_e he
  exact ⟨_, ps_setLc hc hN hy hyl hsw pi ok (fun s H C cl fp => p1 ⟨s, H, C, cl, fp⟩) (fun s H C cl fp => p2 ⟨s, H, C, cl, fp⟩) (fun s H C cl fp => p3 ⟨s, H, C, cl, fp⟩) hs, simS_asg (sim_comp si s1 s2 s3) (simG_name (qq := true) hp)⟩
end
theorem relWs_set {G : GX} {B H : Hp} {ws : List W} {vs : List V} {f f0 : List Addr} {j : Nat} {w : W} {v : V} (r : relWs G B H ws vs f) (hj : j < ws.length) (r0 : relW G B H w v f0) : ∃ g', relWs G B H (ws.set j w) (vs.set j v) g' ∧ (∀ q ∈ g', q ∈ f ∨ q ∈ f0) ∧ (f.Nodup → f0.Nodup → (∀ q ∈ f0, q ∉ f) → g'.Nodup) := by
  have hx := List.getElem?_eq_getElem hj
  generalize ws[j] = w0 at hx
  obtain ⟨w1, w2, v1, u, v2, f1, g, f2, rfl, rfl, l1, l2, rfl, r1, r2, r3⟩ := relWs_split r hx
  refine ⟨f1 ++ (f0 ++ f2), ?_, fun q hq => ?_, fun n1 n2 n3 => ?_⟩
  · rw [set_mid l1, set_mid l2]
    exact relWs_join r1 r0 r3
  · simp only [List.mem_append] at hq ⊢
    grind
  · simp only [List.nodup_append, List.mem_append] at n1 n3 ⊢
    grind
def gSetI (ml : ME Path) (mi : ME W) : MG := fun w env => match ml env with
  | some (.ok path, env1) => match mi env1 with
    | some (.ok iw, env2) => match wInt iw, getE env2 path with
      | some i, some (.ol ws) => match ixN ws.length i with
        | some j => if j < ws.length then (setE env2 path (.ol (ws.set j w))).map fun e => (.ok (), e) else none
        | none => none
      | _, _ => none
    | _ => none
  | _ => none
section
variable {X : Cx} {Wx : WX} {k : Bool} {pn : Nat → Bool} {o ix : Expr} {ml : ME Path} {mi : ME W} {pos : Pos}
theorem sg_ix (hl : SL X o ml) (hi : SE X Wx k true ix mi) (ha : ∀ v, assign (.Subscript o ix pos) X.env v = (do
      let ov ← holding [v] (eval o X.env)
      let iv ← holding [v, ov] (eval ix X.env)
      standAt pos
      holding [v, ov, iv] (setItem ov iv v)
      release [v, ov, iv] []) := by intro _; rfl) : SG X pn false (.Subscript o ix pos) (gSetI ml mi) := by
  obtain ⟨tl, pl, sl⟩ := hl
  obtain ⟨ti, pi, si⟩ := hi
  refine ⟨_, pg_sub pl pi set_list ha, fun B H σ env fp w v f0 O r out nd dis Q c => ?_⟩
  refine sl B H σ env fp O _ ?_
  unfold gSetI at c
  cases e1 : ml env with
  | none => rw [e1] at c; exact c
  | some r1 =>
    obtain ⟨r1, env1⟩ := r1
    rw [e1] at c
    cases r1 with
    | ex x => exact c.elim
    | ok path =>
      intro v1 H1 B1 ee O1 S1 s1 b1 L1
      subst ee
      simp only at c
      refine si B1 H1 σ env1 fp O1 _ ?_
      cases e2 : mi env1 with
      | none => rw [e2] at c; exact c
      | some r2 =>
        obtain ⟨r2, env2⟩ := r2
        rw [e2] at c
        cases r2 with
        | ex x => exact c.elim
        | ok iw =>
          intro y H2 B2 f2 fp2 P
          obtain ⟨s2, b2, rfl, rfl⟩ := P.pure rfl
          simp only at c
          cases e3 : wInt iw with
          | none => rw [e3] at c; exact c.elim
          | some i =>
            cases e4 : getE env2 path with
            | none => rw [e3, e4] at c; exact c.elim
            | some u =>
              cases u with
              | ol ws =>
                rw [e3, e4] at c
                simp only at c
                cases e5 : ixN ws.length i with
                | none => rw [e5] at c; exact c.elim
                | some j =>
                  rw [e5] at c
                  simp only at c
                  by_cases hj : j < ws.length
                  · rw [if_pos hj] at c
                    have L2 := locE_mono s2 L1
                    obtain ⟨g1, g, g2, rfl, rg, back⟩ := relE_zip P.ok.sub P.ok.rel e4 L2
                    simp only [relW] at rg
                    obtain ⟨pa, vs, gk, rfl, hp, rk, rfl⟩ := rg
                    have s12 : Same H H2 := fun a o h => s2 a o (s1 a o h)
                    have lv0 := relW_live r
                    have b12 : ∀ q, H q ≠ none → B2 q = B q := fun q h => (b2 q (S1.live q h)).trans (b1 q h)
                    have r2 : relW (gx X) B2 H2 w v f0 := relW_frame (fun a o h => P.step.bext a o (S1.bext a o h)) r fun q hq => same_some s12 (lv0 q hq)
                    have yi : y = .int i := relW_int P.rel e3
                    obtain ⟨g', rk', sub', nd'⟩ := relWs_set rk hj r2
                    have ndE := P.ok.nd
                    simp only [List.nodup_append, List.mem_append, List.nodup_cons, List.mem_cons, List.cons_append] at ndE dis
                    have liveE := relE_live P.ok.rel
                    have npa0 : pa ∉ f0 := fun z => dis pa z (by simp)
                    have npk : pa ∉ gk := by grind
                    have npg' : pa ∉ g' := fun z => (sub' pa z).elim npk npa0
                    refine ⟨pa, vs, i, j, rfl, yi, hp, by rw [← relWs_length rk]; exact e5, ?_⟩
                    have kp : ∀ q, q ≠ pa → upd H2 pa (.lst (vs.set j v)) q = H2 q := fun q h => upd_ne h
                    have Bpa : B2 pa = none := P.ok.out pa (by simp)
                    have rnew : relW (gx X) B2 (upd H2 pa (.lst (vs.set j v))) (.ol (ws.set j w)) (.ref pa) (pa :: g') := by
                      simp only [relW]
                      exact ⟨pa, _, g', rfl, upd_same, relWs_frame (Same.refl B2) rk' fun q hq => kp q fun z => npg' (by rw [← z]; exact hq), rfl⟩
                    obtain ⟨env3, e6, rE⟩ := back B2 (upd H2 pa (.lst (vs.set j v))) (.ol (ws.set j w)) (pa :: g') (Same.refl B2) (fun q hq => kp q (by grind)) (fun q hq => kp q (by grind)) rnew
                    rw [e6] at c
                    refine c σ (upd H2 pa (.lst (vs.set j v))) B2 (g1 ++ (pa :: g' ++ g2)) ⟨fun a o h => ?_, rE, ?_, fun q hq => ?_⟩ ⟨fun a o h n => ?_, fun a o h => P.step.bext a o (S1.bext a o h), fun a h n => b12 a h, fun a ha => ?_, fun a h => ?_⟩ rfl (fun _ _ => rfl) fun z => Bool.noConfusion z
                    · rw [kp a fun z => by rw [z, Bpa] at h; cases h]
                      exact P.ok.sub a o h
                    · have ndg := nd' (by grind) nd (fun q hq z => dis q hq (by simp [z]))
                      simp only [List.nodup_append, List.mem_append, List.nodup_cons, List.mem_cons, List.cons_append]
                      grind
                    · simp only [List.mem_append, List.mem_cons, List.cons_append] at hq
                      rcases hq with hq | rfl | hq | hq
                      · exact P.ok.out q (by simp [hq])
                      · exact Bpa
                      · rcases sub' q hq with z | z
                        · exact P.ok.out q (by simp [z])
                        · rw [b12 q (lv0 q z)]
                          exact out q z
                      · exact P.ok.out q (by simp [hq])
                    · rw [kp a fun z => n (by rw [z]; simp)]
                      exact s12 a o h
                    · simp only [List.mem_append, List.mem_cons, List.cons_append] at ha ⊢
                      rcases ha with ha | rfl | ha | ha
                      · simp [ha]
                      · simp
                      · rcases sub' a ha with z | z <;> simp [z]
                      · simp [ha]
                    · by_cases z : a = pa
                      · rw [z, upd_same]; simp
                      · rw [kp a z]; rw [same_some s12 h]; exact h
                  · rw [if_neg hj] at c
                    exact c.elim
              | sh _ => rw [e3, e4] at c; exact c.elim
              | ot _ => rw [e3, e4] at c; exact c.elim
              | ob _ _ _ => rw [e3, e4] at c; exact c.elim
              | dk _ _ => rw [e3, e4] at c; exact c.elim
              | dt _ _ => rw [e3, e4] at c; exact c.elim
end
def wTyp : W → Option String
  | .sh .non => some "NoneType"
  | .sh (.bl _) => some "bool"
  | .sh (.int _) => some "int"
  | .sh (.str _) => some "str"
  | .sh (.lst _) => some "list"
  | .sh (.tup _) => some "tuple"
  | .ol _ => some "list"
  | .ot _ => some "tuple"
  | _ => none
def isT (t T : String) : Bool := t == T || (t == "bool" && T == "int")
def tyNames : List String := ["NoneType", "bool", "int", "str", "list", "tuple"]
def gIs (T : String) : W → Option W := fun w => (wTyp w).map fun t => .sh (.bl (isT t T))
theorem kit_int : ∀ t ∈ tyNames, kitB t "int" = some (isT t "int") := by decide +kernel
theorem kit_bool : ∀ t ∈ tyNames, kitB t "bool" = some (isT t "bool") := by decide +kernel
theorem kit_str : ∀ t ∈ tyNames, kitB t "str" = some (isT t "str") := by decide +kernel
theorem kit_list : ∀ t ∈ tyNames, kitB t "list" = some (isT t "list") := by decide +kernel
theorem kit_tuple : ∀ t ∈ tyNames, kitB t "tuple" = some (isT t "tuple") := by decide +kernel
theorem wTyp_rel {G : GX} {B H : Hp} {w : W} {v : V} {f : List Addr} {t : String} (s : Same B H) (r : relW G B H w v f) (e : wTyp w = some t) : TyX G.K H v (.type t) ∧ t ∈ tyNames := by
  unfold wTyp at e
  split at e
  · cases e; simp only [relW, repD] at r; obtain ⟨rfl, _⟩ := r; exact ⟨.base .non, by decide⟩
  · cases e; simp only [relW, repD] at r; obtain ⟨rfl, _⟩ := r; exact ⟨.base (.bl _), by decide⟩
  · cases e; simp only [relW, repD] at r; obtain ⟨rfl, _⟩ := r; exact ⟨.base (.int _), by decide⟩
  · cases e; simp only [relW, repD] at r; obtain ⟨rfl, _⟩ := r; exact ⟨.base (.str _), by decide⟩
  · cases e; simp only [relW, repD] at r; obtain ⟨⟨a, vs, rfl, h, _⟩, _⟩ := r; exact ⟨.base (.lst (s _ _ h)), by decide⟩
  · cases e
    simp only [relW, repD] at r
    obtain ⟨⟨a, vs, rfl, h, _⟩, _⟩ := r
    refine ⟨?_, by decide⟩
    rcases sqT_of_same s h with (h | ⟨o, h⟩) | ⟨o, its, n, h1, h2, _⟩
    · exact .base (.tup h)
    · exact .fTuple h
    · exact .kTuple h1 h2
  · cases e; simp only [relW] at r; obtain ⟨p, vs, g, rfl, h, _⟩ := r; exact ⟨.base (.lst h), by decide⟩
  · cases e; simp only [relW] at r; obtain ⟨p, vs, rfl, h, _⟩ := r; exact ⟨.base (.tup (s _ _ h)), by decide⟩
  · cases e
section
variable {X : Cx} {Wx : WX} {k p : Bool} {a : Expr} {m : ME W} {x : Str} {T : String} {pp px pos : Pos}
theorem se_isi (hT : ∀ t ∈ tyNames, kitB t T = some (isT t T)) (hg : Gl X "isinstance") (hm : X.mg "isinstance" = none) (hgT : Gl X x) (hmT : X.mg x = none) (hvT : bootBuiltins x = some (.type T)) (ha : SE X Wx k p a m) (hnT : x ≠ "__name__" := by decide) (hdT : (x == ("__debug__" : Str)) = false := by decide)
    (hs : starEach [a, .Name x px] X.env = (false, eval a X.env) :: starEach [.Name x px] X.env := by rfl) (hs2 : starEach [.Name x px] X.env = (false, eval (.Name x px) X.env) :: starEach [] X.env := by rfl) (hpl : (backTo pos (starEach [.Name x px] X.env)).any (·.1) = false := by rfl) : SE X Wx true p (.Call (.Name "isinstance" pp) [a, .Name x px] [] pos) (mOp1 (gIs T) m) := by
  obtain ⟨t, pa, s⟩ := ha
  have pT : PE X (.Name x px) (tC (.ty T)) := pe_bltn hgT hmT hvT rfl hnT hdT
  refine ⟨_, pe_callB call_isi hg hm (by decide +kernel) (pa_cons pa (pa_cons pT pa_nil hs2) hs) (he := hs) (hpl := hpl), ?_⟩
  refine s.op (r := fun v H Q => rIsi X.K [v, .ty T] H Q) (ops_flat fun B H w v f c sb ra e => ?_)
  unfold gIs at e
  simp only [Option.map_eq_some_iff] at e
  obtain ⟨t, e1, rfl⟩ := e
  obtain ⟨h1, h2⟩ := wTyp_rel sb ra e1
  exact ⟨.bl _, .bl (isT t T), rfl, by simp [repD], fun Q q => ⟨v, .ty T, .type t, .type T, isT t T, rfl, .ty T, h1, kit_ty (hT t h2), q⟩⟩
end
end AM
set_option Elab.async false
set_option linter.all false
set_option maxRecDepth 100000
namespace AM
open PySem L2 PyProof.Rows
/-- what the written part says of an own error class without fields -/
structure ExC (K : PySem.W.Frag) (mg : Str → Option Value) (c : Str) : Prop where
  ex : ∃ C : Addr, mg c = some (.ref C) ∧ PySem.W.excIn K C [.type "ValueError", .type "Exception", .type "BaseException", .type "object"] "ValueError.__new__" = true ∧ PySem.W.keepIn K (.ref C) = true ∧
    PySem.W.subIn K (.ref C) (.type "BaseException") = some true ∧ PySem.W.typeIn K (.ref C) = some (.type "type")
def mRaise (c : Str) : MS := fun env => some (.ex ⟨c, []⟩, env)
section
variable {X : Cx} {Wx : WX} {pn : Nat → Bool} {c m : Str} {j : Nat} {p p2 pos pos2 : Pos}
theorem ss_raise (hc : X.calm = true) (tk : Takes X Wx) (E : ExC X.K X.mg c) (hg : Gl X c) (hdb : (c == ("__debug__" : Str)) = false := by decide) : SS X pn Wx (.Raise (some (.Call (.Name c p) [.Constant (.str m) j p2] [] pos)) none pos2) (mRaise c) := by
  obtain ⟨C, hm, hx, hk, hs, ht⟩ := E.ex
  refine ⟨_, L2.ps_raise hc tk (pmk_own PySem.F.excBase_ValueError hx hm hk (raises_own hs ht) hg hdb), fun B H σ env fp O D c => ?_⟩
  exact c (.ref C) none σ H B fp ⟨O, Step.refl (by simp), fun _ _ => rfl⟩ ⟨C, rfl, hm, .inl ⟨rfl, rfl⟩⟩ (fun _ h => by cases h)
end
end AM
set_option Elab.async false
set_option linter.all false
set_option maxRecDepth 100000
namespace AM
open PySem L2
def mFz (m : ME W) : ME W := m.bind (ME.op fun w => w.toD.map W.sh)
section
variable {G : GX} {k p : Bool} {Wx : WX}
theorem Sim.fz {t : TE} {m : ME W} (h : Sim G true p Wx (rW G) t m) : Sim G true p Wx (rW G) t (mFz m) := by
  intro B H σ env fp O Q c
  refine h B H σ env fp O _ ?_
  unfold mFz ME.bind at c
  cases e1 : m env with
  | none => rw [e1] at c; exact c
  | some r =>
    obtain ⟨r, env1⟩ := r
    rw [e1] at c
    cases r with
    | ex x => exact c
    | ok w =>
      intro v H1 B1 f0 fp1 P
      simp only [ME.op] at c
      cases e2 : w.toD with
      | none => rw [e2] at c; exact c.elim
      | some d =>
        rw [e2] at c
        obtain ⟨nd, dis⟩ := P.own rfl
        have be := grd_bext (H := H1) P.out
        have rv : relW G B1 H1 w v f0 := P.rel
        have rd : repD G (grd B1 H1 f0) d v := relW_toD be rv e2 fun q hq => grd_in hq
        refine c v H1 (grd B1 H1 f0) [] fp1 ⟨⟨grd_sub P.ok.sub, relE_frame be P.ok.rel fun _ _ => rfl, P.ok.nd, fun q hq => ?_⟩, ?_, fun q hq => by simp at hq, ⟨P.step.keep, fun a o h => be a o (P.step.bext a o h), fun a h n => ?_, fun a ha => P.step.new a ?_, P.step.live⟩, fun _ => ⟨List.nodup_nil, fun q hq => by simp at hq⟩, fun hp => ?_⟩
        · rw [grd_out fun z => dis q z hq]
          exact P.ok.out q hq
        · show relW G _ _ _ _ _
          simp only [relW]
          exact ⟨rd, trivial⟩
        · rw [grd_out fun z => ?_]
          · exact P.step.bold a h n
          · rcases P.step.new a (by simp [z]) with y | y
            · exact n y
            · exact h y
        · simp only [List.nil_append] at ha
          simp [ha]
        · obtain ⟨s1, s2, s3, s4⟩ := P.pure hp
          refine ⟨s1, fun q hq => ?_, s3, s4⟩
          rw [grd_out fun z => ?_]
          · exact s2 q hq
          · rcases P.step.new q (by simp [z]) with y | y
            · exact dis q z (by rw [s4]; exact y)
            · exact hq y
end
section
variable {X : Cx} {Wx : WX} {k p k1 p1 k2 p2 : Bool} {e a b : Expr} {m ma mb : ME W} {pos p4 p5 p6 pp : Pos} {j : Nat}
theorem se_fz (h : SE X Wx true p e m) : SE X Wx true p e (mFz m) := by
  obtain ⟨t, pe, s⟩ := h
  exact ⟨t, pe, s.fz⟩
end
end AM
set_option Elab.async false
set_option linter.all false
set_option maxRecDepth 100000
namespace AM
open PySem L2
section
variable {X : Cx} {Wx : WX} {pn : Nat → Bool} {p k : Bool} {e a b c3 : Expr} {ma : ME (List W)} {pos : Pos}
theorem SimI.weak {G : GX} {t : TI} {m : ME (List D)} (h : SimI G p Wx t m) : SimI G false Wx t m := by
  intro B H σ env fp O R c
  refine h B H σ env fp O R ?_
  cases e : m env with
  | none => rw [e] at c; exact c
  | some r =>
    obtain ⟨r, env1⟩ := r
    rw [e] at c
    cases r with
    | ex x => exact c
    | ok ds => exact fun J H1 B1 fp1 P => c J H1 B1 fp1 ⟨P.ok, P.step, fun z => (Bool.false_ne_true z).elim, P.walk⟩
theorem si_p {tg iter : Expr} {m : ME (List D)} (h : SI X Wx p tg iter m) : SI X Wx false tg iter m := by
  obtain ⟨t, h1, h2⟩ := h
  exact ⟨t, h1, h2.weak⟩
theorem sts_p {es : List Expr} {n : ME Bool} (h : STts X Wx p es n) : STts X Wx false es n := by
  obtain ⟨t, h1, h2⟩ := h
  cases p
  · exact ⟨t, h1, h2⟩
  · exact ⟨t, h1, h2.unpure false⟩
theorem ss_lcPZ {i : Nat} {y : Str} {py spos : Pos} {elt tg iter : Expr} {ifs : List Expr} {scope : Scope} {own : List (Str × Nat)} {mi : ME (List D)} {mg : MG} {mc : ME Bool} {me : ME W} (hp : pn i = false) (hc : X.calm = true) (hN : X.N.Nodup) (hy : X.N[i]? = some y) (hyl : X.env.scope.names.lookup y = some .local)
    (hsw : swapsWith (.ListComp elt [⟨tg, iter, ifs, 0⟩] scope pos) (some (.Name y py)) spos.line X.env = pure true) (hi : SI X Wx p tg iter mi) (ok : BlkOk X.N X.env.scope scope own) (hg : ∀ b : BF, SG (b.cx X scope) (offs (own.map (·.2))) true tg mg) (ht : ∀ b : BF, STts (b.cx X scope) W0 true ifs mc) (he : ∀ b : BF, SE (b.cx X scope) W0 true true elt me) (hs : ∀ x, foldedSetIterable iter X.env x = pure x := by intro _; rfl) :
    SS X pn Wx (.Assign [.Name y py] (.ListComp elt [⟨tg, iter, ifs, 0⟩] scope pos) spos) (mAsg (mFz (mCompP mi mg mc me (own.map (·.2)))) (gSet i)) := by
  obtain ⟨ti, pi, si⟩ := hi
  obtain ⟨t1, p1, s1⟩ := uni_g hg
  obtain ⟨t2, p2, s2⟩ := uni_t ht
  obtain ⟨t3, p3, s3⟩ := uni_e he
  exact ⟨_, ps_setLc hc hN hy hyl hsw pi ok (fun s H C cl fp => p1 ⟨s, H, C, cl, fp⟩) (fun s H C cl fp => p2 ⟨s, H, C, cl, fp⟩) (fun s H C cl fp => p3 ⟨s, H, C, cl, fp⟩) hs, simS_asg (sim_compP si s1 s2 s3).fz (simG_name (qq := true) hp)⟩
end
end AM
set_option Elab.async false
set_option linter.all false
set_option maxRecDepth 100000
namespace AM
open PySem L2
def mK0 (mf : MF) (ma : ME (List AW)) : ME W := ma.bind fun as => callK0 mf as
def mK1 (mf : MF) (ma : ME (List AW)) : ME W := ma.bind fun as => match ioOf as with
    | none => ME.stuck
    | some (i, pa) => if ioCount as = 1 then callK1 mf as i pa else ME.stuck
theorem r65 {k : Nat} {A : Around} (r : Room k A) : A.units + 65 < cLine := by have := r.un; omega
/-- the law's promise -/
def spL (K : PySem.W.Frag) (mf : Nat → MF) : Sp := fun vs H Q _ => ∃ (a : Addr) (ns : List Int) (fu : Nat) (outs : List (Option W)), vs = [.ref a] ∧ SqL K H a (ns.map V.int) ∧ mf fu [.sh (.scr ns)] = some (.ok (.sh (.bl true)), outs) ∧ ∀ H', Q (.bl true) H'
theorem FnOk.law {P : Program} {w : World} {K : PySem.W.Frag} {mg : Str → Option Value} {base : Heap} {CX : CXT} {k : Nat} {f : Addr} {fd : FuncData} {x : Str} {mf : Nat → MF} (F : ∀ fu, FnOk P w K mg base CX k f fd [x] (spOf ⟨K, mg⟩ 1 (mf fu))) : FnOk P w K mg base CX k f fd [x] (spL K mf) := by
  have key : ∀ vs H Q E, spL K mf vs H Q E → ∃ fu, spOf ⟨K, mg⟩ 1 (mf fu) vs H Q E := by
    rintro vs H Q E ⟨a, ns, fu, outs, rfl, hs, e, q⟩
    refine ⟨fu, rfl, H, [.sh (.scr ns)], [], Same.refl H, ?_, List.nodup_nil, by simp, ?_⟩
    · simp only [relWs, relW, repD]
      exact ⟨_, [], [], [], rfl, ⟨⟨a, rfl, hs⟩, rfl⟩, ⟨rfl, rfl⟩, rfl⟩
    · rw [e]
      intro v H' B' f0 f2 s r _ _ _ _
      simp only [relW, repD] at r
      rw [r.1]
      exact q H'
  exact ⟨fun vs H Q E h => by
    obtain ⟨fu, h⟩ := key vs H Q E h
    exact (F fu).len vs H Q E h, fun A outer s H args us vs Q E hr he hb hv hs => by
    obtain ⟨fu, h⟩ := key vs H Q E hs
    exact (F fu).run A outer s H args us vs Q E hr he hb hv h⟩
theorem spL_mk {K : PySem.W.Frag} {mf : Nat → MF} {H : Hp} {a : Addr} {ns : List Int} {E : XK} (hS : SqL K H a (ns.map V.int)) (h : ∃ fu outs, mf fu [.sh (.scr ns)] = some (.ok (.sh (.bl true)), outs)) : spL K mf [.ref a] H (fun v _ => v = .bl true) E := by
  obtain ⟨fu, outs, e⟩ := h
  exact ⟨a, ns, fu, outs, rfl, hS, e, fun _ => rfl⟩
theorem noCX {P : Program} {w : World} {H : Hp} {s : Shared} {e : Value} {s' : Shared} (h : L2.CX P w [] H s (fun _ _ _ => False) e s') : False := by
  obtain ⟨_, _, _, _, _, _, _, _, _, _, _, _, z⟩ := h
  exact z
theorem exc_mk {K : PySem.W.Frag} {mg : Str → Option Value} {c : Str} {C : Addr} (h1 : mg c = some (.ref C)) (h2 : PySem.W.excIn K C [.type "ValueError", .type "Exception", .type "BaseException", .type "object"] "ValueError.__new__" = true) (h3 : PySem.W.keepIn K (.ref C) = true)
    (h4 : PySem.W.subIn K (.ref C) (.type "BaseException") = some true) (h5 : PySem.W.typeIn K (.ref C) = some (.type "type")) : ExC K mg c := ⟨⟨C, h1, h2, h3, h4, h5⟩⟩
end AM
set_option Elab.async false
set_option linter.all false
set_option maxRecDepth 100000
namespace AM
open PySem L2 PyProof.Rows
end AM
set_option Elab.async false
set_option linter.all false
set_option maxRecDepth 100000
namespace AM
open PySem L2 PyProof.Rows
section
variable {G : GX} {B H : Hp} {σ : L2.St} {env : Env} {f f' g : List Addr} {w : W} {v : V} {i : Nat}
/-- what a slot holds, taken out -/
theorem relE_out (r : relE G B H σ env f) (e : env[i]? = some (some w)) : ∃ v g f', σ[i]? = some (some v) ∧ relW G B H w v g ∧ relE G B H σ (env.set i none) f' ∧ (f.Nodup → (g ++ f').Nodup) ∧ ∀ q ∈ g ++ f', q ∈ f := by
  obtain ⟨e1, e2, s1, o, s2, f1, g, f2, rfl, rfl, l1, l2, rfl, r1, ⟨v, rfl, r2⟩, r3⟩ := relE_split r e
  refine ⟨v, g, f1 ++ ([] ++ f2), get_mid l2, r2, ?_, fun n => ?_, fun q hq => ?_⟩
  · rw [set_mid l1]
    exact relE_join r1 (show relS G B H (some v) none [] from rfl) r3
  · simp only [List.nodup_append, List.mem_append, List.nil_append] at n ⊢
    grind
  · simp only [List.mem_append, List.nil_append] at hq ⊢
    grind
/-- and put in again, where the machine's slot still has it -/
theorem relE_in (r : relE G B H σ env f') (e : env[i]? = some none) (hv : σ[i]? = some (some v)) (rw' : relW G B H w v g) : ∃ f, relE G B H σ (env.set i (some w)) f ∧ ((g ++ f').Nodup → f.Nodup) ∧ ∀ q ∈ f, q ∈ g ++ f' := by
  obtain ⟨e1, e2, s1, o, s2, f1, g0, f2, rfl, rfl, l1, l2, rfl, r1, r2, r3⟩ := relE_split r e
  rw [get_mid l2] at hv
  cases hv
  have z : g0 = [] := r2
  subst z
  refine ⟨f1 ++ (g ++ f2), ?_, fun n => ?_, fun q hq => ?_⟩
  · rw [set_mid l1]
    exact relE_join r1 ⟨v, rfl, rw'⟩ r3
  · simp only [List.nodup_append, List.mem_append, List.nil_append] at n ⊢
    grind
  · simp only [List.mem_append, List.nil_append] at hq ⊢
    grind
end
end AM
set_option Elab.async false
set_option linter.all false
set_option maxRecDepth 100000
namespace AM
open PySem L2 PyProof.Rows
end AM
set_option Elab.async false
set_option linter.all false
set_option maxRecDepth 100000
namespace AM
open PySem L2 PyProof.Rows
end AM
set_option Elab.async false
set_option linter.all false
set_option maxRecDepth 100000
namespace AM
open PySem L2 PyProof.Rows
def mNoX (m : ME W) : ME W := fun env => match m env with
  | some (.ok w, e) => some (.ok w, e)
  | _ => none
theorem passes0 {X : Cx} : Passes (L2.CX X.prog X.w) X (WE W0 []) := fun pins σ H s e s' I c => passAt takes0 σ pins H s e s' I c
end AM
set_option Elab.async false
set_option linter.all false
set_option maxRecDepth 100000
namespace AM
open PySem L2 PyProof.Rows
end AM
set_option Elab.async false
set_option linter.all false
set_option maxRecDepth 100000
namespace AM
open PySem L2 PyProof.Rows
theorem se_gintE {X : Cx} {Wx : WX} {x : Str} {i : Int} {pos : Pos} (hg : Gl X x) (h : ∃ u, X.mg x = some u ∧ RelV (.int i) u) (hd : (x == ("__debug__" : Str)) = false := by decide) : SE X Wx true true (.Name x pos) (mC (.int i)) := by
  obtain ⟨u, hm, r⟩ := h
  exact se_gint hg hm r hd
theorem se_gstrE {X : Cx} {Wx : WX} {x : Str} {i : Str} {pos : Pos} (hg : Gl X x) (h : ∃ u, X.mg x = some u ∧ RelV (.str i) u) (hd : (x == ("__debug__" : Str)) = false := by decide) : SE X Wx true true (.Name x pos) (mC (.str i)) := by
  obtain ⟨u, hm, r⟩ := h
  exact se_gstr hg hm r hd
theorem sim_nox {G : GX} {Wx : WX} {k p : Bool} {t : TE} {m : ME W} (h : Sim G k p W0 (rW G) t m) : Sim G k p Wx (rW G) t (mNoX m) := by
  intro B H σ env fp O Q c
  refine h B H σ env fp O Q ?_
  unfold mNoX at c
  cases e : m env with
  | none => rw [e] at c; exact c
  | some r =>
    obtain ⟨r, e2⟩ := r
    rw [e] at c
    cases r with
    | ok w => exact c
    | ex x => exact c.elim
theorem se_callN {X : Cx} {Wx : WX} {x : Str} {n j : Nat} {mf : MF} {pp pos : Pos} (D : Df X.prog X.w X.K X.mg X.base x n mf j) (hr : Room j X.A) (hg : Gl X x) (hdb : (x == ("__debug__" : Str)) = false := by decide) :
    SE X Wx true true (.Call (.Name x pp) [] [] pos) (mNoX (mK0 mf wNil)) := by
  obtain ⟨f, fd, ps, F, hm, hk, hb⟩ := D.ex
  have h : Sim (gx X) true true W0 (rW (gx X)) (tCall (spOf (gx X) n mf) [] (WE W0 []) tNil) (mK0 mf wNil) := by
    have e : (tCall (spOf (gx X) n mf) [] (WE W0 []) tNil) = (fun σ H Q => tNil σ H fun vs H1 => spOf (gx X) n mf vs H1 Q (WE W0 σ)) := by
      funext σ H Q
      unfold tCall
      simp only [List.append_nil]
    rw [e]
    exact sim_call0 D.len simA_nil
  exact ⟨_, pe_call0 F hr hg hm hk hb .nil passes0 hdb, sim_nox h⟩
end AM
set_option Elab.async false
set_option linter.all false
set_option maxRecDepth 100000
namespace AM
open PySem L2
end AM
set_option Elab.async false
set_option linter.all false
set_option maxRecDepth 100000
namespace AM
open PySem L2
end AM
set_option Elab.async false
set_option linter.all false
set_option maxRecDepth 100000
namespace AM
open PySem L2
end AM
set_option Elab.async false
set_option linter.all false
set_option maxRecDepth 100000
namespace AM
open PySem L2
def gNotInC : W × W → Option W := fun p => match p.1, p.2 with
  | .sh (.str x), .sh (.str z) => match x.cps.toList with
    | [c] => some (.sh (.bl (!decide (c ∈ z.cps.toList))))
    | _ => none
  | _, _ => none
section
variable {X : Cx} {b : Expr}
theorem str_one {x : Str} {c : Nat} (h : x.cps.toList = [c]) : x = ⟨#[c]⟩ := by
  obtain ⟨a⟩ := x
  congr 1
  exact Array.toList_inj.mp h
theorem cr_notInC (hm : behindInMarks .NotIn b = false) : CR X .NotIn b gNotInC := by
  refine ⟨_, op_notIn_sign, ops_flat fun B H a b fp c s ra e => ?_, hm⟩
  obtain ⟨f1, f2, r1, r2, _⟩ := ra
  obtain ⟨a1, a2⟩ := a
  unfold gNotInC at e
  simp only at e r1 r2
  split at e
  · rename_i x z
    split at e
    · rename_i c hc
      cases e
      have r1 : relW _ _ _ _ _ _ := r1
      have r2 : relW _ _ _ _ _ _ := r2
      simp only [relW, repD] at r1 r2
      exact ⟨.bl _, .bl (!decide (c ∈ z.cps.toList)), rfl, by simp [repD], fun Q q => ⟨c, z, by rw [r1.1, str_one hc], r2.1, q⟩⟩
    · cases e
  · cases e
end
/-- the signs of a text -/
def signs (z : Str) : List D := z.cps.toList.map fun c => D.str ⟨#[c]⟩
def wSigns : W → Option (List D)
  | .sh (.str z) => some (signs z)
  | _ => none
def mItS (m : ME W) : ME (List D) := m.bind (ME.op wSigns)
section
variable {X : Cx} {Wx : WX} {k p : Bool} {tg e : Expr} {m : ME W}
theorem si_txt (h : SE X Wx k p e m) : SI X Wx p tg e (mItS m) := by
  obtain ⟨t, pe, s⟩ := h
  refine ⟨_, pi_str pe, fun B H σ env fp O R c => ?_⟩
  refine s B H σ env fp O _ ?_
  unfold mItS ME.bind at c
  cases e1 : m env with
  | none => rw [e1] at c; exact c
  | some r =>
    obtain ⟨r, env1⟩ := r
    rw [e1] at c
    cases r with
    | ex x => exact c
    | ok w =>
      intro v H1 B1 f0 fp1 P
      simp only [ME.op] at c
      cases e2 : wSigns w with
      | none => rw [e2] at c; exact c.elim
      | some ds =>
        rw [e2] at c
        have rw' : relW (gx X) B1 H1 w v f0 := P.rel
        unfold wSigns at e2
        split at e2
        · rename_i z
          cases e2
          simp only [relW, repD] at rw'
          obtain ⟨rfl, rfl⟩ := rw'
          have hl : (signs z).length = z.cps.size := by simp [signs]
          refine ⟨z, rfl, c _ H1 B1 fp1 ⟨P.ok, P.step, P.pure, _, _, by rw [hl]; exact walk_str, fun _ _ => trivial, fun i H2 x H3 hi _ y => ?_⟩⟩
          obtain ⟨y1, c, hc, rfl⟩ := y
          refine ⟨.str ⟨#[c]⟩, ?_, .inl ⟨y1, by simp [repD]⟩⟩
          unfold signs
          rw [List.getElem?_map, Array.getElem?_toList, hc]
          rfl
        · cases e2
end
end AM
set_option Elab.async false
set_option linter.all false
set_option maxRecDepth 100000
namespace AM
open PySem L2 PyProof.Rows
end AM
namespace AM
open PySem L2 PyProof.Rows
end AM
set_option Elab.async false
set_option linter.all false
set_option maxRecDepth 100000
namespace AM
open PySem L2 PyProof.Rows
end AM
set_option Elab.async false
set_option linter.all false
set_option maxRecDepth 100000
namespace AM
open PySem L2 PyProof.Rows
section
variable {G : GX} {B H B1 H1 : Hp} {σ : L2.St} {env : Env} {fp T : List Addr} {q : Addr} {o : HO}
theorem Ok.lay (O : Ok G B H σ env fp) (n : H q = none) : Ok G B (upd H q o) σ env fp := by
  have live := relE_live O.rel
  refine ⟨fun x u e => ?_, relE_frame (fun _ _ h => h) O.rel fun x hx => upd_ne fun z => live x hx (by rw [z]; exact n), O.nd, O.out⟩
  have := O.sub x u e
  rw [upd_ne fun z => by rw [z, n] at this; cases this]
  exact this
theorem Step.lay (S : Step B H fp B1 H1 T) (n : H1 q = none) : Step B H fp B1 (upd H1 q o) T := by
  refine ⟨fun x u e z => ?_, S.bext, S.bold, S.new, fun x h => ?_⟩
  · have := S.keep x u e z
    rw [upd_ne fun z => by rw [z, n] at this; cases this]
    exact this
  · have := S.live x h
    rw [upd_ne fun z => this (by rw [z]; exact n)]
    exact this
end
end AM
set_option Elab.async false
set_option linter.all false
set_option maxRecDepth 100000
namespace AM
open PySem L2 PyProof.Rows
end AM
set_option Elab.async false
set_option linter.all false
set_option maxRecDepth 100000
namespace AM
open PySem L2 PyProof.Rows
end AM
namespace AM
open PySem L2 PyProof.Rows
end AM
set_option Elab.async false
set_option linter.all false
set_option maxRecDepth 100000
namespace AM
open PySem L2 PyProof.Rows
end AM
set_option Elab.async false
set_option linter.all false
set_option maxRecDepth 100000
namespace AM
open PySem L2 PyProof.Rows
end AM
set_option Elab.async false
set_option linter.all false
set_option maxRecDepth 100000
namespace AM
open PySem L2 PyProof.Rows
end AM
set_option Elab.async false
set_option linter.all false
set_option maxRecDepth 100000
namespace AM
open PySem L2 PyProof.Rows
mutual
def plY : PyData → Bool
  | .none => true
  | .bool _ => true
  | .int _ => true
  | .str _ => false
  | .list xs => plYs xs
  | .tuple xs => plYs xs
  | .dict _ => false
def plYs : List PyData → Bool
  | [] => true
  | x :: xs => plY x && plYs xs
end
end AM
set_option Elab.async false
set_option linter.all false
set_option maxRecDepth 100000
namespace AM
open PySem PySem.Spec L2 PyProof.Rows
end AM
set_option Elab.async false
set_option linter.all false
set_option maxRecDepth 100000
namespace AM
open PySem PySem.Spec L2 PyProof.Rows
end AM
set_option Elab.async false
set_option linter.all false
set_option maxRecDepth 100000
namespace AM
open PySem PySem.Spec L2 PyProof.Rows
end AM
set_option Elab.async false
set_option linter.all false
set_option maxRecDepth 100000
namespace AM
open PySem PySem.Spec L2 PyProof.Rows
end AM
set_option Elab.async false
set_option linter.all false
set_option maxRecDepth 100000
namespace AM
open PySem PySem.Spec L2 PyProof.Rows
end AM
set_option Elab.async false
set_option linter.all false
set_option maxRecDepth 100000
namespace AM
open PySem PySem.Spec L2 PyProof.Rows
end AM
set_option Elab.async false
set_option linter.all false
set_option maxRecDepth 100000
namespace AM
open PySem PySem.Spec L2 PyProof.Rows
section
variable {X : Cx} {pn : Nat → Bool} {Wx : WX} {p : Bool} {o key value : Expr} {ml : ME Path} {mk : ME W} {iv : Nat} {pos pos' : Pos}
theorem u1 {a b : Nat} (h : a + 64 < b) : a + 1 < b := by omega
end
end AM
set_option Elab.async false
set_option linter.all false
set_option maxRecDepth 100000
namespace AM
open PySem PySem.Spec L2 PyProof.Rows
end AM
set_option Elab.async false
set_option linter.all false
set_option maxRecDepth 100000
namespace AM
open PySem PySem.Spec L2 PyProof.Rows
end AM
set_option Elab.async false
set_option linter.all false
set_option maxRecDepth 100000
namespace AM
open PySem PySem.Spec L2 PyProof.Rows
end AM
set_option Elab.async false
set_option linter.all false
set_option maxRecDepth 100000
namespace AM
open PySem PySem.Spec L2 PyProof.Rows
end AM
set_option Elab.async false
set_option linter.all false
set_option maxRecDepth 100000
namespace AM
open PySem L2
end AM
set_option Elab.async false
set_option linter.all false
set_option maxRecDepth 100000
namespace AM
open PySem L2
end AM
set_option Elab.async false
set_option linter.all false
set_option maxRecDepth 100000
namespace AM
open PySem PySem.Spec L2 PyProof.Rows
end AM
set_option Elab.async false
set_option linter.all false
set_option maxRecDepth 100000
namespace AM
open PySem PySem.Spec L2 PyProof.Rows
end AM
set_option Elab.async false
set_option linter.all false
set_option maxRecDepth 100000
namespace AM
open PySem PySem.Spec L2 PyProof.Rows
end AM
set_option Elab.async false
set_option linter.all false
set_option maxRecDepth 100000
namespace AM
open PySem PySem.Spec L2 PyProof.Rows
end AM
set_option Elab.async false
set_option linter.all false
set_option maxRecDepth 100000
namespace AM
open PySem PySem.Spec L2 PyProof.Rows
end AM
set_option Elab.async false
set_option linter.all false
set_option maxRecDepth 100000
namespace AM
open PySem PySem.Spec L2 PyProof.Rows
end AM
set_option Elab.async false
set_option linter.all false
set_option maxRecDepth 100000
namespace AM
open PySem PySem.Spec L2 PyProof.Rows
end AM
set_option Elab.async false
set_option linter.all false
set_option maxRecDepth 100000
namespace AM
open PySem PySem.Spec L2 PyProof.Rows
end AM
set_option Elab.async false
set_option linter.all false
set_option maxRecDepth 100000
namespace AM
open PySem PySem.Spec L2 PyProof.Rows
end AM
set_option Elab.async false
set_option linter.all false
set_option maxRecDepth 100000
namespace AM
open PySem PySem.Spec L2 PyProof.Rows
end AM
set_option Elab.async false
set_option linter.all false
set_option maxRecDepth 100000
namespace AM
open PySem PySem.Spec L2 PyProof.Rows
end AM
set_option Elab.async false
set_option linter.all false
set_option maxRecDepth 100000
namespace AM
open PySem PySem.Spec L2 PyProof.Rows
end AM
set_option Elab.async false
set_option linter.all false
set_option maxRecDepth 100000
namespace AM
open PySem PySem.Spec L2 PyProof.Rows
end AM
set_option Elab.async false
set_option linter.all false
set_option maxRecDepth 100000
namespace AM
open PySem PySem.Spec L2 PyProof.Rows
end AM
set_option Elab.async false
set_option linter.all false
set_option maxRecDepth 100000
namespace AM
open PySem L2 PyProof.Rows
end AM
set_option Elab.async false
set_option linter.all false
set_option maxRecDepth 100000
namespace AM
open PySem L2 PyProof.Rows
end AM
set_option Elab.async false
set_option linter.all false
set_option maxRecDepth 100000
namespace AM
open PySem PySem.Spec L2 PyProof.Rows
def tCallL (i : Nat) (f : Addr) (sp : Sp) (E : L2.St → XK) (t : TA) : TE := fun σ H Q => σ[i]? = some (some (.ref f)) ∧ tCallS sp E t σ H Q
/-- the call of what a slot holds -/
def mCallL (i : Nat) (c : Str) (m : ME W) : ME W := fun env => match env[i]? with
  | some (some (.sh (.fn d))) => if d = c then m env else none
  | _ => none
section
variable {X : Cx} {CX : CXT} {Wx : WX} {p : Bool} {x c : Str} {i j n k : Nat} {mf : MF} {f : Addr} {fd : FuncData} {ps : List Str} {sp : Sp} {E : L2.St → XK} {e : Expr} {es : List Expr} {t : TA} {ma : ME (List AW)} {pp pos : Pos}
theorem se_fn (D : Df X.prog X.w X.K X.mg X.base x n mf j) (hg : Gl X x) (hdb : (x == ("__debug__" : Str)) = false := by decide) : SE X Wx true true (.Name x pos) (mC (.fn x)) := by
  obtain ⟨f, fd, ps, F, hm, hk, hb⟩ := D.ex
  exact ⟨_, pe_glob (v := .ref f) hg hm rfl hdb, sim_c fun _ => by simp only [repD]; exact ⟨f, rfl, hm, hk⟩⟩
theorem pe_callL (hv : PE X (.Name x pp) (tVar i)) (F : FnOk X.prog X.w X.K X.mg X.base CX k f fd ps sp) (hr : Room k X.A) (hk : PySem.W.keepIn X.K (.ref f) = true) (hb : Binds X.K fd ps []) (hx : ∀ σ, PassesAt CX X σ (E σ)) (ha : PA X (e :: es) t)
    (he : starEach (e :: es) X.env = (false, eval e X.env) :: starEach es X.env := by rfl) (hpl : (backTo pos (starEach es X.env)).any (·.1) = false := by rfl) : PE X (.Call (.Name x pp) (e :: es) [] pos) (tCallL i f sp E t) := by
  refine ⟨fun pins s σ H Q I h => wpAny_Call_Name_kw (thn (hv.run pins s σ H (fun v H' => v = .ref f ∧ H' = H) I ⟨_, h.1, rfl, rfl⟩) fun u s0 ⟨v, H0, I0, rv, e1, e2⟩ => ?_)⟩
  subst e1 e2
  cases rv
  refine PySem.W.callWith_K (h₀ := X.base) I0.ok.mod.kin hk (thn (ha.run pos pins s0 σ H0 _ I0 h.2) fun us s1 ⟨vs, H1, I1, r, q⟩ => ⟨I1.kIn, ?_⟩) he hpl
  have q : sp vs H1 Q (E σ) := q
  have lv := F.len _ _ _ _ q
  have lu : us.length = ps.length := r.length.symm.trans lv
  have b := hb s1 us I1.kIn (by simpa using lu)
  simp only [List.append_nil] at b
  refine wpAny_call (codeAny_mono (F.run X.A X.stack s1 H1 ⟨us, []⟩ us vs Q (E σ) hr I1.env0 b r q) fun res s' hq => ?_)
  match res, hq with
  | .error z, hq => exact hx σ pins H1 s1 z s' I1 hq
  | .ok (.ret u), hq => exact I1.after hq
  | .ok .next, hq => exact hq.elim
  | .ok .brk, hq => exact hq.elim
  | .ok .cont, hq => exact hq.elim
theorem se_callLP (i : Nat) (hv : PE X (.Name x pp) (tVar i)) (hpa : ∀ σ, PassesAt (L2.CX X.prog X.w) X σ (WE Wx σ)) (D : Df X.prog X.w X.K X.mg X.base c n mf j) (hr : Room j X.A) (ha : SAw X Wx p (e :: es) ma)
    (he : starEach (e :: es) X.env = (false, eval e X.env) :: starEach es X.env := by rfl) (hpl : (backTo pos (starEach es X.env)).any (·.1) = false := by rfl) : SE X Wx true p (.Call (.Name x pp) (e :: es) [] pos) (mCallL i c (ma.bind fun as => callK0 mf as)) := by
  obtain ⟨f, fd, ps, F, hm, hk, hb⟩ := D.ex
  obtain ⟨ta, pa, sa⟩ := ha
  refine ⟨_, pe_callL hv F hr hk hb hpa pa he hpl, ?_⟩
  intro B H σ env fp O Q c0
  unfold mCallL at c0
  have st : ∃ d, env[i]? = some (some (.sh (.fn d))) := by
    match h : env[i]? with
    | some (some (.sh (.fn d))) => exact ⟨d, rfl⟩
    | none => rw [h] at c0; exact c0.elim
    | some none => rw [h] at c0; exact c0.elim
    | some (some (.sh .non)) => rw [h] at c0; exact c0.elim
    | some (some (.sh (.bl _))) => rw [h] at c0; exact c0.elim
    | some (some (.sh (.int _))) => rw [h] at c0; exact c0.elim
    | some (some (.sh (.str _))) => rw [h] at c0; exact c0.elim
    | some (some (.sh (.lst _))) => rw [h] at c0; exact c0.elim
    | some (some (.sh (.tup _))) => rw [h] at c0; exact c0.elim
    | some (some (.sh (.exc _ _))) => rw [h] at c0; exact c0.elim
    | some (some (.sh (.scr _))) => rw [h] at c0; exact c0.elim
    | some (some (.sh (.obj _ _ _))) => rw [h] at c0; exact c0.elim
    | some (some (.ol _)) => rw [h] at c0; exact c0.elim
    | some (some (.ot _)) => rw [h] at c0; exact c0.elim
    | some (some (.ob _ _ _)) => rw [h] at c0; exact c0.elim
    | some (some (.dk _ _)) => rw [h] at c0; exact c0.elim
    | some (some (.dt _ _)) => rw [h] at c0; exact c0.elim
  obtain ⟨d, st⟩ := st
  rw [st] at c0
  by_cases hd : d = c
  · subst hd
    simp only [if_true] at c0
    obtain ⟨e1, e2, s1, o, s2, f1, g, f2, z1, z2, h1, h2, z3, r1, ⟨v, z4, rv⟩, r2⟩ := relE_split O.rel st
    subst z4
    simp only [relW, repD] at rv
    obtain ⟨⟨f', z5, z6, z7⟩, z8⟩ := rv
    have z6 : X.mg d = some (.ref f') := z6
    rw [hm] at z6
    cases z6
    subst z5
    exact ⟨by rw [z2]; exact get_mid h2, sim_call0 D.len sa B H σ env fp O Q c0⟩
  · simp only [if_neg hd] at c0; exact c0.elim
theorem se_callL (i : Nat) (hv : PE X (.Name x pp) (tVar i)) (tk : Takes X Wx) (D : Df X.prog X.w X.K X.mg X.base c n mf j) (hr : Room j X.A) (ha : SAw X Wx p (e :: es) ma)
    (he : starEach (e :: es) X.env = (false, eval e X.env) :: starEach es X.env := by rfl) (hpl : (backTo pos (starEach es X.env)).any (·.1) = false := by rfl) : SE X Wx true p (.Call (.Name x pp) (e :: es) [] pos) (mCallL i c (ma.bind fun as => callK0 mf as)) :=
  se_callLP i hv (fun σ => passAt tk σ) D hr ha he hpl
end
end AM
set_option Elab.async false
set_option linter.all false
set_option maxRecDepth 100000
namespace AM
open PySem PySem.Spec L2 PyProof PyProof.Rows
end AM
set_option Elab.async false
set_option linter.all false
set_option maxRecDepth 100000
namespace AM
open PySem L2 PyProof.Rows
end AM
set_option Elab.async false
set_option linter.all false
set_option maxRecDepth 100000
set_option maxHeartbeats 2000000
namespace AM
open PySem PySem.Spec L2 PyProof.Rows
/-- a block's context with what an exception out of it must meet -/
abbrev blkX (X : Cx) (s : Shared) (H : Hp) (scope : Scope) (cenv : PySem.Env) (fp : List Addr) (xe : Value → Shared → Prop) : Cx := { X.blk s H scope cenv fp with xe := xe }
theorem funFrames_sub {h B B2 : Heap} (hs : ∀ b, B.get? b = none → B2.get? b = none) : ∀ {l : List PySem.Env}, h.FunFrames B l → h.FunFrames B2 l
  | [], _ => trivial
  | _ :: _, ⟨hk, ⟨L, o, hf, hb, ho, hd⟩, hr⟩ => ⟨hk, ⟨L, o, hf, hs _ hb, ho, hd⟩, funFrames_sub hs hr⟩
section
variable {X : Cx} {Wx : WX} {pins pinsb : List (Addr × Obj)} {σ σb : L2.St} {H3 Hb : Hp} {s3 sb s' : Shared} {scope : Scope} {ce : PySem.Env} {fp : List Addr} {xe : Value → Shared → Prop} {E : XK} {e : Value}
/-- a call in the block let an exception out: the block is let go, the exception is in the def's air -/
theorem comp_fails (hs : X.stack = X.env :: X.outer) (hf : X.env.frame = some X.env.locals) (tk : Takes X Wx) (I3 : Inv X pins σ H3 s3) (f3 : ∀ b ∈ fp, FpOk X pins H3 b) (cL : ce.locals = s3.heap.objs.size) (cF : ce.frame = X.env.frame)
    (Ib : Inv (blkX X s3 H3 scope ce fp xe) pinsb σb Hb sb) (c : L2.CX X.prog X.w X.stack Hb sb E e s') (hE : ∀ cls d H', E cls d H' → Wx cls d σ H') :
    notedBy (model X.prog X.w) X.A ce (CompFails (model X.prog X.w) X.A X.xe ce) e s' := by
  obtain ⟨a, B, H', cls, d, rfl, fl, hok, ub, na, os, ag, hE'⟩ := c
  have ok := I3.ok
  have hfr : X.A.frames = some (X.env :: X.outer) := by rw [ok.frames, hs]
  obtain ⟨G, g1, g2⟩ := restrict s'.heap fun b => (B.get? b).isSome || decide (b ∈ frs X.stack)
  have st : B.StaysIn s'.heap := fl.1
  have gB : ∀ b o, B.get? b = some o → G.get? b = some o := fun b o e => by
    rw [g1 b (by simp [e])]
    exact st b o e
  have gF : ∀ b, b ∈ frs X.stack → G.get? b = s'.heap.get? b := fun b hb => g1 b (by simp [hb])
  have og : ∀ b o, G.get? b = some o → s'.heap.get? b = some o ∧ ((B.get? b).isSome = true ∨ b ∈ frs X.stack) := fun b o e => by
    cases q : ((B.get? b).isSome || decide (b ∈ frs X.stack)) with
    | false => rw [g2 b q] at e; cases e
    | true =>
      rw [g1 b q] at e
      exact ⟨e, by simpa [Bool.or_eq_true] using q⟩
  have J : Inv (blkX X s3 H3 scope ce fp xe) pinsb σb H' { sb with heap := G, gens := s'.gens, drawn := s'.drawn, toks := s'.toks } := by
    refine Ib.call (ch := []) ⟨fun b o e n hb _ => gB b o (ub.keep b o e n hb), fun b o e n hb _ => ?_, fun b o e n _ => ub.free b o e n, fun b o e _ => ?_, ub.tups, ub.frzs, ub.tbls⟩ (hok.kept gB) ag (fun _ z => nomatch z)
    · obtain ⟨sl, q⟩ := ub.slot b o e hb
      exact ⟨sl, by rw [gF b hb]; exact q⟩
    · by_cases hb : b ∈ frs X.stack
      · obtain ⟨sl, q⟩ := ub.slot b o e hb
        exact ⟨_, by rw [gF b hb]; exact q⟩
      · obtain ⟨o', q⟩ := ub.there b o e hb
        exact ⟨o', gB b o' q⟩
  have I7 : Inv X pins σ H' { sb with heap := G, gens := s'.gens, drawn := s'.drawn, toks := s'.toks } := I3.call' (ch := fp) J.os J.base J.hok J.bare fun b hb => ⟨(f3 b hb).2.2.2.1, (f3 b hb).2.1, (f3 b hb).2.2.2.2.1, (f3 b hb).2.2.2.2.2⟩
  have nC : H' ce.locals = none := J.free
  obtain ⟨m, hnG, _⟩ := J.loc
  have hnG : G.Ns ce.locals m := hnG
  have fC : FpOk X pins H' ce.locals := I3.fpOk (by rw [cL]; exact Nat.le_refl _) nC
  obtain ⟨f0, f1, f2, f3', f4, f5⟩ := fC
  obtain ⟨G2, h1, h2⟩ := restrict G fun b => decide (b ≠ ce.locals)
  obtain ⟨B2, b1, b2⟩ := restrict B fun b => decide (b ≠ ce.locals)
  have subG : ∀ b o, G2.get? b = some o → G.get? b = some o ∧ b ≠ ce.locals := fun b o e => by
    by_cases z : b = ce.locals
    · rw [h2 b (by simp [z])] at e; cases e
    · rw [h1 b (by simp [z])] at e; exact ⟨e, z⟩
  have subB : ∀ b o, B2.get? b = some o → B.get? b = some o ∧ b ≠ ce.locals := fun b o e => by
    by_cases z : b = ce.locals
    · rw [b2 b (by simp [z])] at e; cases e
    · rw [b1 b (by simp [z])] at e; exact ⟨e, z⟩
  have noneB : ∀ b, B.get? b = none → B2.get? b = none := fun b e => by
    cases q : B2.get? b with
    | none => rfl
    | some o => rw [(subB b o q).1] at e; cases e
  have I8 : Inv X pins σ H' { sb with heap := G2, gens := s'.gens, drawn := s'.drawn, toks := s'.toks } := I7.turned (t' := s'.toks) (fun b o hb e => by rw [h1 b (by simp [hb])]; exact e) f0 f1 f3' f4 f5
  have hn' : s'.heap.Ns ce.locals m := hnG.keeps fun b o e => (og b o e).1
  have fl2 : HandSPX.FlyingZ B2 X.stack a (Zc cls d) s'.heap := by
    obtain ⟨k1, k2, k3, oe, vs, T, oT, ts, q1, q2, q3, q4, q5, q6, q7, q8, q9⟩ := fl
    exact ⟨fun b o e => k1 b o (subB b o e).1, noneB a k2, funFrames_sub noneB k3, oe, vs, T, oT, ts, q1, q2, q3, q4, noneB T q5, q6, q7, q8, q9⟩
  rw [hs] at fl2
  show wpAny (model X.prog X.w) X.A (noteFrame (.ref a) ce) _ _ s'
  rw [noteFrame_env _ cF]
  refine HandSPX.looks_onZ Zc.steady hfr hf fl2 fun h1' hh up1 => ?_
  refine ⟨m, up1.ns hn', fun hh2 m2 hn2 sb2 => ?_⟩
  obtain ⟨c1, c2, c3, oe, vs, T, oT, ts, q1, q2, q3, q4, q5, q6, q7, q8, q9⟩ := hh
  have dictC := up1.ns hn'
  obtain ⟨oC, es, ep, hoC, hdC, _⟩ := dictC
  have aC : a ≠ ce.locals := fun z => by rw [z, hoC] at q1; cases q1; rw [hdC] at q3; cases q3
  have TC : T ≠ ce.locals := fun z => by rw [z, hoC] at q7; cases q7; rw [hdC] at q8; cases q8
  have e1 : hh2.get? a = some oe := (sb2.2 a aC).trans q1
  have st2 : B2.StaysIn hh2 := fun b o e => (sb2.2 b (subB b o e).2).trans (c1 b o e)
  have fr2 : hh2.FunFrames B2 (X.env :: X.outer) := Heap.FunFrames.sameBut sb2 hn2 c3
  have tr2 : HandSPX.TracedZ hh2 B2 a (Zc cls d) (rawInt X.env.locals) := ⟨oe, vs, T, oT, ts, e1, q2, q3, q4, q5, q6, (sb2.2 T TC).trans q7, q8, q9⟩
  unfold PySem.passOn
  refine wpAny_bind (wpAny_field (s := { s' with heap := hh2 }) e1 q3 q4 ?_)
  rw [if_neg (show ¬ ((Value.ref T == Value.none) = true) from by simp), cF, hf]
  refine wpAny_bind (HandSPX.setFlight_anyZ (s := { s' with heap := hh2 }) (fr := some X.env.locals) st2 fr2 tr2 fun h3 k1 k2 k3 k4 => wpAny_throw (tk _ _ ?_))
  refine ⟨a, B2, _, pins, σ, H', cls, d, rfl, I8, fun b o e hb => ?_, fun b o e hnf => ?_, .inr (.inr ?_), na, os, ag, hE _ _ _ hE'⟩
  · have e' : G2.get? b = some o := e
    obtain ⟨z1, z2⟩ := subG b o e'
    obtain ⟨y1, y2⟩ := og b o z1
    rcases y2 with y | y
    · obtain ⟨o', w⟩ := Option.isSome_iff_exists.mp y
      have := st b o' w
      rw [y1] at this; cases this
      rw [b1 b (by simp [z2])]; exact w
    · exact absurd y hb
  · have e' : G2.get? b = some o := e
    obtain ⟨z1, z2⟩ := subG b o e'
    obtain ⟨y1, _⟩ := og b o z1
    obtain ⟨sl, w1⟩ := up1 b o y1 hnf
    have w2 : hh2.get? b = some { o with slots := sl } := (sb2.2 b z2).trans w1
    obtain ⟨sl2, w3⟩ := k4 b _ w2 hnf
    exact ⟨sl2, w3⟩
  · rw [hs]
    exact ⟨k1, noneB a fl.2.1, k2, k3⟩
end
section
variable {X : Cx} {Wx : WX} {pins : List (Addr × Obj)} {σ : L2.St} {H : Hp} {s : Shared}
theorem lc_coreX {Q : VK} {elt tg iter : Expr} {ifs : List Expr} {scope : Scope} {own : List (Str × Nat)} {pos pos' : Pos} {wi : TI} {g : TG} {tt : TT} {te : TE} {use : Option (Value → Sem Unit)} {Qf : Value → Shared → Prop}
    (hst : X.stack = X.env :: X.outer) (hfr : X.env.frame = some X.env.locals) (tk : Takes X Wx)
    (hc : X.calm = true) (hN : X.N.Nodup) (I : Inv X pins σ H s) (hi : PI X tg iter wi) (ok : BlkOk X.N X.env.scope scope own)
    (hg : ∀ (s : Shared) (H : Hp) (C : Addr) (cl : List (Str × Addr)) (fp : List Addr) (xe : Value → Shared → Prop), PG (blkX X s H scope (compEnvC scope cl C X.env) fp xe) tg g)
    (ht : ∀ (s : Shared) (H : Hp) (C : Addr) (cl : List (Str × Addr)) (fp : List Addr) (xe : Value → Shared → Prop), PTs (blkX X s H scope (compEnvC scope cl C X.env) fp xe) ifs tt)
    (he : ∀ (s : Shared) (H : Hp) (C : Addr) (cl : List (Str × Addr)) (fp : List Addr) (xe : Value → Shared → Prop), (∀ σ', PassesAt (L2.CX X.prog X.w) (blkX X s H scope (compEnvC scope cl C X.env) fp xe) σ' (fun cls d H' => Wx cls d σ H')) → PE (blkX X s H scope (compEnvC scope cl C X.env) fp xe) elt te)
    (hs : ∀ x, foldedSetIterable iter X.env x = pure x)
    (h : tLc wi g tt te (own.map (·.2)) σ H Q)
    (hRR : ∀ D (ce : PySem.Env) s' m H', Inv X pins σ H' s' → Q (.ref D) H' → s'.heap.Ns ce.locals m → FpOk X pins H' ce.locals → compEnds (model X.prog X.w) X.A X.xe use Qf (.ref D) ce (.ok .next) s') :
    wpAny (model X.prog X.w) X.A (comprehension (.ListComp elt [⟨tg, iter, ifs, 0⟩] scope pos) scope X.env pos' (newList []) false (eval iter X.env) use) Qf X.xe s := by
  have hfree : ∀ y ∈ scope.names, y.2 = .free → ∃ c, X.env.cells.lookup y.1 = some c := fun y hy e => by
    rcases ok.free y hy e with k | k
    · exact I.ok.has _ (.inl k)
    · exact I.ok.has _ (.inr k)
  refine comprehension_at (use := use) rfl hs (closure_ok hfree) ok.kind (fun y hy e => by rw [ok.uniq y hy, e])
    (thn (hi.run pins s σ H _ I h) fun xv s1 hx => thn hx fun itv s2 h2 => ?_)
  obtain ⟨it, fp, tn, J, H2, e, I2, T, st2, f2, q⟩ := h2
  subst e
  refine wpAny_newObj_type (newEnv_comp ?_) (by show 0 ≤ sizeLine; decide)
  generalize hD : s2.heap.objs.size = D
  have hDn : H2 D = none := I2.hok.fresh (Nat.le_of_eq hD)
  obtain ⟨W, ⟨m0, w0⟩, turn⟩ := q D hDn
  generalize hs3 : ({ s2 with heap := s2.heap.push { cls := .type "list", data := .seq ([] : List Value).toArray } } : Shared) = s3
  have I3 : Inv X pins σ (upd H2 D (.lst [])) s3 := by
    rw [← hs3]
    refine I2.laid (t' := s2.toks) (fun b o e => Heap.get?_push_of_some _ e) (Nat.le_of_eq hD) ⟨Nat.zero_le _, [], 0, .nil, ?_⟩
    rw [← hD]
    exact Heap.get?_push_size _ rfl
  have h3 : s3.heap = s2.heap.push { cls := .type "list", data := .seq ([] : List Value).toArray } := by rw [← hs3]
  have sz : ∀ b ∈ fp, b < s2.heap.objs.size := fun b hb => by
    obtain ⟨o, e, _⟩ := T.obj _ _ st2 b hb
    exact Heap.lt_size e
  have f3 : ∀ b ∈ fp, FpOk X pins (upd H2 D (.lst [])) b ∧ b < s3.heap.objs.size := fun b hb => by
    have hlt := sz b hb
    refine ⟨⟨?_, (f2 b hb).2⟩, by rw [h3, Heap.size_push]; exact Nat.lt_succ_of_lt hlt⟩
    rw [upd_ne (by rw [← hD]; exact Nat.ne_of_lt hlt)]
    exact (f2 b hb).1
  have st3 : tn 0 s3.heap := T.keep _ _ _ st2 fun b _ o e => by rw [h3]; exact Heap.get?_push_of_some _ e
  have I4 := block_start I3 ok hN f3
  have pg := hg s3 (upd H2 D (.lst [])) s3.heap.objs.size (cellsFrom (s3.heap.objs.size + 1) scope.names (cloFrom X.env.cells scope.names [])) fp
  have pt := ht s3 (upd H2 D (.lst [])) s3.heap.objs.size (cellsFrom (s3.heap.objs.size + 1) scope.names (cloFrom X.env.cells scope.names [])) fp
  have pe := he s3 (upd H2 D (.lst [])) s3.heap.objs.size (cellsFrom (s3.heap.objs.size + 1) scope.names (cloFrom X.env.cells scope.names [])) fp
  show codeAny _ _ (.compStart (.ListComp elt [⟨tg, iter, ifs, 0⟩] scope pos) 0 (.ref it) (.ref D) (compEnvC scope (cellsFrom (s3.heap.objs.size + 1) scope.names (cloFrom X.env.cells scope.names [])) s3.heap.objs.size X.env)) (compEnds (model X.prog X.w) X.A X.xe use Qf (.ref D) (compEnvC scope (cellsFrom (s3.heap.objs.size + 1) scope.names (cloFrom X.env.cells scope.names [])) s3.heap.objs.size X.env)) { s3 with heap := pushCells (s3.heap.push { cls := .type "dict", data := .dict #[] }) scope.names }
  have nfp : ∀ b ∈ fp, (upd H2 D (.lst [])) b = none := fun b hb => (f3 b hb).1.1
  generalize hce : compEnvC scope (cellsFrom (s3.heap.objs.size + 1) scope.names (cloFrom X.env.cells scope.names [])) s3.heap.objs.size X.env = ce at I4 pg pt pe ⊢
  have cL : ce.locals = s3.heap.objs.size := by subst hce; rfl
  have cF : ce.frame = X.env.frame := by subst hce; rfl
  generalize hH3 : upd H2 D (.lst []) = H3 at I3 I4 pg pt pe w0 nfp f3
  generalize hs4 : ({ s3 with heap := pushCells (s3.heap.push { cls := .type "dict", data := .dict #[] }) scope.names } : Shared) = s4 at I4 ⊢
  have st4 : tn 0 s4.heap := T.keep _ _ _ st3 fun b _ o e => by rw [← hs4]; exact pushCells_keeps _ _ _ _ (Heap.get?_push_of_some _ e)
  generalize hxe : (notedBy (model X.prog X.w) X.A ce (CompFails (model X.prog X.w) X.A X.xe ce)) = xe
  have pg := pg xe
  have pt := pt xe
  have pe := pe xe fun σ' pinsb Hb sb e s' Ib c => by
    rw [← hxe]
    exact comp_fails hst hfr tk I3 (fun b hb => (f3 b hb).1) cL cF Ib c fun _ _ _ z => z
  have I4 : Inv (blkX X s3 H3 scope ce fp xe) [] (wipe σ (own.map (·.2))) H3 s4 := I4.wish xe
  have stat : ∀ {σ' : L2.St} {H' : Hp} {s' : Shared}, Inv (blkX X s3 H3 scope ce fp xe) [] σ' H' s' → (∀ b ∈ fp, H' b = none) → ∀ b ∈ fp, FpOk (blkX X s3 H3 scope ce fp xe) [] H' b := fun {σ' H' s'} I' hn b hb =>
    ⟨hn b hb, (I'.ok.exf b hb).1, I'.ok.exfs b hb, .inl hb, fun x c e => (I'.ok.exf b hb).2 x c e, fun p hp => absurd (show p ∈ ([] : List (Addr × Obj)) ++ [] from hp) (by simp)⟩
  have loop0 : codeAny (model X.prog X.w) X.A (.compLoop (.ListComp elt [⟨tg, iter, ifs, 0⟩] scope pos) 0 (.ref it) (.ref D) ce) (fun r s' => match r with
      | .ok f => compEnds (model X.prog X.w) X.A X.xe use Qf (.ref D) ce (.ok .next) s'
      | .error e => CompFails (model X.prog X.w) X.A X.xe ce e s') s4 := by
    refine compLoop_any (fun n s' => ∃ i H', Inv (blkX X s3 H3 scope ce fp xe) [] (wipe σ (own.map (·.2))) H' s' ∧ tn i s'.heap ∧ (∀ b ∈ fp, H' b = none) ∧ W i n H') ?_ m0 ⟨0, H3, I4, st4, nfp, w0⟩
    rintro n s5 ⟨i, H5, I5, st5, n5, w5⟩
    have hxe2 : (notedBy (model X.prog X.w) X.A ce fun e s' => CompFails (model X.prog X.w) X.A X.xe ce e s') = xe := hxe
    dsimp only
    rw [hxe2]
    rcases turn i n H5 w5 with ⟨stop, qq⟩ | ⟨go, Nx, hNx, step⟩
    · have td := T.done (blkX X s3 H3 scope ce fp xe) rfl rfl rfl hc i [] s5 _ H5 (fun _ _ => False) I5 (stat I5 n5) st5 stop
      refine thnF td fun r s6 ⟨hr, I6⟩ => ?_
      subst hr
      have I7 : Inv X pins σ H5 s6 := I3.call' (ch := fp) I6.os I6.base I6.hok I6.bare fun b hb => ⟨(f3 b hb).1.2.2.2.1, (f3 b hb).1.2.1, (f3 b hb).1.2.2.2.2.1, (f3 b hb).1.2.2.2.2.2⟩
      have nC : H5 ce.locals = none := I6.free
      obtain ⟨m, hn, _⟩ := I6.loc
      have hn : s6.heap.Ns ce.locals m := hn
      exact hRR D ce s6 m H5 I7 qq hn (I3.fpOk (by rw [cL]; exact Nat.le_refl _) nC)
    · have ti := T.item (blkX X s3 H3 scope ce fp xe) rfl rfl rfl hc i [] s5 _ H5 (fun _ _ => False) I5 (stat I5 n5) st5 go
      refine thnF ti fun r s6 ⟨u, hr, h6⟩ => ?_
      subst hr
      refine thnF h6 fun _ s7 ⟨x, H7, I7, r7, y7, st7, n7⟩ => ?_
      have I7' := I7.pinned (stat I7 n7) (T.obj _ _ st7)
      refine wpAny_mono (pg.run _ s7 _ H7 x u _ I7' r7 (step x H7 y7)) (fun _ s8 ⟨σ8, H8, I8, hw8, q8⟩ => ?_) fun _ _ z => z
      refine wpAny_mono (pt.run _ s8 σ8 H8 _ I8 q8) (fun b s9 ⟨H9, I9, q9⟩ => ?_) fun _ _ z => z
      have fin : ∀ {s' : Shared} {H' : Hp}, Inv (blkX X s3 H3 scope ce fp xe) ([] ++ pinsAt fp s7.heap) σ8 H' s' → Nx H' → ∃ m, m < n ∧ ∃ i H', Inv (blkX X s3 H3 scope ce fp xe) [] (wipe σ (own.map (·.2))) H' s' ∧ tn i s'.heap ∧ (∀ b ∈ fp, H' b = none) ∧ W i m H' := fun {s' H'} I' nx => by
        obtain ⟨m', hm, w'⟩ := hNx H' nx
        have pin' : ∀ b ∈ fp, ∀ o, s7.heap.get? b = some o → s'.heap.get? b = some o ∧ H' b = none := fun b hb o e =>
          let z := I'.pin (b, o) (List.mem_append_right _ (List.mem_append_right _ (mem_pinsAt hb e)))
          ⟨z.1, z.2.1⟩
        have hl : (wipe σ (own.map (·.2))).length = σ8.length := by rw [← hw8, wipe_length]
        refine ⟨m', hm, i + 1, H', (I'.unpinned (pins := [])).weak hl (fun j v e => ?_), T.keep _ _ _ st7 fun b hb o e => (pin' b hb o e).1, fun b hb => ?_, w'⟩
        · rw [← hw8] at e
          exact (wipe_some e).1
        · obtain ⟨o, e, _⟩ := T.obj _ _ st7 b hb
          exact (pin' b hb o e).2
      cases b with
      | false =>
        simp only [Bool.false_eq_true, if_false] at q9 ⊢
        exact fin I9 q9
      | true =>
        simp only [if_true] at q9 ⊢
        refine wpAny_mono (pe.run _ s9 σ8 H9 _ I9 q9) (fun z s10 ⟨yv, H10, I10, r10, acc, hD10, hz10, nx⟩ => ?_) fun _ _ z => z
        exact app_ok (X := blkX X s3 H3 scope ce fp xe) I10 hD10 hz10 r10 fun s11 I11 => fin I11 nx
  have loop : codeAny (model X.prog X.w) X.A (.compLoop (.ListComp elt [⟨tg, iter, ifs, 0⟩] scope pos) 0 (.ref it) (.ref D) ce) (compEnds (model X.prog X.w) X.A X.xe use Qf (.ref D) ce) s4 := codeAny_mono loop0 fun r s' hr => by
    cases r with
    | ok f => cases use <;> exact hr
    | error e => cases use <;> exact hr
  exact codeAny_compStart_list loop (T.self X.A 0 _ _ _ st4 loop)
end
section
variable {G : GX} {Wx Wx0 : WX} {p : Bool} {wi : TI} {g : TG} {tt : TT} {te : TE} {mi : ME (List D)} {mg : MG} {mc : ME Bool} {me : ME W} {vs : List Nat} {qq : Bool}
/-- the turns of a comprehension whose element may raise: the list, or the exception and the block then -/
def mCLX (g : MG) (c : ME Bool) (e : ME W) (env0 : Env) : List D → List W → Option (List W ⊕ (XV × Env))
  | [], acc => some (.inl acc)
  | d :: ds, acc => match g (.sh d) env0 with
    | some (.ok _, e1) => match c e1 with
      | some (.ok true, e2) => match e e2 with
        | some (.ok w, _) => if acc.length < 100000 then mCLX g c e env0 ds (acc ++ [w]) else none
        | some (.ex x, e3) => some (.inr (x, e3))
        | none => none
      | some (.ok false, _) => mCLX g c e env0 ds acc
      | _ => none
    | _ => none
def mCompX (mi : ME (List D)) (g : MG) (c : ME Bool) (e : ME W) (vs : List Nat) : ME W := fun env => match mi env with
  | some (.ok ds, e1) => match mCLX g c e (wipeE e1 vs) ds [] with
    | some (.inl ws) => some (.ok (.ol ws), e1)
    | some (.inr (x, e3)) => some (.ex x, wipeE e3 vs)
    | none => none
  | some (.ex x, e1) => some (.ex x, e1)
  | none => none
theorem sim_compX {B H : Hp} {σ : L2.St} {env : Env} {fp : List Addr} (O : Ok G B H σ env fp) {Q : V → Hp → Prop} (hi : SimI G p Wx wi mi) (hg : SimG G (offs vs) true g mg) (hc : Sim G true true Wx0 (rEqv Bool) tt mc) (he : Sim G true true (fun cls d _ H' => Wx cls d σ H') (rW G) te me)
    (c : Cont G true p (rW G) Wx B H σ env fp (mCompX mi mg mc me vs env) Q) : tLc wi g tt te vs σ H Q := by
  refine hi B H σ env fp O _ ?_
  unfold mCompX at c
  cases e1 : mi env with
  | none => rw [e1] at c; exact c
  | some r =>
    obtain ⟨r, env1⟩ := r
    rw [e1] at c
    cases r with
    | ex x => exact c
    | ok ds =>
      intro J H1 B1 fp1 PI D nD
      simp only at c
      obtain ⟨Gd, Y, wk, gd, yd⟩ := PI.walk
      have BD := none_of_sub PI.ok.sub nD
      have lv1 := relE_live PI.ok.rel
      have ok0 : Ok G B1 (upd H1 D (.lst [])) σ env1 fp1 :=
        ⟨fun a o h => by rw [upd_ne fun z => by rw [z, BD] at h; cases h]; exact PI.ok.sub a o h, relE_frame (Same.refl B1) PI.ok.rel fun q hq => upd_ne fun z => lv1 q hq (by rw [z]; exact nD), PI.ok.nd, PI.ok.out⟩
      have M0 : Made G B H fp σ env1 B1 (upd H1 D (.lst [])) fp1 D [] [] [] := by
        refine ⟨ok0, ⟨fun a o h n => ?_, PI.step.bext, PI.step.bold, fun a ha => ?_, fun a h => ?_⟩, upd_same, by simp [relWs], by simp, fun q hq z => ?_, fun q hq => ?_⟩
        · have := PI.step.keep a o h n
          rw [upd_ne fun z => by rw [z, nD] at this; cases this]
          exact this
        · simp only [List.append_nil, List.cons_append, List.nil_append, List.mem_cons] at ha
          rcases ha with rfl | ha
          · refine .inr ?_
            cases e : H a with
            | none => rfl
            | some o => exact absurd nD (PI.step.live a (by simp [e]))
          · exact PI.step.new a ha
        · have := PI.step.live a h
          by_cases ea : a = D
          · rw [ea, upd_same]; simp
          · rw [upd_ne ea]; exact this
        · simp at hq
          subst hq
          exact lv1 q z nD
        · simp at hq
          subst hq
          exact BD
      have s0 : Same H1 (upd H1 D (.lst [])) := same_new nD
      refine lc_it wk (fun i H' => ∃ B' ws acc fA, Made G B H fp σ env1 B' H' fp1 D ws acc fA ∧ Same B1 B' ∧ Same H1 H' ∧ (∀ q, H1 q ≠ none → B' q = B1 q) ∧ (match mCLX mg mc me (wipeE env1 vs) (ds.drop i) ws with
        | some (.inl ws) => ∀ H' B' acc fA, Made G B H fp σ env1 B' H' fp1 D ws acc fA → Same H1 H' → (∀ q, H1 q ≠ none → B' q = B1 q) → Q (.ref D) H'
        | some (.inr (x, e3)) => ∀ cls d H' B' fp2, Ok G B' H' σ (wipeE e3 vs) fp2 → Step B H fp B' H' fp2 → relX G H' x cls d → (∀ dd, d = some dd → B' dd = none ∧ dd ∉ fp2 ∧ H dd = none) → Wx cls d σ H'
        | none => False)) ?_ ?_ ?_ ?_
      · refine ⟨B1, [], [], [], M0, Same.refl B1, s0, fun _ _ => rfl, ?_⟩
        show match mCLX mg mc me (wipeE env1 vs) ds [] with | some (.inl ws) => _ | some (.inr (x, e3)) => _ | none => False
        rcases e2 : mCLX mg mc me (wipeE env1 vs) ds [] with _ | ⟨ws | ⟨x, e3⟩⟩
        · rw [e2] at c; exact c.elim
        rotate_left
        · rw [e2] at c; exact c
        · rw [e2] at c
          intro H' B' acc fA M sH sB
          refine c (.ref D) H' B' (D :: fA) fp1 ⟨M.ok, ?_, M.out, M.step, fun _ => ⟨M.nd, M.dis⟩, fun hp => ?_⟩
          · show relW _ _ _ _ _ _
            simp only [relW]
            exact ⟨D, acc, fA, rfl, M.here, M.rel, rfl⟩
          · obtain ⟨a1, a2, a3, a4⟩ := PI.pure hp
            exact ⟨fun a o h => sH a o (a1 a o h), fun q h => (sB q (PI.step.live q h)).trans (a2 q h), a3, a4⟩
      · rintro i H' _ ⟨B', ws, acc, fA, M, sB, _, _, _⟩
        exact gd H' fun a o h => M.ok.sub a o (sB a o h)
      · rintro i x H' H'' hi' ⟨B', ws, acc, fA, M, sB, sH, bB, ct⟩ y
        have hG : Gd H' := gd H' fun a o h => M.ok.sub a o (sB a o h)
        obtain ⟨d, B3, hd, O3, S3, r3, sB3, sH3, bB3⟩ := yd_hand sB M.ok (yd i H' x H'' hi' hG y)
        obtain ⟨M3, _, _⟩ := M.beside (f0 := []) S3 O3
        have ed : ds.drop i = d :: ds.drop (i + 1) := by
          rw [List.drop_eq_getElem_cons hi']
          congr 1
          rw [List.getElem?_eq_getElem hi'] at hd
          exact Option.some.inj hd
        rw [ed] at ct
        obtain ⟨fpW, OW3, subW⟩ := O3.wipe vs
        refine hg B3 H'' (L2.wipe σ vs) (wipeE env1 vs) fpW (.sh d) x [] OW3 (by simp only [relW]; exact ⟨r3, trivial⟩) (by simp) List.nodup_nil (by simp) _ ?_
        simp only [mCLX] at ct
        cases e2 : mg (.sh d) (wipeE env1 vs) with
        | none => rw [e2] at ct; exact ct
        | some r2 =>
          obtain ⟨r2, env2⟩ := r2
          rw [e2] at ct
          cases r2 with
          | ex x => exact ct.elim
          | ok u =>
            intro σ2 H2 B2 fp2 O2 S2 ln2 pin2 pu2
            obtain ⟨sH2, bB2⟩ := pu2 rfl
            have hw : L2.wipe σ2 vs = L2.wipe σ vs := by
              rw [← show L2.wipe (L2.wipe σ vs) vs = L2.wipe σ vs from wipe_eq (wipe_length σ vs) fun i hi => wipe_out hi]
              exact wipe_eq ln2 fun j hj => pin2 j (not_off hj)
            -- the outer frame beside what the turn does
            have outer : ∀ {B5 H5 : Hp} {f5 fp5 : List Addr}, Step B3 H'' fpW B5 H5 (f5 ++ fp5) → Same B5 H5 → Same H'' H5 → (∀ q, H'' q ≠ none → B5 q = B3 q) → (∀ q ∈ f5, H'' q = none) →
                Made G B H fp σ env1 B5 H5 fp1 D ws acc fA ∧ Step B H fp B5 H5 (D :: fA ++ (f5 ++ fp1)) ∧ ∀ q ∈ f5, q ∉ D :: fA := fun S sb sh bb fr => by
              have lv3 := relE_live M3.ok.rel
              exact M3.beside ⟨fun a o h _ => sh a o h, S.bext, fun a h _ => bb a h, fun a ha => by
                rcases List.mem_append.mp ha with ha | ha
                · exact .inr (fr a ha)
                · exact .inl ha, S.live⟩ ⟨sb, relE_frame S.bext M3.ok.rel fun q hq => same_some sh (lv3 q hq), M3.ok.nd, fun q hq => by
                rw [bb q (lv3 q hq)]
                exact M3.ok.out q hq⟩
            refine ⟨hw, hc B2 H2 σ2 env2 fp2 O2 _ ?_⟩
            simp only at ct
            cases e3 : mc env2 with
            | none => rw [e3] at ct; exact ct
            | some r3 =>
              obtain ⟨r3, env3⟩ := r3
              rw [e3] at ct
              cases r3 with
              | ex x => exact ct.elim
              | ok b =>
                intro b' H4 B4 f4 fp4 P4
                obtain ⟨rfl, rfl⟩ := P4.rel
                obtain ⟨sH4, bB4, rfl, rfl⟩ := P4.pure rfl
                have S4 : Step B3 H'' fpW B4 H4 ([] ++ fp4) := Step.trans (S := []) S2 P4.step
                have sHH4 : Same H'' H4 := fun a o h => sH4 a o (sH2 a o h)
                have bBB4 : ∀ q, H'' q ≠ none → B4 q = B3 q := fun q h => (bB4 q (S2.live q h)).trans (bB2 q h)
                cases b with
                | false =>
                  show if false = true then _ else _
                  rw [if_neg Bool.false_ne_true]
                  obtain ⟨M4, _, _⟩ := outer S4 P4.ok.sub sHH4 bBB4 (by simp)
                  exact ⟨B4, ws, acc, fA, M4, fun a o h => S4.bext a o (sB3 a o (sB a o h)), fun a o h => sHH4 a o (sH3 a o (sH a o h)), fun q h => (bBB4 q (by rw [same_some sH3 (by rw [same_some sH h]; exact h), same_some sH h]; exact h)).trans ((bB3 q (by rw [same_some sH h]; exact h)).trans (bB q h)), ct⟩
                | true =>
                  show if true = true then _ else _
                  rw [if_pos rfl]
                  refine he B4 H4 σ2 env3 fp4 P4.ok _ ?_
                  simp only at ct
                  cases e4 : me env3 with
                  | none => rw [e4] at ct; exact ct
                  | some r4 =>
                    obtain ⟨r4, env4⟩ := r4
                    rw [e4] at ct
                    cases r4 with
                    | ex x =>
                      intro cls d H5 B5 fp5 O5 S5 rx hd
                      obtain ⟨fp6, O6, s6⟩ := O5.unwipe (σ := σ) vs hw
                      have S5' : Step B3 H'' fpW B5 H5 fp5 := Step.trans (S := []) S4 (by simpa using S5)
                      have S5'' : Step B3 H'' fp1 B5 H5 fp5 := ⟨fun a o h n => S5'.keep a o h fun z => n (subW a z), S5'.bext, fun a h n => S5'.bold a h fun z => n (subW a z), fun a ha => (S5'.new a ha).imp (subW a) id, S5'.live⟩
                      have S6 : Step B H fp B5 H5 (D :: fA ++ fp5) := Step.trans M3.step S5''
                      refine ct cls d H5 B5 fp6 O6 (S6.mono fun q hq => by simp [s6 q hq]) rx fun dd e => ?_
                      obtain ⟨a1, a2, a3⟩ := hd dd e
                      refine ⟨a1, fun z => a2 (s6 dd z), ?_⟩
                      cases q : H dd with
                      | none => rfl
                      | some o =>
                        exact absurd a3 (S4.live dd (M3.step.live dd (by simp [q])))
                    | ok w =>
                      simp only at ct
                      intro v H5 B5 f5 fp5 P5
                      obtain ⟨sH5, bB5, rfl, rfl⟩ := P5.pure rfl
                      obtain ⟨nd5, dis5⟩ := P5.own rfl
                      have S5 : Step B3 H'' fpW B5 H5 (f5 ++ fp5) := Step.trans (S := []) S4 P5.step
                      have sHH5 : Same H'' H5 := fun a o h => sH5 a o (sHH4 a o h)
                      have bBB5 : ∀ q, H'' q ≠ none → B5 q = B3 q := fun q h => (bB5 q (S4.live q h)).trans (bBB4 q h)
                      have fr5 : ∀ q ∈ f5, H4 q = none := fun q hq => by
                        rcases P5.step.new q (by simp [hq]) with z | z
                        · exact absurd z (dis5 q hq)
                        · exact z
                      have fr : ∀ q ∈ f5, H'' q = none := fun q hq => by
                        cases e : H'' q with
                        | none => rfl
                        | some o => exact absurd (fr5 q hq) (S4.live q (by simp [e]))
                      obtain ⟨M5, S5', ne5⟩ := outer S5 P5.ok.sub sHH5 bBB5 fr
                      by_cases hlen : ws.length < 100000
                      · rw [if_pos hlen] at ct
                        have lvO := relE_live M5.ok.rel
                        have M6 := M5.more P5.rel nd5 (fun q hq => ⟨fun z => relE_live M3.ok.rel q z (fr q hq), ne5 q hq⟩) P5.out S5'
                        refine ⟨acc, M5.here, ?_, B5, _, _, _, M6, fun a o h => S5.bext a o (sB3 a o (sB a o h)), fun a o h => ?_, fun q h => (bBB5 q (by rw [same_some sH3 (by rw [same_some sH h]; exact h), same_some sH h]; exact h)).trans ((bB3 q (by rw [same_some sH h]; exact h)).trans (bB q h)), ct⟩
                        · rw [← relWs_length M5.rel]
                          exact Nat.lt_of_lt_of_le hlen (by decide)
                        · rw [upd_ne fun z => by rw [z, nD] at h; cases h]
                          exact sHH5 a o (sH3 a o (sH a o h))
                      · rw [if_neg hlen] at ct
                        exact ct.elim
      · rintro H' ⟨B', ws, acc, fA, M, sB, sH, bB, ct⟩
        rw [List.drop_length] at ct
        exact ct H' B' acc fA M sH bB
end
section
variable {X : Cx} {Wx : WX} {elt tg iter : Expr} {ifs : List Expr} {scope : Scope} {own : List (Str × Nat)} {pos spos py : Pos} {wi : TI} {g : TG} {tt : TT} {te : L2.St → TE} {i : Nat} {y : Str}
abbrev BF.cxx (b : BF) (X : Cx) (scope : Scope) (xe : Value → Shared → Prop) : Cx := blkX X b.s b.H scope (compEnvC scope b.cl b.C X.env) b.fp xe
theorem pe_lcX (hst : X.stack = X.env :: X.outer) (hfr : X.env.frame = some X.env.locals) (tk : Takes X Wx) (hc : X.calm = true) (hN : X.N.Nodup) (hi : PI X tg iter wi) (ok : BlkOk X.N X.env.scope scope own)
    (hg : ∀ (b : BF) xe, PG (b.cxx X scope xe) tg g) (ht : ∀ (b : BF) xe, PTs (b.cxx X scope xe) ifs tt) (he : ∀ σ (b : BF) xe, (∀ σ', PassesAt (L2.CX X.prog X.w) (b.cxx X scope xe) σ' (fun cls d H' => Wx cls d σ H')) → PE (b.cxx X scope xe) elt (te σ)) (hs : ∀ x, foldedSetIterable iter X.env x = pure x) :
    PE X (.ListComp elt [⟨tg, iter, ifs, 0⟩] scope pos) (fun σ H Q => tLc wi g tt (te σ) (own.map (·.2)) σ H Q) := by
  refine ⟨fun pins s σ H Q I h => ?_⟩
  rw [eval_ListComp]
  refine lc_coreX hst hfr tk hc hN I hi ok (fun s H C cl fp xe => hg ⟨s, H, C, cl, fp⟩ xe) (fun s H C cl fp xe => ht ⟨s, H, C, cl, fp⟩ xe) (fun s H C cl fp xe hp => he σ ⟨s, H, C, cl, fp⟩ xe hp) hs h fun D ce s' m H' I' q hn f => ⟨m, hn, fun h'' sb => ?_⟩
  obtain ⟨f0, f1, f2, f3, f4, f5⟩ := f
  exact ⟨.ref D, H', I'.turned (t' := s'.toks) (fun b o hb e => (sb.2 b hb).trans e) f0 f1 f3 f4 f5, rfl, q⟩
end
section
variable {X : Cx} {Wx : WX} {k p q : Bool} {e elt tg iter c : Expr} {ifs : List Expr} {m me : ME W} {n mc : ME Bool} {mg : MG} {mi : ME (List D)} {scope : Scope} {own : List (Str × Nat)} {pos spos py : Pos} {i : Nat} {y : Str} {pn : Nat → Bool}
theorem uni_tX (h : ∀ (b : BF) xe, STts (b.cxx X scope xe) W0 p ifs n) : ∃ t : TT, (∀ (b : BF) xe, PTs (b.cxx X scope xe) ifs t) ∧ Sim (gx X) true p W0 (rEqv Bool) t n := by
  refine ⟨fun σ H Q => ∀ (b : BF) xe (t : TT), PTs (b.cxx X scope xe) ifs t → Sim (gx X) true p W0 (rEqv Bool) t n → t σ H Q, fun b xe => ?_, fun B H σ env fp O Q c b xe t _ s => s B H σ env fp O Q c⟩
  obtain ⟨t, h1, h2⟩ := h b xe
  exact PTs.weak h1 fun σ H Q q => q b xe t h1 h2
theorem uni_gX {pn : Nat → Bool} (h : ∀ (b : BF) xe, SG (b.cxx X scope xe) pn q tg mg) : ∃ t : TG, (∀ (b : BF) xe, PG (b.cxx X scope xe) tg t) ∧ SimG (gx X) pn q t mg := by
  refine ⟨fun v σ H Q => ∀ (b : BF) xe (t : TG), PG (b.cxx X scope xe) tg t → SimG (gx X) pn q t mg → t v σ H Q, fun b xe => ?_, fun B H σ env fp w v f0 O r o nd d Q c b xe t _ s => s B H σ env fp w v f0 O r o nd d Q c⟩
  obtain ⟨t, h1, h2⟩ := h b xe
  exact PG.weak h1 fun v σ H Q q => q b xe t h1 h2
/-- what a block's call may let out -/
abbrev PB (X : Cx) (scope : Scope) (b : BF) (xe : Value → Shared → Prop) (Wb : WX) : Prop := ∀ σ', PassesAt (L2.CX X.prog X.w) (b.cxx X scope xe) σ' (WE Wb σ')
theorem uni_eX {Wb : L2.St → WX} (hw : ∀ σ cls d σ' H', Wb σ cls d σ' H' = Wx cls d σ H') (h : ∀ (b : BF) xe Wb', PB X scope b xe Wb' → SE (b.cxx X scope xe) Wb' k p e m) :
    ∃ te : L2.St → TE, (∀ σ (b : BF) xe, (∀ σ', PassesAt (L2.CX X.prog X.w) (b.cxx X scope xe) σ' (fun cls d H' => Wx cls d σ H')) → PE (b.cxx X scope xe) e (te σ)) ∧ ∀ σ, Sim (gx X) k p (fun cls d _ H' => Wx cls d σ H') (rW (gx X)) (te σ) m := by
  refine ⟨fun σ σ2 H Q => ∀ (b : BF) xe (t : TE), PE (b.cxx X scope xe) e t → Sim (gx X) k p (fun cls d _ H' => Wx cls d σ H') (rW (gx X)) t m → t σ2 H Q, fun σ b xe hp => ?_, fun σ B H σ2 env fp O Q c b xe t _ s => s B H σ2 env fp O Q c⟩
  obtain ⟨t, h1, h2⟩ := h b xe (fun cls d _ H' => Wx cls d σ H') fun σ' => hp σ'
  exact PE.weak h1 fun σ2 H Q q => q b xe t h1 h2
theorem se_lcX (hst : X.stack = X.env :: X.outer) (hfr : X.env.frame = some X.env.locals) (tk : Takes X Wx) (hc : X.calm = true) (hN : X.N.Nodup) (hi : SI X Wx p tg iter mi) (ok : BlkOk X.N X.env.scope scope own) (hg : ∀ (b : BF) xe, SG (b.cxx X scope xe) (offs (own.map (·.2))) true tg mg) (ht : ∀ (b : BF) xe, STts (b.cxx X scope xe) W0 true ifs mc)
    (he : ∀ (b : BF) xe Wb, PB X scope b xe Wb → SE (b.cxx X scope xe) Wb true true elt me) (hs : ∀ x, foldedSetIterable iter X.env x = pure x := by intro _; rfl) :
    SE X Wx true p (.ListComp elt [⟨tg, iter, ifs, 0⟩] scope pos) (mCompX mi mg mc me (own.map (·.2))) := by
  obtain ⟨ti, pi, si⟩ := hi
  obtain ⟨t1, p1, s1⟩ := uni_gX hg
  obtain ⟨t2, p2, s2⟩ := uni_tX ht
  obtain ⟨t3, p3, s3⟩ := uni_eX (Wb := fun σ cls d _ H' => Wx cls d σ H') (fun _ _ _ _ _ => rfl) he
  exact ⟨_, pe_lcX hst hfr tk hc hN pi ok p1 p2 p3 hs, fun B H σ env fp O Q c => sim_compX O si s1 s2 (s3 σ) c⟩
end
section
variable {X : Cx} {Wx : WX} {p : Bool} {x : Str} {n j k : Nat} {mf : MF} {e : Expr} {es : List Expr} {ma : ME (List AW)} {pp pos : Pos}
/-- a call where it is known what a callee's exception meets -/
theorem se_callP (hpa : ∀ σ, PassesAt (L2.CX X.prog X.w) X σ (WE Wx σ)) (D : Df X.prog X.w X.K X.mg X.base x n mf j) (hr : Room j X.A) (hg : Gl X x) (ha : SAw X Wx p (e :: es) ma) (hdb : (x == ("__debug__" : Str)) = false := by decide)
    (he : starEach (e :: es) X.env = (false, eval e X.env) :: starEach es X.env := by rfl) (hpl : (backTo pos (starEach es X.env)).any (·.1) = false := by rfl) : SE X Wx true p (.Call (.Name x pp) (e :: es) [] pos) (ma.bind fun as => callK0 mf as) := by
  obtain ⟨f, fd, ps, F, hm, hk, hb⟩ := D.ex
  obtain ⟨ta, pa, sa⟩ := ha
  exact ⟨_, pe_callS F hr hg hm hk hb hpa pa hdb he hpl, sim_call0 D.len sa⟩
end
end AM
set_option Elab.async false
set_option linter.all false
set_option maxRecDepth 100000
set_option maxHeartbeats 2000000
namespace AM
open PySem PySem.Spec L2 PyProof.Rows
section
variable {X : Cx} {Wx : WX} {pn : Nat → Bool} {S c mm : Str} {cs : List Str} {body : List Stmt} {j j2 : Nat} {np p1 p2 p3 p4 p5 pos pos' : Pos} {m : MS}
theorem PSs.weak {X : Cx} {b : List Stmt} {t t' : TS} (h : PSs X b t) (k : ∀ D σ H, t' D σ H → t D σ H) : PSs X b t' := ⟨fun pins s σ H D I q => h.run pins s σ H D I (k D σ H q)⟩
end
end AM
set_option Elab.async false
set_option linter.all false
set_option maxRecDepth 100000
set_option maxHeartbeats 2000000
namespace L2
open PySem PySem.Spec PyProof.Rows
end L2
namespace AM
open PySem PySem.Spec L2 PyProof.Rows
end AM
set_option Elab.async false
set_option linter.all false
set_option maxRecDepth 100000
set_option maxHeartbeats 2000000
namespace AM
open PySem PySem.Spec L2 PyProof.Rows
def gUlO (n : Nat) (ms : List W → ME Unit) : MG := fun w env => match w with
  | .ol ws => if ws.length = n then ms ws env else none
  | _ => none
theorem Step.wide {B H B' H' : Hp} {fp gp S : List Addr} (a : Step B H fp B' H' S) (h : ∀ q ∈ fp, q ∈ gp) : Step B H gp B' H' S :=
  ⟨fun p o e n => a.keep p o e fun z => n (h p z), a.bext, fun p e n => a.bold p e fun z => n (h p z), fun p z => (a.new p z).imp (h p) id, a.live⟩
section
variable {X : Cx} {pn : Nat → Bool} {qq : Bool} {es : List Expr} {ms : List W → ME Unit} {pos : Pos}
theorem sg_unlO {kk : Nat} {n : Nat} (hc : X.calm = true) (h : SGs X pn qq es ms) (hn : (assignEach es X.env).length = n := by rfl) (hst : (assignEach es X.env).findIdx? (·.1) = none := by rfl) : SG X pn qq (.Tuple es kk pos) (gUlO n ms) := by
  obtain ⟨t, p1, s1⟩ := h
  refine ⟨_, pg_unl hc p1 hn hst, fun B H σ env fp w v f0 O r out nd dis Q c => ?_⟩
  unfold gUlO at c
  cases w with
  | sh d => exact c.elim
  | ot ws => exact c.elim
  | ob a b ws => exact c.elim
  | dk a ws => exact c.elim
  | dt a ws => exact c.elim
  | ol ws =>
    simp only at c
    by_cases hl : ws.length = n
    · rw [if_pos hl] at c
      simp only [relW] at r
      obtain ⟨p, vs, g, rfl, h2, h3, rfl⟩ := r
      refine ⟨p, vs, rfl, SqL.of h2, by rw [← relWs_length h3]; exact hl, s1 B H σ env fp ws vs g O h3 (fun q hq => out q (by simp [hq])) (List.nodup_cons.mp nd).2 (fun q hq => dis q (by simp [hq])) Q ?_⟩
      rcases e : ms ws env with _ | ⟨r, e2⟩
      · rw [e] at c; exact c
      · rw [e] at c
        cases r with
        | ex x => exact c
        | ok u =>
          intro σ' H' B' fp2 O2 S2 ln pin pu
          exact c σ' H' B' fp2 O2 (S2.wide fun q hq => List.mem_cons_of_mem _ hq) ln pin pu
    · rw [if_neg hl] at c
      exact c.elim
end
end AM
set_option Elab.async false
set_option linter.all false
set_option maxRecDepth 100000
set_option maxHeartbeats 2000000
namespace AM
open PySem PySem.Spec L2 PyProof.Rows
def str1 : Option W → Option W
  | some (.sh d) => some (.sh d)
  | _ => none
def strip (env : Env) : Env := env.map str1
def mTmp (i : Nat) (ws : List Nat) (m : MS) : MS := fun env => match env[i]? with
  | some (some w) => match w.toD with
    | some d => match m ((strip env).set i (some (.sh d))) with
      | some (.ok .nx, e') => if e'.length = env.length then some (.ok .nx, wipeE env ws) else none
      | some (.ok (.rt (.sh (.bl b))), e') => if e'.length = env.length then some (.ok (.rt (.sh (.bl b))), wipeE env ws) else none
      | _ => none
    | none => none
  | _ => none
section
variable {G : GX}
theorem strip_length (env : Env) : (strip env).length = env.length := by simp [strip]
theorem relE_strip {B H : Hp} : ∀ {env : Env} {σ : L2.St} {f : List Addr}, relE G B H σ env f → relE G B H σ (strip env) []
  | [], σ, f, h => by
    simp only [relE] at h
    simp only [strip, List.map_nil, relE]
    exact ⟨h.1, trivial⟩
  | w :: e, σ, f, h => by
    simp only [relE] at h
    obtain ⟨o, τ, f1, f2, rfl, h1, h2, rfl⟩ := h
    have ih := relE_strip h2
    have no : relE G B H (o :: τ) (none :: strip e) [] := by
      simp only [relE]
      exact ⟨o, τ, [], [], rfl, by simp [relS], ih, rfl⟩
    cases w with
    | none => exact no
    | some w =>
      cases w with
      | sh d =>
        show relE G B H (o :: τ) (some (.sh d) :: strip e) []
        simp only [relE]
        simp only [relS] at h1
        obtain ⟨v, rfl, r⟩ := h1
        have r0 := r
        simp only [relW] at r0
        obtain ⟨_, rfl⟩ := r0
        exact ⟨_, τ, [], [], rfl, ⟨v, rfl, r⟩, ih, rfl⟩
      | ol _ => exact no
      | ot _ => exact no
      | ob _ _ _ => exact no
      | dk _ _ => exact no
      | dt _ _ => exact no
variable {pn : Nat → Bool} {Wx : WX} {t : TS} {m : MS}
theorem simS_tmp {i : Nat} {ws : List Nat} (h : SimS G (offs ws) Wx t m) (hq : (ws.all fun j => !pn j) = true) : SimS G pn Wx t (mTmp i ws m) := by
  intro B H σ env fp O D c
  unfold mTmp at c
  cases e : env[i]? with
  | none => rw [e] at c; exact c.elim
  | some ow =>
    cases ow with
    | none => rw [e] at c; exact c.elim
    | some w =>
      rw [e] at c
      simp only at c
      cases ed : w.toD with
      | none => rw [ed] at c; exact c.elim
      | some d =>
        rw [ed] at c
        simp only at c
        obtain ⟨v, g, f', hv, rv, rr, nd, inn⟩ := relE_out O.rel e
        have out : ∀ q ∈ g, B q = none := fun q hq => O.out q (inn q (by simp [hq]))
        have be := grd_bext (H := H) out
        have rsh : relW G (grd B H g) H (.sh d) v [] := by
          simp only [relW]
          exact ⟨relW_toD be rv ed fun q hq => grd_in hq, trivial⟩
        have hi : i < (strip env).length := by
          rw [strip_length]
          exact (List.getElem?_eq_some_iff.mp e).1
        obtain ⟨f0, r0, i0, _⟩ := relE_none i (relE_frame be (relE_strip O.rel) fun _ _ => rfl)
        obtain ⟨fe, re, ne, ie⟩ := relE_in r0 (by simp [hi]) hv rsh
        have nil : fe = [] := by
          apply List.eq_nil_iff_forall_not_mem.mpr
          intro q hq
          have := ie q hq
          simp only [List.nil_append] at this
          have := i0 q this
          simp at this
        subst nil
        rw [List.set_set] at re
        have O1 : Ok G (grd B H g) H σ ((strip env).set i (some (.sh d))) [] := ⟨grd_sub O.sub, re, List.nodup_nil, fun q hq => by simp at hq⟩
        have key : ∀ {e' : Env} {σ' : L2.St} {H' B' : Hp} {g0 fp2 : List Addr}, e'.length = env.length → PostS G (offs ws) (grd B H g) H σ [] e' σ' H' B' g0 fp2 → ∃ fw, PostS G pn B H σ fp (wipeE env ws) σ' H' B [] fw := by
          intro e' σ' H' B' g0 fp2 hl P
          obtain ⟨fw, rw', iw, nw⟩ := relE_wipe O.rel ws
          have hk : ∀ a o, H a = some o → H' a = some o := fun a o z => P.step.keep a o z (by simp)
          have sB : Same B H' := fun a o z => P.ok.sub a o (P.step.bext a o (be a o z))
          have ln : σ'.length = σ.length := by
            rw [relE_length P.ok.rel, hl, relE_length O.rel]
          have pin : ∀ j, j ∉ ws → σ'[j]? = σ[j]? := fun j hj => P.pin j (by simp [offs, hj])
          have r1 : relE G B H σ' (wipeE env ws) fw := relE_congr rw' ln fun j w hw => pin j fun z => by
            rcases wipeE_in (env := env) z with y | y
            · rw [y] at hw; cases hw
            · rw [y] at hw; cases hw
          have r2 : relE G B H' σ' (wipeE env ws) fw := relE_frame (fun _ _ z => z) r1 fun q hq => by
            cases z : H q with
            | none => exact absurd z (relE_live r1 q hq)
            | some o => exact hk q o z
          refine ⟨fw, ⟨⟨sB, r2, nw O.nd, fun q hq => O.out q (iw q hq)⟩, ⟨fun a o z _ => hk a o z, fun _ _ z => z, fun _ _ _ => rfl, fun q hq => .inl (iw q (by simpa using hq)), P.step.live⟩, fun j hj => pin j fun z => ?_⟩⟩
          have := List.all_eq_true.mp hq j z
          rw [hj] at this
          cases this
        refine h (grd B H g) H σ _ [] O1 D ?_
        rcases em : m ((strip env).set i (some (.sh d))) with _ | ⟨r, e'⟩
        · rw [em] at c; exact c
        · rw [em] at c
          rcases r with fl | x
          · rcases fl with _ | _ | _ | w2
            · simp only at c
              by_cases hl : e'.length = env.length
              · rw [if_pos hl] at c
                intro σ' H' B' fp2 P
                obtain ⟨fw, P2⟩ := key hl P
                exact c σ' H' B fw P2
              · rw [if_neg hl] at c; exact c.elim
            · exact c.elim
            · exact c.elim
            · cases w2 with
              | sh d2 =>
                cases d2 with
                | bl b =>
                  simp only at c
                  by_cases hl : e'.length = env.length
                  · rw [if_pos hl] at c
                    intro v σ' H' B' g0 fp2 P rv _ _ _
                    obtain ⟨fw, P2⟩ := key hl P
                    simp only [relW, repD] at rv
                    obtain ⟨rfl, rfl⟩ := rv
                    exact c (.bl b) σ' H' B [] fw P2 (by simp [relW, repD]) (by simp) List.nodup_nil (by simp)
                  · rw [if_neg hl] at c; exact c.elim
                | non => exact c.elim
                | int _ => exact c.elim
                | str _ => exact c.elim
                | lst _ => exact c.elim
                | tup _ => exact c.elim
                | exc _ _ => exact c.elim
                | scr _ => exact c.elim
                | fn _ => exact c.elim
                | obj _ _ _ => exact c.elim
              | ol _ => exact c.elim
              | ot _ => exact c.elim
              | ob _ _ _ => exact c.elim
              | dk _ _ => exact c.elim
              | dt _ _ => exact c.elim
          · exact c.elim
theorem ss_tmp {X : Cx} {st : Stmt} (i : Nat) (ws : List Nat) (h : SS X (offs ws) Wx st m) (hq : (ws.all fun j => !pn j) = true := by rfl) : SS X pn Wx st (mTmp i ws m) := by
  obtain ⟨t, p, s⟩ := h
  exact ⟨t, p, simS_tmp s hq⟩
end
end AM
set_option Elab.async false
set_option linter.all false
set_option maxRecDepth 100000
set_option maxHeartbeats 4000000
namespace LW
open PySem L2 AM
def b__law_numbers_text : MS :=
    (mRet (mMs gJoin (mC (.str " ")) (mCons (mCompP (mItL (mVarS 0)) (gSet 1) (ME.pure true) (mBi gStr (mCons (mVarS 1) mNil)) [1]) mNil)))
def m__law_numbers_text : MF := fnM 1 2 [0] (b__law_numbers_text)
def b__law_saying_text : MS :=
    (mSeq (mAsg (mFz (mOp2 gAdd (mOp2 gAdd (mIx (mVarS 0) (mC (.int 0))) (mC (.str " "))) (mK0 m__law_numbers_text (wOwn (mFz (mIx (mVarS 0) (mC (.int 1)))) wNil)))) (gSet 1))
    (mSeq (mIfS (mB (mOp2 gIn (mIx (mVarS 0) (mC (.int 0))) (mTup (mCons (mC (.str "like")) (mCons (mC (.str "unlike")) mNil))))) (mRet (mOp2 gAdd (mOp2 gAdd (mVarS 1) (mC (.str " / "))) (mK0 m__law_numbers_text (wOwn (mFz (mIx (mVarS 0) (mC (.int 2)))) wNil)))) mNx)
    (mSeq (mIfS (mB (mOp2 gIn (mIx (mVarS 0) (mC (.int 0))) (mTup (mCons (mC (.str "draws")) (mCons (mC (.str "draws less")) mNil))))) (mRet (mOp2 gAdd (mOp2 gAdd (mOp2 gAdd (mOp2 gAdd (mVarS 1) (mC (.str " at "))) (mBi gStr (mCons (mIx (mVarS 0) (mC (.int 2))) mNil))) (mC (.str " by "))) (mBi gStr (mCons (mIx (mVarS 0) (mC (.int 3))) mNil)))) mNx)
    (mSeq (mIfS (mB (mOp2 gIn (mIx (mVarS 0) (mC (.int 0))) (mTup (mCons (mC (.str "stands")) (mCons (mC (.str "falls")) mNil))))) (mRet (mOp2 gAdd (mOp2 gAdd (mVarS 1) (mC (.str " by "))) (mBi gStr (mCons (mIx (mVarS 0) (mC (.int 2))) mNil)))) mNx)
    (mRet (mVarS 1))))))
def m__law_saying_text : MF := fnM 1 2 [0] (b__law_saying_text)
def b_show_numbers : MS :=
    (mRet (mMs gJoin (mC (.str " ")) (mCons (mCompP (mItL (mVarS 0)) (gSet 1) (ME.pure true) (mBi gStr (mCons (mVarS 1) mNil)) [1]) mNil)))
def m_show_numbers : MF := fnM 1 2 [0] (b_show_numbers)
def b_show_saying : MS :=
    (mSeq (mAsg (mFz (mOp2 gAdd (mOp2 gAdd (mIx (mVarS 0) (mC (.int 0))) (mC (.str " "))) (mK0 m_show_numbers (wOwn (mFz (mIx (mVarS 0) (mC (.int 1)))) wNil)))) (gSet 1))
    (mSeq (mIfS (mB (mOp2 gIn (mIx (mVarS 0) (mC (.int 0))) (mTup (mCons (mC (.str "like")) (mCons (mC (.str "unlike")) mNil))))) (mRet (mOp2 gAdd (mOp2 gAdd (mVarS 1) (mC (.str " / "))) (mK0 m_show_numbers (wOwn (mFz (mIx (mVarS 0) (mC (.int 2)))) wNil)))) mNx)
    (mSeq (mIfS (mB (mOp2 gIn (mIx (mVarS 0) (mC (.int 0))) (mTup (mCons (mC (.str "clear")) (mCons (mC (.str "barred")) mNil))))) (mRet (mVarS 1)) mNx)
    (mSeq (mIfS (mB (mOp2 gIn (mIx (mVarS 0) (mC (.int 0))) (mTup (mCons (mC (.str "stands")) (mCons (mC (.str "falls")) mNil))))) (mRet (mOp2 gAdd (mOp2 gAdd (mVarS 1) (mC (.str " by "))) (mBi gStr (mCons (mIx (mVarS 0) (mC (.int 2))) mNil)))) mNx)
    (mRet (mOp2 gAdd (mOp2 gAdd (mOp2 gAdd (mOp2 gAdd (mVarS 1) (mC (.str " at "))) (mBi gStr (mCons (mIx (mVarS 0) (mC (.int 2))) mNil))) (mC (.str " by "))) (mBi gStr (mCons (mIx (mVarS 0) (mC (.int 3))) mNil))))))))
def m_show_saying : MF := fnM 1 2 [0] (b_show_saying)
def b_halves : MS :=
    (mSeq (mAsg (mFz (mMs gSplit (mVarS 0) (mCons (mVarS 1) mNil))) (gSet 2))
    (mSeq (mIfS (mB (mOp2 gNe (mBi gLen (mCons (mVarS 2) mNil)) (mC (.int 2)))) (mRaise "NoText") mNx)
    (mRet (mTup (mCons (mIx (mVarS 2) (mC (.int 0))) (mCons (mIx (mVarS 2) (mC (.int 1))) mNil))))))
def m_halves : MF := fnM 2 3 [0, 1] (b_halves)
def b_number_in : MS :=
    (mSeq (mAsg (mFz (mIf (mB (mOp2 gEq (mSl (mVarS 0) mNoPart (mPart (mC (.int 1)))) (mC (.str "-")))) (mFz (mSl (mVarS 0) (mPart (mC (.int 1))) mNoPart)) (mVarS 0))) (gSet 1))
    (mSeq (mIfS (mOr (mB (mOp2 gEq (mVarS 1) (mC (.str "")))) (mOr (mB (mOp2 gGt (mBi gLen (mCons (mVarS 1) mNil)) (mC (.int 40)))) (mAnd (mB (mOp2 gEq (mIx (mVarS 1) (mC (.int 0))) (mC (.str "0")))) (mB (mOp2 gNe (mVarS 0) (mC (.str "0"))))))) (mRaise "NoText") mNx)
    (mSeq (mFor (mItS (mVarS 1)) (gSet 2) (mIfS (mB (mOp2 gNotInC (mVarS 2) (mC (.str "0123456789")))) (mRaise "NoText") mNx))
    (mRet (mBi gToInt (mCons (mVarS 0) mNil))))))
def m_number_in : MF := fnM 1 3 [0] (b_number_in)
def b_numbers_in : MS :=
    (mSeq (mAsg (mFz (mMs gSplit (mVarS 0) (mCons (mC (.str " ")) mNil))) (gSet 1))
    (mSeq (mIfS (mB (mOp2 gGt (mBi gLen (mCons (mVarS 1) mNil)) (mC (.int 6)))) (mRaise "NoText") mNx)
    (mRet (mCompX (mItL (mVarS 1)) (gSet 2) (ME.pure true) (mK0 m_number_in (wOwn (mVarS 2) wNil)) [2]))))
def m_numbers_in : MF := fnM 1 3 [0] (b_numbers_in)
def b_number_from : MS :=
    (mSeq (mAsg (mK0 m_number_in (wOwn (mVarS 0) wNil)) (gSet 2))
    (mSeq (mIfS (mB (mOp2 gLt (mVar 2) (mVarS 1))) (mRaise "NoText") mNx)
    (mRet (mMov 2))))
def m_number_from : MF := fnM 2 3 [0, 1] (b_number_from)
def b_saying_in : MS :=
    (mSeq (mAsg (mFz (mMs gPart (mVarS 0) (mCons (mC (.str " ")) mNil))) (gUn 3 (gsCons (gSet 3) (gsCons (gSet 4) (gsCons (gSet 5) gsNil)))))
    (mSeq (mIfS (mB (mOp2 gIn (mVarS 3) (mTup (mCons (mC (.str "like")) (mCons (mC (.str "unlike")) mNil))))) (mSeq (mAsg (mCompX (mItT (mFz (mK0 m_halves (wOwn (mVarS 5) (wOwn (mC (.str " / ")) wNil))))) (gSet 8) (ME.pure true) (mCallL 1 "numbers_in" (mK0 m_numbers_in (wOwn (mVarS 8) wNil))) [8]) (gUlO 2 (gsCons (gSet 6) (gsCons (gSet 7) gsNil))))
    (mSeq (mIfS (mAnd (mB (mOp1 (gIs "list") (mVar 6))) (mAnd (mB (mOp1 (gIs "list") (mVar 7))) (mB (mOp2 gNe (mBi gLen (mCons (mVar 6) mNil)) (mBi gLen (mCons (mVar 7) mNil)))))) (mRaise "NoText") mNx)
    (mRet (mTup (mCons (mVarS 3) (mCons (mMov 6) (mCons (mMov 7) mNil))))))) mNx)
    (mSeq (mIfS (mB (mOp2 gIn (mVarS 3) (mTup (mCons (mC (.str "clear")) (mCons (mC (.str "barred")) mNil))))) (mRet (mTup (mCons (mVarS 3) (mCons (mCallL 1 "numbers_in" (mK0 m_numbers_in (wOwn (mVarS 5) wNil))) mNil)))) mNx)
    (mSeq (mAsg (mFz (mMs gSplit (mVarS 5) (mCons (mC (.str " ")) mNil))) (gSet 2))
    (mSeq (mIfS (mAnd (mB (mOp2 gIn (mVarS 3) (mTup (mCons (mC (.str "stands")) (mCons (mC (.str "falls")) mNil))))) (mAnd (mB (mOp2 gGt (mBi gLen (mCons (mVarS 2) mNil)) (mC (.int 2)))) (mB (mOp2 gEq (mIx (mVarS 2) (mOp1 gNeg (mC (.int 2)))) (mC (.str "by")))))) (mRet (mTup (mCons (mVarS 3) (mCons (mCallL 1 "numbers_in" (mK0 m_numbers_in (wOwn (mFz (mMs gJoin (mC (.str " ")) (mCons (mSl (mVarS 2) mNoPart (mPart (mOp1 gNeg (mC (.int 2))))) mNil))) wNil))) (mCons (mK0 m_number_from (wOwn (mFz (mIx (mVarS 2) (mOp1 gNeg (mC (.int 1))))) (wOwn (mOp1 gNeg (mC (.int 1))) wNil))) mNil))))) mNx)
    (mSeq (mIfS (mOr (mB (mOp2 gNe (mVarS 3) (mC (.str "draws")))) (mOr (mB (mOp2 gLt (mBi gLen (mCons (mVarS 2) mNil)) (mC (.int 5)))) (mOr (mB (mOp2 gNe (mIx (mVarS 2) (mOp1 gNeg (mC (.int 4)))) (mC (.str "at")))) (mB (mOp2 gNe (mIx (mVarS 2) (mOp1 gNeg (mC (.int 2)))) (mC (.str "by"))))))) (mRaise "NoText") mNx)
    (mSeq (mIfS (mAnd (mB (mOp2 gEq (mIx (mVarS 2) (mC (.int 0))) (mC (.str "less")))) (mB (mOp2 gGt (mBi gLen (mCons (mVarS 2) mNil)) (mC (.int 5))))) (mSeq (mAsg (mC (.str "draws less")) (gSet 3))
    (mAsg (mFz (mSl (mVarS 2) (mPart (mC (.int 1))) mNoPart)) (gSet 2))) mNx)
    (mRet (mTup (mCons (mVarS 3) (mCons (mCallL 1 "numbers_in" (mK0 m_numbers_in (wOwn (mFz (mMs gJoin (mC (.str " ")) (mCons (mSl (mVarS 2) mNoPart (mPart (mOp1 gNeg (mC (.int 4))))) mNil))) wNil))) (mCons (mK0 m_number_from (wOwn (mFz (mIx (mVarS 2) (mOp1 gNeg (mC (.int 3))))) (wOwn (mC (.int 0)) wNil))) (mCons (mK0 m_number_in (wOwn (mFz (mIx (mVarS 2) (mOp1 gNeg (mC (.int 1))))) wNil)) mNil)))))))))))))
def m_saying_in : MF := fnM 2 9 [0, 1] (b_saying_in)
def b_read_saying : MS :=
    (mRet (mK0 m_saying_in (wOwn (mVarS 0) (wOwn (mFz (mC (.fn "numbers_in"))) wNil))))
def m_read_saying : MF := fnM 1 1 [0] (b_read_saying)
def b__law_whole : MS :=
    (mRet (mAndV (mOp1 (gIs "int") (mVarS 0)) (mOp1 gNotV (mOp1 (gIs "bool") (mVarS 0)))))
def m__law_whole : MF := fnM 1 1 [0] (b__law_whole)
def b__law_are_dues : MS :=
    (mSeq (mIfS (mOr (mNot (mB (mOp1 (gIs "list") (mVarS 0)))) (mB (mOp2 gNe (mBi gLen (mCons (mVarS 0) mNil)) (mVarS 1)))) (mRet (mC (.bl false))) mNx)
    (mRet (mOp2 gEq (mCompP (mItL (mVarS 0)) (gSet 2) (mNot (mB (mK0 m__law_whole (wOwn (mVarS 2) wNil)))) (mVarS 2) [2]) (mLst mNil))))
def m__law_are_dues : MF := fnM 2 3 [0, 1] (b__law_are_dues)
def b__law_kept : MS :=
    (mSeq (mAsg (mFz (mK0 m__law_saying_text (wOwn (mVarS 0) wNil))) (gSet 1))
    (mSeq (mAsg (mFz (mCompP (mItT (mVarS 0)) (gSet 6) (mB (mOp1 (gIs "list") (mVarS 6))) (mBi gList (mCons (mVarS 6) mNil)) [6])) (gSet 2))
    (mSeq (mFor (mItR gRg1 (mCons (mC (.int 2)) mNil)) (gSet 3) (mSeq (mAsg (mFz (mK0 m_show_saying (wOwn (mVarS 0) wNil))) (gSet 4))
    (mSeq (mAsg (mK0 m_read_saying (wOwn (mVarS 1) wNil)) (gSet 5))
    (mSeq (mIfS (mOr (mNot (mB (mOp1 (gIs "str") (mVarS 4)))) (mOr (mB (mOp2 gNe (mVarS 4) (mVarS 1))) (mOr (mNot (mB (mOp1 (gIs "tuple") (mVar 5)))) (mB (mOp2 gNe (mVar 5) (mVarS 0)))))) (mRet (mC (.bl false))) mNx)
    (mSeq (mIfS (mB (mOp2 gNe (mCompP (mItT (mVarS 0)) (gSet 6) (mB (mOp1 (gIs "list") (mVarS 6))) (mVarS 6) [6]) (mVarS 2))) (mRet (mC (.bl false))) mNx)
    (mSeq (mTmp 5 [6] (mFor (mItT (mSl (mVarS 5) (mPart (mC (.int 1))) mNoPart)) (gSet 6) (mSeq (mIfS (mAnd (mNot (mB (mOp1 (gIs "list") (mVarS 6)))) (mNot (mB (mK0 m__law_whole (wOwn (mVarS 6) wNil))))) (mRet (mC (.bl false))) mNx)
    (mIfS (mAnd (mB (mOp1 (gIs "list") (mVarS 6))) (mNot (mB (mK0 m__law_are_dues (wOwn (mVarS 6) (wOwn (mBi gLen (mCons (mIx (mVarS 2) (mC (.int 0))) mNil)) wNil)))))) (mRet (mC (.bl false))) mNx))))
    (mSeq (mAsg (mLst (mCons (mK0 m_read_saying (wOwn (mVarS 1) wNil)) (mCons (mK0 m_read_saying (wOwn (mC (.str "clear 1 2")) wNil)) mNil))) (gSet 7))
    (mSeq (mDrop (mIn (onL gClr) (lChk isOl (lIx (lIx (lVar 7) (mC (.int 0))) (mC (.int 1)))) mNil))
    (mSeq (mDrop (mIn (onL gClr) (lChk isOl (lIx (lIx (lVar 7) (mC (.int 1))) (mC (.int 1)))) mNil))
    (mSeq (mIfS (mB (mOp2 gNe (mVar 5) (mVarS 0))) (mRet (mC (.bl false))) mNx)
    (mSeq (mDrop (mIn (onL gApp) (lChk isOl (lIx (lVar 5) (mC (.int 1)))) (mCons (mC (.int 1)) mNil)))
    (mTmp 5 [] (mIfS (mB (mOp2 gNe (mSl (mVarS 5) (mPart (mC (.int 2))) mNoPart) (mSl (mVarS 0) (mPart (mC (.int 2))) mNoPart))) (mRet (mC (.bl false))) mNx)))))))))))))
    (mRet (mC (.bl true))))))
def m__law_kept : MF := fnM 1 8 [0] (b__law_kept)
def b__law_mixed : MS :=
    (mSeq (mAsg (mOp2 gMod (mOp2 gAdd (mOp2 gAdd (mOp2 gMul (mOp2 gMod (mVarS 0) (mC (.int 2147483647))) (mC (.int 48271))) (mOp2 gMul (mVarS 1) (mC (.int 69621)))) (mC (.int 11))) (mC (.int 2147483647))) (gSet 2))
    (mSeq (mAsg (mOp2 gMod (mOp2 gMul (mVarS 2) (mVarS 2)) (mC (.int 2147483629))) (gSet 2))
    (mRet (mOp2 gDiv (mOp2 gMod (mOp2 gMul (mVarS 2) (mVarS 2)) (mC (.int 2147483587))) (mC (.int 64))))))
def m__law_mixed : MF := fnM 2 3 [0, 1] (b__law_mixed)
def b__law_take : MS :=
    (mSeq (mIfS (mB (mOp2 gIn (mIx (mVar 0) (mC (.int 0))) (mLst (mCons (mC (.int 0)) (mCons (mOp1 gNeg (mC (.int 1))) mNil))))) (mSeq (mAsg (mOp2 gAdd (mIx (mVar 0) (mC (.int 2))) (mC (.int 1))) (gSetI (lVar 0) (mC (.int 2))))
    (mRet (mOp2 gMod (mK0 m__law_mixed (wBor (lIx (lVar 0) (mC (.int 1))) (wBor (lIx (lVar 0) (mC (.int 2))) wNil))) (mVarS 1)))) mNx)
    (mSeq (mAsg (mOp2 gMod (mIx (mVar 0) (mC (.int 0))) (mVarS 1)) (gSet 2))
    (mSeq (mAsg (mOp2 gDiv (mIx (mVar 0) (mC (.int 0))) (mVarS 1)) (gSetI (lVar 0) (mC (.int 0))))
    (mRet (mVarS 2)))))
def m__law_take : MF := fnM 2 3 [1] (b__law_take)
def b__law_great : MS :=
    (mSeq (mAsg (mFz (mK1 m__law_take (wIo (lVar 0) (wOwn (mOp2 gPow (mC (.int 10)) (mC (.int 20))) wNil)))) (gSet 1))
    (mSeq (mAsg (mFz (mK1 m__law_take (wIo (lVar 0) (wOwn (mC (.int 4)) wNil)))) (gSet 2))
    (mRet (mIx (mLst (mCons (mOp2 gMod (mVarS 1) (mC (.int 8))) (mCons (mOp2 gMod (mVarS 1) (mC (.int 100))) (mCons (mVarS 1) (mCons (mOp2 gAdd (mOp2 gMul (mOp2 gAdd (mOp2 gMul (mVarS 1) (mOp2 gPow (mC (.int 10)) (mC (.int 19)))) (mK1 m__law_take (wIo (lVar 0) (wOwn (mOp2 gPow (mC (.int 10)) (mC (.int 19))) wNil)))) (mC (.int 9))) (mOp2 gMod (mVarS 1) (mC (.int 9)))) mNil))))) (mVarS 2)))))
def m__law_great : MF := fnM 1 3 [] (b__law_great)
def b__law_signed : MS :=
    (mSeq (mAsg (mFz (mK1 m__law_great (wIo (lVar 0) wNil))) (gSet 1))
    (mRet (mIx (mLst (mCons (mVarS 1) (mCons (mVarS 1) (mCons (mOp1 gNeg (mVarS 1)) mNil)))) (mK1 m__law_take (wIo (lVar 0) (wOwn (mC (.int 3)) wNil))))))
def m__law_signed : MF := fnM 1 2 [] (b__law_signed)
def b__law_saying : MS :=
    (mSeq (mAsg (mFz (mK1 m__law_take (wIo (lVar 0) (wOwn (mC (.int 8)) wNil)))) (gSet 1))
    (mSeq (mAsg (mFz (mOp2 gAdd (mC (.int 1)) (mK1 m__law_take (wIo (lVar 0) (wOwn (mC (.int 6)) wNil))))) (gSet 2))
    (mSeq (mAsg (mComp (mItR gRg1 (mCons (mVarS 2) mNil)) (gSet 4) (ME.pure true) (mK1 m__law_signed (wIo (lVar 0) wNil)) [4]) (gSet 3))
    (mSeq (mIfS (mB (mOp2 gLt (mVarS 1) (mC (.int 2)))) (mRet (mFz (mTup (mCons (mIx (mLst (mCons (mC (.str "like")) (mCons (mC (.str "unlike")) mNil))) (mVarS 1)) (mCons (mMov 3) (mCons (mComp (mItR gRg1 (mCons (mVarS 2) mNil)) (gSet 4) (ME.pure true) (mK1 m__law_signed (wIo (lVar 0) wNil)) [4]) mNil)))))) mNx)
    (mSeq (mIfS (mB (mOp2 gLt (mVarS 1) (mC (.int 4)))) (mRet (mFz (mTup (mCons (mIx (mLst (mCons (mC (.str "clear")) (mCons (mC (.str "barred")) mNil))) (mOp2 gSub (mVarS 1) (mC (.int 2)))) (mCons (mMov 3) mNil))))) mNx)
    (mSeq (mIfS (mB (mOp2 gLt (mVarS 1) (mC (.int 6)))) (mRet (mFz (mTup (mCons (mIx (mLst (mCons (mC (.str "draws")) (mCons (mC (.str "draws less")) mNil))) (mOp2 gSub (mVarS 1) (mC (.int 4)))) (mCons (mMov 3) (mCons (mK1 m__law_great (wIo (lVar 0) wNil)) (mCons (mK1 m__law_signed (wIo (lVar 0) wNil)) mNil))))))) mNx)
    (mRet (mFz (mTup (mCons (mIx (mLst (mCons (mC (.str "stands")) (mCons (mC (.str "falls")) mNil))) (mOp2 gSub (mVarS 1) (mC (.int 6)))) (mCons (mFrz 3) (mCons (mOp2 gSub (mK1 m__law_great (wIo (lVar 0) wNil)) (mOp2 gMul (mK1 m__law_take (wIo (lVar 0) (wOwn (mC (.int 2)) wNil))) (mBi gToInt (mCons (mOp2 gGt (mIx (mVar 3) (mC (.int 0))) (mC (.int 3))) mNil)))) mNil))))))))))))
def m__law_saying : MF := fnM 1 5 [] (b__law_saying)
def b__law_pile : MS :=
    (mSeq (mAsg (mC (.int 0)) (gSet 2))
    (mSeq (mIfS (mB (mOp2 gLt (mVarS 1) (mBi gLen (mCons (mVarS 0) mNil)))) (mAsg (mFz (mIx (mVarS 0) (mVarS 1))) (gSet 2)) mNx)
    (mRet (mLst (mCons (mIx (mLst (mCons (mC (.int 0)) (mCons (mOp2 gMod (mVarS 2) (mOp2 gMul (mOp2 gMul (mOp2 gPow (mC (.int 10)) (mC (.int 50))) (mOp2 gPow (mC (.int 10)) (mC (.int 50)))) (mOp2 gPow (mC (.int 10)) (mC (.int 50))))) mNil))) (mBi gToInt (mCons (mOp2 gGe (mBi gAbs (mCons (mVarS 2) mNil)) (mOp2 gPow (mC (.int 10)) (mC (.int 18)))) mNil))) (mCons (mOp2 gMod (mVarS 2) (mC (.int 2147483647))) (mCons (mOp2 gMul (mC (.int 97)) (mVarS 1)) mNil)))))))
def m__law_pile : MF := fnM 2 3 [0, 1] (b__law_pile)
def b__law_edges : MS :=
    (mSeq (mAsg (mLst (mCons (mFz (mTup (mCons (mC (.str "stands")) (mCons (mLst (mCons (mC (.int 0)) mNil)) (mCons (mOp1 gNeg (mC (.int 1))) mNil))))) (mCons (mFz (mTup (mCons (mC (.str "falls")) (mCons (mLst (mCons (mC (.int 0)) (mCons (mC (.int 0)) mNil))) (mCons (mOp1 gNeg (mC (.int 1))) mNil))))) (mCons (mFz (mTup (mCons (mC (.str "stands")) (mCons (mOp2 gMul (mLst (mCons (mOp1 gNeg (mC (.int 1))) mNil)) (mC (.int 6))) (mCons (mC (.int 0)) mNil))))) (mCons (mFz (mTup (mCons (mC (.str "draws")) (mCons (mLst (mCons (mC (.int 0)) mNil)) (mCons (mC (.int 0)) (mCons (mC (.int 0)) mNil)))))) mNil))))) (gSet 0))
    (mSeq (mAsg (mOp2 gAdd (mVar 0) (mLst (mCons (mFz (mTup (mCons (mC (.str "draws less")) (mCons (mLst (mCons (mC (.int 5)) (mCons (mOp1 gNeg (mC (.int 5))) mNil))) (mCons (mC (.int 9)) (mCons (mOp1 gNeg (mC (.int 1))) mNil)))))) (mCons (mFz (mTup (mCons (mC (.str "like")) (mCons (mLst (mCons (mC (.int 0)) mNil)) (mCons (mLst (mCons (mC (.int 0)) mNil)) mNil))))) (mCons (mFz (mTup (mCons (mC (.str "unlike")) (mCons (mLst (mCons (mOp2 gSub (mC (.int 1)) (mOp2 gPow (mC (.int 10)) (mC (.int 40)))) mNil)) (mCons (mLst (mCons (mOp2 gSub (mOp2 gPow (mC (.int 10)) (mC (.int 40))) (mC (.int 1))) mNil)) mNil))))) mNil))))) (gSet 0))
    (mSeq (mDrop (mIn (onL gApp) (lChk isOl (lVar 0)) (mCons (mFz (mTup (mCons (mC (.str "unlike")) (mCons (mOp2 gMul (mLst (mCons (mOp2 gSub (mC (.int 1)) (mOp2 gPow (mC (.int 10)) (mC (.int 40)))) mNil)) (mC (.int 6))) (mCons (mOp2 gMul (mLst (mCons (mOp2 gSub (mC (.int 1)) (mOp2 gPow (mC (.int 10)) (mC (.int 40)))) mNil)) (mC (.int 6))) mNil))))) mNil)))
    (mRet (mOp2 gAdd (mVar 0) (mLst (mCons (mFz (mTup (mCons (mC (.str "clear")) (mCons (mOp2 gMul (mLst (mCons (mC (.int 0)) mNil)) (mC (.int 6))) mNil)))) (mCons (mFz (mTup (mCons (mC (.str "barred")) (mCons (mLst (mCons (mOp1 gNeg (mC (.int 3))) mNil)) mNil)))) (mCons (mFz (mTup (mCons (mC (.str "draws")) (mCons (mLst (mCons (mC (.int 1)) (mCons (mC (.int 2)) mNil))) (mCons (mC (.int 7)) (mCons (mOp2 gSub (mC (.int 1)) (mOp2 gPow (mC (.int 10)) (mC (.int 40)))) mNil)))))) mNil)))))))))
def m__law_edges : MF := fnM 0 1 [] (b__law_edges)
def b_law : MS :=
    (mSeq (mFor (mItR gRg1 (mCons (mC (.int 20)) mNil)) (gSet 1) (mIfS (mNot (mB (mK0 m__law_kept (wOwn (mFz (mK0 m__law_saying (wOwn (mK0 m__law_pile (wOwn (mVarS 0) (wOwn (mVarS 1) wNil))) wNil))) wNil)))) (mRet (mC (.bl false))) mNx))
    (mRet (mOp2 gEq (mCompP (mItL (mFz (mNoX (mK0 m__law_edges wNil)))) (gSet 2) (mNot (mB (mK0 m__law_kept (wOwn (mVarS 2) wNil)))) (mVarS 2) [2]) (mLst mNil))))
def m_law : MF := fnM 1 3 [0] (b_law)
end LW
set_option Elab.async false
set_option linter.all false
set_option maxRecDepth 100000
namespace TY
open PySem AM
abbrev Env := AM.Env
/-- a typed computation: nothing said, a value, or a refusal -/
abbrev X (α : Type) := Option (Res α)
section
variable {α β γ δ σ τ ρ lam : Type}
def X.ok (a : α) : X α := some (.ok a)
def X.ex (x : XV) : X α := some (.ex x)
def X.bad : X α := none
def X.bind (p : X α) (k : α → X β) : X β := match p with
  | none => none
  | some (.ok a) => k a
  | some (.ex x) => some (.ex x)
def X.ofO (o : Option α) : X α := o.map .ok
@[simp] theorem bind_ok {a : α} {k : α → X β} : X.bind (X.ok a) k = k a := Eq.trans rfl rfl
@[simp] theorem bind_some {a : α} {k : α → X β} : X.bind (some (.ok a)) k = k a := Eq.trans rfl rfl
@[simp] theorem bind_ex {x : XV} {k : α → X β} : X.bind (X.ex x) k = X.ex x := Eq.trans rfl rfl
@[simp] theorem bind_ex2 {x : XV} {k : α → X β} : X.bind (some (.ex x)) k = some (.ex x) := Eq.trans rfl rfl
@[simp] theorem bind_none {k : α → X β} : X.bind none k = none := Eq.trans rfl rfl
@[simp] theorem bind_bad {k : α → X β} : X.bind X.bad k = X.bad := Eq.trans rfl rfl
@[simp] theorem ofO_some {a : α} : X.ofO (some a) = X.ok a := Eq.trans rfl rfl
@[simp] theorem ofO_none : X.ofO (none : Option α) = X.bad := Eq.trans rfl rfl
@[simp] theorem ok_inj {a b : α} : (X.ok a = X.ok b) ↔ a = b := by simp [X.ok]
/-- how a block ends: at its end, by break, by continue, by return -/
inductive Out (σ lam ρ : Type) where
  | go (s : σ) | bk (l : lam) | ct (l : lam) | rt (r : ρ)
/-- behind a block with exits, within a block with exits -/
def X.bindO (p : X (Out σ lam ρ)) (k : σ → X (Out τ lam ρ)) : X (Out τ lam ρ) := X.bind p fun o => match o with
  | .go s => k s | .bk l => X.ok (.bk l) | .ct l => X.ok (.ct l) | .rt r => X.ok (.rt r)
/-- behind a block that may return, in a def's body -/
def X.bindR (p : X (Out σ Unit ρ)) (k : σ → X ρ) : X ρ := X.bind p fun o => match o with
  | .go s => k s | .bk _ => X.bad | .ct _ => X.bad | .rt r => X.ok r
/-- a loop without exits -/
def X.forP (b : α → σ → X σ) : List α → σ → X σ
  | [], s => X.ok s
  | a :: as, s => X.bind (b a s) fun s => X.forP b as s
/-- a loop with exits -/
def X.forL (b : α → σ → X (Out σ σ ρ)) : List α → σ → X (Out σ Unit ρ)
  | [], s => X.ok (.go s)
  | a :: as, s => X.bind (b a s) fun o => match o with
    | .go s => X.forL b as s | .ct s => X.forL b as s | .bk s => X.ok (.go s) | .rt r => X.ok (.rt r)
/-- a block that may return, within a loop or block with other exits -/
def X.up (p : X (Out σ Unit ρ)) : X (Out σ lam ρ) := X.bind p fun o => match o with
  | .go s => X.ok (.go s) | .bk _ => X.bad | .ct _ => X.bad | .rt r => X.ok (.rt r)
/-- what a run of the mirror is to a typed computation -/
structure Jd (β τ : Type) where
  rel0 : Option (Res β × Env) → X τ → Prop
  Ex : Env → Prop
  non0 : ∀ r, rel0 r none
  ex0 : ∀ x e, Ex e → rel0 (some (.ex x, e)) (some (.ex x))
/-- the same, not to be looked through -/
structure Jd.rel {β τ : Type} (J : Jd β τ) (r : Option (Res β × Env)) (p : X τ) : Prop where
  h : J.rel0 r p
theorem Jd.non {β τ : Type} (J : Jd β τ) (r : Option (Res β × Env)) : J.rel r none := ⟨J.non0 r⟩
theorem Jd.ex {β τ : Type} (J : Jd β τ) (x : XV) (e : Env) (h : J.Ex e) : J.rel (some (.ex x, e)) (some (.ex x)) := ⟨J.ex0 x e h⟩
/-- an expression, or the arguments of a call -/
def jE {Oo : Type} (ev : σ → β) (mk : σ → Oo → Env) (Ex : Env → Prop) : Jd β σ where
  rel0 r p := match p with
    | none => True
    | some (.ok s) => ∃ os, r = some (.ok (ev s), mk s os)
    | some (.ex x) => ∃ e, r = some (.ex x, e) ∧ Ex e
  Ex := Ex
  non0 _ := trivial
  ex0 _ _ h := ⟨_, rfl, h⟩
/-- a block without exits -/
def jM {Oo : Type} (mk : σ → Oo → Env) (Ex : Env → Prop) : Jd Fl σ where
  rel0 r p := match p with
    | none => True
    | some (.ok s) => ∃ os, r = some (.ok .nx, mk s os)
    | some (.ex x) => ∃ e, r = some (.ex x, e) ∧ Ex e
  Ex := Ex
  non0 _ := trivial
  ex0 _ _ h := ⟨_, rfl, h⟩
/-- a def's body -/
def jF (G : ρ → W → Env → Prop) (Ex : Env → Prop) : Jd Fl ρ where
  rel0 r p := match p with
    | none => True
    | some (.ok a) => ∃ w e, (r = some (.ok (.rt w), e) ∨ (r = some (.ok .nx, e) ∧ w = .sh .non)) ∧ G a w e
    | some (.ex x) => ∃ e, r = some (.ex x, e) ∧ Ex e
  Ex := Ex
  non0 _ := trivial
  ex0 _ _ h := ⟨_, rfl, h⟩
/-- a block with exits -/
def jS {Oo Ol : Type} (mk : σ → Oo → Env) (ml : lam → Ol → Env) (G : ρ → W → Env → Prop) (Ex : Env → Prop) : Jd Fl (Out σ lam ρ) where
  rel0 r p := match p with
    | none => True
    | some (.ok (.go s)) => ∃ os, r = some (.ok .nx, mk s os)
    | some (.ok (.bk s)) => ∃ os, r = some (.ok .bk, ml s os)
    | some (.ok (.ct s)) => ∃ os, r = some (.ok .ct, ml s os)
    | some (.ok (.rt a)) => ∃ w e, r = some (.ok (.rt w), e) ∧ G a w e
    | some (.ex x) => ∃ e, r = some (.ex x, e) ∧ Ex e
  Ex := Ex
  non0 _ := trivial
  ex0 _ _ h := ⟨_, rfl, h⟩
/-- what a def does -/
def TF0 (r : Option (Res W × List (Option W))) (p : X ρ) (er : ρ → W) (eo : ρ → List (Option W)) (Xo : List (Option W) → Prop) : Prop := match p with
  | none => True
  | some (.ok a) => r = some (.ok (er a), eo a)
  | some (.ex x) => ∃ outs, r = some (.ex x, outs) ∧ Xo outs
structure TF (r : Option (Res W × List (Option W))) (p : X ρ) (er : ρ → W) (eo : ρ → List (Option W)) (Xo : List (Option W) → Prop) : Prop where
  h : TF0 r p er eo Xo
def aft (r : Option (Res α × Env)) (κ : α → Env → Option (Res β × Env)) : Option (Res β × Env) := match r with
  | none => none
  | some (.ok a, e) => κ a e
  | some (.ex x, e) => some (.ex x, e)
def opK (o : Option α) (e : Env) (κ : α → Env → Option (Res β × Env)) : Option (Res β × Env) := match o with
  | none => none
  | some a => κ a e
def sq (r : Option (Res Fl × Env)) (rest : MS) : Option (Res Fl × Env) := match r with
  | some (.ok .nx, e) => rest e
  | r => r
def gK (g : MG) (w : W) (e : Env) (rest : MS) : Option (Res Fl × Env) := match g w e with
  | some (.ok _, e) => rest e
  | _ => none
theorem aft_aft {r : Option (Res α × Env)} {κ : α → Env → Option (Res β × Env)} {κ' : β → Env → Option (Res γ × Env)} : aft (aft r κ) κ' = aft r fun a e => aft (κ a e) κ' := by
  rcases r with _ | ⟨_ | _, _⟩ <;> rfl
theorem bind_aft {m : ME α} {f : α → ME β} {env : Env} : ME.bind m f env = aft (m env) f := by
  unfold ME.bind aft
  rcases m env with _ | ⟨_ | _, _⟩ <;> rfl
theorem pure_aft {a : α} {env : Env} {κ : α → Env → Option (Res β × Env)} : aft (ME.pure a env) κ = κ a env := rfl
theorem op_aft {g : α → Option γ} {a : α} {env : Env} {κ : γ → Env → Option (Res β × Env)} : aft (ME.op g a env) κ = opK (g a) env κ := by
  unfold ME.op opK aft
  rcases g a with _ | _ <;> rfl
theorem opK_aft {o : Option α} {env : Env} {κ : α → Env → Option (Res β × Env)} {κ' : β → Env → Option (Res γ × Env)} : aft (opK o env κ) κ' = opK o env fun a e => aft (κ a e) κ' := by
  rcases o with _ | _ <;> rfl
end
section
variable {α β γ δ σ τ ρ lam : Type} {J : Jd β τ} {p : X τ} {env e : Env}
theorem x_val {m : ME α} {κ : α → Env → Option (Res β × Env)} {a : α} (h : m env = some (.ok a, e)) (k : J.rel (κ a e) p) : J.rel (aft (m env) κ) p := by
  rw [h]
  exact k
theorem o_val {o : Option α} {κ : α → Env → Option (Res β × Env)} {a : α} (h : o = some a) (k : J.rel (κ a e) p) : J.rel (opK o e κ) p := by
  rw [h]
  exact k
theorem o_par {o : Option α} {f : Option γ} {ec : γ → α} {κ : α → Env → Option (Res β × Env)} {pk : γ → X τ} (h : o = f.map ec) (k : ∀ c, J.rel (κ (ec c) e) (pk c)) : J.rel (opK o e κ) (X.bind (X.ofO f) pk) := by
  rw [h]
  rcases f with _ | c
  · exact J.non _
  · exact k c
/-- an expression as a block of its own -/
theorem x_sub {Oo : Type} {m : ME α} {κ : α → Env → Option (Res β × Env)} {ps : X σ} {pk : σ → X τ} (ev : σ → α) (mk : σ → Oo → Env) (h : (jE ev mk J.Ex).rel (m env) ps) (k : ∀ s os, J.rel (κ (ev s) (mk s os)) (pk s)) : J.rel (aft (m env) κ) (X.bind ps pk) := by
  rcases ps with _ | ⟨s | x⟩
  · exact J.non _
  · obtain ⟨os, h⟩ := h.h
    rw [h]
    exact k s os
  · obtain ⟨e', h, h2⟩ := h.h
    rw [h]
    exact J.ex x e' h2
theorem e_end {Oo : Type} {Ex : Env → Prop} {ev : σ → β} {mk : σ → Oo → Env} {w : β} {s : σ} (os : Oo) (h : w = ev s) (h2 : e = mk s os) : (jE ev mk Ex).rel (some (.ok w, e)) (X.ok s) := ⟨⟨os, by rw [h, h2]⟩⟩
theorem e_true {Ex : Env → Prop} : (jE id (fun (_ : Bool) (_ : Unit) => e) Ex).rel (ME.pure true e) (X.ok true) := ⟨⟨(), rfl⟩⟩
/-- the whole expression is what is wanted -/
theorem x_all {α : Type} {J : Jd α τ} {m : ME α} (h : J.rel (aft (m env) fun a e => some (.ok a, e)) p) : J.rel (m env) p := by
  have : aft (m env) (fun a e => some (.ok a, e)) = m env := by
    rcases m env with _ | ⟨_ | _, _⟩ <;> rfl
  rwa [this] at h
section
variable {κ : W → Env → Option (Res β × Env)} {ma mb m : ME W} {g : W × W → Option W} {g1 : W → Option W}
theorem x_op2 (h : J.rel (aft (ma env) fun w e => aft (mb e) fun u e => opK (g (w, u)) e κ) p) : J.rel (aft (mOp2 g ma mb env) κ) p := by
  simp only [mOp2, bind_aft, aft_aft, pure_aft, op_aft]
  exact h
theorem x_ix (h : J.rel (aft (ma env) fun w e => aft (mb e) fun u e => opK (gIx (w, u)) e κ) p) : J.rel (aft (mIx ma mb env) κ) p := by
  simp only [mIx, bind_aft, aft_aft, pure_aft, op_aft]
  exact h
theorem x_op1 (h : J.rel (aft (m env) fun w e => opK (g1 w) e κ) p) : J.rel (aft (mOp1 g1 m env) κ) p := by
  simp only [mOp1, bind_aft, aft_aft, op_aft]
  exact h
theorem x_fz (h : J.rel (aft (m env) fun w e => opK (w.toD.map W.sh) e κ) p) : J.rel (aft (mFz m env) κ) p := by
  simp only [mFz, bind_aft, aft_aft, op_aft]
  exact h
theorem x_B {κ : Bool → Env → Option (Res β × Env)} (h : J.rel (aft (m env) fun w e => opK (wBl w) e κ) p) : J.rel (aft (mB m env) κ) p := by
  simp only [mB, bind_aft, aft_aft, op_aft]
  exact h
theorem x_bi {ms : ME (List W)} {g : List W → Option W} (h : J.rel (aft (ms env) fun ws e => opK (g ws) e κ) p) : J.rel (aft (mBi g ms env) κ) p := by
  simp only [mBi, bind_aft, aft_aft, op_aft]
  exact h
theorem x_lst {ms : ME (List W)} (h : J.rel (aft (ms env) fun ws e => opK (gLst ws) e κ) p) : J.rel (aft (mLst ms env) κ) p := by
  simp only [mLst, bind_aft, aft_aft, op_aft]
  exact h
theorem x_tup {ms : ME (List W)} (h : J.rel (aft (ms env) fun ws e => opK (gTup ws) e κ) p) : J.rel (aft (mTup ms env) κ) p := by
  simp only [mTup, bind_aft, aft_aft, op_aft]
  exact h
theorem x_nil {κ : List W → Env → Option (Res β × Env)} (h : J.rel (κ [] env) p) : J.rel (aft (mNil env) κ) p := h
theorem x_cons {ms : ME (List W)} {κ : List W → Env → Option (Res β × Env)} (h : J.rel (aft (m env) fun w e => aft (ms e) fun ws e => κ (w :: ws) e) p) : J.rel (aft (mCons m ms env) κ) p := by
  simp only [mCons, bind_aft, aft_aft, op_aft, pure_aft]
  exact h
theorem x_itR {ms : ME (List W)} {g : List W → Option (List D)} {κ : List D → Env → Option (Res β × Env)} (h : J.rel (aft (ms env) fun ws e => opK (g ws) e κ) p) : J.rel (aft (mItR g ms env) κ) p := by
  simp only [mItR, bind_aft, aft_aft, op_aft]
  exact h
theorem x_itL {κ : List D → Env → Option (Res β × Env)} (h : J.rel (aft (m env) fun w e => opK (wEls w) e κ) p) : J.rel (aft (mItL m env) κ) p := by
  simp only [mItL, bind_aft, aft_aft, op_aft]
  exact h
theorem x_itT {κ : List D → Env → Option (Res β × Env)} (h : J.rel (aft (m env) fun w e => opK (wTEls w) e κ) p) : J.rel (aft (mItT m env) κ) p := by
  simp only [mItT, bind_aft, aft_aft, op_aft]
  exact h
theorem x_noPart {κ : Option Int → Env → Option (Res β × Env)} (h : J.rel (κ none env) p) : J.rel (aft (mNoPart env) κ) p := h
theorem x_part {κ : Option Int → Env → Option (Res β × Env)} (h : J.rel (aft (m env) fun w e => opK ((wInt w).map some) e κ) p) : J.rel (aft (mPart m env) κ) p := by
  simp only [mPart, bind_aft, aft_aft, op_aft]
  exact h
theorem x_sl {lo hi : ME (Option Int)} (h : J.rel (aft (m env) fun w e => aft (lo e) fun a e => aft (hi e) fun b e => opK (gSl (w, a, b)) e κ) p) : J.rel (aft (mSl m lo hi env) κ) p := by
  simp only [mSl, bind_aft, aft_aft, op_aft, pure_aft]
  exact h
theorem x_ms {ms : ME (List W)} {g : W × List W → Option W} (h : J.rel (aft (m env) fun w e => opK ((wStr w).map fun s => W.sh (.str s)) e fun w e => aft (ms e) fun ws e => opK (g (w, ws)) e κ) p) : J.rel (aft (mMs g m ms env) κ) p := by
  simp only [mMs, bind_aft, aft_aft, op_aft, pure_aft, opK_aft]
  exact h
def andK (t : Bool) (b : ME Bool) (e : Env) (κ : Bool → Env → Option (Res β × Env)) : Option (Res β × Env) := if t = true then aft (b e) κ else κ false e
def orK (t : Bool) (b : ME Bool) (e : Env) (κ : Bool → Env → Option (Res β × Env)) : Option (Res β × Env) := if t = true then κ true e else aft (b e) κ
def andVK (t : Bool) (b : ME W) (e : Env) (κ : W → Env → Option (Res β × Env)) : Option (Res β × Env) := if t = true then aft (b e) κ else κ (.sh (.bl false)) e
def ifK {α : Type} (t : Bool) (a b : ME α) (e : Env) (κ : α → Env → Option (Res β × Env)) : Option (Res β × Env) := if t = true then aft (a e) κ else aft (b e) κ
theorem x_and {a b : ME Bool} {κ : Bool → Env → Option (Res β × Env)} (h : J.rel (aft (a env) fun c e => andK c b e κ) p) : J.rel (aft (mAnd a b env) κ) p := by
  simp only [mAnd, bind_aft, aft_aft]
  have : (fun (c : Bool) (e : Env) => aft ((if c = true then b else ME.pure false) e) κ) = fun c e => if c = true then aft (b e) κ else κ false e := by
    funext c e
    cases c <;> rfl
  rw [this]
  exact h
theorem x_or {a b : ME Bool} {κ : Bool → Env → Option (Res β × Env)} (h : J.rel (aft (a env) fun c e => orK c b e κ) p) : J.rel (aft (mOr a b env) κ) p := by
  simp only [mOr, bind_aft, aft_aft]
  have : (fun (c : Bool) (e : Env) => aft ((if c = true then ME.pure true else b) e) κ) = fun c e => if c = true then κ true e else aft (b e) κ := by
    funext c e
    cases c <;> rfl
  rw [this]
  exact h
theorem x_not {a : ME Bool} {κ : Bool → Env → Option (Res β × Env)} (h : J.rel (aft (a env) fun c e => κ (!c) e) p) : J.rel (aft (mNot a env) κ) p := by
  simp only [mNot, bind_aft, aft_aft]
  exact h
theorem x_if {α : Type} {κ : α → Env → Option (Res β × Env)} {c : ME Bool} {a b : ME α} (h : J.rel (aft (c env) fun t e => ifK t a b e κ) p) : J.rel (aft (mIf c a b env) κ) p := by
  simp only [mIf, bind_aft, aft_aft]
  have : (fun (c : Bool) (e : Env) => aft ((if c = true then a else b) e) κ) = fun c e => if c = true then aft (a e) κ else aft (b e) κ := by
    funext c e
    cases c <;> rfl
  rw [this]
  exact h
theorem x_andV (h : J.rel (aft (ma env) fun w e => opK (wBl w) e fun c e => andVK c mb e κ) p) : J.rel (aft (mAndV ma mb env) κ) p := by
  simp only [mAndV, mB, bind_aft, aft_aft, op_aft, opK_aft]
  have : (fun (c : Bool) (e : Env) => aft ((if c = true then mb else mC (.bl false)) e) κ) = fun c e => if c = true then aft (mb e) κ else κ (.sh (.bl false)) e := by
    funext c e
    cases c <;> rfl
  rw [this]
  exact h
/-- an operation on what stands at a place -/
def inK {β : Type} (e : Env) (path : Path) (g : W → Option (W × W)) (κ : W → Env → Option (Res β × Env)) : Option (Res β × Env) := opK (getE e path) e fun w e => opK (g w) e fun r e => opK (setE e path r.1) e fun e' _ => κ r.2 e'
theorem x_in {g : W → List W → Option (W × W)} {ml : ME Path} {ms : ME (List W)} {path : Path} {e1 : Env} (hl : ml env = some (.ok path, e1)) (h : J.rel (aft (ms e1) fun ws e => inK e path (fun w => g w ws) κ) p) : J.rel (aft (mIn g ml ms env) κ) p := by
  have : aft (mIn g ml ms env) κ = aft (ms e1) fun ws e => inK e path (fun w => g w ws) κ := by
    unfold mIn inK
    rw [hl]
    simp only
    rcases ms e1 with _ | ⟨ws | x, e2⟩
    · rfl
    · simp only [aft]
      rcases getE e2 path with _ | w
      · rfl
      · simp only [opK, Option.bind_some]
        rcases g w ws with _ | ⟨r1, r2⟩
        · rfl
        · simp only [Option.bind_some]
          rcases setE e2 path r1 with _ | e3 <;> rfl
    · rfl
  rw [this]
  exact h
end
section
variable {κ : Bool → Env → Option (Res β × Env)} {b : ME Bool} {ta tb : Bool}
theorem k_and (hb : b e = some (.ok tb, e)) (k : J.rel (κ (ta && tb) e) p) : J.rel (andK ta b e κ) p := by
  unfold andK
  cases ta
  · simpa using k
  · simp only [if_pos, hb]
    exact k
theorem k_andX {Oo : Type} {pb : X σ} {pk : σ → X τ} (ev : σ → Bool) (mk : σ → Oo → Env) (s0 : σ) (os0 : Oo) (hb : (jE ev mk J.Ex).rel (b e) pb) (h0 : ev s0 = false) (h1 : e = mk s0 os0) (k : ∀ s os, J.rel (κ (ev s) (mk s os)) (pk s)) : J.rel (andK ta b e κ) (X.bind (if ta = true then pb else X.ok s0) pk) := by
  unfold andK
  cases ta
  · have := k s0 os0
    rw [h0, ← h1] at this
    exact this
  · exact x_sub ev mk hb k
theorem k_orX {Oo : Type} {pb : X σ} {pk : σ → X τ} (ev : σ → Bool) (mk : σ → Oo → Env) (s0 : σ) (os0 : Oo) (hb : (jE ev mk J.Ex).rel (b e) pb) (h0 : ev s0 = true) (h1 : e = mk s0 os0) (k : ∀ s os, J.rel (κ (ev s) (mk s os)) (pk s)) : J.rel (orK ta b e κ) (X.bind (if ta = true then X.ok s0 else pb) pk) := by
  unfold orK
  cases ta
  · exact x_sub ev mk hb k
  · have := k s0 os0
    rw [h0, ← h1] at this
    exact this
end
section
variable {κ : W → Env → Option (Res β × Env)} {b : ME W} {ta tb : Bool}
theorem k_andVX {Oo : Type} {pb : X σ} {pk : σ → X τ} (ev : σ → W) (mk : σ → Oo → Env) (s0 : σ) (os0 : Oo) (hb : (jE ev mk J.Ex).rel (b e) pb) (h0 : ev s0 = .sh (.bl false)) (h1 : e = mk s0 os0) (k : ∀ s os, J.rel (κ (ev s) (mk s os)) (pk s)) : J.rel (andVK ta b e κ) (X.bind (if ta = true then pb else X.ok s0) pk) := by
  unfold andVK
  cases ta
  · have := k s0 os0
    rw [h0, ← h1] at this
    exact this
  · exact x_sub ev mk hb k
end
theorem k_ifX {α : Type} {Oo : Type} {κ : α → Env → Option (Res β × Env)} {t : Bool} {a b : ME α} {pa pb : X σ} {pk : σ → X τ} (ev : σ → α) (mk : σ → Oo → Env) (ha : (jE ev mk J.Ex).rel (a e) pa) (hb : (jE ev mk J.Ex).rel (b e) pb) (k : ∀ s os, J.rel (κ (ev s) (mk s os)) (pk s)) : J.rel (ifK t a b e κ) (X.bind (if t = true then pa else pb) pk) := by
  unfold ifK
  cases t
  · exact x_sub ev mk hb k
  · exact x_sub ev mk ha k
end
section
variable {σ τ ρ lam α β : Type} {J : Jd Fl τ} {p : X τ} {env e : Env} {m : ME W} {rest s A B : MS} {w : W}
theorem sq_nx {r : Option (Res Fl × Env)} : sq r mNx = r := by
  rcases r with _ | ⟨(_ | _ | _ | _) | _, _⟩ <;> rfl
theorem mSeq_sq : mSeq s rest env = sq (s env) rest := rfl
theorem s_last (h : J.rel (mSeq s mNx env) p) : J.rel (s env) p := by
  rw [mSeq_sq, sq_nx] at h
  exact h
theorem s_assoc (h : J.rel (mSeq A (mSeq B rest) env) p) : J.rel (mSeq (mSeq A B) rest env) p := by
  have : mSeq (mSeq A B) rest env = mSeq A (mSeq B rest) env := by
    unfold mSeq
    rcases A env with _ | ⟨(_ | _ | _ | _) | _, _⟩ <;> rfl
  rw [this]
  exact h
/-- the environment written out -/
theorem n_env {e' : Env} (h : env = e') (k : J.rel (s e') p) : J.rel (s env) p := by
  rw [h]
  exact k
theorem s_nx (h : J.rel (rest env) p) : J.rel (mSeq mNx rest env) p := h
theorem s_asg {g : MG} (h : J.rel (aft (m env) fun w e => gK g w e rest) p) : J.rel (mSeq (mAsg m g) rest env) p := by
  have : mSeq (mAsg m g) rest env = aft (m env) fun w e => gK g w e rest := by
    unfold mSeq mAsg
    rw [bind_aft]
    rcases m env with _ | ⟨w | x, e⟩
    · rfl
    · simp only [aft, gK]
      rcases g w e with _ | ⟨_ | _, _⟩ <;> rfl
    · rfl
  rw [this]
  exact h
theorem k_set {i : Nat} (hi : Nat.blt i e.length = true) (k : J.rel (rest (e.set i (some w))) p) : J.rel (gK (gSet i) w e rest) p := by
  have hi : i < e.length := by simpa using hi
  simp only [gK, gSet, if_pos hi]
  exact k
theorem k_G {g : MG} {e' : Env} (h : g w e = some (.ok (), e')) (k : J.rel (rest e') p) : J.rel (gK g w e rest) p := by
  simp only [gK, h]
  exact k
theorem s_drop (h : J.rel (aft (m env) fun _ e => rest e) p) : J.rel (mSeq (mDrop m) rest env) p := by
  have : mSeq (mDrop m) rest env = aft (m env) fun _ e => rest e := by
    unfold mSeq mDrop
    rw [bind_aft]
    rcases m env with _ | ⟨_ | _, _⟩ <;> rfl
  rw [this]
  exact h
theorem s_ret (h : J.rel (aft (m env) fun w e => some (.ok (.rt w), e)) p) : J.rel (mSeq (mRet m) rest env) p := by
  have : mSeq (mRet m) rest env = aft (m env) fun w e => some (.ok (.rt w), e) := by
    unfold mSeq mRet
    rw [bind_aft]
    rcases m env with _ | ⟨_ | _, _⟩ <;> rfl
  rw [this]
  exact h
theorem s_raise {c : Str} (h : J.Ex env) : J.rel (mSeq (mRaise c) rest env) (X.ex ⟨c, []⟩) := J.ex _ _ h
theorem s_if {c : ME Bool} (h : J.rel (aft (c env) fun b e => if b = true then mSeq A rest e else mSeq B rest e) p) : J.rel (mSeq (mIfS c A B) rest env) p := by
  have : mSeq (mIfS c A B) rest env = aft (c env) fun b e => if b = true then mSeq A rest e else mSeq B rest e := by
    unfold mSeq mIfS
    rw [bind_aft]
    rcases c env with _ | ⟨b | x, e⟩
    · rfl
    · cases b <;> rfl
    · rfl
  rw [this]
  exact h
theorem k_if {b : Bool} {x y : Option (Res β × Env)} {J : Jd β τ} {pa pb : X τ} (ha : J.rel x pa) (hb : J.rel y pb) : J.rel (if b = true then x else y) (if b = true then pa else pb) := by
  cases b
  · exact hb
  · exact ha
/-- a block without exits, and what stands behind it -/
theorem s_sub {Oo : Type} {ps : X σ} {pk : σ → X τ} (mk : σ → Oo → Env) (h : (jM mk J.Ex).rel (s env) ps) (k : ∀ s os, J.rel (rest (mk s os)) (pk s)) : J.rel (mSeq s rest env) (X.bind ps pk) := by
  rw [mSeq_sq]
  rcases ps with _ | ⟨a | x⟩
  · exact J.non _
  · obtain ⟨os, h⟩ := h.h
    rw [h]
    exact k a os
  · obtain ⟨e', h, h2⟩ := h.h
    rw [h]
    exact J.ex x e' h2
/-- a block with exits within such a one -/
theorem s_subS {Oo Ol Ok : Type} {ps : X (Out σ lam ρ)} {pk : σ → X (Out τ lam ρ)} (mk : σ → Oo → Env) {mk2 : τ → Ok → Env} {ml : lam → Ol → Env} {G : ρ → W → Env → Prop} {Ex : Env → Prop} (h : (jS mk ml G Ex).rel (s env) ps) (k : ∀ s os, (jS mk2 ml G Ex).rel (rest (mk s os)) (pk s)) : (jS mk2 ml G Ex).rel (mSeq s rest env) (X.bindO ps pk) := by
  rw [mSeq_sq]
  rcases ps with _ | ⟨(a | a | a | a) | x⟩
  · exact Jd.non _ _
  · obtain ⟨os, h⟩ := h.h
    rw [h]
    exact k a os
  · obtain ⟨os, h⟩ := h.h
    rw [h]
    exact ⟨⟨os, rfl⟩⟩
  · obtain ⟨os, h⟩ := h.h
    rw [h]
    exact ⟨⟨os, rfl⟩⟩
  · obtain ⟨w, e, h, h2⟩ := h.h
    rw [h]
    exact ⟨⟨w, e, rfl, h2⟩⟩
  · obtain ⟨e', h, h2⟩ := h.h
    rw [h]
    exact ⟨⟨e', rfl, h2⟩⟩
def noL : Unit → Empty → Env := fun _ o => nomatch o
/-- a block that may return, in a def's body -/
theorem s_subR {Oo : Type} {ps : X (Out σ Unit ρ)} {pk : σ → X ρ} (mk : σ → Oo → Env) {G : ρ → W → Env → Prop} {Ex : Env → Prop} (h : (jS mk noL G Ex).rel (s env) ps) (k : ∀ s os, (jF G Ex).rel (rest (mk s os)) (pk s)) : (jF G Ex).rel (mSeq s rest env) (X.bindR ps pk) := by
  rw [mSeq_sq]
  rcases ps with _ | ⟨(a | a | a | a) | x⟩
  · exact Jd.non _ _
  · obtain ⟨os, h⟩ := h.h
    rw [h]
    exact k a os
  · exact Jd.non _ _
  · exact Jd.non _ _
  · obtain ⟨w, e, h, h2⟩ := h.h
    rw [h]
    exact ⟨⟨w, e, .inl rfl, h2⟩⟩
  · obtain ⟨e', h, h2⟩ := h.h
    rw [h]
    exact ⟨⟨e', rfl, h2⟩⟩
/-- a block that may return, within a block with other exits -/
theorem s_up {Oo Ol : Type} {ps : X (Out σ Unit ρ)} {mk : σ → Oo → Env} {ml : lam → Ol → Env} {G : ρ → W → Env → Prop} {Ex : Env → Prop} (h : (jS mk noL G Ex).rel (s env) ps) : (jS mk ml G Ex).rel (s env) (X.up ps) := by
  rcases ps with _ | ⟨(a | a | a | a) | x⟩
  · exact Jd.non _ _
  · exact ⟨h.h⟩
  · exact Jd.non _ _
  · exact Jd.non _ _
  · exact ⟨h.h⟩
  · exact ⟨h.h⟩
theorem n_go {Oo : Type} {mk : σ → Oo → Env} {Ex : Env → Prop} {a : σ} (os : Oo) (h : env = mk a os) : (jM mk Ex).rel (mNx env) (X.ok a) := ⟨⟨os, by rw [h]; rfl⟩⟩
theorem n_goS {Oo Ol : Type} {mk : σ → Oo → Env} {ml : lam → Ol → Env} {G : ρ → W → Env → Prop} {Ex : Env → Prop} {a : σ} (os : Oo) (h : env = mk a os) : (jS mk ml G Ex).rel (mNx env) (X.ok (.go a)) := ⟨⟨os, by rw [h]; rfl⟩⟩
theorem n_ret {G : ρ → W → Env → Prop} {Ex : Env → Prop} {a : ρ} (h : G a w env) : (jF G Ex).rel (some (.ok (.rt w), env)) (X.ok a) := ⟨⟨w, env, .inl rfl, h⟩⟩
theorem n_retS {Oo Ol : Type} {mk : σ → Oo → Env} {ml : lam → Ol → Env} {G : ρ → W → Env → Prop} {Ex : Env → Prop} {a : ρ} (h : G a w env) : (jS mk ml G Ex).rel (some (.ok (.rt w), env)) (X.ok (.rt a)) := ⟨⟨w, env, rfl, h⟩⟩
theorem s_for {it : ME (List D)} {g : MG} {body : MS} (h : J.rel (aft (it env) fun ds e => sq (mLoop g body ds e) rest) p) : J.rel (mSeq (mFor it g body) rest env) p := by
  have : mSeq (mFor it g body) rest env = aft (it env) fun ds e => sq (mLoop g body ds e) rest := by
    rw [mSeq_sq]
    unfold mFor
    rw [bind_aft]
    rcases it env with _ | ⟨_ | _, _⟩ <;> rfl
  rw [this]
  exact h
theorem loopP {Oo : Type} {g : MG} {body : MS} {mk : σ → Oo → Env} {Ex : Env → Prop} {dd : α → D} {pb : α → σ → X σ} (hb : ∀ x s os, (jM mk Ex).rel (gK g (.sh (dd x)) (mk s os) body) (pb x s)) :
    ∀ (xs : List α) (s : σ) (os : Oo), (jM mk Ex).rel (mLoop g body (xs.map dd) (mk s os)) (X.forP pb xs s)
  | [], s, os => ⟨⟨os, rfl⟩⟩
  | x :: xs, s, os => by
    have h := (hb x s os).h
    simp only [List.map_cons, mLoop, X.forP]
    unfold gK at h
    rcases e1 : pb x s with _ | ⟨s' | z⟩
    · exact Jd.non _ _
    · rw [e1] at h
      obtain ⟨os', h⟩ := h
      rcases e2 : g (.sh (dd x)) (mk s os) with _ | ⟨_ | _, e3⟩
      · rw [e2] at h; cases h
      · rw [e2] at h
        simp only at h ⊢
        rw [h]
        exact loopP hb xs s' os'
      · rw [e2] at h; cases h
    · rw [e1] at h
      obtain ⟨e', h, h2⟩ := h
      rcases e2 : g (.sh (dd x)) (mk s os) with _ | ⟨_ | _, e3⟩
      · rw [e2] at h; cases h
      · rw [e2] at h
        simp only at h ⊢
        rw [h]
        exact ⟨⟨e', rfl, h2⟩⟩
      · rw [e2] at h; cases h
theorem loopL {Oo : Type} {g : MG} {body : MS} {mk : σ → Oo → Env} {G : ρ → W → Env → Prop} {Ex : Env → Prop} {dd : α → D} {pb : α → σ → X (Out σ σ ρ)} (hb : ∀ x s os, (jS mk mk G Ex).rel (gK g (.sh (dd x)) (mk s os) body) (pb x s)) :
    ∀ (xs : List α) (s : σ) (os : Oo), (jS mk noL G Ex).rel (mLoop g body (xs.map dd) (mk s os)) (X.forL pb xs s)
  | [], s, os => ⟨⟨os, rfl⟩⟩
  | x :: xs, s, os => by
    have h := (hb x s os).h
    simp only [List.map_cons, mLoop, X.forL]
    unfold gK at h
    rcases e1 : pb x s with _ | ⟨(s' | s' | s' | s') | z⟩
    · exact Jd.non _ _
    all_goals
      rw [e1] at h
      rcases e2 : g (.sh (dd x)) (mk s os) with _ | ⟨_ | _, e3⟩
      · rw [e2] at h; simp only [jS] at h; (first | (obtain ⟨_, h⟩ := h; cases h; done) | (obtain ⟨_, h, _⟩ := h; cases h; done) | (obtain ⟨_, _, h, _⟩ := h; cases h))
      · rw [e2] at h
        simp only [jS] at h
        simp only
        first
          | (obtain ⟨os', h⟩ := h; rw [h]; exact loopL hb xs _ os')
          | (obtain ⟨os', h⟩ := h; rw [h]; exact ⟨⟨os', rfl⟩⟩)
          | (obtain ⟨e', h, h2⟩ := h; rw [h]; exact ⟨⟨e', rfl, h2⟩⟩)
          | (obtain ⟨w', e', h, h2⟩ := h; rw [h]; exact ⟨⟨w', e', rfl, h2⟩⟩)
      · rw [e2] at h; simp only [jS] at h; (first | (obtain ⟨_, h⟩ := h; cases h; done) | (obtain ⟨_, h, _⟩ := h; cases h; done) | (obtain ⟨_, _, h, _⟩ := h; cases h))
/-- a loop without exits, and what stands behind it -/
theorem k_for {Oo : Type} {g : MG} {body : MS} {ds : List D} {dd : α → D} {pb : α → σ → X σ} {pk : σ → X τ} {xs : List α} (mk : σ → Oo → Env) (s0 : σ) (os0 : Oo) (h0 : e = mk s0 os0) (hd : ds = xs.map dd) (hb : ∀ x s os, (jM mk J.Ex).rel (gK g (.sh (dd x)) (mk s os) body) (pb x s)) (k : ∀ s os, J.rel (rest (mk s os)) (pk s)) : J.rel (sq (mLoop g body ds e) rest) (X.bind (X.forP pb xs s0) pk) := by
  subst h0 hd
  exact s_sub (s := mLoop g body (xs.map dd)) mk (loopP hb xs s0 os0) k
theorem k_forR {Oo : Type} {g : MG} {body : MS} {ds : List D} {dd : α → D} {pb : α → σ → X (Out σ σ ρ)} {pk : σ → X ρ} {xs : List α} {G : ρ → W → Env → Prop} {Ex : Env → Prop} (mk : σ → Oo → Env) (s0 : σ) (os0 : Oo) (h0 : e = mk s0 os0) (hd : ds = xs.map dd) (hb : ∀ x s os, (jS mk mk G Ex).rel (gK g (.sh (dd x)) (mk s os) body) (pb x s)) (k : ∀ s os, (jF G Ex).rel (rest (mk s os)) (pk s)) : (jF G Ex).rel (sq (mLoop g body ds e) rest) (X.bindR (X.forL pb xs s0) pk) := by
  subst h0 hd
  exact s_subR (s := mLoop g body (xs.map dd)) mk (loopL hb xs s0 os0) k
theorem k_forS {Oo Ol Ok : Type} {g : MG} {body : MS} {ds : List D} {dd : α → D} {pb : α → σ → X (Out σ σ ρ)} {pk : σ → X (Out τ lam ρ)} {xs : List α} {mk2 : τ → Ok → Env} {ml : lam → Ol → Env} {G : ρ → W → Env → Prop} {Ex : Env → Prop} (mk : σ → Oo → Env) (s0 : σ) (os0 : Oo) (h0 : e = mk s0 os0) (hd : ds = xs.map dd) (hb : ∀ x s os, (jS mk mk G Ex).rel (gK g (.sh (dd x)) (mk s os) body) (pb x s)) (k : ∀ s os, (jS mk2 ml G Ex).rel (rest (mk s os)) (pk s)) : (jS mk2 ml G Ex).rel (sq (mLoop g body ds e) rest) (X.bindO (X.up (X.forL pb xs s0)) pk) := by
  subst h0 hd
  exact s_subS (s := mLoop g body (xs.map dd)) mk (s_up (loopL hb xs s0 os0)) k
end
end TY
set_option Elab.async false
set_option linter.all false
set_option maxRecDepth 100000
namespace TY
open PySem AM
abbrev at_ {α : Type} (xs : List α) (i : Int) : Option α := L2.atI xs i
def tI : Int → D := .int
def tB : Bool → D := .bl
def tN : Unit → D := fun _ => .non
def tD : D → D := fun d => d
def tR : List Int → D := .scr
section
variable {α β γ δ : Type}
def tL (t : α → D) : List α → D := fun xs => .lst (xs.map t)
def t2 (a : α → D) (b : β → D) : α × β → D := fun p => .tup [a p.1, b p.2]
def t3 (a : α → D) (b : β → D) (c : γ → D) : α × β × γ → D := fun p => .tup [a p.1, b p.2.1, c p.2.2]
def t4 (a : α → D) (b : β → D) (c : γ → D) (d : δ → D) : α × β × γ × δ → D := fun p => .tup [a p.1, b p.2.1, c p.2.2.1, d p.2.2.2]
def eD (t : α → D) : α → W := fun a => .sh (t a)
def eO (e : α → W) : List α → W := fun xs => .ol (xs.map e)
def o2 (a : α → W) (b : β → W) : α × β → W := fun p => .ot [a p.1, b p.2]
def o3 (a : α → W) (b : β → W) (c : γ → W) : α × β × γ → W := fun p => .ot [a p.1, b p.2.1, c p.2.2]
def Fz (e : α → W) (t : α → D) : Prop := ∀ a, (e a).toD = some (t a)
theorem fz_sh {t : α → D} : Fz (eD t) t := fun _ => rfl
theorem toDs_map {e : α → W} {t : α → D} (h : Fz e t) : ∀ xs : List α, W.toDs (xs.map e) = some (xs.map t)
  | [] => rfl
  | x :: xs => by simp [W.toDs, h x, toDs_map h xs]
theorem fz_ol {e : α → W} {t : α → D} (h : Fz e t) : Fz (eO e) (tL t) := fun xs => by
  simp only [eO, W.toD, toDs_map h xs]
  rfl
theorem fz_o2 {a : α → W} {b : β → W} {c : α → D} {d : β → D} (h : Fz a c) (k : Fz b d) : Fz (o2 a b) (t2 c d) := fun p => by
  simp [o2, W.toD, W.toDs, h p.1, k p.2, t2]
theorem fz_o3 {a : α → W} {b : β → W} {g : γ → W} {c : α → D} {d : β → D} {k : γ → D} (h1 : Fz a c) (h2 : Fz b d) (h3 : Fz g k) : Fz (o3 a b g) (t3 c d k) := fun p => by
  simp [o3, W.toD, W.toDs, h1 p.1, h2 p.2.1, h3 p.2.2, t3]
theorem frzV {e : α → W} {t : α → D} {env : Env} {i : Nat} {a : α} (h : Fz e t) (hg : env[i]? = some (some (e a))) : mFrz i env = some (.ok (eD t a), env.set i (some (eD t a))) := by
  unfold mFrz
  simp only [hg, h a]
  rfl
theorem fzV {e : α → W} {t : α → D} (h : Fz e t) (a : α) : (e a).toD.map W.sh = some (eD t a) := by rw [h a]; rfl
structure Pl (t : α → D) (pd : α → PyData) (k : Nat) : Prop where
  hpd : ∀ a, (t a).pd = some (pd a)
  lay : ∀ a, (pd a).canLay0 = true
  dep : ∀ a, (pd a).depth ≤ k
  eqv : ∀ a b, PyData.eqv (pd a) (pd b) = true ↔ a = b
theorem pl_I : Pl tI PyData.int 0 := ⟨fun _ => rfl, fun _ => rfl, fun _ => by simp [PyData.depth], fun a b => by simp [PyData.eqv]⟩
section
variable {t : α → D} {pd : α → PyData} {k : Nat}
theorem pl_pds (h : Pl t pd k) : ∀ xs : List α, D.pds (xs.map t) = some (xs.map pd)
  | [] => rfl
  | x :: xs => by simp [D.pds, h.hpd x, pl_pds h xs]
theorem pl_lays (h : Pl t pd k) : ∀ xs : List α, PyData.canLayAll0 (xs.map pd) = true
  | [] => rfl
  | x :: xs => by simp [PyData.canLayAll0, h.lay x, pl_lays h xs]
theorem pl_deps (h : Pl t pd k) : ∀ xs : List α, PyData.depthAll (xs.map pd) ≤ k
  | [] => by simp [PyData.depthAll]
  | x :: xs => by
    have := h.dep x
    have := pl_deps h xs
    simp only [List.map_cons, PyData.depthAll]
    omega
theorem pl_eqs (h : Pl t pd k) : ∀ xs ys : List α, PyData.eqvAll (xs.map pd) (ys.map pd) = true ↔ xs = ys
  | [], [] => by simp [PyData.eqvAll]
  | [], _ :: _ => by simp [PyData.eqvAll]
  | _ :: _, [] => by simp [PyData.eqvAll]
  | x :: xs, y :: ys => by simp [PyData.eqvAll, h.eqv x y, pl_eqs h xs ys]
theorem pl_L (h : Pl t pd k) : Pl (tL t) (fun xs => .list (xs.map pd)) (k + 1) := ⟨fun xs => by simp [tL, D.pd, pl_pds h xs], fun xs => by simpa [PyData.canLay0] using pl_lays h xs, fun xs => by
  have := pl_deps h xs
  simp only [PyData.depth]
  omega, fun xs ys => by simpa [PyData.eqv] using pl_eqs h xs ys⟩
variable {u : β → D} {qd : β → PyData} {l : Nat}
variable {v : γ → D} {rd : γ → PyData} {m : Nat}
theorem wPd_of (h : Pl t pd k) (hk : k ≤ 64) {w : W} {a : α} (e : w.toD = some (t a)) : wPd w = some (pd a) := by
  unfold wPd
  simp only [e, Option.bind_some, h.hpd a]
  rw [if_pos]
  have := h.dep a
  simp [SeqAt.shaped, h.lay a]
  omega
variable {e : α → W} {e' : α → W} [DecidableEq α]
theorem pl_dec (h : Pl t pd k) (a b : α) : PyData.eqv (pd a) (pd b) = decide (a = b) := by
  rw [Bool.eq_iff_iff, h.eqv]
  simp
theorem gNe_p (h : Pl t pd k) (hk : Nat.ble k 64 = true) (f : Fz e t) (f' : Fz e' t) (a b : α) : gNe (e a, e' b) = some (eD tB (!decide (a = b))) := by
  simp only [gNe, gDD, wPd_of h (by simpa using hk) (f a), wPd_of h (by simpa using hk) (f' b), fNe, pl_dec h]
  rfl
theorem any_eqvL (h : Pl t pd k) (a : α) : ∀ xs : List α, (List.any (xs.map pd) fun z => PyData.eqv z (pd a)) = decide (a ∈ xs)
  | [] => by simp
  | x :: xs => by
    simp only [List.map_cons, List.any_cons, any_eqvL h a xs, pl_dec h, List.mem_cons, Bool.decide_or]
    congr 1
    by_cases e : a = x
    · simp [e]
    · have : ¬ x = a := fun z => e z.symm
      simp [e, this]
variable {el : List α → W}
theorem gIn_p (h : Pl t pd k) (hk : Nat.ble (k + 1) 64 = true) (f : Fz e t) (f' : Fz el (tL t)) (a : α) (xs : List α) : gIn (e a, el xs) = some (eD tB (decide (a ∈ xs))) := by
  have hk : k + 1 ≤ 64 := by simpa using hk
  simp only [gIn, gDD, wPd_of h (by omega) (f a), wPd_of (pl_L h) hk (f' xs), fIn, any_eqvL h]
  rfl
end
theorem add_I (i j : Int) : gAdd (eD tI i, eD tI j) = some (eD tI (i + j)) := rfl
theorem sub_I (i j : Int) : gSub (eD tI i, eD tI j) = some (eD tI (i - j)) := rfl
theorem neg_I (i : Int) : gNeg (eD tI i) = some (eD tI (-i)) := rfl
theorem lt_I (i j : Int) : gLt (eD tI i, eD tI j) = some (eD tB (decide (i < j))) := rfl
theorem gt_I (i j : Int) : gGt (eD tI i, eD tI j) = some (eD tB (decide (j < i))) := rfl
theorem ge_I (i j : Int) : gGe (eD tI i, eD tI j) = some (eD tB (decide (j ≤ i))) := rfl
theorem not_B (b : Bool) : gNotV (eD tB b) = some (eD tB (!b)) := rfl
theorem log_lt {n k : Nat} (h : n < 2 ^ k) (h0 : 0 < k) : n.log2 < k := by
  by_cases hn : n = 0
  · subst hn; simpa using h0
  · exact (Nat.log2_lt hn).mpr h
def mulO (i j : Int) : Option Int := if i.natAbs.log2 + j.natAbs.log2 < 100000000 then some (i * j) else none
theorem mul_I (i j : Int) : gMul (eD tI i, eD tI j) = (mulO i j).map (eD tI) := by
  unfold mulO
  simp only [gMul, gMulI, gRep, gII, wInt, eD, tI, wEls]
  by_cases h : i.natAbs.log2 + j.natAbs.log2 < 100000000 <;> simp [h, eD]
theorem mul_c {i j k : Int} (h : decide (i.natAbs.log2 + j.natAbs.log2 < 100000000) = true) (e : i * j = k) : gMul (eD tI i, eD tI j) = some (eD tI k) := by
  rw [mul_I, mulO, if_pos (of_decide_eq_true h), e]
  rfl
theorem mulO_ok {i j : Int} {n m : Nat} (h : i.natAbs < 2 ^ n) (k : j.natAbs < 2 ^ m) (hn : n + m ≤ 99999999) : mulO i j = some (i * j) := by
  unfold mulO
  rw [if_pos]
  have h1 := log_lt (n := i.natAbs) (k := n + 1) (by rw [Nat.pow_succ]; omega) (by omega)
  have h2 := log_lt (n := j.natAbs) (k := m + 1) (by rw [Nat.pow_succ]; omega) (by omega)
  omega
def divO (i j : Int) : Option Int := if 0 < j ∧ j.natAbs.log2 < 9000 then some (i / j) else if j ≠ 0 ∧ j.natAbs < 1073741824 then some (i.fdiv j) else none
theorem div_I (i j : Int) : gDiv (eD tI i, eD tI j) = (divO i j).map (eD tI) := by
  unfold divO
  simp only [gDiv, gDivP, gDivN, gII, wInt, eD, tI]
  by_cases h : 0 < j ∧ j.natAbs.log2 < 9000
  · simp [h, eD]
  · by_cases h2 : j ≠ 0 ∧ j.natAbs < 1073741824
    · simp only [if_neg h, if_pos h2, Bool.and_eq_true, decide_eq_true_eq]
      rfl
    · simp only [if_neg h, if_neg h2, Bool.and_eq_true, decide_eq_true_eq]
      rfl
theorem div_c {i j : Int} (h : (decide (0 < j) && decide (j.natAbs.log2 < 9000)) = true) : gDiv (eD tI i, eD tI j) = some (eD tI (i / j)) := by
  simp only [Bool.and_eq_true, decide_eq_true_eq] at h
  rw [div_I, divO, if_pos h]
  rfl
def modO (i j : Int) : Option Int := if 0 < j then some (i % j) else if j ≠ 0 then some (i.fmod j) else none
theorem mod_I (i j : Int) : gMod (eD tI i, eD tI j) = (modO i j).map (eD tI) := by
  unfold modO
  simp only [gMod, gModP, gModN, gII, wInt, eD, tI]
  by_cases h : 0 < j
  · simp [h, eD]
  · by_cases h2 : j ≠ 0
    · simp only [if_neg h, if_pos h2, decide_eq_true_eq]
      rfl
    · simp only [if_neg h, if_neg h2, decide_eq_true_eq]
      rfl
theorem mod_c {i j : Int} (h : decide (0 < j) = true) : gMod (eD tI i, eD tI j) = some (eD tI (i % j)) := by
  rw [mod_I, modO, if_pos (of_decide_eq_true h)]
  rfl
theorem divO_pos {i j : Int} (h : 0 < j) (k : j.natAbs < 2 ^ 8999) : divO i j = some (i / j) := by
  unfold divO
  rw [if_pos ⟨h, by have := log_lt k (by decide); omega⟩]
theorem modO_pos {i j : Int} (h : 0 < j) : modO i j = some (i % j) := by
  unfold modO
  rw [if_pos h]
theorem pow_c {i j k : Int} (h : (decide (0 ≤ j) && decide (j ≤ 1000000) && decide (i.natAbs < 2 ^ 64)) = true) (e : i ^ j.toNat = k) : gPow (eD tI i, eD tI j) = some (eD tI k) := by
  simp only [gPow, gII, wInt, eD, tI]
  rw [if_pos h, e]
def b2i (b : Bool) : Int := if b = true then 1 else 0
@[simp] theorem b2i_t : b2i true = 1 := rfl
@[simp] theorem b2i_f : b2i false = 0 := rfl
theorem int_B (b : Bool) : gToInt [eD tB b] = some (eD tI (b2i b)) := rfl
def absI (i : Int) : Int := if i < 0 then -i else i
theorem abs_I (i : Int) : gAbs [eD tI i] = some (eD tI (absI i)) := rfl
theorem bl_B (b : Bool) : wBl (eD tB b) = some b := rfl
theorem atI_map {f : α → β} (xs : List α) (i : Int) : L2.atI (xs.map f) i = (L2.atI xs i).map f := by
  unfold L2.atI
  rw [List.length_map]
  rcases L2.ixN xs.length i with _ | j
  · rfl
  · simp
theorem ix_sh {t : α → D} (xs : List α) (i : Int) : gIx (eD (tL t) xs, eD tI i) = (at_ xs i).map (eD t) := by
  show (L2.atI (xs.map t) i).map W.sh = _
  rw [atI_map, Option.map_map]
  rfl
theorem ix_ol {e : α → W} (xs : List α) (i : Int) : gIx (eO e xs, eD tI i) = (at_ xs i).map e := by
  show L2.atI (xs.map e) i = _
  rw [atI_map]
theorem ix_scr (xs : List Int) (i : Int) : gIx (eD tR xs, eD tI i) = (at_ xs i).map (eD tI) := rfl
theorem at_ok {xs : List α} {i : Int} {x : α} (h0 : 0 ≤ i) (h : xs[i.toNat]? = some x) : at_ xs i = some x := by
  have := (List.getElem?_eq_some_iff.mp h).1
  simp [at_, L2.atI, L2.ixN, h0, show i < xs.length by omega]
  exact (List.getElem?_eq_some_iff.mp h).2
@[simp] theorem at_0 {x : α} {xs : List α} : at_ (x :: xs) 0 = some x := at_ok (by omega) rfl
@[simp] theorem at_1 {x y : α} {xs : List α} : at_ (x :: y :: xs) 1 = some y := at_ok (by omega) rfl
@[simp] theorem at_2 {x y z : α} {xs : List α} : at_ (x :: y :: z :: xs) 2 = some z := at_ok (by omega) rfl
theorem len_sh {t : α → D} (xs : List α) : gLen [eD (tL t) xs] = some (eD tI (xs.length : Int)) := by
  show some (W.sh (.int ((xs.map t).length : Int))) = _
  rw [List.length_map]
  rfl
theorem len_ol {e : α → W} (xs : List α) : gLen [eO e xs] = some (eD tI (xs.length : Int)) := by
  show some (W.sh (.int ((xs.map e).length : Int))) = _
  rw [List.length_map]
  rfl
theorem len_scr (xs : List Int) : gLen [eD tR xs] = some (eD tI (xs.length : Int)) := rfl
theorem shsOf_map {t : α → D} : ∀ xs : List α, shsOf (xs.map (eD t)) = some (xs.map t)
  | [] => rfl
  | x :: xs => by simp [shsOf, eD, shsOf_map (t := t) xs, show (fun a => W.sh (t a)) = eD t from rfl]
theorem els_sh {t : α → D} (xs : List α) : wEls (eD (tL t) xs) = some (xs.map t) := rfl
theorem els_ol {t : α → D} (xs : List α) : wEls (eO (eD t) xs) = some (xs.map t) := shsOf_map xs
/-- a list whose parts are shared, own or shared itself -/
def LE (e : List α → W) (t : α → D) : Prop := ∀ xs, wEls (e xs) = some (xs.map t)
theorem le_sh {t : α → D} : LE (eD (tL t)) t := els_sh
theorem le_ol {t : α → D} : LE (eO (eD t)) t := els_ol
theorem le_seq {e : List α → W} {t : α → D} (h : LE e t) (xs : List α) : wSeq (e xs) = some (xs.map t) := by
  have := h xs
  unfold wSeq
  split
  · rename_i e2; rw [e2] at this; simp [wEls] at this
  · rename_i e2; rw [e2] at this; simp [wEls] at this
  · exact this
def catO (xs ys : List α) : Option (List α) := if xs.length + ys.length ≤ 100000 then some (xs ++ ys) else none
theorem cat_L {e e' : List α → W} {t : α → D} (h : LE e t) (h' : LE e' t) (xs ys : List α) : gAdd (e xs, e' ys) = (catO xs ys).map (eO (eD t)) := by
  have a := h xs
  have b := h' ys
  have i1 : wInt (e xs) = none := by
    cases h : e xs with
    | sh d => rw [h] at a; cases d <;> simp [wEls, wInt] at a ⊢
    | ol ws => rfl
    | ot _ => rfl
    | ob _ _ _ => rfl
    | dk _ _ => rfl
    | dt _ _ => rfl
  have i2 : wStr (e xs) = none := by
    cases h : e xs with
    | sh d => rw [h] at a; cases d <;> simp [wEls, wStr] at a ⊢
    | ol ws => rfl
    | ot _ => rfl
    | ob _ _ _ => rfl
    | dk _ _ => rfl
    | dt _ _ => rfl
  have g1 : gAddI (e xs, e' ys) = none := by simp [gAddI, gII, i1]
  have g2 : gAddS (e xs, e' ys) = none := by simp [gAddS, i2]
  simp only [gAdd, g1, g2, Option.none_or, gCat, a, b, catO, List.length_map]
  split
  · simp only [Option.map_some, Option.some.injEq, eO]
    rw [← List.map_append, List.map_map]
    rfl
  · rfl
def repO (xs : List α) (k : Int) : Option (List α) := if xs.length * k.toNat ≤ 100000 ∧ -100000 ≤ k ∧ k ≤ 100000 then some (List.replicate k.toNat xs).flatten else none
theorem rep_L {e : List α → W} {t : α → D} (h : LE e t) (xs : List α) (k : Int) : gMul (e xs, eD tI k) = (repO xs k).map (eO (eD t)) := by
  have a := h xs
  have i1 : wInt (e xs) = none := by
    cases h : e xs with
    | sh d => rw [h] at a; cases d <;> simp [wEls, wInt] at a ⊢
    | ol ws => rfl
    | ot _ => rfl
    | ob _ _ _ => rfl
    | dk _ _ => rfl
    | dt _ _ => rfl
  have g1 : gMulI (e xs, eD tI k) = none := by simp [gMulI, gII, i1]
  have i3 : wInt (eD tI k) = some k := rfl
  simp only [gMul, g1, Option.none_or, gRep, a, i3, repO, List.length_map]
  split
  · simp only [Option.map_some, Option.some.injEq, eO]
    have : ∀ n, (List.replicate n (xs.map t)).flatten = (List.replicate n xs).flatten.map t := by
      intro n
      induction n with
      | zero => rfl
      | succ n ih => rw [List.replicate_succ, List.replicate_succ, List.flatten_cons, List.flatten_cons, ih, List.map_append]
    rw [this, List.map_map]
    rfl
  · rfl
theorem cutL_map {f : α → β} (xs : List α) (lo hi : Option Int) : cutL (xs.map f) lo hi = (cutL xs lo hi).map f := by
  simp [cutL]
theorem wEls_ne {w : W} {ds : List D} (h : wEls w = some ds) : ∀ a b, gSl (w, a, b) = some (.ol ((cutL ds a b).map W.sh)) := fun a b => by
  cases w with
  | sh d => cases d <;> simp [wEls] at h; subst h; rfl
  | ol ws => simp only [gSl, h, Option.map_some]
  | ot _ => simp [wEls] at h
  | ob _ _ _ => simp [wEls] at h
  | dk _ _ => simp [wEls] at h
  | dt _ _ => simp [wEls] at h
theorem sl_L {e : List α → W} {t : α → D} (h : LE e t) (xs : List α) (lo hi : Option Int) : gSl (e xs, lo, hi) = some (eO (eD t) (cutL xs lo hi)) := by
  rw [wEls_ne (h xs), cutL_map, List.map_map]
  rfl
theorem lst_0 {e : α → W} : gLst [] = some (eO e []) := rfl
theorem lst_1 {e : α → W} {a : α} : gLst [e a] = some (eO e [a]) := rfl
theorem lst_2 {e : α → W} {a b : α} : gLst [e a, e b] = some (eO e [a, b]) := rfl
theorem lst_3 {e : α → W} {a b c : α} : gLst [e a, e b, e c] = some (eO e [a, b, c]) := rfl
theorem lst_n {e : α → W} {ws : List W} (xs : List α) (h : ws = xs.map e) (hl : Nat.ble ws.length 100000 = true) : gLst ws = some (eO e xs) := by
  unfold gLst
  rw [if_pos (by simpa using hl), h]
  rfl
def rgT (lo c : Int) (n : Nat) : List Int := (List.range n).map fun k => lo + (k : Nat) * c
theorem rgL_T (lo c : Int) (n : Nat) : rgL lo c n = (rgT lo c n).map tI := by
  simp only [rgL, rgT, List.map_map]
  rfl
@[simp] theorem rgT_len (lo c : Int) (n : Nat) : (rgT lo c n).length = n := by simp [rgT]
def rg1 (n : Int) : Option (List Int) := if inR n = true then some (rgT 0 1 n.toNat) else none
theorem rg_1 (n : Int) : gRg1 [eD tI n] = (rg1 n).map fun xs => xs.map tI := by
  show (if inR n = true then some (rgL 0 1 n.toNat) else none) = _
  unfold rg1
  split
  · simp [rgL_T]
  · rfl
theorem inR_ok {n : Int} (h : -(2 ^ 62) ≤ n) (k : n < 2 ^ 62) : inR n = true := by
  simp only [inR, Bool.and_eq_true, decide_eq_true_eq]
  omega
theorem rg1_ok {n : Int} (h : -(2 ^ 62) ≤ n) (k : n < 2 ^ 62) : rg1 n = some (rgT 0 1 n.toNat) := by rw [rg1, if_pos (inR_ok h k)]
end
section
variable {α β γ δ σ τ ρ : Type} {J : Jd β τ} {env e' : Env}
def ixO (xs : List α) (i : Int) : Option (Nat × α) := (L2.ixN xs.length i).bind fun j => xs[j]?.map fun x => (j, x)
theorem ixO_mem {xs : List α} {i : Int} {j : Nat} {x : α} (h : ixO xs i = some (j, x)) : L2.ixN xs.length i = some j ∧ xs[j]? = some x ∧ j < xs.length := by
  unfold ixO at h
  rcases e : L2.ixN xs.length i with _ | k
  · rw [e] at h; cases h
  · rw [e] at h
    simp only [Option.bind_some, Option.map_eq_some_iff, Prod.mk.injEq] at h
    obtain ⟨y, h1, rfl, rfl⟩ := h
    exact ⟨rfl, h1, (List.getElem?_eq_some_iff.mp h1).1⟩
theorem ixO_ok {xs : List α} {i : Int} {x : α} (h0 : 0 ≤ i) (h : xs[i.toNat]? = some x) : ixO xs i = some (i.toNat, x) := by
  have := (List.getElem?_eq_some_iff.mp h).1
  simp only [ixO, L2.ixN, if_pos h0, if_pos (show i < xs.length by omega), Option.bind_some, h, Option.map_some]
/-- the place of a part of a list that a name holds -/
theorem p_ix {ml : ME Path} {mi : ME W} {e : α → W} {xs : List α} {a : Int} {r : Option (Res β × Env)} {pk : Nat × α → X τ} {path : Path} (hl : ml env = some (.ok path, env)) (hi : mi env = some (.ok (eD tI a), env)) (hg : getE env path = some (eO e xs))
    (k : ∀ j x, lIx ml mi env = some (.ok (path.1, path.2 ++ [j]), env) → getE env (path.1, path.2 ++ [j]) = some (e x) → (∀ y, setE env (path.1, path.2 ++ [j]) (e y) = setE env path (eO e (xs.set j y))) → J.rel r (pk (j, x))) : J.rel r (X.bind (X.ofO (ixO xs a)) pk) := by
  rcases h : ixO xs a with _ | ⟨j, x⟩
  · exact J.non _
  · obtain ⟨h1, h2, h3⟩ := ixO_mem h
    unfold getE at hg
    rcases e1 : env[path.1]? with _ | ⟨_ | w⟩
    · rw [e1] at hg; cases hg
    · rw [e1] at hg; cases hg
    · rw [e1] at hg
      simp only at hg
      have gp : ∀ (js : List Nat) (w : W), getP w js = some (eO e xs) → getP w (js ++ [j]) = some (e x) ∧ ∀ y, putP w (js ++ [j]) (e y) = putP w js (eO e (xs.set j y)) := by
        intro js
        induction js with
        | nil =>
          intro w h
          simp only [getP, Option.some.injEq] at h
          subst h
          refine ⟨?_, fun y => ?_⟩
          · simp [getP, kids, eO, h2]
          · simp [putP, kids, eO, h2, setKid, List.map_set]
        | cons i js ih =>
          intro w h
          simp only [List.cons_append, getP, putP] at h ⊢
          rcases e2 : (kids w).bind (·[i]?) with _ | z
          · rw [e2] at h; cases h
          · rw [e2] at h
            simp only at h ⊢
            obtain ⟨q1, q2⟩ := ih z h
            exact ⟨q1, fun y => by rw [q2 y]⟩
      obtain ⟨q1, q2⟩ := gp _ _ hg
      refine k j x ?_ ?_ fun y => ?_
      · unfold lIx
        have g2 : getE env path = some (eO e xs) := by
          unfold getE
          rw [e1]
          exact hg
        have wi : wInt (eD tI a) = some a := rfl
        have kd : kids (eO e xs) = some (xs.map e) := rfl
        simp only [hl, hi, wi, g2, Option.bind_some, kd, List.length_map, h1]
        simp only [eO, if_pos h3]
      · unfold getE
        simp only [e1]
        exact q1
      · unfold setE
        simp only [e1, q2 y]
/-- xs[i] = v -/
def setO (xs : List α) (i : Int) (v : α) : Option (List α) := (L2.ixN xs.length i).bind fun j => if j < xs.length then some (xs.set j v) else none
theorem setO_ok {xs : List α} {i : Int} {v : α} (h0 : 0 ≤ i) (h : i < xs.length) : setO xs i v = some (xs.set i.toNat v) := by
  simp only [setO, L2.ixN, if_pos h0, if_pos h, Option.bind_some, if_pos (show i.toNat < xs.length by omega)]
theorem k_setI {J : Jd Fl τ} {ml : ME Path} {mi : ME W} {e : α → W} {xs : List α} {i : Int} {v : α} {rest : MS} {path : Path} {ev : List α → Env} {pk : List α → X τ} (hl : ml env = some (.ok path, env)) (hi : mi env = some (.ok (eD tI i), env)) (hg : getE env path = some (eO e xs)) (hs : ∀ ys, setE env path (eO e ys) = some (ev ys)) (k : ∀ ys, J.rel (rest (ev ys)) (pk ys)) :
    J.rel (gK (gSetI ml mi) (e v) env rest) (X.bind (X.ofO (setO xs i v)) pk) := by
  have wi : wInt (eD tI i) = some i := rfl
  have : gK (gSetI ml mi) (e v) env rest = match (setO xs i v) with | some ys => rest (ev ys) | none => none := by
    unfold gK gSetI setO
    simp only [hl, hi, wi, hg, eO, List.length_map]
    rcases L2.ixN xs.length i with _ | j
    · rfl
    · simp only [Option.bind_some]
      by_cases h : j < xs.length
      · simp only [if_pos h]
        have := hs (xs.set j v)
        simp only [eO, List.map_set] at this
        rw [this]
        rfl
      · simp only [if_neg h]
  rw [this]
  rcases setO xs i v with _ | ys
  · exact J.non _
  · exact k ys
theorem v_of {m : ME α} {a : α} (h : (jE (fun _ : Unit => a) (fun _ (_ : Unit) => env) (fun _ => False)).rel (m env) (X.ok ())) : m env = some (.ok a, env) := by
  obtain ⟨_, h⟩ := h.h
  exact h
end
end TY
set_option Elab.async false
set_option linter.all false
set_option maxRecDepth 100000
namespace TY
open PySem AM
section
variable {α β γ δ σ τ ρ : Type} {J : Jd β τ} {env e : Env}
theorem chk_ol {ml : ME Path} {path : Path} {el : α → W} {xs : List α} (hl : ml env = some (.ok path, env)) (hg : getE env path = some (eO el xs)) : lChk isOl ml env = some (.ok path, env) := by
  unfold lChk
  simp only [hl, hg]
  rfl
def appO (xs : List α) (x : α) : Option (List α) := if xs.length < 100000 then some (xs ++ [x]) else none
theorem appO_ok {xs : List α} {x : α} (h : xs.length < 100000) : appO xs x = some (xs ++ [x]) := if_pos h
section
variable {κ : W → Env → Option (Res β × Env)} {path : Path} {el : α → W} {xs : List α} {ev : List α → Env} {pk : List α → X τ} {pk2 : List α × α → X τ}
theorem i_app {x : α} (hg : getE e path = some (eO el xs)) (hs : ∀ ys, setE e path (eO el ys) = some (ev ys)) (k : ∀ ys, J.rel (κ (eD tN ()) (ev ys)) (pk ys)) :
    J.rel (inK e path (fun w => onL gApp w [el x]) κ) (X.bind (X.ofO (appO xs x)) pk) := by
  unfold inK
  rw [hg]
  by_cases h : xs.length < 100000
  · have := hs (xs ++ [x])
    simp only [eO, List.map_append, List.map_cons, List.map_nil] at this
    simp only [opK, onL, eO, gApp, List.length_map, appO, if_pos h, Option.map_some, this]
    exact k _
  · simp only [appO, if_neg h]
    exact J.non _
end
section
variable {κ : List AW → Env → Option (Res β × Env)} {p : X τ} {m : ME W} {r : ME (List AW)} {ml : ME Path} {pa : Path} {e' : Env}
theorem xa_nil (h : J.rel (κ [] env) p) : J.rel (aft (wNil env) κ) p := h
theorem xa_own (h : J.rel (aft (m env) fun w e => aft (r e) fun as e => κ (.own w :: as) e) p) : J.rel (aft (wOwn m r env) κ) p := by
  simp only [wOwn, bind_aft, aft_aft, pure_aft]
  exact h
theorem xa_bor (hl : ml env = some (.ok pa, e')) (h : J.rel (aft (r e') fun as e => κ (.bor pa :: as) e) p) : J.rel (aft (wBor ml r env) κ) p := by
  simp only [wBor, wLoc, hl, bind_aft, aft_aft, pure_aft]
  exact h
theorem xa_io (hl : ml env = some (.ok pa, e')) (h : J.rel (aft (r e') fun as e => κ (.io pa :: as) e) p) : J.rel (aft (wIo ml r env) κ) p := by
  simp only [wIo, wLoc, hl, bind_aft, aft_aft, pure_aft]
  exact h
end
theorem aw_nil {o : Option W} : argWs e o [] = some [] := rfl
theorem aw_own {o : Option W} {w : W} {as : List AW} {ws : List W} (h : argWs e o as = some ws) : argWs e o (.own w :: as) = some (w :: ws) := by simp [argWs, h]
theorem aw_bor {o : Option W} {pa : Path} {en : α → W} {t : α → D} {a : α} {as : List AW} {ws : List W} (f : Fz en t) (hg : getE e pa = some (en a)) (h : argWs e o as = some ws) : argWs e o (.bor pa :: as) = some (eD t a :: ws) := by
  simp [argWs, h, hg, f a, eD]
theorem aw_io {w : W} {pa : Path} {as : List AW} {ws : List W} (h : argWs e (some w) as = some ws) : argWs e (some w) (.io pa :: as) = some (w :: ws) := by simp [argWs, h]
section
variable {κ : W → Env → Option (Res β × Env)} {mf : MF} {ma : ME (List AW)} {as : List AW} {ws : List W} {pf : X ρ} {pk : ρ → X τ} {er : ρ → W} {eo : ρ → List (Option W)} {Xo : List (Option W) → Prop} {p : X τ}
theorem x_K0 (h : J.rel (aft (ma env) fun as e => aft (callK0 mf as e) κ) p) : J.rel (aft (mK0 mf ma env) κ) p := by
  simp only [mK0, bind_aft, aft_aft]
  exact h
theorem k_call0 (ha : argWs e none as = some ws) (ht : TF (mf ws) pf er eo Xo) (hio : ioOf as = none) (hb : hasBor as = false) (hx : J.Ex e) (k : ∀ a, J.rel (κ (er a) e) (pk a)) : J.rel (aft (callK0 mf as e) κ) (X.bind pf pk) := by
  unfold callK0
  simp only [hio, ha]
  rcases pf with _ | ⟨a | x⟩
  · exact J.non _
  · rw [show mf ws = _ from ht.h]
    simp only [hb, Bool.false_and]
    exact k a
  · obtain ⟨outs, ht, _⟩ := ht.h
    rw [ht]
    simp only [hb, Bool.false_and]
    exact J.ex x e hx
theorem k_call0b (ha : argWs e none as = some ws) (ht : TF (mf ws) pf er eo Xo) (hio : ioOf as = none) (hc : ∀ a, (er a).closed = true) (hx : J.Ex e) (k : ∀ a, J.rel (κ (er a) e) (pk a)) : J.rel (aft (callK0 mf as e) κ) (X.bind pf pk) := by
  unfold callK0
  simp only [hio, ha]
  rcases pf with _ | ⟨a | x⟩
  · exact J.non _
  · rw [show mf ws = _ from ht.h]
    simp only [resClosed, hc a, Bool.not_true, Bool.and_false]
    exact k a
  · obtain ⟨outs, ht, _⟩ := ht.h
    rw [ht]
    simp only [resClosed, Bool.not_true, Bool.and_false]
    exact J.ex x e hx
/-- a call with one in-out argument -/
def cK1 (mf : MF) (as : List AW) (e : Env) : Option (Res W × Env) := (match ioOf as with | none => ME.stuck | some (i, pa) => if ioCount as = 1 then callK1 mf as i pa else ME.stuck) e
theorem x_K1 (h : J.rel (aft (ma env) fun as e => aft (cK1 mf as e) κ) p) : J.rel (aft (mK1 mf ma env) κ) p := by
  simp only [mK1, bind_aft, aft_aft]
  exact h
theorem k_call1 {i : Nat} {pa : Path} {w : W} {w' : ρ → W} {ev : ρ → Env} (hio : ioOf as = some (i, pa)) (hn : ioCount as = 1) (hg : getE e pa = some w) (ha : argWs (e.set pa.1 none) (some w) as = some ws) (ht : TF (mf ws) pf er eo Xo) (hb : hasBor as = false)
    (ho : ∀ a, (eo a)[i]? = some (some (w' a))) (hs : ∀ a, setE e pa (w' a) = some (ev a)) (hx : ∀ outs, Xo outs → ∃ v e', outs[i]? = some (some v) ∧ setE e pa v = some e' ∧ J.Ex e') (k : ∀ a, J.rel (κ (er a) (ev a)) (pk a)) :
    J.rel (aft (cK1 mf as e) κ) (X.bind pf pk) := by
  unfold cK1
  simp only [hio, if_pos hn]
  unfold callK1
  simp only [hg, ha]
  rcases pf with _ | ⟨a | x⟩
  · exact J.non _
  · rw [show mf ws = _ from ht.h]
    simp only [hb, Bool.false_and, ho a, hs a]
    exact k a
  · obtain ⟨outs, ht, hX⟩ := ht.h
    obtain ⟨v, e', h1, h2, h3⟩ := hx outs hX
    rw [ht]
    simp only [hb, Bool.false_and, h1, h2]
    exact J.ex x e' h3
end
theorem cl_I (i : Int) : (eD tI i).closed = true := rfl
/-- a refusal counts as nothing said -/
def X.nx (p : X ρ) : X ρ := match p with
  | some (.ok a) => X.ok a
  | _ => none
@[simp] theorem nx_ok {a : ρ} : X.nx (X.ok a) = X.ok a := Eq.trans rfl rfl
theorem k_call0n {κ : W → Env → Option (Res β × Env)} {mf : MF} {as : List AW} {ws : List W} {pf : X ρ} {pk : ρ → X τ} {er : ρ → W} {eo : ρ → List (Option W)} {Xo : List (Option W) → Prop} (ha : argWs e none as = some ws) (ht : TF (mf ws) pf er eo Xo) (hio : ioOf as = none) (hb : hasBor as = false) (k : ∀ a, J.rel (κ (er a) e) (pk a)) : J.rel (aft (callK0 mf as e) κ) (X.bind (X.nx pf) pk) := by
  unfold callK0
  simp only [hio, ha]
  rcases pf with _ | ⟨a | x⟩
  · exact J.non _
  · rw [show mf ws = _ from ht.h]
    simp only [hb, Bool.false_and]
    exact k a
  · exact J.non _
theorem k_call1n {κ : W → Env → Option (Res β × Env)} {mf : MF} {as : List AW} {ws : List W} {pf : X ρ} {pk : ρ → X τ} {er : ρ → W} {eo : ρ → List (Option W)} {Xo : List (Option W) → Prop} {i : Nat} {pa : Path} {w : W} {w' : ρ → W} {ev : ρ → Env} (hio : ioOf as = some (i, pa)) (hn : ioCount as = 1) (hg : getE e pa = some w) (ha : argWs (e.set pa.1 none) (some w) as = some ws) (ht : TF (mf ws) pf er eo Xo) (hb : hasBor as = false)
    (ho : ∀ a, (eo a)[i]? = some (some (w' a))) (hs : ∀ a, setE e pa (w' a) = some (ev a)) (k : ∀ a, J.rel (κ (er a) (ev a)) (pk a)) :
    J.rel (aft (cK1 mf as e) κ) (X.bind (X.nx pf) pk) := by
  unfold cK1
  simp only [hio, if_pos hn]
  unfold callK1
  simp only [hg, ha]
  rcases pf with _ | ⟨a | x⟩
  · exact J.non _
  · rw [show mf ws = _ from ht.h]
    simp only [hb, Bool.false_and, ho a, hs a]
    exact k a
  · exact J.non _
/-- parts that are blocks of their own; a test that is one -/
def X.lcG (c : α → X Bool) (f : α → X β) : List α → X (List β)
  | [] => X.ok []
  | x :: xs => X.bind (c x) fun t => if t = true then (X.bind (f x) fun y => X.bind (X.lcG c f xs) fun ys => X.ok (y :: ys)) else X.lcG c f xs
def X.lcX (c : α → X Bool) (f : α → X β) (xs : List α) : X (List β) := if xs.length ≤ 100000 then X.lcG c f xs else X.bad
def X.lcM (f : α → X β) : List α → X (List β)
  | [] => X.ok []
  | x :: xs => X.bind (f x) fun y => X.bind (X.lcM f xs) fun ys => X.ok (y :: ys)
theorem lcG_true (f : α → X β) : ∀ xs, X.lcG (fun _ => X.ok true) f xs = X.lcM f xs
  | [] => rfl
  | x :: xs => by simp [X.lcG, X.lcM, lcG_true f xs]
theorem lcX_M {f : α → X β} {xs : List α} (h : xs.length ≤ 100000) : X.lcX (fun _ => X.ok true) f xs = X.lcM f xs := by rw [X.lcX, if_pos h, lcG_true]
section
variable {κ : W → Env → Option (Res β × Env)} {it : ME (List D)} {g : MG} {c : ME Bool} {el : ME W} {vs : List Nat} {p : X τ}
def clK (o : Option (List W)) (e : Env) (κ : W → Env → Option (Res β × Env)) : Option (Res β × Env) := opK o e fun ws e1 => κ (.ol ws) e1
theorem x_cp (h : J.rel (aft (it env) fun ds e1 => clK (mCLP g c el (wipeE e1 vs) ds []) e1 κ) p) : J.rel (aft (mCompP it g c el vs env) κ) p := by
  have : aft (mCompP it g c el vs env) κ = aft (it env) fun ds e1 => clK (mCLP g c el (wipeE e1 vs) ds []) e1 κ := by
    unfold mCompP clK
    rcases it env with _ | ⟨ds | x, e1⟩
    · rfl
    · simp only [aft]
      rcases mCLP g c el (wipeE e1 vs) ds [] with _ | ws <;> rfl
    · rfl
  rw [this]
  exact h
variable {dd : α → D} {en : γ → W} {ds : List D} {xs : List α}
/-- with parts that are blocks of their own -/
theorem k_cpX {c : ME Bool} {pc : α → X Bool} {pf : α → X γ} {ev : α → Env} {pk : List γ → X τ} (hd : ds = xs.map dd) (hg : ∀ x, g (.sh (dd x)) (wipeE e vs) = some (.ok (), ev x)) (hc : ∀ x, (jE id (fun (_ : Bool) (_ : Unit) => ev x) (fun _ => False)).rel (c (ev x)) (pc x)) (he : ∀ x, (jE en (fun (_ : γ) (_ : Unit) => ev x) (fun _ => False)).rel (el (ev x)) (pf x)) (k : ∀ ys, J.rel (κ (eO en ys) e) (pk ys)) :
    J.rel (clK (mCLP g c el (wipeE e vs) ds []) e κ) (X.bind (X.lcX pc pf xs) pk) := by
  subst hd
  unfold X.lcX
  split
  · rename_i hl
    have key : ∀ (xs : List α) (acc : List W), acc.length + xs.length ≤ 100000 → match X.lcG pc pf xs with
        | some (.ok ys) => mCLP g c el (wipeE e vs) (xs.map dd) acc = some (acc ++ ys.map en)
        | some (.ex _) => False
        | none => True := by
      intro xs
      induction xs with
      | nil => intro acc _; simp [mCLP, X.lcG, X.ok]
      | cons x xs ih =>
        intro acc h
        simp only [List.length_cons] at h
        have h1 := (hc x).h
        have h2 := (he x).h
        simp only [X.lcG]
        rcases e1 : pc x with _ | ⟨t | z⟩
        · trivial
        · rw [e1] at h1
          obtain ⟨_, h1⟩ := h1
          cases t with
          | false =>
            have := ih acc (by omega)
            simp only [X.bind, Bool.false_eq_true, if_false]
            rcases e3 : X.lcG pc pf xs with _ | ⟨ys | z⟩
            · trivial
            · rw [e3] at this
              simp only [List.map_cons, mCLP, hg x, h1, id]
              exact this
            · rw [e3] at this; exact this
          | true =>
            simp only [X.bind, if_true]
            rcases e2 : pf x with _ | ⟨y | z⟩
            · trivial
            · rw [e2] at h2
              obtain ⟨_, h2⟩ := h2
              have := ih (acc ++ [en y]) (by simp; omega)
              rcases e3 : X.lcG pc pf xs with _ | ⟨ys | z⟩
              · trivial
              · rw [e3] at this
                simp only [List.map_cons, mCLP, hg x, h1, id, h2, if_pos (show acc.length < 100000 by omega), X.ok]
                rw [this]
                simp
              · rw [e3] at this; exact this
            · rw [e2] at h2
              obtain ⟨_, _, h⟩ := h2
              exact h.elim
        · rw [e1] at h1
          obtain ⟨_, _, h⟩ := h1
          exact h.elim
    have := key xs [] (by simpa using hl)
    rcases e3 : X.lcG pc pf xs with _ | ⟨ys | z⟩
    · exact J.non _
    · rw [e3] at this
      simp only [List.nil_append] at this
      rw [this]
      exact k ys
    · rw [e3] at this; exact this.elim
  · exact J.non _
/-- elements that change things -/
def X.lcS (f : α → σ → X (γ × σ)) : List α → σ → X (List γ × σ)
  | [], s => X.ok ([], s)
  | x :: xs, s => X.bind (f x s) fun y => X.bind (X.lcS f xs y.2) fun ys => X.ok (y.1 :: ys.1, ys.2)
def X.lcSX (f : α → σ → X (γ × σ)) (xs : List α) (s : σ) : X (List γ × σ) := if xs.length ≤ 100000 then X.lcS f xs s else X.bad
theorem x_cs (h : J.rel (aft (it env) fun ds e1 => aft ((match mCL g c el vs ds [] (wipeE e1 vs) with | some (.ok ws, e2) => some (.ok (.ol ws), e2) | _ => none)) κ) p) : J.rel (aft (mComp it g c el vs env) κ) p := by
  have : aft (mComp it g c el vs env) κ = aft (it env) fun ds e1 => aft ((match mCL g c el vs ds [] (wipeE e1 vs) with | some (.ok ws, e2) => some (.ok (.ol ws), e2) | _ => none)) κ := by
    unfold mComp
    rcases it env with _ | ⟨ds | x, e1⟩ <;> rfl
  rw [this]
  exact h
theorem k_cs {Oo Op : Type} {pf : α → σ → X (γ × σ)} {pk : List γ × σ → X τ} (mk : σ → Oo → Env) (mk2 : σ → Op → Env) (ev : α → σ → Oo → Env) (s0 : σ) (os0 : Oo) (hd : ds = xs.map dd) (h0 : wipeE e vs = mk s0 os0) (hg : ∀ x s os, g (.sh (dd x)) (mk s os) = some (.ok (), ev x s os)) (hw : ∀ s os, ∃ os', wipeE (mk2 s os) vs = mk s os')
    (he : ∀ x s os, (jE (fun r : γ × σ => en r.1) (fun r (o : Op) => mk2 r.2 o) (fun _ => False)).rel (el (ev x s os)) (pf x s)) (k : ∀ (r : List γ × σ) os, J.rel (κ (eO en r.1) (mk r.2 os)) (pk r)) :
    J.rel (aft ((match mCL g (ME.pure true) el vs ds [] (wipeE e vs) with | some (.ok ws, e2) => some (.ok (.ol ws), e2) | _ => none)) κ) (X.bind (X.lcSX pf xs s0) pk) := by
  subst hd
  rw [h0]
  by_cases hl : xs.length ≤ 100000
  · rw [X.lcSX, if_pos hl]
    have key : ∀ (xs : List α) (acc : List W) (s : σ) (os : Oo), acc.length + xs.length ≤ 100000 → match X.lcS pf xs s with
        | some (.ok r) => ∃ os', mCL g (ME.pure true) el vs (xs.map dd) acc (mk s os) = some (.ok (acc ++ r.1.map en), mk r.2 os')
        | some (.ex _) => False
        | none => True := by
      intro xs
      induction xs with
      | nil => intro acc s os _; exact ⟨os, by simp [mCL, ME.pure]⟩
      | cons x xs ih =>
        intro acc s os h
        simp only [List.length_cons] at h
        have h2 := (he x s os).h
        simp only [X.lcS]
        rcases e2 : pf x s with _ | ⟨y | z⟩
        · trivial
        · rw [e2] at h2
          obtain ⟨o2, h2⟩ := h2
          obtain ⟨os', hw'⟩ := hw y.2 o2
          have := ih (acc ++ [en y.1]) y.2 os' (by simp; omega)
          simp only [X.bind]
          rcases e3 : X.lcS pf xs y.2 with _ | ⟨ys | z⟩
          · trivial
          · rw [e3] at this
            obtain ⟨o3, this⟩ := this
            refine ⟨o3, ?_⟩
            simp only [List.map_cons, mCL, hg x s os, ME.pure, h2, if_pos (show acc.length < 100000 by omega)]
            rw [hw']
            refine Eq.trans this ?_
            simp
          · rw [e3] at this; exact this
        · rw [e2] at h2
          obtain ⟨_, _, h⟩ := h2
          exact h.elim
    have := key xs [] s0 os0 (by simpa using hl)
    rcases e3 : X.lcS pf xs s0 with _ | ⟨r | z⟩
    · exact J.non _
    · rw [e3] at this
      obtain ⟨o3, this⟩ := this
      simp only [List.nil_append] at this
      rw [this]
      exact k r o3
    · rw [e3] at this; exact this.elim
  · rw [X.lcSX, if_neg hl]
    exact J.non _
end
/-- how a def's body has to end; how it has to be where it refuses -/
def gF (N n : Nat) (nio : List Nat) (er : ρ → W) (eo : ρ → List (Option W)) : ρ → W → Env → Prop := fun a w e => w = er a ∧ e.length = N ∧ (wipeE e nio).take n = eo a
def xF (N n : Nat) (nio : List Nat) (Xo : List (Option W) → Prop) : Env → Prop := fun e => e.length = N ∧ Xo ((wipeE e nio).take n)
theorem tf_fn {n N : Nat} {nio : List Nat} {body : MS} {ws : List W} {p : X ρ} {er : ρ → W} {eo : ρ → List (Option W)} {Xo : List (Option W) → Prop} (hl : ws.length = n) (h : (jF (gF N n nio er eo) (xF N n nio Xo)).rel (body (ws.map some ++ List.replicate (N - n) none)) p) : TF (fnM n N nio body ws) p er eo Xo := by
  unfold fnM
  rw [if_pos hl]
  rcases p with _ | ⟨a | x⟩
  · exact ⟨trivial⟩
  · obtain ⟨w, e, h, rfl, h2, h3⟩ := h.h
    rcases h with h | ⟨h, h4⟩
    · rw [h]
      simp only [if_pos h2, h3]
      exact ⟨rfl⟩
    · rw [h]
      simp only [if_pos h2, h3, ← h4]
      exact ⟨rfl⟩
  · obtain ⟨e, h, h2, h3⟩ := h.h
    rw [h]
    simp only [if_pos h2]
    exact ⟨⟨_, rfl, h3⟩⟩
def xAny : List (Option W) → Prop := fun _ => True
def xIo (i : Nat) : List (Option W) → Prop := fun o => ∃ w, o[i]? = some (some w)
end
end TY
set_option Elab.async false
set_option linter.all false
set_option maxRecDepth 100000
namespace TY
open PySem AM
section
variable {α β γ σ ρ : Type}
theorem forL_at {b : α → σ → X (Out σ σ ρ)} (I : Nat → σ → Prop) : ∀ {xs : List α} {k : Nat} {s : σ}, I k s → (∀ i x s, xs[i]? = some x → I (k + i) s → ∃ s', (b x s = X.ok (.go s') ∨ b x s = X.ok (.ct s')) ∧ I (k + i + 1) s') → ∃ s', X.forL b xs s = X.ok (.go s') ∧ I (k + xs.length) s'
  | [], k, s, h, _ => ⟨s, rfl, h⟩
  | x :: xs, k, s, h, st => by
    obtain ⟨s1, h1, h2⟩ := st 0 x s rfl h
    obtain ⟨s2, h3, h4⟩ := forL_at I (xs := xs) (k := k + 1) (s := s1) h2 fun i y s hy hi => by
      have := st (i + 1) y s (by simpa using hy) (by rwa [show k + (i + 1) = k + 1 + i by omega])
      rwa [show k + (i + 1) + 1 = k + 1 + i + 1 by omega] at this
    refine ⟨s2, ?_, by rw [show k + (x :: xs).length = k + 1 + xs.length by simp; omega]; exact h4⟩
    rcases h1 with h1 | h1 <;> simp only [X.forL, h1, bind_ok, h3]
/-- a loop with exits that takes none of them -/
theorem forL_ok {b : α → σ → X (Out σ σ ρ)} {xs : List α} {s : σ} (I : Nat → σ → Prop) (h : I 0 s) (st : ∀ i x s, xs[i]? = some x → I i s → ∃ s', (b x s = X.ok (.go s') ∨ b x s = X.ok (.ct s')) ∧ I (i + 1) s') : ∃ s', X.forL b xs s = X.ok (.go s') ∧ I xs.length s' := by
  have := forL_at I (xs := xs) (k := 0) h fun i d env hd hi => by
    rw [Nat.zero_add] at hi ⊢
    exact st i d env hd hi
  rwa [Nat.zero_add] at this
/-- nothing is kept from turn to turn -/
theorem forL_u {b : α → Unit → X (Out Unit Unit ρ)} {xs : List α} (st : ∀ x ∈ xs, b x () = X.ok (.go ()) ∨ b x () = X.ok (.ct ())) : X.forL b xs () = X.ok (.go ()) := by
  obtain ⟨⟨⟩, h, _⟩ := forL_ok (b := b) (xs := xs) (s := ()) (fun _ _ => True) trivial fun i x s hx _ => ⟨(), st x (List.mem_of_getElem? hx), trivial⟩
  exact h
theorem lcG_ok {c : α → X Bool} {t : α → Bool} {f : α → X β} {g : α → β} : ∀ {xs : List α}, (∀ x ∈ xs, c x = X.ok (t x)) → (∀ x ∈ xs, t x = true → f x = X.ok (g x)) → X.lcG c f xs = X.ok ((xs.filter t).map g)
  | [], _, _ => rfl
  | x :: xs, h, k => by
    have ih := lcG_ok (xs := xs) (fun y hy => h y (by simp [hy])) fun y hy => k y (by simp [hy])
    simp only [X.lcG, h x (by simp), bind_ok]
    cases ht : t x with
    | false => simp [ht, ih]
    | true => simp [ht, ih, k x (by simp) ht]
theorem lcXF_ok {c : α → X Bool} {t : α → Bool} {f : α → X β} {g : α → β} {xs : List α} (hl : xs.length ≤ 100000) (h : ∀ x ∈ xs, c x = X.ok (t x)) (k : ∀ x ∈ xs, t x = true → f x = X.ok (g x)) : X.lcX c f xs = X.ok ((xs.filter t).map g) := by
  rw [X.lcX, if_pos hl, lcG_ok h k]
theorem lcS_at {f : α → σ → X (γ × σ)} (I : Nat → List γ → σ → Prop) : ∀ {xs : List α} {k : Nat} {acc : List γ} {s : σ}, I k acc s → (∀ i x acc s, xs[i]? = some x → I (k + i) acc s → ∃ y s', f x s = X.ok (y, s') ∧ I (k + i + 1) (acc ++ [y]) s') → ∃ ys s', X.lcS f xs s = X.ok (ys, s') ∧ I (k + xs.length) (acc ++ ys) s'
  | [], k, acc, s, h, _ => ⟨[], s, rfl, by simpa using h⟩
  | x :: xs, k, acc, s, h, st => by
    obtain ⟨y, s1, h1, h2⟩ := st 0 x acc s rfl h
    obtain ⟨ys, s2, h3, h4⟩ := lcS_at I (xs := xs) (k := k + 1) (acc := acc ++ [y]) (s := s1) h2 fun i z acc s hy hi => by
      have := st (i + 1) z acc s (by simpa using hy) (by rwa [show k + (i + 1) = k + 1 + i by omega])
      rwa [show k + (i + 1) + 1 = k + 1 + i + 1 by omega] at this
    refine ⟨y :: ys, s2, ?_, by rw [show k + (x :: xs).length = k + 1 + xs.length by simp; omega]; simpa using h4⟩
    simp only [X.lcS, h1, bind_ok, h3]
/-- a comprehension whose parts change things, by an invariant over what is told so far -/
theorem lcSX_ok {f : α → σ → X (γ × σ)} {xs : List α} {s : σ} (I : Nat → List γ → σ → Prop) (hl : xs.length ≤ 100000) (h : I 0 [] s) (st : ∀ i x acc s, xs[i]? = some x → I i acc s → ∃ y s', f x s = X.ok (y, s') ∧ I (i + 1) (acc ++ [y]) s') : ∃ ys s', X.lcSX f xs s = X.ok (ys, s') ∧ I xs.length ys s' := by
  have := lcS_at I (xs := xs) (k := 0) (acc := []) h fun i d acc env hd hi => by
    rw [Nat.zero_add] at hi ⊢
    exact st i d acc env hd hi
  rw [X.lcSX, if_pos hl]
  rw [Nat.zero_add] at this
  exact this
@[simp] theorem bindR_go {s : σ} {k : σ → X ρ} : X.bindR (X.ok (.go s)) k = k s := Eq.trans rfl rfl
@[simp] theorem bindR_rt {r : ρ} {k : σ → X ρ} : X.bindR (X.ok (.rt r)) k = X.ok r := Eq.trans rfl rfl
@[simp] theorem bindO_go {τ lam : Type} {s : σ} {k : σ → X (Out τ lam ρ)} : X.bindO (X.ok (.go s)) k = k s := Eq.trans rfl rfl
@[simp] theorem bindO_rt {τ lam : Type} {r : ρ} {k : σ → X (Out τ lam ρ)} : X.bindO (X.ok (.rt r)) k = X.ok (.rt r) := Eq.trans rfl rfl
@[simp] theorem up_go {lam : Type} {s : σ} : X.up (lam := lam) (ρ := ρ) (X.ok (.go s)) = X.ok (.go s) := Eq.trans rfl rfl
@[simp] theorem up_rt {lam : Type} {r : ρ} : X.up (σ := σ) (lam := lam) (X.ok (.rt r)) = X.ok (.rt r) := Eq.trans rfl rfl
theorem rgT_mem {a x : Int} {n : Nat} : x ∈ rgT a 1 n ↔ a ≤ x ∧ x < a + n := by
  simp only [rgT, List.mem_map, List.mem_range]
  constructor
  · rintro ⟨k, h, rfl⟩
    omega
  · rintro ⟨h1, h2⟩
    exact ⟨(x - a).toNat, by omega, by omega⟩
end
end TY
set_option Elab.async false
set_option linter.all false
set_option maxRecDepth 100000
namespace TY
open PySem AM
section
variable {α β γ : Type}
/-- the number at a place -/
def fn (xs : List Int) (i : Nat) : Int := xs.getD i 0
end
def S : Nat → (Nat → Int) → Int
  | 0, _ => 0
  | n + 1, f => S n f + f n
section
variable {n : Nat} {f g : Nat → Int}
theorem S_congr (h : ∀ i, i < n → f i = g i) : S n f = S n g := by
  induction n with
  | zero => rfl
  | succ n ih => rw [S, S, ih fun i hi => h i (by omega), h n (by omega)]
theorem S_add : S n (fun i => f i + g i) = S n f + S n g := by
  induction n with
  | zero => rfl
  | succ n ih => simp only [S, ih]; omega
theorem S_sub : S n (fun i => f i - g i) = S n f - S n g := by
  induction n with
  | zero => rfl
  | succ n ih => simp only [S, ih]; omega
theorem S_const {c : Int} : S n (fun _ => c) = n * c := by
  induction n with
  | zero => simp [S]
  | succ n ih =>
    simp only [S, ih]
    rw [Int.natCast_add, Int.add_mul]
    simp
theorem S_zero : S n (fun _ => 0) = 0 := by rw [S_const]; simp
theorem S_one {a : Nat} {c : Int} : S n (fun i => if i = a then c else 0) = if a < n then c else 0 := by
  induction n with
  | zero => rfl
  | succ n ih =>
    simp only [S, ih]
    by_cases h : a < n
    · rw [if_pos h, if_neg (by omega), if_pos (by omega)]; omega
    · rw [if_neg h]
      by_cases e : n = a
      · rw [if_pos e, if_pos (by omega)]; omega
      · rw [if_neg e, if_neg (by omega)]; omega
theorem S_oneF {a : Nat} {h : Nat → Int} : S n (fun i => if i = a then h i else 0) = if a < n then h a else 0 := by
  rw [← S_one (n := n) (a := a) (c := h a)]
  refine S_congr fun i _ => ?_
  by_cases e : i = a
  · rw [if_pos e, if_pos e, e]
  · rw [if_neg e, if_neg e]
theorem S_nonneg (h : ∀ i, i < n → 0 ≤ f i) : 0 ≤ S n f := by
  induction n with
  | zero => simp [S]
  | succ n ih =>
    have := ih fun i hi => h i (by omega)
    have := h n (by omega)
    simp only [S]; omega
theorem S_le (h : ∀ i, i < n → f i ≤ g i) : S n f ≤ S n g := by
  induction n with
  | zero => simp [S]
  | succ n ih =>
    have := ih fun i hi => h i (by omega)
    have := h n (by omega)
    simp only [S]; omega
end
/-- a sum over a list -/
def Sl {α : Type} (xs : List α) (f : α → Int) : Int := (xs.map f).sum
section
variable {α : Type} {xs ys : List α} {f g : α → Int}
@[simp] theorem Sl_nil : Sl ([] : List α) f = 0 := rfl
@[simp] theorem Sl_cons {x : α} : Sl (x :: xs) f = f x + Sl xs f := by simp [Sl]
theorem Sl_congr (h : ∀ x ∈ xs, f x = g x) : Sl xs f = Sl xs g := by
  unfold Sl
  rw [List.map_congr_left h]
theorem Sl_add : Sl xs (fun x => f x + g x) = Sl xs f + Sl xs g := by
  induction xs with
  | nil => rfl
  | cons x xs ih => simp only [Sl_cons, ih]; omega
theorem Sl_sub : Sl xs (fun x => f x - g x) = Sl xs f - Sl xs g := by
  induction xs with
  | nil => rfl
  | cons x xs ih => simp only [Sl_cons, ih]; omega
theorem Sl_mul {c : Int} : Sl xs (fun x => c * f x) = c * Sl xs f := by
  induction xs with
  | nil => simp
  | cons x xs ih => simp only [Sl_cons, ih, Int.mul_add]
theorem Sl_const {c : Int} : Sl xs (fun _ => c) = xs.length * c := by
  induction xs with
  | nil => simp
  | cons x xs ih =>
    simp only [Sl_cons, ih, List.length_cons, Int.natCast_add, Int.add_mul]
    omega
theorem Sl_zero (h : ∀ x ∈ xs, f x = 0) : Sl xs f = 0 := by
  rw [Sl_congr h, Sl_const]; simp
theorem Sl_nonneg (h : ∀ x ∈ xs, 0 ≤ f x) : 0 ≤ Sl xs f := by
  induction xs with
  | nil => simp
  | cons x xs ih =>
    have := ih fun y hy => h y (by simp [hy])
    have := h x (by simp)
    simp only [Sl_cons]; omega
theorem S_Sl {n : Nat} {F : Nat → α → Int} : S n (fun i => Sl xs fun x => F i x) = Sl xs fun x => S n fun i => F i x := by
  induction xs with
  | nil => simp [S_zero]
  | cons x xs ih => simp only [Sl_cons, S_add, ih]
end
abbrev Ties := List (Int × Int)
/-- what a place gives along a tie -/
def flow (x : Nat → Int) (i : Nat) (t : Int × Int) : Int := if i = t.1.toNat then x t.1.toNat - x t.2.toNat else if i = t.2.toNat then x t.2.toNat - x t.1.toNat else 0
/-- what a place gives by times -/
def lap (ties : Ties) (x : Nat → Int) (i : Nat) : Int := Sl ties (flow x i)
/-- ties within n places -/
def TiesOk (n : Nat) (ties : Ties) : Prop := ∀ t ∈ ties, 0 ≤ t.1 ∧ t.1 < t.2 ∧ t.2 < n
theorem lap_add {ties : Ties} {x y : Nat → Int} {i : Nat} : lap ties (fun j => x j + y j) i = lap ties x i + lap ties y i := by
  unfold lap
  rw [← Sl_add]
  refine Sl_congr fun t _ => ?_
  simp only [flow]
  split
  · omega
  · split <;> omega
theorem lap_sub {ties : Ties} {x y : Nat → Int} {i : Nat} : lap ties (fun j => x j - y j) i = lap ties x i - lap ties y i := by
  unfold lap
  rw [← Sl_sub]
  refine Sl_congr fun t _ => ?_
  simp only [flow]
  split
  · omega
  · split <;> omega
theorem lap_const {ties : Ties} {c : Int} {i : Nat} : lap ties (fun _ => c) i = 0 := by
  refine Sl_zero fun t _ => ?_
  simp only [flow]
  split
  · omega
  · split <;> omega
theorem lap_congr {n : Nat} {ties : Ties} {x y : Nat → Int} (ht : TiesOk n ties) (h : ∀ j, j < n → x j = y j) (i : Nat) : lap ties x i = lap ties y i := by
  refine Sl_congr fun t ht' => ?_
  obtain ⟨h1, h2, h3⟩ := ht t ht'
  unfold flow
  rw [h t.1.toNat (by omega), h t.2.toNat (by omega)]
theorem flow_sum {n : Nat} {w x : Nat → Int} {t : Int × Int} (h1 : 0 ≤ t.1) (h2 : t.1 < t.2) (h3 : t.2 < n) : S n (fun i => w i * flow x i t) = (w t.1.toNat - w t.2.toNat) * (x t.1.toNat - x t.2.toNat) := by
  have : ∀ i, w i * flow x i t = (if i = t.1.toNat then w i * (x t.1.toNat - x t.2.toNat) else 0) + (if i = t.2.toNat then w i * (x t.2.toNat - x t.1.toNat) else 0) := fun i => by
    unfold flow
    by_cases e : i = t.1.toNat
    · have e2 : ¬ i = t.2.toNat := by omega
      simp only [if_pos e, if_neg e2]
      omega
    · by_cases e2 : i = t.2.toNat
      · simp only [if_neg e, if_pos e2]
        omega
      · simp [if_neg e, if_neg e2]
  rw [S_congr fun i _ => this i, S_add, S_oneF (h := fun i => w i * (x t.1.toNat - x t.2.toNat)), S_oneF (h := fun i => w i * (x t.2.toNat - x t.1.toNat)), if_pos (by omega), if_pos (by omega), Int.sub_mul]
  simp only [Int.mul_sub]
  omega
theorem lap_pair {n : Nat} {ties : Ties} (ht : TiesOk n ties) {w x : Nat → Int} : S n (fun i => w i * lap ties x i) = Sl ties fun t => (w t.1.toNat - w t.2.toNat) * (x t.1.toNat - x t.2.toNat) := by
  unfold lap
  have : ∀ i, w i * Sl ties (flow x i) = Sl ties fun t => w i * flow x i t := fun i => Sl_mul.symm
  rw [S_congr fun i _ => this i, S_Sl]
  refine Sl_congr fun t h => ?_
  obtain ⟨h1, h2, h3⟩ := ht t h
  exact flow_sum h1 h2 h3
theorem lap_sum {n : Nat} {ties : Ties} (ht : TiesOk n ties) {x : Nat → Int} : S n (lap ties x) = 0 := by
  have := lap_pair ht (w := fun _ => 1) (x := x)
  simp only [Int.one_mul, Int.sub_self, Int.zero_mul] at this
  rw [show S n (lap ties x) = S n fun i => lap ties x i from rfl, this]
  exact Sl_zero fun _ _ => rfl
end TY
set_option Elab.async false
set_option linter.all false
set_option maxRecDepth 100000
namespace TY
open PySem AM
section
variable {α β γ δ σ τ ρ : Type}
def k2 (a : α → D) (b : β → D) : α × β → D := fun p => .lst [a p.1, b p.2]
def k3 (a : α → D) (b : β → D) (c : γ → D) : α × β × γ → D := fun p => .lst [a p.1, b p.2.1, c p.2.2]
def k4 (a : α → D) (b : β → D) (c : γ → D) (d : δ → D) : α × β × γ × δ → D := fun p => .lst [a p.1, b p.2.1, c p.2.2.1, d p.2.2.2]
def l2 (a : α → W) (b : β → W) : α × β → W := fun p => .ol [a p.1, b p.2]
def l3 (a : α → W) (b : β → W) (c : γ → W) : α × β × γ → W := fun p => .ol [a p.1, b p.2.1, c p.2.2]
def l4 (a : α → W) (b : β → W) (c : γ → W) (d : δ → W) : α × β × γ × δ → W := fun p => .ol [a p.1, b p.2.1, c p.2.2.1, d p.2.2.2]
def o4 (a : α → W) (b : β → W) (c : γ → W) (d : δ → W) : α × β × γ × δ → W := fun p => .ot [a p.1, b p.2.1, c p.2.2.1, d p.2.2.2]
theorem fz_o4 {a : α → W} {b : β → W} {g : γ → W} {q : δ → W} {c : α → D} {d : β → D} {k : γ → D} {l : δ → D} (h1 : Fz a c) (h2 : Fz b d) (h3 : Fz g k) (h4 : Fz q l) : Fz (o4 a b g q) (t4 c d k l) := fun p => by
  simp [o4, W.toD, W.toDs, h1 p.1, h2 p.2.1, h3 p.2.2.1, h4 p.2.2.2, t4]
section
variable {J : Jd β τ} {e : Env} {κ : W → Env → Option (Res β × Env)} {path : Path} {el : α → W} {xs : List α} {ev : List α → Env} {p : X τ}
theorem i_clr (hg : getE e path = some (eO el xs)) (hs : ∀ ys, setE e path (eO el ys) = some (ev ys)) (k : J.rel (κ (eD tN ()) (ev [])) p) : J.rel (inK e path (fun w => onL gClr w []) κ) p := by
  unfold inK
  rw [hg]
  have := hs []
  simp only [eO, List.map_nil] at this
  simp only [opK, onL, eO, gClr, Option.map_some, this]
  exact k
end
end
end TY
set_option Elab.async false
set_option linter.all false
set_option maxRecDepth 100000
namespace TY
open PySem AM
section
variable {α β γ δ σ τ ρ : Type}
def w0 : Unit → List W := fun _ => []
def w1 (e : α → W) : α → List W := fun a => [e a]
def d0 : Unit → List D := fun _ => []
def d1 (t : α → D) : α → List D := fun a => [t a]
section
variable {J : Jd β τ} {env e e' : Env} {c f : Str} {fs : List Str} {i j : Nat} {ml : ME Path} {path : Path} {ws : List W} {w o o' : W} {ds : List D} {d : D} {κ : W → Env → Option (Res β × Env)} {p : X τ}
theorem x_nox {Oo : Type} {m : ME W} {ps : X σ} {pk : σ → X τ} (ev : σ → W) (mk : σ → Oo → Env) (h : (jE ev mk (fun _ => False)).rel (m env) ps) (k : ∀ s os, J.rel (κ (ev s) (mk s os)) (pk s)) : J.rel (aft (mNoX m env) κ) (X.bind (X.nx ps) pk) := by
  rcases ps with _ | ⟨s | x⟩
  · exact J.non _
  · obtain ⟨os, h⟩ := h.h
    have : mNoX m env = some (.ok (ev s), mk s os) := by
      unfold mNoX
      rw [h]
    rw [this]
    exact k s os
  · exact J.non _
end
end
end TY
set_option Elab.async false
set_option linter.all false
set_option maxRecDepth 100000
namespace TY
open PySem AM
end TY
set_option Elab.async false
set_option linter.all false
set_option maxRecDepth 100000
namespace TY
open PySem AM
def tT : List Nat → D := fun l => .str (SX.S l)
section
variable {α β τ : Type} {J : Jd β τ} {p : X τ} {env : Env}
theorem x_str {κ : W → Env → Option (Res β × Env)} {z : Str} {l : List Nat} (h : z = SX.S l) (k : J.rel (κ (eD tT l) env) p) : J.rel (aft (mC (.str z) env) κ) p := by
  subst h
  exact k
/-- a partial operation of which less is said -/
theorem o_imp {γ : Type} {o : Option α} {f : Option γ} {ec : γ → α} {e : Env} {κ : α → Env → Option (Res β × Env)} {pk : γ → X τ} (h : ∀ c, f = some c → o = some (ec c)) (k : ∀ c, J.rel (κ (ec c) e) (pk c)) : J.rel (opK o e κ) (X.bind (X.ofO f) pk) := by
  cases f with
  | none => exact J.non _
  | some c =>
    rw [h c rfl]
    exact k c
theorem x_itS {m : ME W} {κ : List D → Env → Option (Res β × Env)} (h : J.rel (aft (m env) fun w e => opK (wSigns w) e κ) p) : J.rel (aft (mItS m env) κ) p := by
  simp only [mItS, bind_aft, aft_aft, op_aft]
  exact h
end
theorem len_T0 (l : List Nat) : (SX.S l).length = l.length := SX.S_len l
def strT (i : Int) : Option (List Nat) := if i.natAbs.log2 < 1920 then some (toString i : Str).cps.toList else none
theorem str_T (i : Int) : gStr [eD tI i] = (strT i).map (eD tT) := by
  have wi : wInt (eD tI i) = some i := rfl
  simp only [gStr, wi, Option.bind_some, strT]
  split
  · rfl
  · rfl
def catT (a b : List Nat) : Option (List Nat) := if a.length + b.length ≤ 100000 then some (a ++ b) else none
theorem cat_T (a b : List Nat) : gAdd (eD tT a, eD tT b) = (catT a b).map (eD tT) := by
  have h1 : gAddI (eD tT a, eD tT b) = none := rfl
  have h2 : gAddS (eD tT a, eD tT b) = (catT a b).map (eD tT) := by
    have wa : wStr (eD tT a) = some (SX.S a) := rfl
    have wb : wStr (eD tT b) = some (SX.S b) := rfl
    simp only [gAddS, wa, wb, catT, len_T0]
    split
    · simp only [Option.map_some, eD, tT, SX.S_cat]
    · rfl
  have h3 : gCat (eD tT a, eD tT b) = none := rfl
  simp only [gAdd, h1, h2, h3, Option.none_or, Option.or_none]
def lenT (a : List Nat) : Option Int := if a.length ≤ 100000 then some (a.length : Int) else none
theorem len_T (a : List Nat) : gLen [eD tT a] = (lenT a).map (eD tI) := by
  simp only [gLen, eD, tT, lenT, len_T0]
  split <;> rfl
def cutT (a : List Nat) (lo hi : Option Int) : Option (List Nat) := if a.length ≤ 100000 then some (cutL a lo hi) else none
theorem sl_T (a : List Nat) (lo hi : Option Int) : gSl (eD tT a, lo, hi) = (cutT a lo hi).map (eD tT) := by
  simp only [gSl, eD, tT, cutT, len_T0]
  split
  · simp only [Option.map_some, L2.cutS, len_T0, cutL, SX.S]
    rfl
  · rfl
def ixT (a : List Nat) (i : Int) : Option (List Nat) := if a.length ≤ 100000 then (at_ a i).map fun c => [c] else none
theorem ix_T (a : List Nat) (i : Int) : gIx (eD tT a, eD tI i) = (ixT a i).map (eD tT) := by
  have wi : wInt (eD tI i) = some i := rfl
  simp only [gIx, wi]
  simp only [eD, tT, ixT, len_T0]
  split
  · simp only [at_, Option.map_map]
    rfl
  · rfl
def okT (a : List Nat) : Bool := a.all (· < 0x110000)
def eqT (a b : List Nat) : Option Bool := if okT a = true ∧ okT b = true then some (decide (a = b)) else none
def neT (a b : List Nat) : Option Bool := if okT a = true ∧ okT b = true then some (!decide (a = b)) else none
theorem wPd_T {a : List Nat} (h : okT a = true) : wPd (eD tT a) = some (.str (SX.S a)) := by
  have h2 : SeqAt.shaped (.str (SX.S a)) = true := by
    simp only [SeqAt.shaped, PyData.canLay0, PyData.strOk, PyData.depth, Bool.and_eq_true, decide_eq_true_eq]
    refine ⟨?_, rfl⟩
    rw [← Array.all_toList]
    exact h
  unfold wPd
  show (match (some (PyData.str (SX.S a))) with | some x => if SeqAt.shaped x then some x else none | none => none) = _
  simp only [h2, if_true]
theorem eqv_T (a b : List Nat) : PyData.eqv (.str (SX.S a)) (.str (SX.S b)) = decide (a = b) := by
  simp only [PyData.eqv]
  exact SX.S_beq_eq
theorem eq_T (a b : List Nat) : ∀ c, eqT a b = some c → gEq (eD tT a, eD tT b) = some (eD tB c) := fun c h => by
  unfold eqT at h
  split at h
  · rename_i h2
    cases h
    simp only [gEq, gDD, wPd_T h2.1, wPd_T h2.2, fEq, eqv_T]
    rfl
  · cases h
theorem ne_T (a b : List Nat) : ∀ c, neT a b = some c → gNe (eD tT a, eD tT b) = some (eD tB c) := fun c h => by
  unfold neT at h
  split at h
  · rename_i h2
    cases h
    simp only [gNe, gDD, wPd_T h2.1, wPd_T h2.2, fNe, eqv_T]
    rfl
  · cases h
def notInT (x z : List Nat) : Option Bool := match x with
  | [c] => some (!decide (c ∈ z))
  | _ => none
theorem notIn_T (x z : List Nat) : gNotInC (eD tT x, eD tT z) = (notInT x z).map (eD tB) := by
  cases x with
  | nil => rfl
  | cons c r => cases r <;> rfl
def sgns (z : List Nat) : List (List Nat) := z.map fun c => [c]
theorem signs_T (z : List Nat) : wSigns (eD tT z) = some ((sgns z).map tT) := by
  simp only [wSigns, eD, tT, signs, sgns, List.map_map]
  rfl
def intT (a : List Nat) : Option Int := if a.length ≤ 640 then intText? (SX.S a) else none
theorem int_T (a : List Nat) : gToInt [eD tT a] = (intT a).map (eD tI) := by
  simp only [gToInt, eD, tT, intT, len_T0]
  split <;> rfl
theorem str_of_T (a : List Nat) : (wStr (eD tT a)).map (fun s => W.sh (.str s)) = some (eD tT a) := rfl
def splitT (a b : List Nat) : Option (List (List Nat)) := if b ≠ [] ∧ b.all (· < 256) = true ∧ a.length ≤ 90000 then some (TL.spl b 0 [] a) else none
theorem split_T (a b : List Nat) : ∀ c, splitT a b = some c → gSplit (eD tT a, [eD tT b]) = some (eO (eD tT) c) := fun c h => by
  unfold splitT at h
  split at h
  · rename_i h2
    cases h
    have hl : ((SX.S b).length == 0) = false := by
      rw [len_T0]
      have := List.length_pos_iff.mpr h2.1
      exact beq_eq_false_iff_ne.mpr (by omega)
    show (if ((SX.S b).length == 0) = false ∧ (SX.S a).length ≤ 90000 then some (W.ol ((Txt.split (SX.S a) (SX.S b)).map fun z => W.sh (.str z))) else none) = _
    rw [if_pos ⟨hl, by rw [len_T0]; exact h2.2.2⟩, SX.split_S h2.1 h2.2.1, List.map_map]
    rfl
  · cases h
theorem dStrs_T : ∀ ys : List (List Nat), dStrs (ys.map tT) = some (ys.map SX.S)
  | [] => rfl
  | y :: ys => by
    have := dStrs_T ys
    show (dStrs (ys.map tT)).map (SX.S y :: ·) = _
    rw [this]
    rfl
def joinT (a : List Nat) (ys : List (List Nat)) : Option (List Nat) := if (ys.map (·.length)).sum + ys.length * a.length ≤ 100000 then some (TL.joinL a ys) else none
theorem join_T {e : List (List Nat) → W} (h : LE e tT) (a : List Nat) (ys : List (List Nat)) : gJoin (eD tT a, [e ys]) = (joinT a ys).map (eD tT) := by
  have w1 : wStr (eD tT a) = some (SX.S a) := rfl
  have w2 : (wSeq (e ys)).bind dStrs = some (ys.map SX.S) := by
    rw [le_seq h ys]
    exact dStrs_T ys
  simp only [gJoin, w1, w2, joinT, SX.lens, List.length_map, len_T0, SX.join_S]
  split <;> rfl
def partT (a b : List Nat) : Option (List Nat × List Nat × List Nat) := if b ≠ [] ∧ a.length ≤ 90000 then some (match TL.par b [] a with
  | some (p, q) => (p, b, q)
  | none => (a, [], [])) else none
theorem part_T (a b : List Nat) : ∀ c, partT a b = some c → gPart (eD tT a, [eD tT b]) = some (eD (t3 tT tT tT) c) := fun c h => by
  unfold partT at h
  split at h
  · rename_i h2
    cases h
    have hl : ((SX.S b).length == 0) = false := by
      rw [len_T0]
      have := List.length_pos_iff.mpr h2.1
      exact beq_eq_false_iff_ne.mpr (by omega)
    show (if ((SX.S b).length == 0) = false ∧ (SX.S a).length ≤ 90000 then some (W.sh (.tup [.str (Txt.partition (SX.S a) (SX.S b)).1, .str (Txt.partition (SX.S a) (SX.S b)).2.1, .str (Txt.partition (SX.S a) (SX.S b)).2.2])) else none) = _
    rw [if_pos ⟨hl, by rw [len_T0]; exact h2.2⟩]
    cases hp : TL.par b [] a with
    | none => rw [SX.partition_none h2.1 hp]; rfl
    | some r =>
      obtain ⟨p, q⟩ := r
      rw [SX.partition_some h2.1 hp]
      rfl
  · cases h
end TY
set_option Elab.async false
set_option linter.all false
set_option maxRecDepth 100000
namespace TY
open PySem AM
section
variable {β τ : Type} {J : Jd Fl τ} {env : Env} {rest : MS} {c : Str} {p : X τ} {m : ME W}
def X.keep (cs : List Str) (p : X Unit) : X (Option XV) := match p with
  | some (.ok _) => X.ok none
  | some (.ex x) => if cs.contains x.c then X.ok (some x) else X.bad
  | none => X.bad
end
end TY
namespace TY
open PySem AM
end TY
namespace TY
open PySem AM
end TY
namespace TY
open PySem AM
end TY
set_option Elab.async false
set_option linter.all false
set_option maxRecDepth 100000
namespace TY
open PySem AM
end TY
set_option Elab.async false
set_option linter.all false
set_option maxRecDepth 100000
namespace TY
open PySem AM
end TY
set_option Elab.async false
set_option linter.all false
set_option maxRecDepth 100000
namespace TY
open PySem AM
/-- of depth dep and weight n at most -/
structure Yk (dep n : Nat) (d : D) : Prop where
  ex : ∃ p, D.pd d = some p ∧ plY p = true ∧ p.showable = true ∧ p.canLay0 = true ∧ p.depth ≤ dep ∧ p.weight ≤ n
theorem Yk.mono {dep n dep' n' : Nat} {d : D} (h : Yk dep n d) (a : dep ≤ dep') (b : n ≤ n') : Yk dep' n' d := by
  obtain ⟨p, h1, h2, h3, h4, h5, h6⟩ := h
  exact ⟨p, h1, h2, h3, h4, by omega, by omega⟩
end TY
set_option Elab.async false
set_option linter.all false
set_option maxRecDepth 100000
namespace TY
open PySem AM
end TY
set_option Elab.async false
set_option linter.all false
set_option maxRecDepth 100000
namespace TY
open PySem AM
end TY
set_option Elab.async false
set_option linter.all false
set_option maxRecDepth 100000
namespace TY
open PySem AM
end TY
set_option Elab.async false
set_option linter.all false
set_option maxRecDepth 100000
namespace TY
open PySem AM
def t1 {α : Type} (t : α → D) : α → D := fun a => .tup [t a]
end TY
set_option Elab.async false
set_option linter.all false
set_option maxRecDepth 100000
namespace TY
open PySem AM
end TY
set_option Elab.async false
set_option linter.all false
set_option maxRecDepth 100000
namespace TY
open PySem AM
end TY
set_option Elab.async false
set_option linter.all false
set_option maxRecDepth 100000
namespace TY
open PySem AM
end TY
set_option Elab.async false
set_option linter.all false
set_option maxRecDepth 100000
namespace TY
open PySem AM
end TY
set_option Elab.async false
set_option linter.all false
set_option maxRecDepth 100000
namespace TY
open PySem AM
end TY
set_option Elab.async false
set_option linter.all false
set_option maxRecDepth 100000
namespace TY
open PySem AM
end TY
set_option Elab.async false
set_option linter.all false
set_option maxRecDepth 100000
namespace TY
open PySem AM
end TY
set_option Elab.async false
set_option linter.all false
set_option maxRecDepth 100000
namespace TY
open PySem AM
end TY
set_option Elab.async false
set_option linter.all false
set_option maxRecDepth 100000
namespace TY
open PySem AM
end TY
set_option Elab.async false
set_option linter.all false
set_option maxRecDepth 100000
namespace TY
open PySem AM
end TY
set_option Elab.async false
set_option linter.all false
set_option maxRecDepth 100000
namespace TY
open PySem AM
end TY
set_option Elab.async false
set_option linter.all false
set_option maxRecDepth 100000
namespace TY
open PySem AM
theorem p_part {env : Env} {ml : ME Path} {mi : ME W} {a : Int} {path : Path} {w x : W} {ws : List W} {j : Nat} (hl : ml env = some (.ok path, env)) (hi : mi env = some (.ok (eD tI a), env)) (hg : getE env path = some w) (hk : kids w = some ws) (hn : ∀ c fs vs, w ≠ .ob c fs vs)
    (hj : L2.ixN ws.length a = some j) (hx : ws[j]? = some x) : lIx ml mi env = some (.ok (path.1, path.2 ++ [j]), env) ∧ getE env (path.1, path.2 ++ [j]) = some x ∧ ∀ y, setE env (path.1, path.2 ++ [j]) y = setE env path (setKid w j y) := by
  have h3 : j < ws.length := (List.getElem?_eq_some_iff.mp hx).1
  have g2 := hg
  unfold getE at hg
  rcases e1 : env[path.1]? with _ | ⟨_ | z⟩
  · rw [e1] at hg; cases hg
  · rw [e1] at hg; cases hg
  · rw [e1] at hg
    simp only at hg
    have gp : ∀ (js : List Nat) (z : W), getP z js = some w → getP z (js ++ [j]) = some x ∧ ∀ y, putP z (js ++ [j]) y = putP z js (setKid w j y) := by
      intro js
      induction js with
      | nil =>
        intro z h
        simp only [getP, Option.some.injEq] at h
        subst h
        refine ⟨?_, fun y => ?_⟩
        · simp [getP, hk, hx]
        · simp [putP, hk, hx]
      | cons i js ih =>
        intro z h
        simp only [List.cons_append, getP, putP] at h ⊢
        rcases e2 : (kids z).bind (·[i]?) with _ | u
        · rw [e2] at h; cases h
        · rw [e2] at h
          simp only at h ⊢
          obtain ⟨q1, q2⟩ := ih u h
          exact ⟨q1, fun y => by rw [q2 y]⟩
    obtain ⟨q1, q2⟩ := gp _ _ hg
    refine ⟨?_, ?_, fun y => ?_⟩
    · unfold lIx
      have wi : wInt (eD tI a) = some a := rfl
      simp only [hl, hi, wi, g2, Option.bind_some, hk, hj]
      cases w with
      | ob c fs vs => exact absurd rfl (hn c fs vs)
      | _ => simp only [if_pos h3]
    · unfold getE
      simp only [e1]
      exact q1
    · unfold setE
      simp only [e1, q2 y]
end TY
set_option Elab.async false
set_option linter.all false
set_option maxRecDepth 100000
namespace TY
open PySem AM
end TY
set_option Elab.async false
set_option linter.all false
set_option maxRecDepth 100000
namespace TY
open PySem AM
def wsD (o : Option W) : Option D := match o with
  | some (.sh d) => some d
  | _ => none
def wsB (o : Option W) : Option Bool := match o with
  | some (.sh (.bl b)) => some b
  | _ => none
def wsI (o : Option W) : Option Int := match o with
  | some (.sh (.int i)) => some i
  | _ => none
theorem wsD_ok {o : Option W} {c : D} (h : wsD o = some c) : o = some (eD tD c) := by
  unfold wsD at h
  split at h
  · cases h; rfl
  · cases h
theorem wsB_ok {o : Option W} {c : Bool} (h : wsB o = some c) : o = some (eD tB c) := by
  unfold wsB at h
  split at h
  · cases h; rfl
  · cases h
theorem wsI_ok {o : Option W} {c : Int} (h : wsI o = some c) : o = some (eD tI c) := by
  unfold wsI at h
  split at h
  · cases h; rfl
  · cases h
/-- the parts of a list, or of a tuple -/
def dEls : D → Option (List D)
  | .lst ds => some ds
  | _ => none
def dTEls : D → Option (List D)
  | .tup ds => some ds
  | _ => none
theorem els_D (d : D) : ∀ c, dEls d = some c → wEls (eD tD d) = some (c.map tD) := fun c h => by
  unfold dEls at h
  split at h
  · cases h
    show some _ = some _
    rw [show (tD : D → D) = id from rfl, List.map_id]
  · cases h
theorem tels_D (d : D) : ∀ c, dTEls d = some c → wTEls (eD tD d) = some (c.map tD) := fun c h => by
  unfold dTEls at h
  split at h
  · cases h
    show some _ = some _
    rw [show (tD : D → D) = id from rfl, List.map_id]
  · cases h
theorem list_D (d : D) : ∀ c, dEls d = some c → gList [eD tD d] = some (eO (eD tD) c) := fun c h => by
  unfold dEls at h
  split at h
  · cases h; rfl
  · cases h
def AsOk {α : Type} (t : α → D) (as : D → Option α) : Prop := ∀ d x, as d = some x → d = t x
def asI : D → Option Int
  | .int i => some i
  | _ => none
def asAll {α : Type} (as : D → Option α) : List D → Option (List α)
  | [] => some []
  | d :: ds => match as d, asAll as ds with
    | some x, some xs => some (x :: xs)
    | _, _ => none
def asL {α : Type} (as : D → Option α) : D → Option (List α)
  | .lst ds => asAll as ds
  | _ => none
theorem asI_ok : AsOk tI asI := fun d x h => by
  unfold asI at h
  split at h
  · cases h; rfl
  · cases h
theorem asAll_ok {α : Type} {t : α → D} {as : D → Option α} (k : AsOk t as) : ∀ {ds : List D} {xs : List α}, asAll as ds = some xs → ds = xs.map t
  | [], _, h => by cases h; rfl
  | d :: ds, xs, h => by
    unfold asAll at h
    split at h
    · rename_i x ys e1 e2
      cases h
      rw [k d x e1, asAll_ok k e2]
      rfl
    · cases h
theorem asL_ok {α : Type} {t : α → D} {as : D → Option α} (k : AsOk t as) : AsOk (tL t) (asL as) := fun d x h => by
  unfold asL at h
  split at h
  · rw [asAll_ok k h]; rfl
  · cases h
@[simp] theorem asAll_map {α : Type} {t : α → D} {as : D → Option α} (h : ∀ x, as (t x) = some x) : ∀ xs : List α, asAll as (xs.map t) = some xs
  | [] => rfl
  | x :: xs => by
    show (match as (t x), asAll as (xs.map t) with | some x, some xs => some (x :: xs) | _, _ => none) = _
    rw [h x, asAll_map h xs]
@[simp] theorem asLI_tL (xs : List Int) : asL asI (tL tI xs) = some xs := asAll_map (t := tI) (fun _ => rfl) xs
@[simp] theorem asLI_map (xs : List Int) : asL asI (.lst (xs.map .int)) = some xs := asAll_map (t := D.int) (fun _ => rfl) xs
section
variable {α β γ σ τ : Type} {J : Jd β τ} {e : Env} {κ : W → Env → Option (Res β × Env)} {t : α → D} {as : D → Option α} {d : D} {pk : α → X τ}
theorem k_asR {R : Option (Res β × Env)} (k : AsOk t as) (h : ∀ x, d = t x → J.rel R (pk x)) : J.rel R (X.bind (X.ofO (as d)) pk) := by
  cases q : as d with
  | none => exact J.non _
  | some x => exact h x (k d x q)
theorem k_as2a {g : W × W → Option W} {u : W} (k : AsOk t as) (h : ∀ x, J.rel (opK (g (eD t x, u)) e κ) (pk x)) : J.rel (opK (g (eD tD d, u)) e κ) (X.bind (X.ofO (as d)) pk) := by
  cases q : as d with
  | none => exact J.non _
  | some x =>
    rw [show eD tD d = eD t x from congrArg W.sh (k d x q)]
    exact h x
theorem k_asb {g : List W → Option W} (k : AsOk t as) (h : ∀ x, J.rel (opK (g [eD t x]) e κ) (pk x)) : J.rel (opK (g [eD tD d]) e κ) (X.bind (X.ofO (as d)) pk) := by
  cases q : as d with
  | none => exact J.non _
  | some x =>
    rw [show eD tD d = eD t x from congrArg W.sh (k d x q)]
    exact h x
theorem aw_ownE {o : Option W} {w w' : W} {as : List AW} {ws : List W} (q : w = w') (h : argWs e o as = some ws) : argWs e o (.own w :: as) = some (w' :: ws) := by rw [q]; exact aw_own h
theorem asW {x : α} (h : d = t x) : eD tD d = eD t x := congrArg W.sh h
end
end TY
set_option Elab.async false
set_option linter.all false
set_option maxRecDepth 100000
namespace TY
open PySem AM
def eqX {α : Type} (t : α → D) (a b : α) : Option Bool := wsB (gEq (eD t a, eD t b))
section
variable {α : Type} {e e' : α → W} {t : α → D}
theorem wPd_fz (h : Fz e t) (a : α) : wPd (e a) = wPd (eD t a) := by
  unfold wPd
  rw [h a, show (eD t a).toD = some (t a) from rfl]
theorem eq_X (h : Fz e t) (h' : Fz e' t) (a b : α) : ∀ c, eqX t a b = some c → gEq (e a, e' b) = some (eD tB c) := fun c q => by
  unfold eqX at q
  have := wsB_ok q
  rw [← this]
  simp only [gEq, gDD, wPd_fz h, wPd_fz h']
end
section
variable {α : Type}
def o1 (a : α → W) : α → W := fun p => .ot [a p]
end
end TY
set_option Elab.async false
set_option linter.all false
set_option maxRecDepth 100000
namespace TY
open PySem AM
def asT : D → Option (List Nat)
  | .str s => some s.cps.toList
  | _ => none
theorem asT_ok : AsOk tT asT := fun d x h => by
  unfold asT at h
  split at h
  · cases h; rfl
  · cases h
@[simp] theorem asT_tT (l : List Nat) : asT (tT l) = some l := rfl
/-- a def as a value -/
def tF (c : Str) : Unit → D := fun _ => .fn c
section
variable {β τ : Type} {J : Jd β τ} {p : X τ} {env : Env}
theorem x_callL {i : Nat} {c : Str} {m : ME W} {κ : W → Env → Option (Res β × Env)} (hs : env[i]? = some (some (.sh (.fn c)))) (h : J.rel (aft (m env) κ) p) : J.rel (aft (mCallL i c m env) κ) p := by
  have e : mCallL i c m env = m env := by
    unfold mCallL
    rw [hs]
    simp only [if_true]
  rw [e]
  exact h
end
def un2 {α : Type} (xs : List α) : Option (α × α) := match xs with
  | [a, b] => some (a, b)
  | _ => none
end TY
set_option Elab.async false
set_option linter.all false
set_option maxRecDepth 100000
namespace TY
open AM PySem
section
variable {α β γ τ : Type} {J : Jd β τ} {κ : W → Env → Option (Res β × Env)} {it : ME (List D)} {g : MG} {c : ME Bool} {el : ME W} {vs : List Nat} {p : X τ} {env e : Env}
def clX (o : Option (List W ⊕ (XV × Env))) (vs : List Nat) (e : Env) (κ : W → Env → Option (Res β × Env)) : Option (Res β × Env) := match o with
  | none => none
  | some (.inl ws) => κ (.ol ws) e
  | some (.inr (x, e3)) => some (.ex x, wipeE e3 vs)
theorem x_cpX (h : J.rel (aft (it env) fun ds e1 => clX (mCLX g c el (wipeE e1 vs) ds []) vs e1 κ) p) : J.rel (aft (mCompX it g c el vs env) κ) p := by
  have : aft (mCompX it g c el vs env) κ = aft (it env) fun ds e1 => clX (mCLX g c el (wipeE e1 vs) ds []) vs e1 κ := by
    unfold mCompX clX
    rcases it env with _ | ⟨ds | x, e1⟩
    · rfl
    · simp only [aft]
      rcases mCLX g c el (wipeE e1 vs) ds [] with _ | ⟨ws | ⟨x, e3⟩⟩ <;> rfl
    · rfl
  rw [this]
  exact h
variable {dd : α → D} {en : γ → W} {ds : List D} {xs : List α}
theorem k_cpY {c : ME Bool} {pc : α → X Bool} {pf : α → X γ} {ev : α → Env} {pk : List γ → X τ} (hd : ds = xs.map dd) (hg : ∀ x, g (.sh (dd x)) (wipeE e vs) = some (.ok (), ev x)) (hc : ∀ x, (jE id (fun (_ : Bool) (_ : Unit) => ev x) (fun _ => False)).rel (c (ev x)) (pc x)) (he : ∀ x, (jE en (fun (_ : γ) (_ : Unit) => ev x) (fun e3 => e3 = ev x)).rel (el (ev x)) (pf x)) (hx : ∀ x, J.Ex (wipeE (ev x) vs)) (k : ∀ ys, J.rel (κ (eO en ys) e) (pk ys)) :
    J.rel (clX (mCLX g c el (wipeE e vs) ds []) vs e κ) (X.bind (X.lcX pc pf xs) pk) := by
  subst hd
  unfold X.lcX
  split
  · rename_i hl
    have key : ∀ (xs : List α) (acc : List W), acc.length + xs.length ≤ 100000 → match X.lcG pc pf xs with
        | some (.ok ys) => mCLX g c el (wipeE e vs) (xs.map dd) acc = some (.inl (acc ++ ys.map en))
        | some (.ex z) => ∃ x, mCLX g c el (wipeE e vs) (xs.map dd) acc = some (.inr (z, ev x))
        | none => True := by
      intro xs
      induction xs with
      | nil => intro acc _; simp [mCLX, X.lcG, X.ok]
      | cons x xs ih =>
        intro acc h
        simp only [List.length_cons] at h
        have h1 := (hc x).h
        have h2 := (he x).h
        simp only [X.lcG]
        rcases e1 : pc x with _ | ⟨t | z⟩
        · trivial
        · rw [e1] at h1
          obtain ⟨_, h1⟩ := h1
          cases t with
          | false =>
            have := ih acc (by omega)
            simp only [X.bind, Bool.false_eq_true, if_false]
            rcases e3 : X.lcG pc pf xs with _ | ⟨ys | z⟩
            · trivial
            · rw [e3] at this
              simp only [List.map_cons, mCLX, hg x, h1, id]
              exact this
            · rw [e3] at this
              simp only [List.map_cons, mCLX, hg x, h1, id]
              exact this
          | true =>
            simp only [X.bind, if_true]
            rcases e2 : pf x with _ | ⟨y | z⟩
            · trivial
            · rw [e2] at h2
              obtain ⟨_, h2⟩ := h2
              have := ih (acc ++ [en y]) (by simp; omega)
              rcases e3 : X.lcG pc pf xs with _ | ⟨ys | z⟩
              · trivial
              · rw [e3] at this
                simp only [List.map_cons, mCLX, hg x, h1, h2, id, if_pos (show acc.length < 100000 by omega), X.ok] at this ⊢
                rw [this]
                simp
              · rw [e3] at this
                simp only [List.map_cons, mCLX, hg x, h1, h2, id, if_pos (show acc.length < 100000 by omega)]
                exact this
            · rw [e2] at h2
              obtain ⟨e3, h2, rfl⟩ := h2
              exact ⟨x, by simp only [List.map_cons, mCLX, hg x, h1, h2, id]⟩
        · rw [e1] at h1
          obtain ⟨_, _, h1⟩ := h1
          exact h1.elim
    have := key xs [] (by simpa using hl)
    rcases e3 : X.lcG pc pf xs with _ | ⟨ys | z⟩
    · exact J.non _
    · rw [e3] at this
      simp only at this
      rw [this]
      have := k ys
      simpa [clX, eO, X.bind] using this
    · rw [e3] at this
      obtain ⟨x, hx2⟩ := this
      rw [hx2]
      exact J.ex _ _ (hx x)
  · exact J.non _
end
end TY
set_option Elab.async false
set_option linter.all false
set_option maxRecDepth 100000
namespace TY
open AM PySem PySem.Spec PySem.Builtin PySem.Builtin.Str L2
end TY
set_option Elab.async false
set_option linter.all false
set_option maxRecDepth 100000
namespace TY
open AM PySem
/-- an own thing of any shape -/
abbrev eW : W → W := fun w => w
/-- the statement's outcome: a truth is told, or it goes on -/
def X.tmpO {τ lam : Type} (pm : X (Out Unit Empty Bool)) (pk : X (Out τ lam Bool)) : X (Out τ lam Bool) := match pm with
  | some (.ok (.go _)) => pk
  | some (.ok (.rt b)) => X.ok (.rt b)
  | _ => X.bad
abbrev jTmp (n : Nat) : Jd Fl (Out Unit Empty Bool) := jS (fun (_ : Unit) (o : {e : Env // e.length = n}) => o.1) (fun (_ : Empty) (o : {e : Env // e.length = n}) => o.1) (fun (b : Bool) (w : W) (e : Env) => w = .sh (.bl b) ∧ e.length = n) (fun _ => True)
theorem n_goT {n : Nat} {env : Env} (h : env.length = n) : (jTmp n).rel (some (.ok .nx, env)) (X.ok (.go ())) := ⟨⟨⟨env, h⟩, rfl⟩⟩
theorem s_tmpS {τ lam Oo Ol : Type} {i : Nat} {ws : List Nat} {m rest : MS} {env : Env} {w : W} {mk : τ → Oo → Env} {ml : lam → Ol → Env} {G : Bool → W → Env → Prop} {Ex : Env → Prop} {pm : D → X (Out Unit Empty Bool)} {pk : X (Out τ lam Bool)}
    (he : env[i]? = some (some w)) (h : ∀ d, (jTmp env.length).rel (m ((strip env).set i (some (.sh d)))) (pm d)) (hG : ∀ b, G b (.sh (.bl b)) (wipeE env ws)) (k : (jS mk ml G Ex).rel (rest (wipeE env ws)) pk) :
    (jS mk ml G Ex).rel (mSeq (mTmp i ws m) rest env) (X.bind (X.ofO (W.toD w)) fun d => X.tmpO (pm d) pk) := by
  cases hd : W.toD w with
  | none => exact (jS mk ml G Ex).non _
  | some d =>
    have h0 := (h d).h
    show (jS mk ml G Ex).rel _ (X.tmpO (pm d) pk)
    have e1 : mTmp i ws m env = match m ((strip env).set i (some (.sh d))) with
      | some (.ok .nx, e') => if e'.length = env.length then some (.ok .nx, wipeE env ws) else none
      | some (.ok (.rt (.sh (.bl b))), e') => if e'.length = env.length then some (.ok (.rt (.sh (.bl b))), wipeE env ws) else none
      | _ => none := by
      unfold mTmp
      rw [he]
      simp only [hd]
      (try rfl)
    unfold mSeq
    rw [e1]
    rcases e2 : pm d with _ | ⟨o | x⟩
    · exact (jS mk ml G Ex).non _
    · rw [e2] at h0
      rcases o with u | l | l | b
      · obtain ⟨os, h1⟩ := h0
        rw [h1]
        simp only [os.2, if_true]
        exact k
      · exact l.elim
      · exact l.elim
      · obtain ⟨w2, e, h1, rfl, h2⟩ := h0
        rw [h1]
        simp only [h2, if_true]
        exact ⟨⟨_, _, rfl, hG b⟩⟩
    · exact (jS mk ml G Ex).non _
theorem k_ul2O {τ : Type} {J : Jd Fl τ} {env : Env} {ms : List W → ME Unit} {rest : MS} {α : Type} {t : α → W} {pk : α × α → X τ} (xs : List α) (k : ∀ z, J.rel (gK (gUn 2 ms) (o2 t t z) env rest) (pk z)) : J.rel (gK (gUlO 2 ms) (eO t xs) env rest) (X.bind (X.ofO (un2 xs)) pk) := by
  unfold un2
  split
  · rename_i a b
    exact k (a, b)
  · exact J.non _
def owPart (x : W) (a : Int) : Option (Nat × List W) := match x with
  | .ot us => match L2.ixN us.length a with
    | some j => match us[j]? with
      | some (.ol ws) => some (j, ws)
      | _ => none
    | none => none
  | _ => none
def owSet (x : W) (j : Nat) (ws : List W) : W := setKid x j (.ol ws)
theorem eO_eW (ws : List W) : eO eW ws = .ol ws := by
  show W.ol (ws.map fun w => w) = _
  rw [List.map_id']
theorem p_partW {β τ : Type} {J : Jd β τ} {env : Env} {ml : ME Path} {mi : ME W} {x : W} {a : Int} {r : Option (Res β × Env)} {pk : Nat × List W → X τ} {path : Path} (hl : ml env = some (.ok path, env)) (hi : mi env = some (.ok (eD tI a), env)) (hg : getE env path = some (eW x))
    (k : ∀ j ws, lIx ml mi env = some (.ok (path.1, path.2 ++ [j]), env) → getE env (path.1, path.2 ++ [j]) = some (eO eW ws) → (∀ y, setE env (path.1, path.2 ++ [j]) (eO eW y) = setE env path (eW (owSet x j y))) → J.rel r (pk (j, ws))) : J.rel r (X.bind (X.ofO (owPart x a)) pk) := by
  rcases e : owPart x a with _ | ⟨j, ws⟩
  · exact J.non _
  · unfold owPart at e
    split at e
    · rename_i us
      split at e
      · rename_i j' hj
        split at e
        · rename_i ws' hx
          cases e
          obtain ⟨h1, h2, h3⟩ := p_part hl hi hg (ws := us) rfl (fun _ _ _ h => by cases h) hj hx
          exact k j ws h1 (by rw [h2, eO_eW]) fun y => by rw [h3, eO_eW]; rfl
        · cases e
      · cases e
    · cases e
end TY
set_option Elab.async false
set_option linter.all false
set_option maxRecDepth 100000
set_option maxHeartbeats 4000000
namespace LW
open PySem AM TY
def p__law_pile (a_script : List Int) (a_k : Int) : X (List Int) :=
  X.bind (if (decide (a_k < ((a_script.length : Nat) : Int))) = true then (X.bind (X.ofO (at_  a_script a_k)) fun x1 => X.ok x1) else X.ok 0) fun (s2 : Int) => X.bind (X.ofO (at_  [0, (s2 % 1000000000000000000000000000000000000000000000000000000000000000000000000000000000000000000000000000000000000000000000000000000000000000000000000000000)] (b2i (decide (1000000000000000000 ≤ (absI s2)))))) fun x4 => X.bind (X.ofO (mulO  97 a_k)) fun x5 => X.ok [x4, (s2 % 2147483647), x5]
theorem t__law_pile (a_script : List Int) (a_k : Int) : TF (m__law_pile [(eD tR) a_script, (eD tI) a_k]) (p__law_pile a_script a_k) (fun r => (eO (eD tI)) r) (fun r => [none, none]) xAny :=
  tf_fn rfl (s_asg (x_val (e := _) (a := (eD tI) 0) rfl (k_set rfl (n_env (e' := ([some ((eD tR) a_script), some ((eD tI) a_k), some ((eD tI) 0)] : AM.Env)) rfl (s_sub (fun (s2 : Int) (o3 : Unit) => ([some ((eD tR) a_script), some ((eD tI) a_k), some ((eD tI) s2)] : AM.Env)) (s_last (s_if (x_B (x_op2 (x_val rfl (x_bi (x_cons (x_val rfl (x_nil (o_val (len_scr _) (o_val (lt_I _ _) (o_val (bl_B _) (k_if (s_asg (x_fz (x_ix (x_val rfl (x_val rfl (o_par (ix_scr _ _) fun x1 => (o_val (fzV fz_sh _) (k_set rfl (n_go () rfl))))))))) (s_nx (n_go () rfl))))))))))))))) fun s2 o3 => (n_env (e' := ([some ((eD tR) a_script), some ((eD tI) a_k), some ((eD tI) s2)] : AM.Env)) rfl (s_last (s_ret (x_lst (x_cons (x_ix (x_lst (x_cons (x_val (e := _) (a := (eD tI) 0) rfl (x_cons (x_op2 (x_val rfl (x_op2 (x_op2 (x_op2 (x_val (e := _) (a := (eD tI) 10) rfl (x_val (e := _) (a := (eD tI) 50) rfl (o_val (a := (eD tI) 100000000000000000000000000000000000000000000000000) (pow_c (by decide +kernel) (by decide +kernel)) (x_op2 (x_val (e := _) (a := (eD tI) 10) rfl (x_val (e := _) (a := (eD tI) 50) rfl (o_val (a := (eD tI) 100000000000000000000000000000000000000000000000000) (pow_c (by decide +kernel) (by decide +kernel)) (o_val (a := (eD tI) 10000000000000000000000000000000000000000000000000000000000000000000000000000000000000000000000000000) (mul_c (by decide +kernel) (by decide +kernel)) (x_op2 (x_val (e := _) (a := (eD tI) 10) rfl (x_val (e := _) (a := (eD tI) 50) rfl (o_val (a := (eD tI) 100000000000000000000000000000000000000000000000000) (pow_c (by decide +kernel) (by decide +kernel)) (o_val (a := (eD tI) 1000000000000000000000000000000000000000000000000000000000000000000000000000000000000000000000000000000000000000000000000000000000000000000000000000000) (mul_c (by decide +kernel) (by decide +kernel)) (o_val (mod_c (by decide +kernel)) (x_nil (o_val (lst_2 (e := (eD tI))) (x_bi (x_cons (x_op2 (x_bi (x_cons (x_val rfl (x_nil (o_val (abs_I _) (x_op2 (x_val (e := _) (a := (eD tI) 10) rfl (x_val (e := _) (a := (eD tI) 18) rfl (o_val (a := (eD tI) 1000000000000000000) (pow_c (by decide +kernel) (by decide +kernel)) (o_val (ge_I _ _) (x_nil (o_val (int_B _) (o_par (ix_ol _ _) fun x4 => (x_cons (x_op2 (x_val rfl (x_val (e := _) (a := (eD tI) 2147483647) rfl (o_val (mod_c (by decide +kernel)) (x_cons (x_op2 (x_val (e := _) (a := (eD tI) 97) rfl (x_val rfl (o_par (mul_I _ _) fun x5 => (x_nil (o_val (lst_3 (e := (eD tI))) (n_ret ⟨rfl, rfl, rfl⟩)))))))))))))))))))))))))))))))))))))))))))))))))))))))))))))))))
def p__law_mixed (a_cell : Int) (a_k : Int) : X Int :=
  X.bind (X.ofO (mulO  (a_cell % 2147483647) 48271)) fun x1 => X.bind (X.ofO (mulO  a_k 69621)) fun x2 => X.bind (X.ofO (mulO  (((x1 + x2) + 11) % 2147483647) (((x1 + x2) + 11) % 2147483647))) fun x3 => X.bind (X.ofO (mulO  (x3 % 2147483629) (x3 % 2147483629))) fun x4 => X.ok ((x4 % 2147483587) / 64)
theorem t__law_mixed (a_cell : Int) (a_k : Int) : TF (m__law_mixed [(eD tI) a_cell, (eD tI) a_k]) (p__law_mixed a_cell a_k) (fun r => (eD tI) r) (fun r => [none, none]) xAny :=
  tf_fn rfl (s_asg (x_op2 (x_op2 (x_op2 (x_op2 (x_op2 (x_val rfl (x_val (e := _) (a := (eD tI) 2147483647) rfl (o_val (mod_c (by decide +kernel)) (x_val (e := _) (a := (eD tI) 48271) rfl (o_par (mul_I _ _) fun x1 => (x_op2 (x_val rfl (x_val (e := _) (a := (eD tI) 69621) rfl (o_par (mul_I _ _) fun x2 => (o_val (add_I _ _) (x_val (e := _) (a := (eD tI) 11) rfl (o_val (add_I _ _) (x_val (e := _) (a := (eD tI) 2147483647) rfl (o_val (mod_c (by decide +kernel)) (k_set rfl (n_env (e' := ([some ((eD tI) a_cell), some ((eD tI) a_k), some ((eD tI) (((x1 + x2) + 11) % 2147483647))] : AM.Env)) rfl (s_asg (x_op2 (x_op2 (x_val rfl (x_val rfl (o_par (mul_I _ _) fun x3 => (x_val (e := _) (a := (eD tI) 2147483629) rfl (o_val (mod_c (by decide +kernel)) (k_set rfl (n_env (e' := ([some ((eD tI) a_cell), some ((eD tI) a_k), some ((eD tI) (x3 % 2147483629))] : AM.Env)) rfl (s_last (s_ret (x_op2 (x_op2 (x_op2 (x_val rfl (x_val rfl (o_par (mul_I _ _) fun x4 => (x_val (e := _) (a := (eD tI) 2147483587) rfl (o_val (mod_c (by decide +kernel)) (x_val (e := _) (a := (eD tI) 64) rfl (o_val (div_c (by decide +kernel)) (n_ret ⟨rfl, rfl, rfl⟩)))))))))))))))))))))))))))))))))))))))))))))
def p__law_take (a_pile_here : List Int) (a_many : Int) : X (Int × List Int) :=
  X.bind (X.ofO (at_  a_pile_here 0)) fun x1 => if (decide (x1 ∈ [0, (-1)])) = true then (X.bind (X.ofO (at_  a_pile_here 2)) fun x2 => X.bind (X.ofO (setO a_pile_here 2 (x2 + 1))) fun x3 => X.bind (X.ofO (ixO x3 1)) fun q4 => X.bind (X.ofO (ixO x3 2)) fun q5 => X.bind (p__law_mixed q4.2 q5.2) fun r6 => X.bind (X.ofO (modO  r6 a_many)) fun x7 => X.ok (x7, x3)) else X.bind (X.ofO (at_  a_pile_here 0)) fun x8 => X.bind (X.ofO (modO  x8 a_many)) fun x9 => X.bind (X.ofO (at_  a_pile_here 0)) fun x10 => X.bind (X.ofO (divO  x10 a_many)) fun x11 => X.bind (X.ofO (setO a_pile_here 0 x11)) fun x12 => X.ok (x9, x12)
theorem t__law_take (a_pile_here : List Int) (a_many : Int) : TF (m__law_take [(eO (eD tI)) a_pile_here, (eD tI) a_many]) (p__law_take a_pile_here a_many) (fun r => (eD tI) r.1) (fun r => [some ((eO (eD tI)) r.2), none]) (xIo 0) :=
  tf_fn rfl (s_if (x_B (x_op2 (x_ix (x_val rfl (x_val (e := _) (a := (eD tI) 0) rfl (o_par (ix_ol _ _) fun x1 => (x_lst (x_cons (x_val (e := _) (a := (eD tI) 0) rfl (x_cons (x_op1 (x_val (e := _) (a := (eD tI) 1) rfl (o_val (neg_I _) (x_nil (o_val (lst_2 (e := (eD tI))) (o_val (gIn_p pl_I rfl fz_sh (fz_ol fz_sh) _ _) (o_val (bl_B _) (k_if (s_assoc (s_asg (x_op2 (x_ix (x_val rfl (x_val (e := _) (a := (eD tI) 2) rfl (o_par (ix_ol _ _) fun x2 => (x_val (e := _) (a := (eD tI) 1) rfl (o_val (add_I _ _) (k_setI (e := (eD tI)) (v := (x2 + 1)) rfl (v_of (x_all (x_val (e := _) (a := (eD tI) 2) rfl (e_end () rfl rfl)))) rfl (fun _ => rfl) fun x3 => (s_ret (x_op2 (x_K0 (p_ix rfl (v_of (x_all (x_val (e := _) (a := (eD tI) 1) rfl (e_end () rfl rfl)))) rfl fun jq4 xq4 hlq4 hgq4 hsq4 => (xa_bor hlq4 (p_ix rfl (v_of (x_all (x_val (e := _) (a := (eD tI) 2) rfl (e_end () rfl rfl)))) rfl fun jq5 xq5 hlq5 hgq5 hsq5 => (xa_bor hlq5 (xa_nil (k_call0b (aw_bor fz_sh hgq4 (aw_bor fz_sh hgq5 aw_nil)) (t__law_mixed xq4 xq5) rfl (fun a => cl_I _) ⟨rfl, _, rfl⟩ fun r6 => (x_val rfl (o_par (mod_I _ _) fun x7 => (n_ret ⟨rfl, rfl, rfl⟩)))))))))))))))))))))) (s_nx (s_asg (x_op2 (x_ix (x_val rfl (x_val (e := _) (a := (eD tI) 0) rfl (o_par (ix_ol _ _) fun x8 => (x_val rfl (o_par (mod_I _ _) fun x9 => (k_set rfl (n_env (e' := ([some ((eO (eD tI)) a_pile_here), some ((eD tI) a_many), some ((eD tI) x9)] : AM.Env)) rfl (s_asg (x_op2 (x_ix (x_val rfl (x_val (e := _) (a := (eD tI) 0) rfl (o_par (ix_ol _ _) fun x10 => (x_val rfl (o_par (div_I _ _) fun x11 => (k_setI (e := (eD tI)) (v := x11) rfl (v_of (x_all (x_val (e := _) (a := (eD tI) 0) rfl (e_end () rfl rfl)))) rfl (fun _ => rfl) fun x12 => (n_env (e' := ([some ((eO (eD tI)) x12), some ((eD tI) a_many), some ((eD tI) x9)] : AM.Env)) rfl (s_last (s_ret (x_val rfl (n_ret ⟨rfl, rfl, rfl⟩))))))))))))))))))))))))))))))))))))))))))))
def p__law_great (a_pile_here : List Int) : X (Int × List Int) :=
  X.bind (p__law_take a_pile_here 100000000000000000000) fun r1 => X.bind (p__law_take r1.2 4) fun r2 => X.bind (X.ofO (mulO  r1.1 10000000000000000000)) fun x3 => X.bind (p__law_take r2.2 10000000000000000000) fun r4 => X.bind (X.ofO (mulO  (x3 + r4.1) 9)) fun x5 => X.bind (X.ofO (at_  [(r1.1 % 8), (r1.1 % 100), r1.1, (x5 + (r1.1 % 9))] r2.1)) fun x6 => X.ok (x6, r4.2)
theorem t__law_great (a_pile_here : List Int) : TF (m__law_great [(eO (eD tI)) a_pile_here]) (p__law_great a_pile_here) (fun r => (eD tI) r.1) (fun r => [some ((eO (eD tI)) r.2)]) (xIo 0) :=
  tf_fn rfl (s_asg (x_fz (x_K1 (xa_io rfl (xa_own (x_op2 (x_val (e := _) (a := (eD tI) 10) rfl (x_val (e := _) (a := (eD tI) 20) rfl (o_val (a := (eD tI) 100000000000000000000) (pow_c (by decide +kernel) (by decide +kernel)) (xa_nil (k_call1 rfl rfl rfl (aw_io (aw_own aw_nil)) (t__law_take a_pile_here 100000000000000000000) rfl (fun _ => rfl) (fun _ => rfl) (fun _ ⟨v, h⟩ => ⟨v, _, h, rfl, ⟨rfl, _, rfl⟩⟩) fun r1 => (o_val (fzV fz_sh _) (k_set rfl (n_env (e' := ([some ((eO (eD tI)) r1.2), some ((eD tI) r1.1), none] : AM.Env)) rfl (s_asg (x_fz (x_K1 (xa_io rfl (xa_own (x_val (e := _) (a := (eD tI) 4) rfl (xa_nil (k_call1 rfl rfl rfl (aw_io (aw_own aw_nil)) (t__law_take r1.2 4) rfl (fun _ => rfl) (fun _ => rfl) (fun _ ⟨v, h⟩ => ⟨v, _, h, rfl, ⟨rfl, _, rfl⟩⟩) fun r2 => (o_val (fzV fz_sh _) (k_set rfl (n_env (e' := ([some ((eO (eD tI)) r2.2), some ((eD tI) r1.1), some ((eD tI) r2.1)] : AM.Env)) rfl (s_last (s_ret (x_ix (x_lst (x_cons (x_op2 (x_val rfl (x_val (e := _) (a := (eD tI) 8) rfl (o_val (mod_c (by decide +kernel)) (x_cons (x_op2 (x_val rfl (x_val (e := _) (a := (eD tI) 100) rfl (o_val (mod_c (by decide +kernel)) (x_cons (x_val rfl (x_cons (x_op2 (x_op2 (x_op2 (x_op2 (x_val rfl (x_op2 (x_val (e := _) (a := (eD tI) 10) rfl (x_val (e := _) (a := (eD tI) 19) rfl (o_val (a := (eD tI) 10000000000000000000) (pow_c (by decide +kernel) (by decide +kernel)) (o_par (mul_I _ _) fun x3 => (x_K1 (xa_io rfl (xa_own (x_op2 (x_val (e := _) (a := (eD tI) 10) rfl (x_val (e := _) (a := (eD tI) 19) rfl (o_val (a := (eD tI) 10000000000000000000) (pow_c (by decide +kernel) (by decide +kernel)) (xa_nil (k_call1 rfl rfl rfl (aw_io (aw_own aw_nil)) (t__law_take r2.2 10000000000000000000) rfl (fun _ => rfl) (fun _ => rfl) (fun _ ⟨v, h⟩ => ⟨v, _, h, rfl, ⟨rfl, _, rfl⟩⟩) fun r4 => (o_val (add_I _ _) (x_val (e := _) (a := (eD tI) 9) rfl (o_par (mul_I _ _) fun x5 => (x_op2 (x_val rfl (x_val (e := _) (a := (eD tI) 9) rfl (o_val (mod_c (by decide +kernel)) (o_val (add_I _ _) (x_nil (o_val (lst_n (e := (eD tI)) [(r1.1 % 8), (r1.1 % 100), r1.1, (x5 + (r1.1 % 9))] rfl rfl) (x_val rfl (o_par (ix_ol _ _) fun x6 => (n_ret ⟨rfl, rfl, rfl⟩))))))))))))))))))))))))))))))))))))))))))))))))))))))))))))))))))))))))))
def p__law_signed (a_pile_here : List Int) : X (Int × List Int) :=
  X.bind (p__law_great a_pile_here) fun r1 => X.bind (p__law_take r1.2 3) fun r2 => X.bind (X.ofO (at_  [r1.1, r1.1, (-r1.1)] r2.1)) fun x3 => X.ok (x3, r2.2)
theorem t__law_signed (a_pile_here : List Int) : TF (m__law_signed [(eO (eD tI)) a_pile_here]) (p__law_signed a_pile_here) (fun r => (eD tI) r.1) (fun r => [some ((eO (eD tI)) r.2)]) (xIo 0) :=
  tf_fn rfl (s_asg (x_fz (x_K1 (xa_io rfl (xa_nil (k_call1 rfl rfl rfl (aw_io aw_nil) (t__law_great a_pile_here) rfl (fun _ => rfl) (fun _ => rfl) (fun _ ⟨v, h⟩ => ⟨v, _, h, rfl, ⟨rfl, _, rfl⟩⟩) fun r1 => (o_val (fzV fz_sh _) (k_set rfl (n_env (e' := ([some ((eO (eD tI)) r1.2), some ((eD tI) r1.1)] : AM.Env)) rfl (s_last (s_ret (x_ix (x_lst (x_cons (x_val rfl (x_cons (x_val rfl (x_cons (x_op1 (x_val rfl (o_val (neg_I _) (x_nil (o_val (lst_3 (e := (eD tI))) (x_K1 (xa_io rfl (xa_own (x_val (e := _) (a := (eD tI) 3) rfl (xa_nil (k_call1 rfl rfl rfl (aw_io (aw_own aw_nil)) (t__law_take r1.2 3) rfl (fun _ => rfl) (fun _ => rfl) (fun _ ⟨v, h⟩ => ⟨v, _, h, rfl, ⟨rfl, _, rfl⟩⟩) fun r2 => (o_par (ix_ol _ _) fun x3 => (n_ret ⟨rfl, rfl, rfl⟩)))))))))))))))))))))))))))))))
def p__law_saying (a_pile_here : List Int) : X (D × List Int) :=
  X.bind (p__law_take a_pile_here 8) fun r1 => X.bind (p__law_take r1.2 6) fun r2 => X.bind (X.ofO (rg1 (1 + r2.1))) fun x3 => X.bind (X.lcSX (fun (x6 : Int) (s4 : List Int) => X.bind (X.nx (p__law_signed s4)) fun r7 => X.ok (r7.1, r7.2)) x3 r2.2) fun x8 => if (decide (r1.1 < 2)) = true then (X.bind (X.ofO (at_  [([108, 105, 107, 101] : List Nat), ([117, 110, 108, 105, 107, 101] : List Nat)] r1.1)) fun x9 => X.bind (X.ofO (rg1 (1 + r2.1))) fun x10 => X.bind (X.lcSX (fun (x13 : Int) (s11 : List Int) => X.bind (X.nx (p__law_signed s11)) fun r14 => X.ok (r14.1, r14.2)) x10 x8.2) fun x15 => X.ok ((t3 tT (tL tI) (tL tI)) (x9, x8.1, x15.1), x15.2)) else if (decide (r1.1 < 4)) = true then (X.bind (X.ofO (at_  [([99, 108, 101, 97, 114] : List Nat), ([98, 97, 114, 114, 101, 100] : List Nat)] (r1.1 - 2))) fun x16 => X.ok ((t2 tT (tL tI)) (x16, x8.1), x8.2)) else if (decide (r1.1 < 6)) = true then (X.bind (X.ofO (at_  [([100, 114, 97, 119, 115] : List Nat), ([100, 114, 97, 119, 115, 32, 108, 101, 115, 115] : List Nat)] (r1.1 - 4))) fun x17 => X.bind (p__law_great x8.2) fun r18 => X.bind (p__law_signed r18.2) fun r19 => X.ok ((t4 tT (tL tI) tI tI) (x17, x8.1, r18.1, r19.1), r19.2)) else X.bind (X.ofO (at_  [([115, 116, 97, 110, 100, 115] : List Nat), ([102, 97, 108, 108, 115] : List Nat)] (r1.1 - 6))) fun x20 => X.bind (p__law_great x8.2) fun r21 => X.bind (p__law_take r21.2 2) fun r22 => X.bind (X.ofO (at_  x8.1 0)) fun x23 => X.bind (X.ofO (mulO  r22.1 (b2i (decide (3 < x23))))) fun x24 => X.ok ((t3 tT (tL tI) tI) (x20, x8.1, (r21.1 - x24)), r22.2)
theorem t__law_saying (a_pile_here : List Int) : TF (m__law_saying [(eO (eD tI)) a_pile_here]) (p__law_saying a_pile_here) (fun r => (eD tD) r.1) (fun r => [some ((eO (eD tI)) r.2)]) (xIo 0) :=
  tf_fn rfl (s_asg (x_fz (x_K1 (xa_io rfl (xa_own (x_val (e := _) (a := (eD tI) 8) rfl (xa_nil (k_call1 rfl rfl rfl (aw_io (aw_own aw_nil)) (t__law_take a_pile_here 8) rfl (fun _ => rfl) (fun _ => rfl) (fun _ ⟨v, h⟩ => ⟨v, _, h, rfl, ⟨rfl, _, rfl⟩⟩) fun r1 => (o_val (fzV fz_sh _) (k_set rfl (n_env (e' := ([some ((eO (eD tI)) r1.2), some ((eD tI) r1.1), none, none, none] : AM.Env)) rfl (s_asg (x_fz (x_op2 (x_val (e := _) (a := (eD tI) 1) rfl (x_K1 (xa_io rfl (xa_own (x_val (e := _) (a := (eD tI) 6) rfl (xa_nil (k_call1 rfl rfl rfl (aw_io (aw_own aw_nil)) (t__law_take r1.2 6) rfl (fun _ => rfl) (fun _ => rfl) (fun _ ⟨v, h⟩ => ⟨v, _, h, rfl, ⟨rfl, _, rfl⟩⟩) fun r2 => (o_val (add_I _ _) (o_val (fzV fz_sh _) (k_set rfl (n_env (e' := ([some ((eO (eD tI)) r2.2), some ((eD tI) r1.1), some ((eD tI) (1 + r2.1)), none, none] : AM.Env)) rfl (s_asg (x_cs (x_itR (x_cons (x_val rfl (x_nil (o_par (rg_1 _) fun x3 => (k_cs (en := (eD tI)) (fun (s4 : List Int) (o5 : Unit) => ([some ((eO (eD tI)) s4), some ((eD tI) r1.1), some ((eD tI) (1 + r2.1)), none, none] : AM.Env)) (fun (s4 : List Int) (o5 : Option W × Unit) => ([some ((eO (eD tI)) s4), some ((eD tI) r1.1), some ((eD tI) (1 + r2.1)), none, o5.1] : AM.Env)) (fun x6 s4 o5 => ([some ((eO (eD tI)) s4), some ((eD tI) r1.1), some ((eD tI) (1 + r2.1)), none, some ((eD tI) x6)] : AM.Env)) r2.2 () rfl rfl (fun _ _ _ => rfl) (fun _ _ => ⟨(), rfl⟩) (fun x6 s4 o5 => (x_all (x_K1 (xa_io rfl (xa_nil (k_call1n rfl rfl rfl (aw_io aw_nil) (t__law_signed s4) rfl (fun _ => rfl) (fun _ => rfl) fun r7 => (e_end (_, ()) rfl rfl))))))) fun x8 _ => (k_set rfl (n_env (e' := ([some ((eO (eD tI)) x8.2), some ((eD tI) r1.1), some ((eD tI) (1 + r2.1)), some ((eO (eD tI)) x8.1), none] : AM.Env)) rfl (s_if (x_B (x_op2 (x_val rfl (x_val (e := _) (a := (eD tI) 2) rfl (o_val (lt_I _ _) (o_val (bl_B _) (k_if (s_ret (x_fz (x_tup (x_cons (x_ix (x_lst (x_cons (x_str (l := ([108, 105, 107, 101] : List Nat)) (by rfl) (x_cons (x_str (l := ([117, 110, 108, 105, 107, 101] : List Nat)) (by rfl) (x_nil (o_val (lst_2 (e := (eD tT))) (x_val rfl (o_par (ix_ol _ _) fun x9 => (x_cons (x_val rfl (x_cons (x_cs (x_itR (x_cons (x_val rfl (x_nil (o_par (rg_1 _) fun x10 => (k_cs (en := (eD tI)) (fun (s11 : List Int) (o12 : Unit) => ([some ((eO (eD tI)) s11), some ((eD tI) r1.1), some ((eD tI) (1 + r2.1)), none, none] : AM.Env)) (fun (s11 : List Int) (o12 : Option W × Unit) => ([some ((eO (eD tI)) s11), some ((eD tI) r1.1), some ((eD tI) (1 + r2.1)), none, o12.1] : AM.Env)) (fun x13 s11 o12 => ([some ((eO (eD tI)) s11), some ((eD tI) r1.1), some ((eD tI) (1 + r2.1)), none, some ((eD tI) x13)] : AM.Env)) x8.2 () rfl rfl (fun _ _ _ => rfl) (fun _ _ => ⟨(), rfl⟩) (fun x13 s11 o12 => (x_all (x_K1 (xa_io rfl (xa_nil (k_call1n rfl rfl rfl (aw_io aw_nil) (t__law_signed s11) rfl (fun _ => rfl) (fun _ => rfl) fun r14 => (e_end (_, ()) rfl rfl))))))) fun x15 _ => (x_nil (o_val (a := (o3 (eD tT) (eO (eD tI)) (eO (eD tI))) (x9, x8.1, x15.1)) rfl (o_val (fzV (fz_o3 fz_sh (fz_ol fz_sh) (fz_ol fz_sh)) _) (n_ret ⟨rfl, rfl, rfl⟩)))))))))))))))))))))))))))) (s_nx (s_if (x_B (x_op2 (x_val rfl (x_val (e := _) (a := (eD tI) 4) rfl (o_val (lt_I _ _) (o_val (bl_B _) (k_if (s_ret (x_fz (x_tup (x_cons (x_ix (x_lst (x_cons (x_str (l := ([99, 108, 101, 97, 114] : List Nat)) (by rfl) (x_cons (x_str (l := ([98, 97, 114, 114, 101, 100] : List Nat)) (by rfl) (x_nil (o_val (lst_2 (e := (eD tT))) (x_op2 (x_val rfl (x_val (e := _) (a := (eD tI) 2) rfl (o_val (sub_I _ _) (o_par (ix_ol _ _) fun x16 => (x_cons (x_val rfl (x_nil (o_val (a := (o2 (eD tT) (eO (eD tI))) (x16, x8.1)) rfl (o_val (fzV (fz_o2 fz_sh (fz_ol fz_sh)) _) (n_ret ⟨rfl, rfl, rfl⟩))))))))))))))))))))))) (s_nx (s_if (x_B (x_op2 (x_val rfl (x_val (e := _) (a := (eD tI) 6) rfl (o_val (lt_I _ _) (o_val (bl_B _) (k_if (s_ret (x_fz (x_tup (x_cons (x_ix (x_lst (x_cons (x_str (l := ([100, 114, 97, 119, 115] : List Nat)) (by rfl) (x_cons (x_str (l := ([100, 114, 97, 119, 115, 32, 108, 101, 115, 115] : List Nat)) (by rfl) (x_nil (o_val (lst_2 (e := (eD tT))) (x_op2 (x_val rfl (x_val (e := _) (a := (eD tI) 4) rfl (o_val (sub_I _ _) (o_par (ix_ol _ _) fun x17 => (x_cons (x_val rfl (x_cons (x_K1 (xa_io rfl (xa_nil (k_call1 rfl rfl rfl (aw_io aw_nil) (t__law_great x8.2) rfl (fun _ => rfl) (fun _ => rfl) (fun _ ⟨v, h⟩ => ⟨v, _, h, rfl, ⟨rfl, _, rfl⟩⟩) fun r18 => (x_cons (x_K1 (xa_io rfl (xa_nil (k_call1 rfl rfl rfl (aw_io aw_nil) (t__law_signed r18.2) rfl (fun _ => rfl) (fun _ => rfl) (fun _ ⟨v, h⟩ => ⟨v, _, h, rfl, ⟨rfl, _, rfl⟩⟩) fun r19 => (x_nil (o_val (a := (o4 (eD tT) (eO (eD tI)) (eD tI) (eD tI)) (x17, x8.1, r18.1, r19.1)) rfl (o_val (fzV (fz_o4 fz_sh (fz_ol fz_sh) fz_sh fz_sh) _) (n_ret ⟨rfl, rfl, rfl⟩))))))))))))))))))))))))))))))))) (s_nx (s_last (s_ret (x_fz (x_tup (x_cons (x_ix (x_lst (x_cons (x_str (l := ([115, 116, 97, 110, 100, 115] : List Nat)) (by rfl) (x_cons (x_str (l := ([102, 97, 108, 108, 115] : List Nat)) (by rfl) (x_nil (o_val (lst_2 (e := (eD tT))) (x_op2 (x_val rfl (x_val (e := _) (a := (eD tI) 6) rfl (o_val (sub_I _ _) (o_par (ix_ol _ _) fun x20 => (x_cons (x_val (frzV (fz_ol fz_sh) rfl) (x_cons (x_op2 (x_K1 (xa_io rfl (xa_nil (k_call1 rfl rfl rfl (aw_io aw_nil) (t__law_great x8.2) rfl (fun _ => rfl) (fun _ => rfl) (fun _ ⟨v, h⟩ => ⟨v, _, h, rfl, ⟨rfl, _, rfl⟩⟩) fun r21 => (x_op2 (x_K1 (xa_io rfl (xa_own (x_val (e := _) (a := (eD tI) 2) rfl (xa_nil (k_call1 rfl rfl rfl (aw_io (aw_own aw_nil)) (t__law_take r21.2 2) rfl (fun _ => rfl) (fun _ => rfl) (fun _ ⟨v, h⟩ => ⟨v, _, h, rfl, ⟨rfl, _, rfl⟩⟩) fun r22 => (x_bi (x_cons (x_op2 (x_ix (x_val rfl (x_val (e := _) (a := (eD tI) 0) rfl (o_par (ix_sh _ _) fun x23 => (x_val (e := _) (a := (eD tI) 3) rfl (o_val (gt_I _ _) (x_nil (o_val (int_B _) (o_par (mul_I _ _) fun x24 => (o_val (sub_I _ _) (x_nil (o_val (a := (eD (t3 tT (tL tI) tI)) (x20, x8.1, (r21.1 - x24))) rfl (o_val (fzV fz_sh _) (n_ret ⟨rfl, rfl, rfl⟩))))))))))))))))))))))))))))))))))))))))))))))))))))))))))))))))))))))))))))))))))))))))))))))))))))))))))))))))
def p__law_numbers_text (a_numbers : List Int) : X (List Nat) :=
  X.bind (X.lcX (fun (x1 : Int) => X.ok true) (fun (x1 : Int) => X.bind (X.ofO (strT  x1)) fun x3 => X.ok x3) a_numbers) fun x2 => X.bind (X.ofO (joinT ([32] : List Nat) x2)) fun x4 => X.ok x4
theorem t__law_numbers_text (a_numbers : List Int) : TF (m__law_numbers_text [(eD (tL tI)) a_numbers]) (p__law_numbers_text a_numbers) (fun r => (eD tT) r) (fun r => [none]) xAny :=
  tf_fn rfl (s_last (s_ret (x_ms (x_str (l := ([32] : List Nat)) (by rfl) (o_val (str_of_T _) (x_cons (x_cp (x_itL (x_val rfl (o_val (le_sh _) (k_cpX (en := (eD tT)) rfl (fun _ => rfl) (fun (x1 : Int) => e_true) (fun (x1 : Int) => (x_all (x_bi (x_cons (x_val rfl (x_nil (o_par (str_T _) fun x3 => (e_end () rfl rfl)))))))) fun x2 => (x_nil (o_par (join_T le_ol _ _) fun x4 => (n_ret ⟨rfl, rfl, rfl⟩))))))))))))))
def p__law_saying_text (a_saying_here : D) : X (List Nat) :=
  X.bind (X.ofO (wsD (gIx (((eD tD) a_saying_here), ((eD tI) 0))))) fun x1 => X.bind (X.ofO (asT x1)) fun x2 => X.bind (X.ofO (catT  x2 ([32] : List Nat))) fun x3 => X.bind (X.ofO (wsD (gIx (((eD tD) a_saying_here), ((eD tI) 1))))) fun x4 => X.bind (X.ofO ((asL asI) x4)) fun x5 => X.bind (p__law_numbers_text x5) fun r6 => X.bind (X.ofO (catT  x3 r6)) fun x7 => X.bind (X.ofO (wsD (gIx (((eD tD) a_saying_here), ((eD tI) 0))))) fun x8 => X.bind (X.ofO (wsB (gIn (((eD tD) x8), ((eD (t2 tT tT)) (([108, 105, 107, 101] : List Nat), ([117, 110, 108, 105, 107, 101] : List Nat))))))) fun x9 => if x9 = true then (X.bind (X.ofO (catT  x7 ([32, 47, 32] : List Nat))) fun x10 => X.bind (X.ofO (wsD (gIx (((eD tD) a_saying_here), ((eD tI) 2))))) fun x11 => X.bind (X.ofO ((asL asI) x11)) fun x12 => X.bind (p__law_numbers_text x12) fun r13 => X.bind (X.ofO (catT  x10 r13)) fun x14 => X.ok x14) else X.bind (X.ofO (wsD (gIx (((eD tD) a_saying_here), ((eD tI) 0))))) fun x15 => X.bind (X.ofO (wsB (gIn (((eD tD) x15), ((eD (t2 tT tT)) (([100, 114, 97, 119, 115] : List Nat), ([100, 114, 97, 119, 115, 32, 108, 101, 115, 115] : List Nat))))))) fun x16 => if x16 = true then (X.bind (X.ofO (catT  x7 ([32, 97, 116, 32] : List Nat))) fun x17 => X.bind (X.ofO (wsD (gIx (((eD tD) a_saying_here), ((eD tI) 2))))) fun x18 => X.bind (X.ofO (asI x18)) fun x19 => X.bind (X.ofO (strT  x19)) fun x20 => X.bind (X.ofO (catT  x17 x20)) fun x21 => X.bind (X.ofO (catT  x21 ([32, 98, 121, 32] : List Nat))) fun x22 => X.bind (X.ofO (wsD (gIx (((eD tD) a_saying_here), ((eD tI) 3))))) fun x23 => X.bind (X.ofO (asI x23)) fun x24 => X.bind (X.ofO (strT  x24)) fun x25 => X.bind (X.ofO (catT  x22 x25)) fun x26 => X.ok x26) else X.bind (X.ofO (wsD (gIx (((eD tD) a_saying_here), ((eD tI) 0))))) fun x27 => X.bind (X.ofO (wsB (gIn (((eD tD) x27), ((eD (t2 tT tT)) (([115, 116, 97, 110, 100, 115] : List Nat), ([102, 97, 108, 108, 115] : List Nat))))))) fun x28 => if x28 = true then (X.bind (X.ofO (catT  x7 ([32, 98, 121, 32] : List Nat))) fun x29 => X.bind (X.ofO (wsD (gIx (((eD tD) a_saying_here), ((eD tI) 2))))) fun x30 => X.bind (X.ofO (asI x30)) fun x31 => X.bind (X.ofO (strT  x31)) fun x32 => X.bind (X.ofO (catT  x29 x32)) fun x33 => X.ok x33) else X.ok x7
theorem t__law_saying_text (a_saying_here : D) : TF (m__law_saying_text [(eD tD) a_saying_here]) (p__law_saying_text a_saying_here) (fun r => (eD tT) r) (fun r => [none]) xAny :=
  tf_fn rfl (s_asg (x_fz (x_op2 (x_op2 (x_ix (x_val rfl (x_val (e := _) (a := (eD tI) 0) rfl (o_imp (fun _ h => wsD_ok h) fun x1 => (x_str (l := ([32] : List Nat)) (by rfl) (k_as2a asT_ok fun x2 => (o_par (cat_T _ _) fun x3 => (x_K0 (xa_own (x_fz (x_ix (x_val rfl (x_val (e := _) (a := (eD tI) 1) rfl (o_imp (fun _ h => wsD_ok h) fun x4 => (o_val (fzV fz_sh _) (xa_nil (k_asR (asL_ok asI_ok) fun x5 hx5 => (k_call0 (aw_ownE (asW hx5) aw_nil) (t__law_numbers_text x5) rfl rfl ⟨rfl, trivial⟩ fun r6 => (o_par (cat_T _ _) fun x7 => (o_val (fzV fz_sh _) (k_set rfl (n_env (e' := ([some ((eD tD) a_saying_here), some ((eD tT) x7)] : AM.Env)) rfl (s_if (x_B (x_op2 (x_ix (x_val rfl (x_val (e := _) (a := (eD tI) 0) rfl (o_imp (fun _ h => wsD_ok h) fun x8 => (x_tup (x_cons (x_str (l := ([108, 105, 107, 101] : List Nat)) (by rfl) (x_cons (x_str (l := ([117, 110, 108, 105, 107, 101] : List Nat)) (by rfl) (x_nil (o_val (a := (eD (t2 tT tT)) (([108, 105, 107, 101] : List Nat), ([117, 110, 108, 105, 107, 101] : List Nat))) rfl (o_imp (fun _ h => wsB_ok h) fun x9 => (o_val (bl_B _) (k_if (s_ret (x_op2 (x_op2 (x_val rfl (x_str (l := ([32, 47, 32] : List Nat)) (by rfl) (o_par (cat_T _ _) fun x10 => (x_K0 (xa_own (x_fz (x_ix (x_val rfl (x_val (e := _) (a := (eD tI) 2) rfl (o_imp (fun _ h => wsD_ok h) fun x11 => (o_val (fzV fz_sh _) (xa_nil (k_asR (asL_ok asI_ok) fun x12 hx12 => (k_call0 (aw_ownE (asW hx12) aw_nil) (t__law_numbers_text x12) rfl rfl ⟨rfl, trivial⟩ fun r13 => (o_par (cat_T _ _) fun x14 => (n_ret ⟨rfl, rfl, rfl⟩))))))))))))))))))) (s_nx (s_if (x_B (x_op2 (x_ix (x_val rfl (x_val (e := _) (a := (eD tI) 0) rfl (o_imp (fun _ h => wsD_ok h) fun x15 => (x_tup (x_cons (x_str (l := ([100, 114, 97, 119, 115] : List Nat)) (by rfl) (x_cons (x_str (l := ([100, 114, 97, 119, 115, 32, 108, 101, 115, 115] : List Nat)) (by rfl) (x_nil (o_val (a := (eD (t2 tT tT)) (([100, 114, 97, 119, 115] : List Nat), ([100, 114, 97, 119, 115, 32, 108, 101, 115, 115] : List Nat))) rfl (o_imp (fun _ h => wsB_ok h) fun x16 => (o_val (bl_B _) (k_if (s_ret (x_op2 (x_op2 (x_op2 (x_op2 (x_val rfl (x_str (l := ([32, 97, 116, 32] : List Nat)) (by rfl) (o_par (cat_T _ _) fun x17 => (x_bi (x_cons (x_ix (x_val rfl (x_val (e := _) (a := (eD tI) 2) rfl (o_imp (fun _ h => wsD_ok h) fun x18 => (x_nil (k_asb asI_ok fun x19 => (o_par (str_T _) fun x20 => (o_par (cat_T _ _) fun x21 => (x_str (l := ([32, 98, 121, 32] : List Nat)) (by rfl) (o_par (cat_T _ _) fun x22 => (x_bi (x_cons (x_ix (x_val rfl (x_val (e := _) (a := (eD tI) 3) rfl (o_imp (fun _ h => wsD_ok h) fun x23 => (x_nil (k_asb asI_ok fun x24 => (o_par (str_T _) fun x25 => (o_par (cat_T _ _) fun x26 => (n_ret ⟨rfl, rfl, rfl⟩))))))))))))))))))))))))))))))) (s_nx (s_if (x_B (x_op2 (x_ix (x_val rfl (x_val (e := _) (a := (eD tI) 0) rfl (o_imp (fun _ h => wsD_ok h) fun x27 => (x_tup (x_cons (x_str (l := ([115, 116, 97, 110, 100, 115] : List Nat)) (by rfl) (x_cons (x_str (l := ([102, 97, 108, 108, 115] : List Nat)) (by rfl) (x_nil (o_val (a := (eD (t2 tT tT)) (([115, 116, 97, 110, 100, 115] : List Nat), ([102, 97, 108, 108, 115] : List Nat))) rfl (o_imp (fun _ h => wsB_ok h) fun x28 => (o_val (bl_B _) (k_if (s_ret (x_op2 (x_op2 (x_val rfl (x_str (l := ([32, 98, 121, 32] : List Nat)) (by rfl) (o_par (cat_T _ _) fun x29 => (x_bi (x_cons (x_ix (x_val rfl (x_val (e := _) (a := (eD tI) 2) rfl (o_imp (fun _ h => wsD_ok h) fun x30 => (x_nil (k_asb asI_ok fun x31 => (o_par (str_T _) fun x32 => (o_par (cat_T _ _) fun x33 => (n_ret ⟨rfl, rfl, rfl⟩))))))))))))))))) (s_nx (s_last (s_ret (x_val rfl (n_ret ⟨rfl, rfl, rfl⟩))))))))))))))))))))))))))))))))))))))))))))))))))))))))))))))))))))))))))))))))))))
def p_show_numbers (a_numbers : D) : X (List Nat) :=
  X.bind (X.ofO (dEls a_numbers)) fun x1 => X.bind (X.lcX (fun (x2 : D) => X.ok true) (fun (x2 : D) => X.bind (X.ofO (asI x2)) fun x4 => X.bind (X.ofO (strT  x4)) fun x5 => X.ok x5) x1) fun x3 => X.bind (X.ofO (joinT ([32] : List Nat) x3)) fun x6 => X.ok x6
theorem t_show_numbers (a_numbers : D) : TF (m_show_numbers [(eD tD) a_numbers]) (p_show_numbers a_numbers) (fun r => (eD tT) r) (fun r => [none]) xAny :=
  tf_fn rfl (s_last (s_ret (x_ms (x_str (l := ([32] : List Nat)) (by rfl) (o_val (str_of_T _) (x_cons (x_cp (x_itL (x_val rfl (o_imp (els_D _) fun x1 => (k_cpX (en := (eD tT)) rfl (fun _ => rfl) (fun (x2 : D) => e_true) (fun (x2 : D) => (x_all (x_bi (x_cons (x_val rfl (x_nil (k_asb asI_ok fun x4 => (o_par (str_T _) fun x5 => (e_end () rfl rfl))))))))) fun x3 => (x_nil (o_par (join_T le_ol _ _) fun x6 => (n_ret ⟨rfl, rfl, rfl⟩))))))))))))))
def p_show_saying (a_saying : D) : X (List Nat) :=
  X.bind (X.ofO (wsD (gIx (((eD tD) a_saying), ((eD tI) 0))))) fun x1 => X.bind (X.ofO (asT x1)) fun x2 => X.bind (X.ofO (catT  x2 ([32] : List Nat))) fun x3 => X.bind (X.ofO (wsD (gIx (((eD tD) a_saying), ((eD tI) 1))))) fun x4 => X.bind (p_show_numbers x4) fun r5 => X.bind (X.ofO (catT  x3 r5)) fun x6 => X.bind (X.ofO (wsD (gIx (((eD tD) a_saying), ((eD tI) 0))))) fun x7 => X.bind (X.ofO (wsB (gIn (((eD tD) x7), ((eD (t2 tT tT)) (([108, 105, 107, 101] : List Nat), ([117, 110, 108, 105, 107, 101] : List Nat))))))) fun x8 => if x8 = true then (X.bind (X.ofO (catT  x6 ([32, 47, 32] : List Nat))) fun x9 => X.bind (X.ofO (wsD (gIx (((eD tD) a_saying), ((eD tI) 2))))) fun x10 => X.bind (p_show_numbers x10) fun r11 => X.bind (X.ofO (catT  x9 r11)) fun x12 => X.ok x12) else X.bind (X.ofO (wsD (gIx (((eD tD) a_saying), ((eD tI) 0))))) fun x13 => X.bind (X.ofO (wsB (gIn (((eD tD) x13), ((eD (t2 tT tT)) (([99, 108, 101, 97, 114] : List Nat), ([98, 97, 114, 114, 101, 100] : List Nat))))))) fun x14 => if x14 = true then (X.ok x6) else X.bind (X.ofO (wsD (gIx (((eD tD) a_saying), ((eD tI) 0))))) fun x15 => X.bind (X.ofO (wsB (gIn (((eD tD) x15), ((eD (t2 tT tT)) (([115, 116, 97, 110, 100, 115] : List Nat), ([102, 97, 108, 108, 115] : List Nat))))))) fun x16 => if x16 = true then (X.bind (X.ofO (catT  x6 ([32, 98, 121, 32] : List Nat))) fun x17 => X.bind (X.ofO (wsD (gIx (((eD tD) a_saying), ((eD tI) 2))))) fun x18 => X.bind (X.ofO (asI x18)) fun x19 => X.bind (X.ofO (strT  x19)) fun x20 => X.bind (X.ofO (catT  x17 x20)) fun x21 => X.ok x21) else X.bind (X.ofO (catT  x6 ([32, 97, 116, 32] : List Nat))) fun x22 => X.bind (X.ofO (wsD (gIx (((eD tD) a_saying), ((eD tI) 2))))) fun x23 => X.bind (X.ofO (asI x23)) fun x24 => X.bind (X.ofO (strT  x24)) fun x25 => X.bind (X.ofO (catT  x22 x25)) fun x26 => X.bind (X.ofO (catT  x26 ([32, 98, 121, 32] : List Nat))) fun x27 => X.bind (X.ofO (wsD (gIx (((eD tD) a_saying), ((eD tI) 3))))) fun x28 => X.bind (X.ofO (asI x28)) fun x29 => X.bind (X.ofO (strT  x29)) fun x30 => X.bind (X.ofO (catT  x27 x30)) fun x31 => X.ok x31
theorem t_show_saying (a_saying : D) : TF (m_show_saying [(eD tD) a_saying]) (p_show_saying a_saying) (fun r => (eD tT) r) (fun r => [none]) xAny :=
  tf_fn rfl (s_asg (x_fz (x_op2 (x_op2 (x_ix (x_val rfl (x_val (e := _) (a := (eD tI) 0) rfl (o_imp (fun _ h => wsD_ok h) fun x1 => (x_str (l := ([32] : List Nat)) (by rfl) (k_as2a asT_ok fun x2 => (o_par (cat_T _ _) fun x3 => (x_K0 (xa_own (x_fz (x_ix (x_val rfl (x_val (e := _) (a := (eD tI) 1) rfl (o_imp (fun _ h => wsD_ok h) fun x4 => (o_val (fzV fz_sh _) (xa_nil (k_call0 (aw_own aw_nil) (t_show_numbers x4) rfl rfl ⟨rfl, trivial⟩ fun r5 => (o_par (cat_T _ _) fun x6 => (o_val (fzV fz_sh _) (k_set rfl (n_env (e' := ([some ((eD tD) a_saying), some ((eD tT) x6)] : AM.Env)) rfl (s_if (x_B (x_op2 (x_ix (x_val rfl (x_val (e := _) (a := (eD tI) 0) rfl (o_imp (fun _ h => wsD_ok h) fun x7 => (x_tup (x_cons (x_str (l := ([108, 105, 107, 101] : List Nat)) (by rfl) (x_cons (x_str (l := ([117, 110, 108, 105, 107, 101] : List Nat)) (by rfl) (x_nil (o_val (a := (eD (t2 tT tT)) (([108, 105, 107, 101] : List Nat), ([117, 110, 108, 105, 107, 101] : List Nat))) rfl (o_imp (fun _ h => wsB_ok h) fun x8 => (o_val (bl_B _) (k_if (s_ret (x_op2 (x_op2 (x_val rfl (x_str (l := ([32, 47, 32] : List Nat)) (by rfl) (o_par (cat_T _ _) fun x9 => (x_K0 (xa_own (x_fz (x_ix (x_val rfl (x_val (e := _) (a := (eD tI) 2) rfl (o_imp (fun _ h => wsD_ok h) fun x10 => (o_val (fzV fz_sh _) (xa_nil (k_call0 (aw_own aw_nil) (t_show_numbers x10) rfl rfl ⟨rfl, trivial⟩ fun r11 => (o_par (cat_T _ _) fun x12 => (n_ret ⟨rfl, rfl, rfl⟩)))))))))))))))))) (s_nx (s_if (x_B (x_op2 (x_ix (x_val rfl (x_val (e := _) (a := (eD tI) 0) rfl (o_imp (fun _ h => wsD_ok h) fun x13 => (x_tup (x_cons (x_str (l := ([99, 108, 101, 97, 114] : List Nat)) (by rfl) (x_cons (x_str (l := ([98, 97, 114, 114, 101, 100] : List Nat)) (by rfl) (x_nil (o_val (a := (eD (t2 tT tT)) (([99, 108, 101, 97, 114] : List Nat), ([98, 97, 114, 114, 101, 100] : List Nat))) rfl (o_imp (fun _ h => wsB_ok h) fun x14 => (o_val (bl_B _) (k_if (s_ret (x_val rfl (n_ret ⟨rfl, rfl, rfl⟩))) (s_nx (s_if (x_B (x_op2 (x_ix (x_val rfl (x_val (e := _) (a := (eD tI) 0) rfl (o_imp (fun _ h => wsD_ok h) fun x15 => (x_tup (x_cons (x_str (l := ([115, 116, 97, 110, 100, 115] : List Nat)) (by rfl) (x_cons (x_str (l := ([102, 97, 108, 108, 115] : List Nat)) (by rfl) (x_nil (o_val (a := (eD (t2 tT tT)) (([115, 116, 97, 110, 100, 115] : List Nat), ([102, 97, 108, 108, 115] : List Nat))) rfl (o_imp (fun _ h => wsB_ok h) fun x16 => (o_val (bl_B _) (k_if (s_ret (x_op2 (x_op2 (x_val rfl (x_str (l := ([32, 98, 121, 32] : List Nat)) (by rfl) (o_par (cat_T _ _) fun x17 => (x_bi (x_cons (x_ix (x_val rfl (x_val (e := _) (a := (eD tI) 2) rfl (o_imp (fun _ h => wsD_ok h) fun x18 => (x_nil (k_asb asI_ok fun x19 => (o_par (str_T _) fun x20 => (o_par (cat_T _ _) fun x21 => (n_ret ⟨rfl, rfl, rfl⟩))))))))))))))))) (s_nx (s_last (s_ret (x_op2 (x_op2 (x_op2 (x_op2 (x_val rfl (x_str (l := ([32, 97, 116, 32] : List Nat)) (by rfl) (o_par (cat_T _ _) fun x22 => (x_bi (x_cons (x_ix (x_val rfl (x_val (e := _) (a := (eD tI) 2) rfl (o_imp (fun _ h => wsD_ok h) fun x23 => (x_nil (k_asb asI_ok fun x24 => (o_par (str_T _) fun x25 => (o_par (cat_T _ _) fun x26 => (x_str (l := ([32, 98, 121, 32] : List Nat)) (by rfl) (o_par (cat_T _ _) fun x27 => (x_bi (x_cons (x_ix (x_val rfl (x_val (e := _) (a := (eD tI) 3) rfl (o_imp (fun _ h => wsD_ok h) fun x28 => (x_nil (k_asb asI_ok fun x29 => (o_par (str_T _) fun x30 => (o_par (cat_T _ _) fun x31 => (n_ret ⟨rfl, rfl, rfl⟩)))))))))))))))))))))))))))))))))))))))))))))))))))))))))))))))))))))))))))))))))))))))))))))))))))))))))))))))
def p_halves (a_text : List Nat) (a_mark : List Nat) : X ((List Nat × List Nat)) :=
  X.bind (X.ofO (splitT a_text a_mark)) fun x1 => if (!decide (((x1.length : Nat) : Int) = 2)) = true then (X.ex ⟨"NoText", []⟩) else X.bind (X.ofO (at_  x1 0)) fun x2 => X.bind (X.ofO (at_  x1 1)) fun x3 => X.ok (x2, x3)
theorem t_halves (a_text : List Nat) (a_mark : List Nat) : TF (m_halves [(eD tT) a_text, (eD tT) a_mark]) (p_halves a_text a_mark) (fun r => (eD (t2 tT tT)) r) (fun r => [none, none]) xAny :=
  tf_fn rfl (s_asg (x_fz (x_ms (x_val rfl (o_val (str_of_T _) (x_cons (x_val rfl (x_nil (o_imp (split_T _ _) fun x1 => (o_val (fzV (fz_ol fz_sh) _) (k_set rfl (n_env (e' := ([some ((eD tT) a_text), some ((eD tT) a_mark), some ((eD (tL tT)) x1)] : AM.Env)) rfl (s_if (x_B (x_op2 (x_bi (x_cons (x_val rfl (x_nil (o_val (len_sh _) (x_val (e := _) (a := (eD tI) 2) rfl (o_val (gNe_p pl_I rfl fz_sh fz_sh _ _) (o_val (bl_B _) (k_if (s_raise ⟨rfl, trivial⟩) (s_nx (s_last (s_ret (x_tup (x_cons (x_ix (x_val rfl (x_val (e := _) (a := (eD tI) 0) rfl (o_par (ix_sh _ _) fun x2 => (x_cons (x_ix (x_val rfl (x_val (e := _) (a := (eD tI) 1) rfl (o_par (ix_sh _ _) fun x3 => (x_nil (o_val (a := (eD (t2 tT tT)) (x2, x3)) rfl (n_ret ⟨rfl, rfl, rfl⟩)))))))))))))))))))))))))))))))))))))))))
def p_number_in (a_word : List Nat) : X Int :=
  X.bind (X.ofO (cutT  a_word none (some 1))) fun x1 => X.bind (X.ofO (eqT x1 ([45] : List Nat))) fun x2 => X.bind (if x2 = true then (X.bind (X.ofO (cutT  a_word (some 1) none)) fun x3 => X.ok x3) else X.ok a_word) fun x4 => X.bind (X.ofO (eqT x4 ([] : List Nat))) fun x5 => X.bind (if x5 = true then X.ok true else X.bind (X.ofO (lenT  x4)) fun x6 => X.bind (if (decide (40 < x6)) = true then X.ok true else X.bind (X.ofO (ixT  x4 0)) fun x7 => X.bind (X.ofO (eqT x7 ([48] : List Nat))) fun x8 => X.bind (if x8 = true then (X.bind (X.ofO (neT a_word ([48] : List Nat))) fun x9 => X.ok x9) else X.ok false) fun b10 => X.ok b10) fun b11 => X.ok b11) fun b12 => if b12 = true then (X.ex ⟨"NoText", []⟩) else X.bind (X.forP (fun (x13 : List Nat) (s14 : Unit) => X.bind (X.ofO (notInT  x13 ([48, 49, 50, 51, 52, 53, 54, 55, 56, 57] : List Nat))) fun x16 => if x16 = true then (X.ex ⟨"NoText", []⟩) else X.ok ()) (sgns x4) ()) fun (s14 : Unit) => X.bind (X.ofO (intT  a_word)) fun x17 => X.ok x17
theorem t_number_in (a_word : List Nat) : TF (m_number_in [(eD tT) a_word]) (p_number_in a_word) (fun r => (eD tI) r) (fun r => [none]) xAny :=
  tf_fn rfl (s_asg (x_fz (x_if (x_B (x_op2 (x_sl (x_val rfl (x_noPart (x_part (x_val (e := _) (a := (eD tI) 1) rfl (o_val rfl (o_par (sl_T _ _ _) fun x1 => (x_str (l := ([45] : List Nat)) (by rfl) (o_imp (eq_T _ _) fun x2 => (o_val (bl_B _) (k_ifX (eD tT) (fun (_ : List Nat) (_ : Unit) => ([some ((eD tT) a_word), none, none] : AM.Env)) (x_all (x_fz (x_sl (x_val rfl (x_part (x_val (e := _) (a := (eD tI) 1) rfl (o_val rfl (x_noPart (o_par (sl_T _ _ _) fun x3 => (o_val (fzV fz_sh _) (e_end () rfl rfl))))))))))) (x_all (x_val rfl (e_end () rfl rfl))) fun x4 _ => (o_val (fzV fz_sh _) (k_set rfl (n_env (e' := ([some ((eD tT) a_word), some ((eD tT) x4), none] : AM.Env)) rfl (s_if (x_or (x_B (x_op2 (x_val rfl (x_str (l := ([] : List Nat)) (by rfl) (o_imp (eq_T _ _) fun x5 => (o_val (bl_B _) (k_orX id (fun (_ : Bool) (_ : Unit) => ([some ((eD tT) a_word), some ((eD tT) x4), none] : AM.Env)) true () (x_all (x_or (x_B (x_op2 (x_bi (x_cons (x_val rfl (x_nil (o_par (len_T _) fun x6 => (x_val (e := _) (a := (eD tI) 40) rfl (o_val (gt_I _ _) (o_val (bl_B _) (k_orX id (fun (_ : Bool) (_ : Unit) => ([some ((eD tT) a_word), some ((eD tT) x4), none] : AM.Env)) true () (x_all (x_and (x_B (x_op2 (x_ix (x_val rfl (x_val (e := _) (a := (eD tI) 0) rfl (o_par (ix_T _ _) fun x7 => (x_str (l := ([48] : List Nat)) (by rfl) (o_imp (eq_T _ _) fun x8 => (o_val (bl_B _) (k_andX id (fun (_ : Bool) (_ : Unit) => ([some ((eD tT) a_word), some ((eD tT) x4), none] : AM.Env)) false () (x_all (x_B (x_op2 (x_val rfl (x_str (l := ([48] : List Nat)) (by rfl) (o_imp (ne_T _ _) fun x9 => (o_val (bl_B _) (e_end () rfl rfl)))))))) rfl rfl fun b10 _ => (e_end () rfl rfl))))))))))))) rfl rfl fun b11 _ => (e_end () rfl rfl)))))))))))))) rfl rfl fun b12 _ => (k_if (s_raise ⟨rfl, trivial⟩) (s_nx (s_for (x_itS (x_val rfl (o_val (signs_T _) (k_for (fun (s14 : Unit) (o15 : Option W × Unit) => ([some ((eD tT) a_word), some ((eD tT) x4), o15.1] : AM.Env)) () (_, ()) rfl rfl (fun x13 s14 o15 => (k_set rfl (s_last (s_if (x_B (x_op2 (x_val rfl (x_str (l := ([48, 49, 50, 51, 52, 53, 54, 55, 56, 57] : List Nat)) (by rfl) (o_par (notIn_T _ _) fun x16 => (o_val (bl_B _) (k_if (s_raise ⟨rfl, trivial⟩) (s_nx (n_go (_, ()) rfl))))))))))))) fun s14 o15 => (n_env (e' := ([some ((eD tT) a_word), some ((eD tT) x4), o15.1] : AM.Env)) rfl (s_last (s_ret (x_bi (x_cons (x_val rfl (x_nil (o_par (int_T _) fun x17 => (n_ret ⟨rfl, rfl, rfl⟩))))))))))))))))))))))))))))))))))))))))))))
def p_numbers_in (a_text : List Nat) : X (List Int) :=
  X.bind (X.ofO (splitT a_text ([32] : List Nat))) fun x1 => if (decide (6 < ((x1.length : Nat) : Int))) = true then (X.ex ⟨"NoText", []⟩) else X.bind (X.lcX (fun (x2 : List Nat) => X.ok true) (fun (x2 : List Nat) => X.bind (p_number_in x2) fun r4 => X.ok r4) x1) fun x3 => X.ok x3
theorem t_numbers_in (a_text : List Nat) : TF (m_numbers_in [(eD tT) a_text]) (p_numbers_in a_text) (fun r => (eO (eD tI)) r) (fun r => [none]) xAny :=
  tf_fn rfl (s_asg (x_fz (x_ms (x_val rfl (o_val (str_of_T _) (x_cons (x_str (l := ([32] : List Nat)) (by rfl) (x_nil (o_imp (split_T _ _) fun x1 => (o_val (fzV (fz_ol fz_sh) _) (k_set rfl (n_env (e' := ([some ((eD tT) a_text), some ((eD (tL tT)) x1), none] : AM.Env)) rfl (s_if (x_B (x_op2 (x_bi (x_cons (x_val rfl (x_nil (o_val (len_sh _) (x_val (e := _) (a := (eD tI) 6) rfl (o_val (gt_I _ _) (o_val (bl_B _) (k_if (s_raise ⟨rfl, trivial⟩) (s_nx (s_last (s_ret (x_cpX (x_itL (x_val rfl (o_val (le_sh _) (k_cpY (en := (eD tI)) rfl (fun _ => rfl) (fun (x2 : List Nat) => e_true) (fun (x2 : List Nat) => (x_all (x_K0 (xa_own (x_val rfl (xa_nil (k_call0 (aw_own aw_nil) (t_number_in x2) rfl rfl rfl fun r4 => (e_end () rfl rfl)))))))) (fun _ => ⟨rfl, trivial⟩) fun x3 => (n_ret ⟨rfl, rfl, rfl⟩)))))))))))))))))))))))))))))))))
def p_number_from (a_word : List Nat) (a_least : Int) : X Int :=
  X.bind (p_number_in a_word) fun r1 => if (decide (r1 < a_least)) = true then (X.ex ⟨"NoText", []⟩) else X.ok r1
theorem t_number_from (a_word : List Nat) (a_least : Int) : TF (m_number_from [(eD tT) a_word, (eD tI) a_least]) (p_number_from a_word a_least) (fun r => (eD tI) r) (fun r => [none, none]) xAny :=
  tf_fn rfl (s_asg (x_K0 (xa_own (x_val rfl (xa_nil (k_call0 (aw_own aw_nil) (t_number_in a_word) rfl rfl ⟨rfl, trivial⟩ fun r1 => (k_set rfl (n_env (e' := ([some ((eD tT) a_word), some ((eD tI) a_least), some ((eD tI) r1)] : AM.Env)) rfl (s_if (x_B (x_op2 (x_val rfl (x_val rfl (o_val (lt_I _ _) (o_val (bl_B _) (k_if (s_raise ⟨rfl, trivial⟩) (s_nx (s_last (s_ret (x_val rfl (n_ret ⟨rfl, rfl, rfl⟩)))))))))))))))))))))
def p_saying_in (a_text : List Nat) (a_dues_in : Unit) : X AM.W :=
  X.bind (X.ofO (partT a_text ([32] : List Nat))) fun x1 => X.bind (X.ofO (wsB (gIn (((eD tT) x1.1), ((eD (t2 tT tT)) (([108, 105, 107, 101] : List Nat), ([117, 110, 108, 105, 107, 101] : List Nat))))))) fun x2 => if x2 = true then (X.bind (p_halves x1.2.2 ([32, 47, 32] : List Nat)) fun r3 => X.bind (X.lcX (fun (x4 : List Nat) => X.ok true) (fun (x4 : List Nat) => X.bind (p_numbers_in x4) fun r6 => X.ok r6) [r3.1, r3.2]) fun x5 => X.bind (X.ofO (un2 x5)) fun x7 => if (true && (true && (!decide (((x7.1.length : Nat) : Int) = ((x7.2.length : Nat) : Int))))) = true then (X.ex ⟨"NoText", []⟩) else X.ok ((o3 (eD tT) (eO (eD tI)) (eO (eD tI))) (x1.1, x7.1, x7.2))) else X.bind (X.ofO (wsB (gIn (((eD tT) x1.1), ((eD (t2 tT tT)) (([99, 108, 101, 97, 114] : List Nat), ([98, 97, 114, 114, 101, 100] : List Nat))))))) fun x8 => if x8 = true then (X.bind (p_numbers_in x1.2.2) fun r9 => X.ok ((o2 (eD tT) (eO (eD tI))) (x1.1, r9))) else X.bind (X.ofO (splitT x1.2.2 ([32] : List Nat))) fun x10 => X.bind (X.ofO (wsB (gIn (((eD tT) x1.1), ((eD (t2 tT tT)) (([115, 116, 97, 110, 100, 115] : List Nat), ([102, 97, 108, 108, 115] : List Nat))))))) fun x11 => X.bind (if x11 = true then (X.bind (if (decide (2 < ((x10.length : Nat) : Int))) = true then (X.bind (X.ofO (at_  x10 (-2))) fun x12 => X.bind (X.ofO (eqT x12 ([98, 121] : List Nat))) fun x13 => X.ok x13) else X.ok false) fun b14 => X.ok b14) else X.ok false) fun b15 => if b15 = true then (X.bind (X.ofO (joinT ([32] : List Nat) (cutL x10 none (some (-2))))) fun x16 => X.bind (p_numbers_in x16) fun r17 => X.bind (X.ofO (at_  x10 (-1))) fun x18 => X.bind (p_number_from x18 (-1)) fun r19 => X.ok ((o3 (eD tT) (eO (eD tI)) (eD tI)) (x1.1, r17, r19))) else X.bind (X.ofO (neT x1.1 ([100, 114, 97, 119, 115] : List Nat))) fun x20 => X.bind (if x20 = true then X.ok true else X.bind (if (decide (((x10.length : Nat) : Int) < 5)) = true then X.ok true else X.bind (X.ofO (at_  x10 (-4))) fun x21 => X.bind (X.ofO (neT x21 ([97, 116] : List Nat))) fun x22 => X.bind (if x22 = true then X.ok true else X.bind (X.ofO (at_  x10 (-2))) fun x23 => X.bind (X.ofO (neT x23 ([98, 121] : List Nat))) fun x24 => X.ok x24) fun b25 => X.ok b25) fun b26 => X.ok b26) fun b27 => if b27 = true then (X.ex ⟨"NoText", []⟩) else X.bind (X.bind (X.ofO (at_  x10 0)) fun x28 => X.bind (X.ofO (eqT x28 ([108, 101, 115, 115] : List Nat))) fun x29 => if (x29 && (decide (5 < ((x10.length : Nat) : Int)))) = true then (X.ok ((cutL x10 (some 1) none), ([100, 114, 97, 119, 115, 32, 108, 101, 115, 115] : List Nat))) else X.ok (x10, x1.1)) fun (s30 : List (List Nat) × List Nat) => X.bind (X.ofO (joinT ([32] : List Nat) (cutL s30.1 none (some (-4))))) fun x32 => X.bind (p_numbers_in x32) fun r33 => X.bind (X.ofO (at_  s30.1 (-3))) fun x34 => X.bind (p_number_from x34 0) fun r35 => X.bind (X.ofO (at_  s30.1 (-1))) fun x36 => X.bind (p_number_in x36) fun r37 => X.ok ((o4 (eD tT) (eO (eD tI)) (eD tI) (eD tI)) (s30.2, r33, r35, r37))
theorem t_saying_in (a_text : List Nat) (a_dues_in : Unit) : TF (m_saying_in [(eD tT) a_text, (eD (tF "numbers_in")) a_dues_in]) (p_saying_in a_text a_dues_in) (fun r => eW r) (fun r => [none, none]) xAny :=
  tf_fn rfl (s_asg (x_fz (x_ms (x_val rfl (o_val (str_of_T _) (x_cons (x_str (l := ([32] : List Nat)) (by rfl) (x_nil (o_imp (part_T _ _) fun x1 => (o_val (fzV fz_sh _) (k_G rfl (n_env (e' := ([some ((eD tT) a_text), some ((eD (tF "numbers_in")) a_dues_in), none, some ((eD tT) x1.1), some ((eD tT) x1.2.1), some ((eD tT) x1.2.2), none, none, none] : AM.Env)) rfl (s_if (x_B (x_op2 (x_val rfl (x_tup (x_cons (x_str (l := ([108, 105, 107, 101] : List Nat)) (by rfl) (x_cons (x_str (l := ([117, 110, 108, 105, 107, 101] : List Nat)) (by rfl) (x_nil (o_val (a := (eD (t2 tT tT)) (([108, 105, 107, 101] : List Nat), ([117, 110, 108, 105, 107, 101] : List Nat))) rfl (o_imp (fun _ h => wsB_ok h) fun x2 => (o_val (bl_B _) (k_if (s_assoc (s_asg (x_cpX (x_itT (x_fz (x_K0 (xa_own (x_val rfl (xa_own (x_str (l := ([32, 47, 32] : List Nat)) (by rfl) (xa_nil (k_call0 (aw_own (aw_own aw_nil)) (t_halves x1.2.2 ([32, 47, 32] : List Nat)) rfl rfl ⟨rfl, trivial⟩ fun r3 => (o_val (fzV fz_sh _) (o_val (a := List.map tT [r3.1, r3.2]) rfl (k_cpY (en := (eO (eD tI))) rfl (fun _ => rfl) (fun (x4 : List Nat) => e_true) (fun (x4 : List Nat) => (x_all (x_callL (c := "numbers_in") rfl (x_K0 (xa_own (x_val rfl (xa_nil (k_call0 (aw_own aw_nil) (t_numbers_in x4) rfl rfl rfl fun r6 => (e_end () rfl rfl))))))))) (fun _ => ⟨rfl, trivial⟩) fun x5 => (k_ul2O x5 fun x7 => (k_G rfl (s_assoc (s_if (x_and (x_B (x_op1 (x_val rfl (o_val (a := (eD tB) true) rfl (o_val (bl_B _) (k_and (v_of (x_all (x_and (x_B (x_op1 (x_val rfl (o_val (a := (eD tB) true) rfl (o_val (bl_B _) (k_and (v_of (x_all (x_B (x_op2 (x_bi (x_cons (x_val rfl (x_nil (o_val (len_ol _) (x_bi (x_cons (x_val rfl (x_nil (o_val (len_ol _) (o_val (gNe_p pl_I rfl fz_sh fz_sh _ _) (o_val (bl_B _) (e_end () rfl rfl))))))))))))))))) (e_end () rfl rfl)))))))))) (k_if (s_raise ⟨rfl, trivial⟩) (s_nx (s_ret (x_tup (x_cons (x_val rfl (x_cons (x_val rfl (x_cons (x_val rfl (x_nil (o_val (a := (o3 (eD tT) (eO (eD tI)) (eO (eD tI))) (x1.1, x7.1, x7.2)) rfl (n_ret ⟨rfl, rfl, rfl⟩))))))))))))))))))))))))))))))))))))))) (s_nx (s_if (x_B (x_op2 (x_val rfl (x_tup (x_cons (x_str (l := ([99, 108, 101, 97, 114] : List Nat)) (by rfl) (x_cons (x_str (l := ([98, 97, 114, 114, 101, 100] : List Nat)) (by rfl) (x_nil (o_val (a := (eD (t2 tT tT)) (([99, 108, 101, 97, 114] : List Nat), ([98, 97, 114, 114, 101, 100] : List Nat))) rfl (o_imp (fun _ h => wsB_ok h) fun x8 => (o_val (bl_B _) (k_if (s_ret (x_tup (x_cons (x_val rfl (x_cons (x_callL (c := "numbers_in") rfl (x_K0 (xa_own (x_val rfl (xa_nil (k_call0 (aw_own aw_nil) (t_numbers_in x1.2.2) rfl rfl ⟨rfl, trivial⟩ fun r9 => (x_nil (o_val (a := (o2 (eD tT) (eO (eD tI))) (x1.1, r9)) rfl (n_ret ⟨rfl, rfl, rfl⟩)))))))))))))) (s_nx (s_asg (x_fz (x_ms (x_val rfl (o_val (str_of_T _) (x_cons (x_str (l := ([32] : List Nat)) (by rfl) (x_nil (o_imp (split_T _ _) fun x10 => (o_val (fzV (fz_ol fz_sh) _) (k_set rfl (n_env (e' := ([some ((eD tT) a_text), some ((eD (tF "numbers_in")) a_dues_in), some ((eD (tL tT)) x10), some ((eD tT) x1.1), some ((eD tT) x1.2.1), some ((eD tT) x1.2.2), none, none, none] : AM.Env)) rfl (s_if (x_and (x_B (x_op2 (x_val rfl (x_tup (x_cons (x_str (l := ([115, 116, 97, 110, 100, 115] : List Nat)) (by rfl) (x_cons (x_str (l := ([102, 97, 108, 108, 115] : List Nat)) (by rfl) (x_nil (o_val (a := (eD (t2 tT tT)) (([115, 116, 97, 110, 100, 115] : List Nat), ([102, 97, 108, 108, 115] : List Nat))) rfl (o_imp (fun _ h => wsB_ok h) fun x11 => (o_val (bl_B _) (k_andX id (fun (_ : Bool) (_ : Unit) => ([some ((eD tT) a_text), some ((eD (tF "numbers_in")) a_dues_in), some ((eD (tL tT)) x10), some ((eD tT) x1.1), some ((eD tT) x1.2.1), some ((eD tT) x1.2.2), none, none, none] : AM.Env)) false () (x_all (x_and (x_B (x_op2 (x_bi (x_cons (x_val rfl (x_nil (o_val (len_sh _) (x_val (e := _) (a := (eD tI) 2) rfl (o_val (gt_I _ _) (o_val (bl_B _) (k_andX id (fun (_ : Bool) (_ : Unit) => ([some ((eD tT) a_text), some ((eD (tF "numbers_in")) a_dues_in), some ((eD (tL tT)) x10), some ((eD tT) x1.1), some ((eD tT) x1.2.1), some ((eD tT) x1.2.2), none, none, none] : AM.Env)) false () (x_all (x_B (x_op2 (x_ix (x_val rfl (x_op1 (x_val (e := _) (a := (eD tI) 2) rfl (o_val (neg_I _) (o_par (ix_sh _ _) fun x12 => (x_str (l := ([98, 121] : List Nat)) (by rfl) (o_imp (eq_T _ _) fun x13 => (o_val (bl_B _) (e_end () rfl rfl))))))))))))) rfl rfl fun b14 _ => (e_end () rfl rfl)))))))))))))) rfl rfl fun b15 _ => (k_if (s_ret (x_tup (x_cons (x_val rfl (x_cons (x_callL (c := "numbers_in") rfl (x_K0 (xa_own (x_fz (x_ms (x_str (l := ([32] : List Nat)) (by rfl) (o_val (str_of_T _) (x_cons (x_sl (x_val rfl (x_noPart (x_part (x_op1 (x_val (e := _) (a := (eD tI) 2) rfl (o_val (neg_I _) (o_val rfl (o_val (sl_L le_sh _ _ _) (x_nil (o_par (join_T le_ol _ _) fun x16 => (o_val (fzV fz_sh _) (xa_nil (k_call0 (aw_own aw_nil) (t_numbers_in x16) rfl rfl ⟨rfl, trivial⟩ fun r17 => (x_cons (x_K0 (xa_own (x_fz (x_ix (x_val rfl (x_op1 (x_val (e := _) (a := (eD tI) 1) rfl (o_val (neg_I _) (o_par (ix_sh _ _) fun x18 => (o_val (fzV fz_sh _) (xa_own (x_op1 (x_val (e := _) (a := (eD tI) 1) rfl (o_val (neg_I _) (xa_nil (k_call0 (aw_own (aw_own aw_nil)) (t_number_from x18 (-1)) rfl rfl ⟨rfl, trivial⟩ fun r19 => (x_nil (o_val (a := (o3 (eD tT) (eO (eD tI)) (eD tI)) (x1.1, r17, r19)) rfl (n_ret ⟨rfl, rfl, rfl⟩))))))))))))))))))))))))))))))))))))))))))))))) (s_nx (s_if (x_or (x_B (x_op2 (x_val rfl (x_str (l := ([100, 114, 97, 119, 115] : List Nat)) (by rfl) (o_imp (ne_T _ _) fun x20 => (o_val (bl_B _) (k_orX id (fun (_ : Bool) (_ : Unit) => ([some ((eD tT) a_text), some ((eD (tF "numbers_in")) a_dues_in), some ((eD (tL tT)) x10), some ((eD tT) x1.1), some ((eD tT) x1.2.1), some ((eD tT) x1.2.2), none, none, none] : AM.Env)) true () (x_all (x_or (x_B (x_op2 (x_bi (x_cons (x_val rfl (x_nil (o_val (len_sh _) (x_val (e := _) (a := (eD tI) 5) rfl (o_val (lt_I _ _) (o_val (bl_B _) (k_orX id (fun (_ : Bool) (_ : Unit) => ([some ((eD tT) a_text), some ((eD (tF "numbers_in")) a_dues_in), some ((eD (tL tT)) x10), some ((eD tT) x1.1), some ((eD tT) x1.2.1), some ((eD tT) x1.2.2), none, none, none] : AM.Env)) true () (x_all (x_or (x_B (x_op2 (x_ix (x_val rfl (x_op1 (x_val (e := _) (a := (eD tI) 4) rfl (o_val (neg_I _) (o_par (ix_sh _ _) fun x21 => (x_str (l := ([97, 116] : List Nat)) (by rfl) (o_imp (ne_T _ _) fun x22 => (o_val (bl_B _) (k_orX id (fun (_ : Bool) (_ : Unit) => ([some ((eD tT) a_text), some ((eD (tF "numbers_in")) a_dues_in), some ((eD (tL tT)) x10), some ((eD tT) x1.1), some ((eD tT) x1.2.1), some ((eD tT) x1.2.2), none, none, none] : AM.Env)) true () (x_all (x_B (x_op2 (x_ix (x_val rfl (x_op1 (x_val (e := _) (a := (eD tI) 2) rfl (o_val (neg_I _) (o_par (ix_sh _ _) fun x23 => (x_str (l := ([98, 121] : List Nat)) (by rfl) (o_imp (ne_T _ _) fun x24 => (o_val (bl_B _) (e_end () rfl rfl))))))))))))) rfl rfl fun b25 _ => (e_end () rfl rfl))))))))))))))) rfl rfl fun b26 _ => (e_end () rfl rfl)))))))))))))) rfl rfl fun b27 _ => (k_if (s_raise ⟨rfl, trivial⟩) (s_nx (s_sub (fun (s30 : List (List Nat) × List Nat) (o31 : Unit) => ([some ((eD tT) a_text), some ((eD (tF "numbers_in")) a_dues_in), some ((eD (tL tT)) s30.1), some ((eD tT) s30.2), some ((eD tT) x1.2.1), some ((eD tT) x1.2.2), none, none, none] : AM.Env)) (s_last (s_if (x_and (x_B (x_op2 (x_ix (x_val rfl (x_val (e := _) (a := (eD tI) 0) rfl (o_par (ix_sh _ _) fun x28 => (x_str (l := ([108, 101, 115, 115] : List Nat)) (by rfl) (o_imp (eq_T _ _) fun x29 => (o_val (bl_B _) (k_and (v_of (x_all (x_B (x_op2 (x_bi (x_cons (x_val rfl (x_nil (o_val (len_sh _) (x_val (e := _) (a := (eD tI) 5) rfl (o_val (gt_I _ _) (o_val (bl_B _) (e_end () rfl rfl))))))))))))) (k_if (s_assoc (s_asg (x_str (l := ([100, 114, 97, 119, 115, 32, 108, 101, 115, 115] : List Nat)) (by rfl) (k_set rfl (s_asg (x_fz (x_sl (x_val rfl (x_part (x_val (e := _) (a := (eD tI) 1) rfl (o_val rfl (x_noPart (o_val (sl_L le_sh _ _ _) (o_val (fzV (fz_ol fz_sh) _) (k_set rfl (n_go () rfl)))))))))))))))) (s_nx (n_go () rfl)))))))))))))))) fun s30 o31 => (n_env (e' := ([some ((eD tT) a_text), some ((eD (tF "numbers_in")) a_dues_in), some ((eD (tL tT)) s30.1), some ((eD tT) s30.2), some ((eD tT) x1.2.1), some ((eD tT) x1.2.2), none, none, none] : AM.Env)) rfl (s_last (s_ret (x_tup (x_cons (x_val rfl (x_cons (x_callL (c := "numbers_in") rfl (x_K0 (xa_own (x_fz (x_ms (x_str (l := ([32] : List Nat)) (by rfl) (o_val (str_of_T _) (x_cons (x_sl (x_val rfl (x_noPart (x_part (x_op1 (x_val (e := _) (a := (eD tI) 4) rfl (o_val (neg_I _) (o_val rfl (o_val (sl_L le_sh _ _ _) (x_nil (o_par (join_T le_ol _ _) fun x32 => (o_val (fzV fz_sh _) (xa_nil (k_call0 (aw_own aw_nil) (t_numbers_in x32) rfl rfl ⟨rfl, trivial⟩ fun r33 => (x_cons (x_K0 (xa_own (x_fz (x_ix (x_val rfl (x_op1 (x_val (e := _) (a := (eD tI) 3) rfl (o_val (neg_I _) (o_par (ix_sh _ _) fun x34 => (o_val (fzV fz_sh _) (xa_own (x_val (e := _) (a := (eD tI) 0) rfl (xa_nil (k_call0 (aw_own (aw_own aw_nil)) (t_number_from x34 0) rfl rfl ⟨rfl, trivial⟩ fun r35 => (x_cons (x_K0 (xa_own (x_fz (x_ix (x_val rfl (x_op1 (x_val (e := _) (a := (eD tI) 1) rfl (o_val (neg_I _) (o_par (ix_sh _ _) fun x36 => (o_val (fzV fz_sh _) (xa_nil (k_call0 (aw_own aw_nil) (t_number_in x36) rfl rfl ⟨rfl, trivial⟩ fun r37 => (x_nil (o_val (a := (o4 (eD tT) (eO (eD tI)) (eD tI) (eD tI)) (s30.2, r33, r35, r37)) rfl (n_ret ⟨rfl, rfl, rfl⟩)))))))))))))))))))))))))))))))))))))))))))))))))))))))))))))))))))))))))))))))))))))))))))))))))))))))))))))))))))))))))))))))))))))))))))))))
def p_read_saying (a_text : List Nat) : X AM.W :=
  X.bind (p_saying_in a_text ()) fun r1 => X.ok r1
theorem t_read_saying (a_text : List Nat) : TF (m_read_saying [(eD tT) a_text]) (p_read_saying a_text) (fun r => eW r) (fun r => [none]) xAny :=
  tf_fn rfl (s_last (s_ret (x_K0 (xa_own (x_val rfl (xa_own (x_fz (x_val (e := _) (a := (eD (tF "numbers_in")) ()) rfl (o_val (fzV fz_sh _) (xa_nil (k_call0 (aw_own (aw_own aw_nil)) (t_saying_in a_text ()) rfl rfl ⟨rfl, trivial⟩ fun r1 => (n_ret ⟨rfl, rfl, rfl⟩))))))))))))
def p__law_whole (a_number : D) : X Bool :=
  X.bind (X.ofO (wsB (gIs "int" ((eD tD) a_number)))) fun x1 => X.bind (if x1 = true then (X.bind (X.ofO (wsB (gIs "bool" ((eD tD) a_number)))) fun x2 => X.ok (!x2)) else X.ok false) fun b3 => X.ok b3
theorem t__law_whole (a_number : D) : TF (m__law_whole [(eD tD) a_number]) (p__law_whole a_number) (fun r => (eD tB) r) (fun r => [none]) xAny :=
  tf_fn rfl (s_last (s_ret (x_andV (x_op1 (x_val rfl (o_imp (fun _ h => wsB_ok h) fun x1 => (o_val (bl_B _) (k_andVX (eD tB) (fun (_ : Bool) (_ : Unit) => ([some ((eD tD) a_number)] : AM.Env)) false () (x_all (x_op1 (x_op1 (x_val rfl (o_imp (fun _ h => wsB_ok h) fun x2 => (o_val (not_B _) (e_end () rfl rfl))))))) rfl rfl fun b3 _ => (n_ret ⟨rfl, rfl, rfl⟩)))))))))
def p__law_are_dues (a_found : D) (a_n : Int) : X Bool :=
  X.bind (X.ofO (wsB (gIs "list" ((eD tD) a_found)))) fun x1 => X.bind (if (!x1) = true then X.ok true else X.bind (X.ofO (wsI (gLen [((eD tD) a_found)]))) fun x2 => X.ok (!decide (x2 = a_n))) fun b3 => if b3 = true then (X.ok false) else X.bind (X.ofO (dEls a_found)) fun x4 => X.bind (X.lcX (fun (x5 : D) => X.bind (X.nx (p__law_whole x5)) fun r7 => X.ok (!r7)) (fun (x5 : D) => X.ok x5) x4) fun x6 => X.bind (X.ofO (eqX (tL tD) x6 [])) fun x8 => X.ok x8
theorem t__law_are_dues (a_found : D) (a_n : Int) : TF (m__law_are_dues [(eD tD) a_found, (eD tI) a_n]) (p__law_are_dues a_found a_n) (fun r => (eD tB) r) (fun r => [none, none]) xAny :=
  tf_fn rfl (s_if (x_or (x_not (x_B (x_op1 (x_val rfl (o_imp (fun _ h => wsB_ok h) fun x1 => (o_val (bl_B _) (k_orX id (fun (_ : Bool) (_ : Unit) => ([some ((eD tD) a_found), some ((eD tI) a_n), none] : AM.Env)) true () (x_all (x_B (x_op2 (x_bi (x_cons (x_val rfl (x_nil (o_imp (fun _ h => wsI_ok h) fun x2 => (x_val rfl (o_val (gNe_p pl_I rfl fz_sh fz_sh _ _) (o_val (bl_B _) (e_end () rfl rfl)))))))))))) rfl rfl fun b3 _ => (k_if (s_ret (x_val (e := _) (a := (eD tB) false) rfl (n_ret ⟨rfl, rfl, rfl⟩))) (s_nx (s_last (s_ret (x_op2 (x_cp (x_itL (x_val rfl (o_imp (els_D _) fun x4 => (k_cpX (en := (eD tD)) rfl (fun _ => rfl) (fun (x5 : D) => (x_all (x_not (x_B (x_K0 (xa_own (x_val rfl (xa_nil (k_call0n (aw_own aw_nil) (t__law_whole x5) rfl rfl fun r7 => (o_val (bl_B _) (e_end () rfl rfl))))))))))) (fun (x5 : D) => (x_all (x_val rfl (e_end () rfl rfl)))) fun x6 => (x_lst (x_nil (o_val (lst_0 (e := (eD tD))) (o_imp (eq_X (fz_ol fz_sh) (fz_ol fz_sh) _ _) fun x8 => (n_ret ⟨rfl, rfl, rfl⟩))))))))))))))))))))))))
def p__law_kept (a_saying_here : D) : X Bool :=
  X.bind (p__law_saying_text a_saying_here) fun r1 => X.bind (X.ofO (dTEls a_saying_here)) fun x2 => X.bind (X.lcX (fun (x3 : D) => X.bind (X.ofO (wsB (gIs "list" ((eD tD) x3)))) fun x5 => X.ok x5) (fun (x3 : D) => X.bind (X.ofO (dEls x3)) fun x6 => X.ok x6) x2) fun x4 => X.bind (X.ofO (rg1 2)) fun x7 => X.bindR (X.forL (fun (x8 : Int) (s9 : Unit) => X.bind (p_show_saying a_saying_here) fun r11 => X.bind (p_read_saying r1) fun r12 => X.bind (if (!true) = true then X.ok true else X.bind (X.ofO (neT r11 r1)) fun x13 => X.bind (if x13 = true then X.ok true else X.bind (X.ofO (wsB (gIs "tuple" (eW r12)))) fun x14 => X.bind (if (!x14) = true then X.ok true else X.bind (X.ofO (wsB (gNe ((eW r12), ((eD tD) a_saying_here))))) fun x15 => X.ok x15) fun b16 => X.ok b16) fun b17 => X.ok b17) fun b18 => if b18 = true then (X.ok (.rt false)) else X.bind (X.ofO (dTEls a_saying_here)) fun x19 => X.bind (X.lcX (fun (x20 : D) => X.bind (X.ofO (wsB (gIs "list" ((eD tD) x20)))) fun x22 => X.ok x22) (fun (x20 : D) => X.ok x20) x19) fun x21 => X.bind (X.ofO (wsB (gNe (((eO (eD tD)) x21), ((eD (tL (tL tD))) x4))))) fun x23 => if x23 = true then (X.ok (.rt false)) else X.bind (X.ofO (W.toD r12)) fun x24 => X.tmpO (X.bind (X.ofO (wsD (gSl (((eD tD) x24), (some 1), none)))) fun x25 => X.bind (X.ofO (dTEls x25)) fun x26 => X.bindO (X.up (X.forL (fun (x27 : D) (s28 : Unit) => X.bind (X.ofO (wsB (gIs "list" ((eD tD) x27)))) fun x30 => X.bind (if (!x30) = true then (X.bind (p__law_whole x27) fun r31 => X.ok (!r31)) else X.ok false) fun b32 => if b32 = true then (X.ok (.rt false)) else X.bind (X.ofO (wsB (gIs "list" ((eD tD) x27)))) fun x33 => X.bind (if x33 = true then (X.bind (X.ofO (at_  x4 0)) fun x34 => X.bind (p__law_are_dues x27 ((x34.length : Nat) : Int)) fun r35 => X.ok (!r35)) else X.ok false) fun b36 => if b36 = true then (X.ok (.rt false)) else X.ok (.go ())) x26 ())) fun (s28 : Unit) => X.ok (.go ())) (X.bind (p_read_saying r1) fun r37 => X.bind (p_read_saying ([99, 108, 101, 97, 114, 32, 49, 32, 50] : List Nat)) fun r38 => X.bind (X.ofO (ixO [r37, r38] 0)) fun q39 => X.bind (X.ofO (owPart q39.2 1)) fun q40 => X.bind (X.ofO (ixO (List.set [r37, r38] q39.1 (owSet q39.2 q40.1 [])) 1)) fun q42 => X.bind (X.ofO (owPart q42.2 1)) fun q43 => X.bind (X.ofO (wsB (gNe ((eW r12), ((eD tD) a_saying_here))))) fun x45 => if x45 = true then (X.ok (.rt false)) else X.bind (X.ofO (owPart r12 1)) fun q46 => X.bind (X.ofO (appO q46.2 ((eD tI) 1))) fun x47 => X.bind (X.ofO (W.toD (owSet r12 q46.1 x47))) fun x48 => X.tmpO (X.bind (X.ofO (wsD (gSl (((eD tD) x48), (some 2), none)))) fun x49 => X.bind (X.ofO (wsD (gSl (((eD tD) a_saying_here), (some 2), none)))) fun x50 => X.bind (X.ofO (wsB (gNe (((eD tD) x49), ((eD tD) x50))))) fun x51 => if x51 = true then (X.ok (.rt false)) else X.ok (.go ())) (X.ok (.go ())))) x7 ()) fun (s9 : Unit) => X.ok true
theorem t__law_kept (a_saying_here : D) : TF (m__law_kept [(eD tD) a_saying_here]) (p__law_kept a_saying_here) (fun r => (eD tB) r) (fun r => [none]) xAny :=
  tf_fn rfl (s_asg (x_fz (x_K0 (xa_own (x_val rfl (xa_nil (k_call0 (aw_own aw_nil) (t__law_saying_text a_saying_here) rfl rfl ⟨rfl, trivial⟩ fun r1 => (o_val (fzV fz_sh _) (k_set rfl (n_env (e' := ([some ((eD tD) a_saying_here), some ((eD tT) r1), none, none, none, none, none, none] : AM.Env)) rfl (s_asg (x_fz (x_cp (x_itT (x_val rfl (o_imp (tels_D _) fun x2 => (k_cpX (en := (eO (eD tD))) rfl (fun _ => rfl) (fun (x3 : D) => (x_all (x_B (x_op1 (x_val rfl (o_imp (fun _ h => wsB_ok h) fun x5 => (o_val (bl_B _) (e_end () rfl rfl)))))))) (fun (x3 : D) => (x_all (x_bi (x_cons (x_val rfl (x_nil (o_imp (list_D _) fun x6 => (e_end () rfl rfl)))))))) fun x4 => (o_val (fzV (fz_ol (fz_ol fz_sh)) _) (k_set rfl (n_env (e' := ([some ((eD tD) a_saying_here), some ((eD tT) r1), some ((eD (tL (tL tD))) x4), none, none, none, none, none] : AM.Env)) rfl (s_for (x_itR (x_cons (x_val (e := _) (a := (eD tI) 2) rfl (x_nil (o_par (rg_1 _) fun x7 => (k_forR (fun (s9 : Unit) (o10 : Option W × Option W × Option W × Option W × Option W × Unit) => ([some ((eD tD) a_saying_here), some ((eD tT) r1), some ((eD (tL (tL tD))) x4), o10.1, o10.2.1, o10.2.2.1, o10.2.2.2.1, o10.2.2.2.2.1] : AM.Env)) () (_, _, _, _, _, ()) rfl rfl (fun x8 s9 o10 => (k_set rfl (s_asg (x_fz (x_K0 (xa_own (x_val rfl (xa_nil (k_call0 (aw_own aw_nil) (t_show_saying a_saying_here) rfl rfl ⟨rfl, trivial⟩ fun r11 => (o_val (fzV fz_sh _) (k_set rfl (n_env (e' := ([some ((eD tD) a_saying_here), some ((eD tT) r1), some ((eD (tL (tL tD))) x4), some ((eD tI) x8), some ((eD tT) r11), o10.2.2.1, o10.2.2.2.1, o10.2.2.2.2.1] : AM.Env)) rfl (s_asg (x_K0 (xa_own (x_val rfl (xa_nil (k_call0 (aw_own aw_nil) (t_read_saying r1) rfl rfl ⟨rfl, trivial⟩ fun r12 => (k_set rfl (n_env (e' := ([some ((eD tD) a_saying_here), some ((eD tT) r1), some ((eD (tL (tL tD))) x4), some ((eD tI) x8), some ((eD tT) r11), some (eW r12), o10.2.2.2.1, o10.2.2.2.2.1] : AM.Env)) rfl (s_if (x_or (x_not (x_B (x_op1 (x_val rfl (o_val (a := (eD tB) true) rfl (o_val (bl_B _) (k_orX id (fun (_ : Bool) (_ : Unit) => ([some ((eD tD) a_saying_here), some ((eD tT) r1), some ((eD (tL (tL tD))) x4), some ((eD tI) x8), some ((eD tT) r11), some (eW r12), o10.2.2.2.1, o10.2.2.2.2.1] : AM.Env)) true () (x_all (x_or (x_B (x_op2 (x_val rfl (x_val rfl (o_imp (ne_T _ _) fun x13 => (o_val (bl_B _) (k_orX id (fun (_ : Bool) (_ : Unit) => ([some ((eD tD) a_saying_here), some ((eD tT) r1), some ((eD (tL (tL tD))) x4), some ((eD tI) x8), some ((eD tT) r11), some (eW r12), o10.2.2.2.1, o10.2.2.2.2.1] : AM.Env)) true () (x_all (x_or (x_not (x_B (x_op1 (x_val rfl (o_imp (fun _ h => wsB_ok h) fun x14 => (o_val (bl_B _) (k_orX id (fun (_ : Bool) (_ : Unit) => ([some ((eD tD) a_saying_here), some ((eD tT) r1), some ((eD (tL (tL tD))) x4), some ((eD tI) x8), some ((eD tT) r11), some (eW r12), o10.2.2.2.1, o10.2.2.2.2.1] : AM.Env)) true () (x_all (x_B (x_op2 (x_val rfl (x_val rfl (o_imp (fun _ h => wsB_ok h) fun x15 => (o_val (bl_B _) (e_end () rfl rfl)))))))) rfl rfl fun b16 _ => (e_end () rfl rfl)))))))))) rfl rfl fun b17 _ => (e_end () rfl rfl)))))))))) rfl rfl fun b18 _ => (k_if (s_ret (x_val (e := _) (a := (eD tB) false) rfl (n_retS ⟨rfl, rfl, rfl⟩))) (s_nx (s_if (x_B (x_op2 (x_cp (x_itT (x_val rfl (o_imp (tels_D _) fun x19 => (k_cpX (en := (eD tD)) rfl (fun _ => rfl) (fun (x20 : D) => (x_all (x_B (x_op1 (x_val rfl (o_imp (fun _ h => wsB_ok h) fun x22 => (o_val (bl_B _) (e_end () rfl rfl)))))))) (fun (x20 : D) => (x_all (x_val rfl (e_end () rfl rfl)))) fun x21 => (x_val rfl (o_imp (fun _ h => wsB_ok h) fun x23 => (o_val (bl_B _) (k_if (s_ret (x_val (e := _) (a := (eD tB) false) rfl (n_retS ⟨rfl, rfl, rfl⟩))) (s_nx (s_tmpS rfl (fun x24 => (n_env (e' := ([some ((eD tD) a_saying_here), some ((eD tT) r1), some ((eD (tL (tL tD))) x4), some ((eD tI) x8), some ((eD tT) r11), some ((eD tD) x24), (str1 o10.2.2.2.1), (str1 o10.2.2.2.2.1)] : AM.Env)) rfl (s_last (s_for (x_itT (x_sl (x_val rfl (x_part (x_val (e := _) (a := (eD tI) 1) rfl (o_val rfl (x_noPart (o_imp (fun _ h => wsD_ok h) fun x25 => (o_imp (tels_D _) fun x26 => (k_forS (fun (s28 : Unit) (o29 : Option W × Unit) => ([some ((eD tD) a_saying_here), some ((eD tT) r1), some ((eD (tL (tL tD))) x4), some ((eD tI) x8), some ((eD tT) r11), some ((eD tD) x24), o29.1, (str1 o10.2.2.2.2.1)] : AM.Env)) () (_, ()) rfl rfl (fun x27 s28 o29 => (k_set rfl (s_if (x_and (x_not (x_B (x_op1 (x_val rfl (o_imp (fun _ h => wsB_ok h) fun x30 => (o_val (bl_B _) (k_andX id (fun (_ : Bool) (_ : Unit) => ([some ((eD tD) a_saying_here), some ((eD tT) r1), some ((eD (tL (tL tD))) x4), some ((eD tI) x8), some ((eD tT) r11), some ((eD tD) x24), some ((eD tD) x27), (str1 o10.2.2.2.2.1)] : AM.Env)) false () (x_all (x_not (x_B (x_K0 (xa_own (x_val rfl (xa_nil (k_call0 (aw_own aw_nil) (t__law_whole x27) rfl rfl trivial fun r31 => (o_val (bl_B _) (e_end () rfl rfl)))))))))) rfl rfl fun b32 _ => (k_if (s_ret (x_val (e := _) (a := (eD tB) false) rfl (n_retS ⟨rfl, rfl⟩))) (s_nx (s_last (s_if (x_and (x_B (x_op1 (x_val rfl (o_imp (fun _ h => wsB_ok h) fun x33 => (o_val (bl_B _) (k_andX id (fun (_ : Bool) (_ : Unit) => ([some ((eD tD) a_saying_here), some ((eD tT) r1), some ((eD (tL (tL tD))) x4), some ((eD tI) x8), some ((eD tT) r11), some ((eD tD) x24), some ((eD tD) x27), (str1 o10.2.2.2.2.1)] : AM.Env)) false () (x_all (x_not (x_B (x_K0 (xa_own (x_val rfl (xa_own (x_bi (x_cons (x_ix (x_val rfl (x_val (e := _) (a := (eD tI) 0) rfl (o_par (ix_sh _ _) fun x34 => (x_nil (o_val (len_sh _) (xa_nil (k_call0 (aw_own (aw_own aw_nil)) (t__law_are_dues x27 ((x34.length : Nat) : Int)) rfl rfl trivial fun r35 => (o_val (bl_B _) (e_end () rfl rfl))))))))))))))))))) rfl rfl fun b36 _ => (k_if (s_ret (x_val (e := _) (a := (eD tB) false) rfl (n_retS ⟨rfl, rfl⟩))) (s_nx (n_goS (_, ()) rfl))))))))))))))))))))))))) fun s28 o29 => (n_goT rfl))))))))))))))) (fun _ => ⟨rfl, rfl, rfl⟩) (n_env (e' := ([some ((eD tD) a_saying_here), some ((eD tT) r1), some ((eD (tL (tL tD))) x4), some ((eD tI) x8), some ((eD tT) r11), some (eW r12), none, o10.2.2.2.2.1] : AM.Env)) rfl (n_env (e' := ([some ((eD tD) a_saying_here), some ((eD tT) r1), some ((eD (tL (tL tD))) x4), some ((eD tI) x8), some ((eD tT) r11), some (eW r12), none, o10.2.2.2.2.1] : AM.Env)) rfl (s_asg (x_lst (x_cons (x_K0 (xa_own (x_val rfl (xa_nil (k_call0 (aw_own aw_nil) (t_read_saying r1) rfl rfl ⟨rfl, trivial⟩ fun r37 => (x_cons (x_K0 (xa_own (x_str (l := ([99, 108, 101, 97, 114, 32, 49, 32, 50] : List Nat)) (by rfl) (xa_nil (k_call0 (aw_own aw_nil) (t_read_saying ([99, 108, 101, 97, 114, 32, 49, 32, 50] : List Nat)) rfl rfl ⟨rfl, trivial⟩ fun r38 => (x_nil (o_val (lst_2 (e := eW)) (k_set rfl (n_env (e' := ([some ((eD tD) a_saying_here), some ((eD tT) r1), some ((eD (tL (tL tD))) x4), some ((eD tI) x8), some ((eD tT) r11), some (eW r12), none, some ((eO eW) [r37, r38])] : AM.Env)) rfl (s_drop (p_ix rfl (v_of (x_all (x_val (e := _) (a := (eD tI) 0) rfl (e_end () rfl rfl)))) rfl fun jq39 xq39 hlq39 hgq39 hsq39 => (p_partW hlq39 (v_of (x_all (x_val (e := _) (a := (eD tI) 1) rfl (e_end () rfl rfl)))) hgq39 fun jq40 xq40 hlq40 hgq40 hsq40 => (x_in (chk_ol hlq40 hgq40) (x_nil (i_clr (el := eW) hgq40 (fun y => (hsq40 y).trans ((fun y => (hsq39 y).trans ((fun _ => rfl) _)) _)) (n_env (e' := ([some ((eD tD) a_saying_here), some ((eD tT) r1), some ((eD (tL (tL tD))) x4), some ((eD tI) x8), some ((eD tT) r11), some (eW r12), none, some ((eO eW) (List.set [r37, r38] jq39 (owSet xq39 jq40 [])))] : AM.Env)) rfl (s_drop (p_ix rfl (v_of (x_all (x_val (e := _) (a := (eD tI) 1) rfl (e_end () rfl rfl)))) rfl fun jq42 xq42 hlq42 hgq42 hsq42 => (p_partW hlq42 (v_of (x_all (x_val (e := _) (a := (eD tI) 1) rfl (e_end () rfl rfl)))) hgq42 fun jq43 xq43 hlq43 hgq43 hsq43 => (x_in (chk_ol hlq43 hgq43) (x_nil (i_clr (el := eW) hgq43 (fun y => (hsq43 y).trans ((fun y => (hsq42 y).trans ((fun _ => rfl) _)) _)) (n_env (e' := ([some ((eD tD) a_saying_here), some ((eD tT) r1), some ((eD (tL (tL tD))) x4), some ((eD tI) x8), some ((eD tT) r11), some (eW r12), none, some ((eO eW) (List.set (List.set [r37, r38] jq39 (owSet xq39 jq40 [])) jq42 (owSet xq42 jq43 [])))] : AM.Env)) rfl (s_if (x_B (x_op2 (x_val rfl (x_val rfl (o_imp (fun _ h => wsB_ok h) fun x45 => (o_val (bl_B _) (k_if (s_ret (x_val (e := _) (a := (eD tB) false) rfl (n_retS ⟨rfl, rfl, rfl⟩))) (s_nx (s_drop (p_partW rfl (v_of (x_all (x_val (e := _) (a := (eD tI) 1) rfl (e_end () rfl rfl)))) rfl fun jq46 xq46 hlq46 hgq46 hsq46 => (x_in (chk_ol hlq46 hgq46) (x_cons (x_val (e := _) (a := (eD tI) 1) rfl (x_nil (i_app (el := eW) (x := ((eD tI) 1)) hgq46 (fun y => (hsq46 y).trans ((fun _ => rfl) _)) fun x47 => (n_env (e' := ([some ((eD tD) a_saying_here), some ((eD tT) r1), some ((eD (tL (tL tD))) x4), some ((eD tI) x8), some ((eD tT) r11), some (eW (owSet r12 jq46 x47)), none, some ((eO eW) (List.set (List.set [r37, r38] jq39 (owSet xq39 jq40 [])) jq42 (owSet xq42 jq43 [])))] : AM.Env)) rfl (s_last (s_tmpS rfl (fun x48 => (n_env (e' := ([some ((eD tD) a_saying_here), some ((eD tT) r1), some ((eD (tL (tL tD))) x4), some ((eD tI) x8), some ((eD tT) r11), some ((eD tD) x48), none, none] : AM.Env)) rfl (s_last (s_if (x_B (x_op2 (x_sl (x_val rfl (x_part (x_val (e := _) (a := (eD tI) 2) rfl (o_val rfl (x_noPart (o_imp (fun _ h => wsD_ok h) fun x49 => (x_sl (x_val rfl (x_part (x_val (e := _) (a := (eD tI) 2) rfl (o_val rfl (x_noPart (o_imp (fun _ h => wsD_ok h) fun x50 => (o_imp (fun _ h => wsB_ok h) fun x51 => (o_val (bl_B _) (k_if (s_ret (x_val (e := _) (a := (eD tB) false) rfl (n_retS ⟨rfl, rfl⟩))) (s_nx (n_goT rfl))))))))))))))))))))))))) (fun _ => ⟨rfl, rfl, rfl⟩) (n_env (e' := ([some ((eD tD) a_saying_here), some ((eD tT) r1), some ((eD (tL (tL tD))) x4), some ((eD tI) x8), some ((eD tT) r11), some (eW (owSet r12 jq46 x47)), none, some ((eO eW) (List.set (List.set [r37, r38] jq39 (owSet xq39 jq40 [])) jq42 (owSet xq42 jq43 [])))] : AM.Env)) rfl (n_goS (_, _, _, _, _, ()) rfl)))))))))))))))))))))))))))))))))))))))))))))))))))))))))))))))))))))))))))))))))))))))))))))))))))) fun s9 o10 => (n_env (e' := ([some ((eD tD) a_saying_here), some ((eD tT) r1), some ((eD (tL (tL tD))) x4), o10.1, o10.2.1, o10.2.2.1, o10.2.2.2.1, o10.2.2.2.2.1] : AM.Env)) rfl (s_last (s_ret (x_val (e := _) (a := (eD tB) true) rfl (n_ret ⟨rfl, rfl, rfl⟩))))))))))))))))))))))))))))))))
def p__law_edges : X (List D) :=
  X.bind (X.ofO (repO  [(-1)] 6)) fun x1 => X.bind (X.ofO (catO  [((t3 tT (tL tI) tI) (([115, 116, 97, 110, 100, 115] : List Nat), [0], (-1))), ((t3 tT (tL tI) tI) (([102, 97, 108, 108, 115] : List Nat), [0, 0], (-1))), ((t3 tT (tL tI) tI) (([115, 116, 97, 110, 100, 115] : List Nat), x1, 0)), ((t4 tT (tL tI) tI tI) (([100, 114, 97, 119, 115] : List Nat), [0], 0, 0))] [((t4 tT (tL tI) tI tI) (([100, 114, 97, 119, 115, 32, 108, 101, 115, 115] : List Nat), [5, (-5)], 9, (-1))), ((t3 tT (tL tI) (tL tI)) (([108, 105, 107, 101] : List Nat), [0], [0])), ((t3 tT (tL tI) (tL tI)) (([117, 110, 108, 105, 107, 101] : List Nat), [(1 - 10000000000000000000000000000000000000000)], [(10000000000000000000000000000000000000000 - 1)]))])) fun x2 => X.bind (X.ofO (repO  [(1 - 10000000000000000000000000000000000000000)] 6)) fun x3 => X.bind (X.ofO (repO  [(1 - 10000000000000000000000000000000000000000)] 6)) fun x4 => X.bind (X.ofO (appO x2 ((t3 tT (tL tI) (tL tI)) (([117, 110, 108, 105, 107, 101] : List Nat), x3, x4)))) fun x5 => X.bind (X.ofO (repO  [0] 6)) fun x6 => X.bind (X.ofO (catO  x5 [((t2 tT (tL tI)) (([99, 108, 101, 97, 114] : List Nat), x6)), ((t2 tT (tL tI)) (([98, 97, 114, 114, 101, 100] : List Nat), [(-3)])), ((t4 tT (tL tI) tI tI) (([100, 114, 97, 119, 115] : List Nat), [1, 2], 7, (1 - 10000000000000000000000000000000000000000)))])) fun x7 => X.ok x7
theorem t__law_edges : TF (m__law_edges []) (p__law_edges ) (fun r => (eO (eD tD)) r) (fun r => []) xAny :=
  tf_fn rfl (s_asg (x_lst (x_cons (x_fz (x_tup (x_cons (x_str (l := ([115, 116, 97, 110, 100, 115] : List Nat)) (by rfl) (x_cons (x_lst (x_cons (x_val (e := _) (a := (eD tI) 0) rfl (x_nil (o_val (lst_1 (e := (eD tI))) (x_cons (x_op1 (x_val (e := _) (a := (eD tI) 1) rfl (o_val (neg_I _) (x_nil (o_val (a := (o3 (eD tT) (eO (eD tI)) (eD tI)) (([115, 116, 97, 110, 100, 115] : List Nat), [0], (-1))) rfl (o_val (fzV (fz_o3 fz_sh (fz_ol fz_sh) fz_sh) _) (x_cons (x_fz (x_tup (x_cons (x_str (l := ([102, 97, 108, 108, 115] : List Nat)) (by rfl) (x_cons (x_lst (x_cons (x_val (e := _) (a := (eD tI) 0) rfl (x_cons (x_val (e := _) (a := (eD tI) 0) rfl (x_nil (o_val (lst_2 (e := (eD tI))) (x_cons (x_op1 (x_val (e := _) (a := (eD tI) 1) rfl (o_val (neg_I _) (x_nil (o_val (a := (o3 (eD tT) (eO (eD tI)) (eD tI)) (([102, 97, 108, 108, 115] : List Nat), [0, 0], (-1))) rfl (o_val (fzV (fz_o3 fz_sh (fz_ol fz_sh) fz_sh) _) (x_cons (x_fz (x_tup (x_cons (x_str (l := ([115, 116, 97, 110, 100, 115] : List Nat)) (by rfl) (x_cons (x_op2 (x_lst (x_cons (x_op1 (x_val (e := _) (a := (eD tI) 1) rfl (o_val (neg_I _) (x_nil (o_val (lst_1 (e := (eD tI))) (x_val (e := _) (a := (eD tI) 6) rfl (o_par (rep_L le_ol _ _) fun x1 => (x_cons (x_val (e := _) (a := (eD tI) 0) rfl (x_nil (o_val (a := (o3 (eD tT) (eO (eD tI)) (eD tI)) (([115, 116, 97, 110, 100, 115] : List Nat), x1, 0)) rfl (o_val (fzV (fz_o3 fz_sh (fz_ol fz_sh) fz_sh) _) (x_cons (x_fz (x_tup (x_cons (x_str (l := ([100, 114, 97, 119, 115] : List Nat)) (by rfl) (x_cons (x_lst (x_cons (x_val (e := _) (a := (eD tI) 0) rfl (x_nil (o_val (lst_1 (e := (eD tI))) (x_cons (x_val (e := _) (a := (eD tI) 0) rfl (x_cons (x_val (e := _) (a := (eD tI) 0) rfl (x_nil (o_val (a := (o4 (eD tT) (eO (eD tI)) (eD tI) (eD tI)) (([100, 114, 97, 119, 115] : List Nat), [0], 0, 0)) rfl (o_val (fzV (fz_o4 fz_sh (fz_ol fz_sh) fz_sh fz_sh) _) (x_nil (o_val (a := (eO (eD tD)) [((t3 tT (tL tI) tI) (([115, 116, 97, 110, 100, 115] : List Nat), [0], (-1))), ((t3 tT (tL tI) tI) (([102, 97, 108, 108, 115] : List Nat), [0, 0], (-1))), ((t3 tT (tL tI) tI) (([115, 116, 97, 110, 100, 115] : List Nat), x1, 0)), ((t4 tT (tL tI) tI tI) (([100, 114, 97, 119, 115] : List Nat), [0], 0, 0))]) rfl (k_set rfl (n_env (e' := ([some ((eO (eD tD)) [((t3 tT (tL tI) tI) (([115, 116, 97, 110, 100, 115] : List Nat), [0], (-1))), ((t3 tT (tL tI) tI) (([102, 97, 108, 108, 115] : List Nat), [0, 0], (-1))), ((t3 tT (tL tI) tI) (([115, 116, 97, 110, 100, 115] : List Nat), x1, 0)), ((t4 tT (tL tI) tI tI) (([100, 114, 97, 119, 115] : List Nat), [0], 0, 0))])] : AM.Env)) rfl (s_asg (x_op2 (x_val rfl (x_lst (x_cons (x_fz (x_tup (x_cons (x_str (l := ([100, 114, 97, 119, 115, 32, 108, 101, 115, 115] : List Nat)) (by rfl) (x_cons (x_lst (x_cons (x_val (e := _) (a := (eD tI) 5) rfl (x_cons (x_op1 (x_val (e := _) (a := (eD tI) 5) rfl (o_val (neg_I _) (x_nil (o_val (lst_2 (e := (eD tI))) (x_cons (x_val (e := _) (a := (eD tI) 9) rfl (x_cons (x_op1 (x_val (e := _) (a := (eD tI) 1) rfl (o_val (neg_I _) (x_nil (o_val (a := (o4 (eD tT) (eO (eD tI)) (eD tI) (eD tI)) (([100, 114, 97, 119, 115, 32, 108, 101, 115, 115] : List Nat), [5, (-5)], 9, (-1))) rfl (o_val (fzV (fz_o4 fz_sh (fz_ol fz_sh) fz_sh fz_sh) _) (x_cons (x_fz (x_tup (x_cons (x_str (l := ([108, 105, 107, 101] : List Nat)) (by rfl) (x_cons (x_lst (x_cons (x_val (e := _) (a := (eD tI) 0) rfl (x_nil (o_val (lst_1 (e := (eD tI))) (x_cons (x_lst (x_cons (x_val (e := _) (a := (eD tI) 0) rfl (x_nil (o_val (lst_1 (e := (eD tI))) (x_nil (o_val (a := (o3 (eD tT) (eO (eD tI)) (eO (eD tI))) (([108, 105, 107, 101] : List Nat), [0], [0])) rfl (o_val (fzV (fz_o3 fz_sh (fz_ol fz_sh) (fz_ol fz_sh)) _) (x_cons (x_fz (x_tup (x_cons (x_str (l := ([117, 110, 108, 105, 107, 101] : List Nat)) (by rfl) (x_cons (x_lst (x_cons (x_op2 (x_val (e := _) (a := (eD tI) 1) rfl (x_op2 (x_val (e := _) (a := (eD tI) 10) rfl (x_val (e := _) (a := (eD tI) 40) rfl (o_val (a := (eD tI) 10000000000000000000000000000000000000000) (pow_c (by decide +kernel) (by decide +kernel)) (o_val (sub_I _ _) (x_nil (o_val (lst_1 (e := (eD tI))) (x_cons (x_lst (x_cons (x_op2 (x_op2 (x_val (e := _) (a := (eD tI) 10) rfl (x_val (e := _) (a := (eD tI) 40) rfl (o_val (a := (eD tI) 10000000000000000000000000000000000000000) (pow_c (by decide +kernel) (by decide +kernel)) (x_val (e := _) (a := (eD tI) 1) rfl (o_val (sub_I _ _) (x_nil (o_val (lst_1 (e := (eD tI))) (x_nil (o_val (a := (o3 (eD tT) (eO (eD tI)) (eO (eD tI))) (([117, 110, 108, 105, 107, 101] : List Nat), [(1 - 10000000000000000000000000000000000000000)], [(10000000000000000000000000000000000000000 - 1)])) rfl (o_val (fzV (fz_o3 fz_sh (fz_ol fz_sh) (fz_ol fz_sh)) _) (x_nil (o_val (a := (eO (eD tD)) [((t4 tT (tL tI) tI tI) (([100, 114, 97, 119, 115, 32, 108, 101, 115, 115] : List Nat), [5, (-5)], 9, (-1))), ((t3 tT (tL tI) (tL tI)) (([108, 105, 107, 101] : List Nat), [0], [0])), ((t3 tT (tL tI) (tL tI)) (([117, 110, 108, 105, 107, 101] : List Nat), [(1 - 10000000000000000000000000000000000000000)], [(10000000000000000000000000000000000000000 - 1)]))]) rfl (o_par (cat_L le_ol le_ol _ _) fun x2 => (k_set rfl (n_env (e' := ([some ((eO (eD tD)) x2)] : AM.Env)) rfl (s_drop (x_in (chk_ol rfl rfl) (x_cons (x_fz (x_tup (x_cons (x_str (l := ([117, 110, 108, 105, 107, 101] : List Nat)) (by rfl) (x_cons (x_op2 (x_lst (x_cons (x_op2 (x_val (e := _) (a := (eD tI) 1) rfl (x_op2 (x_val (e := _) (a := (eD tI) 10) rfl (x_val (e := _) (a := (eD tI) 40) rfl (o_val (a := (eD tI) 10000000000000000000000000000000000000000) (pow_c (by decide +kernel) (by decide +kernel)) (o_val (sub_I _ _) (x_nil (o_val (lst_1 (e := (eD tI))) (x_val (e := _) (a := (eD tI) 6) rfl (o_par (rep_L le_ol _ _) fun x3 => (x_cons (x_op2 (x_lst (x_cons (x_op2 (x_val (e := _) (a := (eD tI) 1) rfl (x_op2 (x_val (e := _) (a := (eD tI) 10) rfl (x_val (e := _) (a := (eD tI) 40) rfl (o_val (a := (eD tI) 10000000000000000000000000000000000000000) (pow_c (by decide +kernel) (by decide +kernel)) (o_val (sub_I _ _) (x_nil (o_val (lst_1 (e := (eD tI))) (x_val (e := _) (a := (eD tI) 6) rfl (o_par (rep_L le_ol _ _) fun x4 => (x_nil (o_val (a := (o3 (eD tT) (eO (eD tI)) (eO (eD tI))) (([117, 110, 108, 105, 107, 101] : List Nat), x3, x4)) rfl (o_val (fzV (fz_o3 fz_sh (fz_ol fz_sh) (fz_ol fz_sh)) _) (x_nil (i_app (el := (eD tD)) (x := ((t3 tT (tL tI) (tL tI)) (([117, 110, 108, 105, 107, 101] : List Nat), x3, x4))) rfl (fun _ => rfl) fun x5 => (n_env (e' := ([some ((eO (eD tD)) x5)] : AM.Env)) rfl (s_last (s_ret (x_op2 (x_val rfl (x_lst (x_cons (x_fz (x_tup (x_cons (x_str (l := ([99, 108, 101, 97, 114] : List Nat)) (by rfl) (x_cons (x_op2 (x_lst (x_cons (x_val (e := _) (a := (eD tI) 0) rfl (x_nil (o_val (lst_1 (e := (eD tI))) (x_val (e := _) (a := (eD tI) 6) rfl (o_par (rep_L le_ol _ _) fun x6 => (x_nil (o_val (a := (o2 (eD tT) (eO (eD tI))) (([99, 108, 101, 97, 114] : List Nat), x6)) rfl (o_val (fzV (fz_o2 fz_sh (fz_ol fz_sh)) _) (x_cons (x_fz (x_tup (x_cons (x_str (l := ([98, 97, 114, 114, 101, 100] : List Nat)) (by rfl) (x_cons (x_lst (x_cons (x_op1 (x_val (e := _) (a := (eD tI) 3) rfl (o_val (neg_I _) (x_nil (o_val (lst_1 (e := (eD tI))) (x_nil (o_val (a := (o2 (eD tT) (eO (eD tI))) (([98, 97, 114, 114, 101, 100] : List Nat), [(-3)])) rfl (o_val (fzV (fz_o2 fz_sh (fz_ol fz_sh)) _) (x_cons (x_fz (x_tup (x_cons (x_str (l := ([100, 114, 97, 119, 115] : List Nat)) (by rfl) (x_cons (x_lst (x_cons (x_val (e := _) (a := (eD tI) 1) rfl (x_cons (x_val (e := _) (a := (eD tI) 2) rfl (x_nil (o_val (lst_2 (e := (eD tI))) (x_cons (x_val (e := _) (a := (eD tI) 7) rfl (x_cons (x_op2 (x_val (e := _) (a := (eD tI) 1) rfl (x_op2 (x_val (e := _) (a := (eD tI) 10) rfl (x_val (e := _) (a := (eD tI) 40) rfl (o_val (a := (eD tI) 10000000000000000000000000000000000000000) (pow_c (by decide +kernel) (by decide +kernel)) (o_val (sub_I _ _) (x_nil (o_val (a := (o4 (eD tT) (eO (eD tI)) (eD tI) (eD tI)) (([100, 114, 97, 119, 115] : List Nat), [1, 2], 7, (1 - 10000000000000000000000000000000000000000))) rfl (o_val (fzV (fz_o4 fz_sh (fz_ol fz_sh) fz_sh fz_sh) _) (x_nil (o_val (a := (eO (eD tD)) [((t2 tT (tL tI)) (([99, 108, 101, 97, 114] : List Nat), x6)), ((t2 tT (tL tI)) (([98, 97, 114, 114, 101, 100] : List Nat), [(-3)])), ((t4 tT (tL tI) tI tI) (([100, 114, 97, 119, 115] : List Nat), [1, 2], 7, (1 - 10000000000000000000000000000000000000000)))]) rfl (o_par (cat_L le_ol le_ol _ _) fun x7 => (n_ret ⟨rfl, rfl, rfl⟩)))))))))))))))))))))))))))))))))))))))))))))))))))))))))))))))))))))))))))))))))))))))))))))))))))))))))))))))))))))))))))))))))))))))))))))))))))))))))))))))))))))))))))))))))))))))))))))))))))))))))))))))))))))))))))))))))))))))))))))))))))))))))))))))))))))))))))))))))))))))
def p_law (a_script : List Int) : X Bool :=
  X.bind (X.ofO (rg1 20)) fun x1 => X.bindR (X.forL (fun (x2 : Int) (s3 : Unit) => X.bind (p__law_pile a_script x2) fun r5 => X.bind (p__law_saying r5) fun r6 => X.bind (p__law_kept r6.1) fun r7 => if (!r7) = true then (X.ok (.rt false)) else X.ok (.go ())) x1 ()) fun (s3 : Unit) => X.bind (X.nx (X.bind (X.nx (p__law_edges)) fun r8 => X.ok r8 : X (List D))) fun (y9 : List D) => X.bind (X.lcX (fun (x10 : D) => X.bind (X.nx (p__law_kept x10)) fun r12 => X.ok (!r12)) (fun (x10 : D) => X.ok x10) y9) fun x11 => X.bind (X.ofO (eqX (tL tD) x11 [])) fun x13 => X.ok x13
theorem t_law (a_script : List Int) : TF (m_law [(eD tR) a_script]) (p_law a_script) (fun r => (eD tB) r) (fun r => [none]) xAny :=
  tf_fn rfl (s_for (x_itR (x_cons (x_val (e := _) (a := (eD tI) 20) rfl (x_nil (o_par (rg_1 _) fun x1 => (k_forR (fun (s3 : Unit) (o4 : Option W × Unit) => ([some ((eD tR) a_script), o4.1, none] : AM.Env)) () (_, ()) rfl rfl (fun x2 s3 o4 => (k_set rfl (s_last (s_if (x_not (x_B (x_K0 (xa_own (x_fz (x_K0 (xa_own (x_K0 (xa_own (x_val rfl (xa_own (x_val rfl (xa_nil (k_call0 (aw_own (aw_own aw_nil)) (t__law_pile a_script x2) rfl rfl ⟨rfl, trivial⟩ fun r5 => (xa_nil (k_call0 (aw_own aw_nil) (t__law_saying r5) rfl rfl ⟨rfl, trivial⟩ fun r6 => (o_val (fzV fz_sh _) (xa_nil (k_call0 (aw_own aw_nil) (t__law_kept r6.1) rfl rfl ⟨rfl, trivial⟩ fun r7 => (o_val (bl_B _) (k_if (s_ret (x_val (e := _) (a := (eD tB) false) rfl (n_retS ⟨rfl, rfl, rfl⟩))) (s_nx (n_goS (_, ()) rfl))))))))))))))))))))))))))) fun s3 o4 => (n_env (e' := ([some ((eD tR) a_script), o4.1, none] : AM.Env)) rfl (s_last (s_ret (x_op2 (x_cp (x_itL (x_fz (x_nox (fun (y9 : List D) => (eO (eD tD)) y9) (fun (y9 : List D) (_ : Unit) => ([some ((eD tR) a_script), o4.1, none] : AM.Env)) (x_all (x_K0 (xa_nil (k_call0n aw_nil (t__law_edges) rfl rfl fun r8 => (e_end () rfl rfl))))) fun y9 _ => (o_val (fzV (fz_ol fz_sh) _) (o_val (le_sh _) (k_cpX (en := (eD tD)) rfl (fun _ => rfl) (fun (x10 : D) => (x_all (x_not (x_B (x_K0 (xa_own (x_val rfl (xa_nil (k_call0n (aw_own aw_nil) (t__law_kept x10) rfl rfl fun r12 => (o_val (bl_B _) (e_end () rfl rfl))))))))))) (fun (x10 : D) => (x_all (x_val rfl (e_end () rfl rfl)))) fun x11 => (x_lst (x_nil (o_val (lst_0 (e := (eD tD))) (o_imp (eq_X (fz_ol fz_sh) (fz_ol fz_sh) _ _) fun x13 => (n_ret ⟨rfl, rfl, rfl⟩)))))))))))))))))))))))
end LW
set_option Elab.async false
set_option linter.all false
set_option maxRecDepth 100000
set_option maxHeartbeats 4000000
namespace LW
open PySem AM TY
structure Pn (k : Nat) (d : D) : Prop where
  h : ∃ x, D.pd d = some x ∧ x.canLay0 = true ∧ x.depth ≤ k
theorem Pn.mono {k l : Nat} {d : D} (h : Pn k d) (e : k ≤ l) : Pn l d := by
  obtain ⟨x, a, b, c⟩ := h.h
  exact ⟨x, a, b, Nat.le_trans c e⟩
theorem pn_int (i : Int) : Pn 0 (tI i) := ⟨.int i, rfl, by simp [PyData.canLay0], by simp [PyData.depth]⟩
theorem pds_ok {k : Nat} : ∀ {ds : List D}, (∀ d ∈ ds, Pn k d) → ∃ xs, D.pds ds = some xs ∧ PyData.canLayAll0 xs = true ∧ PyData.depthAll xs ≤ k ∧ xs.length = ds.length
  | [], _ => ⟨[], rfl, by simp [PyData.canLayAll0], by simp [PyData.depthAll], rfl⟩
  | d :: ds, h => by
    obtain ⟨x, a, b, c⟩ := (h d (by simp)).h
    obtain ⟨xs, a2, b2, c2, l⟩ := pds_ok (ds := ds) fun e he => h e (by simp [he])
    refine ⟨x :: xs, by simp [D.pds, a, a2], by simp [PyData.canLayAll0, b, b2], ?_, by simp [l]⟩
    simp only [PyData.depthAll]
    omega
theorem pn_tup {k : Nat} {ds : List D} (h : ∀ d ∈ ds, Pn k d) : Pn (k + 1) (.tup ds) := by
  obtain ⟨xs, a, b, c, _⟩ := pds_ok h
  refine ⟨.tuple xs, by simp [D.pd, a], by simpa [PyData.canLay0] using b, ?_⟩
  simp only [PyData.depth]
  omega
theorem pn_lst {k : Nat} {ds : List D} (h : ∀ d ∈ ds, Pn k d) : Pn (k + 1) (.lst ds) := by
  obtain ⟨xs, a, b, c, _⟩ := pds_ok h
  refine ⟨.list xs, by simp [D.pd, a], by simpa [PyData.canLay0] using b, ?_⟩
  simp only [PyData.depth]
  omega
theorem wPd_pn {k : Nat} {d : D} (h : Pn k d) (hk : k ≤ 64) : ∃ x, wPd (.sh d) = some x ∧ D.pd d = some x ∧ x.canLay0 = true := by
  obtain ⟨x, a, b, c⟩ := h.h
  refine ⟨x, ?_, a, b⟩
  unfold wPd
  simp only [W.toD, Option.bind_some, a]
  rw [if_pos]
  simp [SeqAt.shaped, b]
  omega
theorem tLD (l : List D) : tL tD l = .lst l := by
  show D.lst (l.map id) = _
  rw [List.map_id]
structure Tx (t : List Nat) : Prop where
  ok : okT t = true
  len : t.length ≤ 80000
theorem okT_iff {t : List Nat} : okT t = true ↔ ∀ c ∈ t, c < 0x110000 := by simp [okT, List.all_eq_true]
theorem Tx.sub {a b : List Nat} (h : Tx a) (hs : ∀ c ∈ b, c ∈ a) (hl : b.length ≤ a.length) : Tx b := ⟨okT_iff.mpr fun c hc => okT_iff.mp h.ok c (hs c hc), Nat.le_trans hl h.len⟩
theorem Tx.drop {a : List Nat} (h : Tx a) (k : Nat) : Tx (a.drop k) := h.sub (fun c hc => List.mem_of_mem_drop hc) (by simp)
theorem Tx.take {a : List Nat} (h : Tx a) (k : Nat) : Tx (a.take k) := h.sub (fun c hc => List.mem_of_mem_take hc) (by simp; omega)
theorem eqT_ok {a b : List Nat} (ha : okT a = true) (hb : okT b = true) : eqT a b = some (decide (a = b)) := if_pos ⟨ha, hb⟩
theorem neT_ok {a b : List Nat} (ha : okT a = true) (hb : okT b = true) : neT a b = some (!decide (a = b)) := if_pos ⟨ha, hb⟩
theorem cutT_take {a : List Nat} (h : Tx a) (k : Nat) : cutT a none (some (k : Int)) = some (a.take k) := by
  unfold cutT
  rw [if_pos (by have := h.len; omega)]
  unfold cutL
  rw [HT.sIx_none, HT.sIx_nat]
  simp
theorem cutT_drop {a : List Nat} (h : Tx a) (k : Nat) : cutT a (some (k : Int)) none = some (a.drop k) := by
  unfold cutT
  rw [if_pos (by have := h.len; omega)]
  unfold cutL
  rw [HT.sIx_none, HT.sIx_nat]
  by_cases c : k ≤ a.length
  · rw [Nat.min_eq_left c, List.take_of_length_le (by simp)]
  · rw [Nat.min_eq_right (by omega), List.drop_of_length_le (Nat.le_refl _), List.drop_of_length_le (show a.length ≤ k by omega)]
    simp
theorem lenT_ok {a : List Nat} (h : Tx a) : lenT a = some (a.length : Int) := if_pos (by have := h.len; omega)
def isDg (c : Nat) : Bool := decide (48 ≤ c) && decide (c ≤ 57)
def rowN (w : List Nat) : List Nat := if w.take 1 = [45] then w.drop 1 else w
def badN (r w : List Nat) : Bool := decide (r = []) || decide (40 < r.length) || (decide (r.head? = some 48) && !decide (w = [48]))
def okN (w : List Nat) : Bool := !badN (rowN w) w && (rowN w).all isDg
def numI (w : List Nat) : Option Int := if okN w = true then intText? (SX.S w) else none
theorem digits_of {r : List Nat} (h : r.all isDg = true) : NumText.AllDigits r := fun c hc => by
  have := List.all_eq_true.mp h c hc
  simpa [isDg] using this
theorem okN_val {w : List Nat} (h : okN w = true) : ∃ v, intText? (SX.S w) = some v ∧ w.length ≤ 41 := by
  unfold okN at h
  simp only [Bool.and_eq_true, Bool.not_eq_true'] at h
  obtain ⟨h1, h2⟩ := h
  unfold badN at h1
  simp only [Bool.or_eq_false_iff, decide_eq_false_iff_not] at h1
  obtain ⟨⟨hne, hl⟩, _⟩ := h1
  unfold rowN at hne hl h2
  by_cases c : w.take 1 = [45]
  · rw [if_pos c] at hne hl h2
    obtain ⟨x, r, rfl⟩ : ∃ x r, w = x :: r := by
      cases w with
      | nil => simp at c
      | cons x r => exact ⟨x, r, rfl⟩
    simp at c
    subst c
    simp at hne hl h2
    refine ⟨_, intText_neg (x := SX.S (45 :: r)) (cs := r) rfl (digits_of (by simpa using h2)) hne ?_, by simp; omega⟩
    rw [SX.S_len]; simp; omega
  · rw [if_neg c] at hne hl h2
    refine ⟨_, intText_digits (x := SX.S w) (digits_of h2) hne ?_, by omega⟩
    rw [SX.S_len]; omega
theorem numI_len {w : List Nat} {v : Int} (h : numI w = some v) : okN w = true ∧ intText? (SX.S w) = some v := by
  unfold numI at h
  split at h
  · rename_i c
    exact ⟨c, h⟩
  · cases h
theorem notIn_dg (c : Nat) : notInT [c] [48, 49, 50, 51, 52, 53, 54, 55, 56, 57] = some (!isDg c) := by
  show some (!decide (c ∈ [48, 49, 50, 51, 52, 53, 54, 55, 56, 57])) = _
  congr 2
  simp only [isDg, List.mem_cons, List.not_mem_nil, or_false]
  rw [← Bool.decide_and]
  exact decide_eq_decide.mpr (by omega)
theorem rowN_tx {w : List Nat} (h : Tx w) : Tx (rowN w) := by
  unfold rowN
  split
  · exact h.drop 1
  · exact h
theorem row_ok {w : List Nat} (h : Tx w) : (X.bind (X.ofO (cutT w none (some 1))) fun x1 => X.bind (X.ofO (eqT x1 ([45] : List Nat))) fun x2 => if x2 = true then (X.bind (X.ofO (cutT w (some 1) none)) fun x3 => X.ok x3) else X.ok w) = X.ok (rowN w) := by
  rw [show cutT w none (some 1) = some (w.take 1) from cutT_take h 1, ofO_some, bind_ok, eqT_ok (h.take 1).ok (by decide), ofO_some, bind_ok, show cutT w (some 1) none = some (w.drop 1) from cutT_drop h 1, ofO_some, bind_ok]
  unfold rowN
  by_cases c : w.take 1 = [45]
  · rw [if_pos (decide_eq_true c), if_pos c]
  · rw [if_neg (by simpa using c), if_neg c]
theorem bad_ok {r w : List Nat} (hr : Tx r) (hw : Tx w) : (X.bind (X.ofO (eqT r ([] : List Nat))) fun x5 => X.bind (if x5 = true then X.ok true else X.bind (X.ofO (lenT r)) fun x6 => X.bind (if (decide (40 < x6)) = true then X.ok true else X.bind (X.ofO (ixT r 0)) fun x7 => X.bind (X.ofO (eqT x7 ([48] : List Nat))) fun x8 => X.bind (if x8 = true then (X.bind (X.ofO (neT w ([48] : List Nat))) fun x9 => X.ok x9) else X.ok false) fun b10 => X.ok b10) fun b11 => X.ok b11) fun b12 => X.ok b12) = X.ok (badN r w) := by
  rw [eqT_ok hr.ok (by decide), ofO_some, bind_ok]
  unfold badN
  cases r with
  | nil => simp
  | cons c r =>
    rw [if_neg (by simp), lenT_ok hr, ofO_some, bind_ok]
    by_cases l : 40 < (c :: r).length
    · rw [if_pos (by simp at l ⊢; omega), bind_ok, bind_ok]
      simp at l
      simp [l]
    · rw [if_neg (by simp at l ⊢; omega)]
      have hi : ixT (c :: r) 0 = some [c] := by
        unfold ixT
        rw [if_pos (by have := hr.len; omega), at_0]
        rfl
      have hc : okT [c] = true := okT_iff.mpr fun x hx => okT_iff.mp hr.ok x (by simp at hx; simp [hx])
      rw [hi, ofO_some, bind_ok, eqT_ok hc (by decide), ofO_some, bind_ok, neT_ok hw.ok (by decide), ofO_some, bind_ok]
      have l' : ¬ 40 < r.length + 1 := by simpa using l
      by_cases d : c = 48
      · subst d
        simp [l']
      · simp [d, l']
theorem dgs_ok : ∀ r : List Nat, X.forP (fun (x13 : List Nat) (s14 : Unit) => X.bind (X.ofO (notInT x13 ([48, 49, 50, 51, 52, 53, 54, 55, 56, 57] : List Nat))) fun x16 => if x16 = true then (X.ex ⟨"NoText", []⟩ : X Unit) else X.ok ()) (sgns r) () = if r.all isDg = true then X.ok () else X.ex ⟨"NoText", []⟩
  | [] => by simp [sgns, X.forP]
  | c :: r => by
    have ih := dgs_ok r
    show X.bind (X.bind (X.ofO (notInT [c] ([48, 49, 50, 51, 52, 53, 54, 55, 56, 57] : List Nat))) fun x16 => if x16 = true then (X.ex ⟨"NoText", []⟩ : X Unit) else X.ok ()) (fun s => X.forP _ (sgns r) s) = _
    rw [notIn_dg, ofO_some, bind_ok]
    by_cases d : isDg c = true
    · rw [show (c :: r).all isDg = r.all isDg by simp [d], d, if_neg (by decide), bind_ok]
      exact ih
    · rw [Bool.not_eq_true] at d
      rw [show (c :: r).all isDg = false by simp [d], d, if_pos (by decide), if_neg (by decide)]
      rfl
theorem intT_ok {w : List Nat} (h : okN w = true) : intT w = numI w := by
  obtain ⟨v, _, l⟩ := okN_val h
  unfold intT numI
  rw [if_pos (by omega), if_pos h]
def xN1 (o : Option Int) : X Int := match o with
  | some v => X.ok v
  | none => X.ex ⟨"NoText", []⟩
theorem numI_cases (w : List Nat) : (okN w = true ∧ ∃ v, numI w = some v) ∨ (okN w = false ∧ numI w = none) := by
  cases h : okN w with
  | true =>
    obtain ⟨v, e, _⟩ := okN_val h
    exact .inl ⟨rfl, v, by unfold numI; rw [if_pos h, e]⟩
  | false => exact .inr ⟨rfl, by unfold numI; rw [if_neg (by simp [h])]⟩
theorem pn_str {l : List Nat} (h : okT l = true) : Pn 0 (tT l) := by
  have h0 := wPd_T h
  refine ⟨.str (SX.S l), rfl, ?_, by simp [PyData.depth]⟩
  unfold wPd at h0
  simp only [eD, W.toD, Option.bind_some] at h0
  rw [show D.pd (tT l) = some (.str (SX.S l)) from rfl] at h0
  (try dsimp only at h0)
  split at h0
  · rename_i c
    simp only [SeqAt.shaped, Bool.and_eq_true] at c
    exact c.1
  · cases h0
end LW
set_option Elab.async false
set_option linter.all false
set_option maxRecDepth 100000
set_option maxHeartbeats 4000000
namespace LW
open PySem AM TY
theorem p_num {w : List Nat} (h : Tx w) : p_number_in w = xN1 (numI w) := by
  have hr := row_ok h
  have hb := bad_ok (rowN_tx h) h
  have hd := dgs_ok (rowN w)
  have e : p_number_in w = X.bind (X.bind (X.ofO (cutT w none (some 1))) fun x1 => X.bind (X.ofO (eqT x1 ([45] : List Nat))) fun x2 => if x2 = true then (X.bind (X.ofO (cutT w (some 1) none)) fun x3 => X.ok x3) else X.ok w) fun x4 =>
      X.bind (X.bind (X.ofO (eqT x4 ([] : List Nat))) fun x5 => X.bind (if x5 = true then X.ok true else X.bind (X.ofO (lenT x4)) fun x6 => X.bind (if (decide (40 < x6)) = true then X.ok true else X.bind (X.ofO (ixT x4 0)) fun x7 => X.bind (X.ofO (eqT x7 ([48] : List Nat))) fun x8 => X.bind (if x8 = true then (X.bind (X.ofO (neT w ([48] : List Nat))) fun x9 => X.ok x9) else X.ok false) fun b10 => X.ok b10) fun b11 => X.ok b11) fun b12 => X.ok b12) fun b12 => if b12 = true then (X.ex ⟨"NoText", []⟩) else X.bind (X.forP (fun (x13 : List Nat) (s14 : Unit) => X.bind (X.ofO (notInT x13 ([48, 49, 50, 51, 52, 53, 54, 55, 56, 57] : List Nat))) fun x16 => if x16 = true then (X.ex ⟨"NoText", []⟩ : X Unit) else X.ok ()) (sgns x4) ()) fun (s14 : Unit) => X.bind (X.ofO (intT w)) fun x17 => X.ok x17 := by
    unfold p_number_in
    rw [show cutT w none (some 1) = some (w.take 1) from cutT_take h 1, show cutT w (some 1) none = some (w.drop 1) from cutT_drop h 1]
    simp only [ofO_some, bind_ok, eqT_ok (h.take 1).ok (show okT [45] = true by decide)]
    by_cases c : w.take 1 = [45]
    · simp only [c, decide_true, if_true, bind_ok]
      rw [eqT_ok (h.drop 1).ok (by decide), ofO_some, bind_ok, bind_ok]
      rcases (if decide (w.drop 1 = []) = true then X.ok true else X.bind (X.ofO (lenT (w.drop 1))) fun x6 => X.bind (if (decide (40 < x6)) = true then X.ok true else X.bind (X.ofO (ixT (w.drop 1) 0)) fun x7 => X.bind (X.ofO (eqT x7 ([48] : List Nat))) fun x8 => X.bind (if x8 = true then (X.bind (X.ofO (neT w ([48] : List Nat))) fun x9 => X.ok x9) else X.ok false) fun b10 => X.ok b10) fun b11 => X.ok b11) with _ | ⟨b | x⟩ <;> rfl
    · simp only [c, decide_false, Bool.false_eq_true, if_false, bind_ok]
      rw [eqT_ok h.ok (by decide), ofO_some, bind_ok, bind_ok]
      rcases (if decide (w = []) = true then X.ok true else X.bind (X.ofO (lenT w)) fun x6 => X.bind (if (decide (40 < x6)) = true then X.ok true else X.bind (X.ofO (ixT w 0)) fun x7 => X.bind (X.ofO (eqT x7 ([48] : List Nat))) fun x8 => X.bind (if x8 = true then (X.bind (X.ofO (neT w ([48] : List Nat))) fun x9 => X.ok x9) else X.ok false) fun b10 => X.ok b10) fun b11 => X.ok b11) with _ | ⟨b | x⟩ <;> rfl
  rw [e, hr, bind_ok, hb, bind_ok, hd]
  rcases numI_cases w with ⟨k, v, hv⟩ | ⟨k, hv⟩
  · have k2 := k
    unfold okN at k2
    simp only [Bool.and_eq_true, Bool.not_eq_true'] at k2
    rw [if_neg (by simp [k2.1]), if_pos k2.2, bind_ok, intT_ok k, hv, ofO_some, bind_ok]
    rfl
  · rw [hv]
    unfold okN at k
    cases hb' : badN (rowN w) w with
    | true => rw [if_pos rfl]; rfl
    | false =>
      rw [hb'] at k
      have k2 : (rowN w).all isDg = false := by simpa using k
      rw [if_neg (by simp), if_neg (by simp [k2])]
      rfl
theorem p_numf {w : List Nat} (h : Tx w) (l : Int) : p_number_from w l = match numI w with
    | some v => if v < l then X.ex ⟨"NoText", []⟩ else X.ok v
    | none => X.ex ⟨"NoText", []⟩ := by
  unfold p_number_from
  rw [p_num h]
  rcases numI w with _ | v
  · rfl
  · show (if decide (v < l) = true then _ else _) = _
    by_cases c : v < l
    · rw [if_pos (decide_eq_true c)]; simp [c]
    · rw [if_neg (by simpa using c)]; simp [c]
/-- the law's -/
def numL (w : List Nat) (l : Option Int) : Option Int := match numI w, l with
  | some v, some l => if v < l then none else some v
  | o, _ => o
end LW
set_option Elab.async false
set_option linter.all false
set_option maxRecDepth 100000
set_option maxHeartbeats 4000000
namespace LW
open PySem AM TY
theorem spl_sub (Sp : List Nat) : ∀ (l : List Nat) (k : Nat) (acc : List Nat), ∀ p ∈ TL.spl Sp k acc l, (∀ c ∈ p, c ∈ acc ∨ c ∈ l) ∧ p.length ≤ acc.length + l.length
  | [], k, acc, p, hp => by
    rw [TL.spl_nil] at hp
    simp at hp
    subst hp
    exact ⟨fun c hc => .inl hc, by simp⟩
  | c :: r, 0, acc, p, hp => by
    cases h : TL.pre Sp (c :: r) with
    | true =>
      rw [TL.spl_hit h] at hp
      rcases List.mem_cons.mp hp with rfl | hp
      · exact ⟨fun c hc => .inl hc, by simp⟩
      · obtain ⟨a, b⟩ := spl_sub Sp r _ [] p hp
        exact ⟨fun x hx => .inr (by rcases a x hx with z | z; simp at z; simp [z]), by simp at b ⊢; omega⟩
    | false =>
      rw [TL.spl_miss h] at hp
      obtain ⟨a, b⟩ := spl_sub Sp r 0 (acc ++ [c]) p hp
      refine ⟨fun x hx => ?_, by simp at b ⊢; omega⟩
      rcases a x hx with z | z
      · simp at z
        rcases z with z | z
        · exact .inl z
        · exact .inr (by simp [z])
      · exact .inr (by simp [z])
  | c :: r, k + 1, acc, p, hp => by
    have e : TL.spl Sp (k + 1) acc (c :: r) = TL.spl Sp k acc r := rfl
    rw [e] at hp
    obtain ⟨a, b⟩ := spl_sub Sp r k acc p hp
    refine ⟨fun x hx => ?_, by simp at b ⊢; omega⟩
    rcases a x hx with z | z
    · exact .inl z
    · exact .inr (by simp [z])
theorem spl_len (Sp : List Nat) : ∀ (l : List Nat) (k : Nat) (acc : List Nat), (TL.spl Sp k acc l).length ≤ l.length + 1
  | [], k, acc => by rw [TL.spl_nil]; simp
  | c :: r, 0, acc => by
    cases h : TL.pre Sp (c :: r) with
    | true =>
      rw [TL.spl_hit h]
      have := spl_len Sp r (Sp.length - 1) []
      simp; omega
    | false =>
      rw [TL.spl_miss h]
      have := spl_len Sp r 0 (acc ++ [c])
      simp; omega
  | c :: r, k + 1, acc => by
    have e : TL.spl Sp (k + 1) acc (c :: r) = TL.spl Sp k acc r := rfl
    rw [e]
    have := spl_len Sp r k acc
    simp; omega
theorem Tx.spl {t : List Nat} (h : Tx t) (Sp : List Nat) : ∀ p ∈ TL.spl Sp 0 [] t, Tx p := fun p hp => by
  obtain ⟨a, b⟩ := spl_sub Sp t 0 [] p hp
  exact h.sub (fun c hc => by rcases a c hc with z | z; simp at z; exact z) (by simpa using b)
theorem splitT_ok {t Sp : List Nat} (h : Tx t) (h1 : Sp ≠ []) (h2 : Sp.all (· < 256) = true) : splitT t Sp = some (TL.spl Sp 0 [] t) := by
  unfold splitT
  rw [if_pos ⟨h1, h2, by have := h.len; omega⟩]
/-- the words of a text -/
abbrev wds (t : List Nat) : List (List Nat) := TL.spl [32] 0 [] t
def allI : List (Option Int) → Option (List Int)
  | [] => some []
  | o :: os => match o, allI os with
    | some v, some vs => some (v :: vs)
    | _, _ => none
def numsW (ws : List (List Nat)) : Option (List Int) := if 6 < ws.length then none else allI (ws.map numI)
def numsI (t : List Nat) : Option (List Int) := numsW (wds t)
def xNL (o : Option (List Int)) : X (List Int) := match o with
  | some v => X.ok v
  | none => X.ex ⟨"NoText", []⟩
theorem lcM_num : ∀ {ws : List (List Nat)}, (∀ w ∈ ws, Tx w) → X.lcM (fun (x2 : List Nat) => X.bind (p_number_in x2) fun r4 => X.ok r4) ws = xNL (allI (ws.map numI))
  | [], _ => rfl
  | w :: ws, h => by
    have ih := lcM_num (ws := ws) fun x hx => h x (by simp [hx])
    simp only [X.lcM, List.map_cons, allI]
    rw [p_num (h w (by simp))]
    rcases numI w with _ | v
    · rfl
    · simp only [xN1, bind_ok]
      rw [ih]
      rcases allI (ws.map numI) with _ | vs <;> rfl
theorem p_nums {t : List Nat} (h : Tx t) : p_numbers_in t = xNL (numsI t) := by
  unfold p_numbers_in
  rw [splitT_ok h (by decide) (by decide), ofO_some, bind_ok]
  unfold numsI numsW wds
  have hl := spl_len [32] t 0 []
  by_cases c : 6 < (TL.spl [32] 0 [] t).length
  · rw [if_pos (by simp; omega), if_pos c]
    rfl
  · rw [if_neg (by simp; omega), if_neg c, lcX_M (by have := h.len; omega), lcM_num (h.spl [32])]
    rcases allI _ with _ | vs <;> rfl
theorem join_cons {Sp p : List Nat} {ws : List (List Nat)} (h : ws ≠ []) : TL.joinL Sp (p :: ws) = p ++ (Sp ++ TL.joinL Sp ws) := by
  cases ws with
  | nil => exact absurd rfl h
  | cons q r => rfl
theorem join_app {Sp : List Nat} : ∀ {us vs : List (List Nat)}, us ≠ [] → vs ≠ [] → TL.joinL Sp (us ++ vs) = TL.joinL Sp us ++ (Sp ++ TL.joinL Sp vs)
  | [], _, h, _ => absurd rfl h
  | [u], vs, _, h => by
    show TL.joinL Sp (u :: vs) = _
    rw [join_cons h]
    rfl
  | u :: v :: us, vs, _, h => by
    have ih := join_app (us := v :: us) (by simp) h (Sp := Sp)
    show TL.joinL Sp (u :: ((v :: us) ++ vs)) = _
    rw [join_cons (by simp), ih, join_cons (ws := v :: us) (by simp)]
    simp
theorem wds_of {ws : List (List Nat)} (h : ws ≠ []) (hf : ∀ p ∈ ws, 32 ∉ p) : wds (TL.joinL [32] ws) = ws := SX.spl_join h hf
/-- a partition, read back -/
theorem par_eq {Sp : List Nat} (hS : Sp ≠ []) : ∀ {l acc p q : List Nat}, TL.par Sp acc l = some (p, q) → acc ++ l = p ++ (Sp ++ q)
  | [], acc, p, q, h => by simp [TL.par] at h
  | c :: r, acc, p, q, h => by
    cases e : TL.pre Sp (c :: r) with
    | true =>
      rw [TL.par_hit e] at h
      cases h
      have e2 : (c :: r).take Sp.length = Sp := by simpa [TL.pre] using e
      have := List.take_append_drop Sp.length (c :: r)
      rw [e2] at this
      rw [this]
    | false =>
      rw [TL.par_miss e] at h
      have := par_eq hS h
      simpa using this
/-- the signs of what is written as numbers -/
theorem okN_mem {w : List Nat} (h : okN w = true) : ∀ c ∈ w, c = 45 ∨ (48 ≤ c ∧ c ≤ 57) := fun c hc => by
  unfold okN at h
  simp only [Bool.and_eq_true] at h
  have h2 := h.2
  unfold rowN at h2
  by_cases m : w.take 1 = [45]
  · rw [if_pos m] at h2
    obtain ⟨x, r, rfl⟩ : ∃ x r, w = x :: r := by
      cases w with
      | nil => simp at m
      | cons x r => exact ⟨x, r, rfl⟩
    simp at m
    rcases List.mem_cons.mp hc with rfl | hc
    · exact .inl m
    · exact .inr (digits_of h2 c (by simpa using hc))
  · rw [if_neg m] at h2
    exact .inr (digits_of h2 c hc)
theorem numI_mem {w : List Nat} {v : Int} (h : numI w = some v) : ∀ c ∈ w, c = 45 ∨ (48 ≤ c ∧ c ≤ 57) := okN_mem (numI_len h).1
theorem join_mem {Sp : List Nat} : ∀ {ws : List (List Nat)} {c : Nat}, c ∈ TL.joinL Sp ws → c ∈ Sp ∨ ∃ w ∈ ws, c ∈ w
  | [], c, h => by simp [TL.joinL] at h
  | [w], c, h => .inr ⟨w, by simp, h⟩
  | w :: v :: ws, c, h => by
    rw [join_cons (by simp)] at h
    simp only [List.mem_append] at h
    rcases h with h | h | h
    · exact .inr ⟨w, by simp, h⟩
    · exact .inl h
    · rcases join_mem h with h | ⟨x, hx, h⟩
      · exact .inl h
      · exact .inr ⟨x, by simp [hx], h⟩
theorem allI_mem : ∀ {os : List (List Nat)} {vs : List Int}, allI (os.map numI) = some vs → ∀ w ∈ os, ∃ v, numI w = some v
  | [], vs, _, w, hw => by simp at hw
  | o :: os, vs, h, w, hw => by
    simp only [List.map_cons, allI] at h
    rcases e : numI o with _ | v
    · rw [e] at h; cases h
    · rw [e] at h
      rcases e2 : allI (os.map numI) with _ | us
      · rw [e2] at h; cases h
      · rcases List.mem_cons.mp hw with rfl | hw
        · exact ⟨v, e⟩
        · exact allI_mem e2 w hw
end LW
set_option Elab.async false
set_option linter.all false
set_option maxRecDepth 100000
namespace TY
open PySem AM
/-- how many ties join two places -/
def nearC (ties : Ties) (i j : Nat) : Int := Sl ties fun t => (if i = t.1.toNat ∧ j = t.2.toNat then 1 else 0) + (if i = t.2.toNat ∧ j = t.1.toNat then 1 else 0)
section
variable {n : Nat} {ties : Ties}
theorem nearC_nonneg {i j : Nat} : 0 ≤ nearC ties i j := Sl_nonneg fun t _ => by split <;> split <;> omega
theorem lap_near (ht : TiesOk n ties) {x : Nat → Int} {i : Nat} : lap ties x i = S n fun j => nearC ties i j * (x i - x j) := by
  have e : (fun j => nearC ties i j * (x i - x j)) = fun j => Sl ties fun t => (x i - x j) * ((if i = t.1.toNat ∧ j = t.2.toNat then 1 else 0) + (if i = t.2.toNat ∧ j = t.1.toNat then 1 else 0)) := by
    funext j
    unfold nearC
    rw [Sl_mul, Int.mul_comm]
  rw [e, S_Sl]
  unfold lap
  refine Sl_congr fun t h => ?_
  obtain ⟨h1, h2, h3⟩ := ht t h
  have hne : t.1.toNat ≠ t.2.toNat := by omega
  have k : ∀ j, (x i - x j) * ((if i = t.1.toNat ∧ j = t.2.toNat then (1 : Int) else 0) + (if i = t.2.toNat ∧ j = t.1.toNat then 1 else 0)) = (if j = t.2.toNat then (if i = t.1.toNat then x i - x j else 0) else 0) + (if j = t.1.toNat then (if i = t.2.toNat then x i - x j else 0) else 0) := fun j => by
    by_cases e1 : i = t.1.toNat <;> by_cases e2 : j = t.2.toNat <;> by_cases e3 : i = t.2.toNat <;> by_cases e4 : j = t.1.toNat <;> simp_all
  rw [S_congr fun j _ => k j, S_add, S_oneF, S_oneF, if_pos (show t.2.toNat < n by omega), if_pos (show t.1.toNat < n by omega)]
  unfold flow
  by_cases e1 : i = t.1.toNat
  · have e3 : ¬ i = t.2.toNat := by omega
    rw [if_pos e1, if_pos e1, if_neg e3, e1]
    omega
  · by_cases e3 : i = t.2.toNat
    · rw [if_neg e1, if_pos e3, if_neg e1, if_pos e3, e3]
      omega
    · rw [if_neg e1, if_neg e3, if_neg e1, if_neg e3]
      omega
/-- nobody but the place owes -/
def Eff (n q : Nat) (d : Nat → Int) : Prop := ∀ i, i < n → i ≠ q → 0 ≤ d i
/-- how many ties a place has with those outside a lot -/
def outs (n : Nat) (ties : Ties) (A : Nat → Bool) (i : Nat) : Int := S n fun j => if A j = true then 0 else nearC ties i j
/-- no lot without the place can lend -/
def Reduced (n : Nat) (ties : Ties) (q : Nat) (d : Nat → Int) : Prop := Eff n q d ∧ ∀ A : Nat → Bool, (∃ i, i < n ∧ A i = true) → A q = false → ∃ i, i < n ∧ A i = true ∧ d i < outs n ties A i
/-- a number that is greatest -/
theorem maxAt {x : Nat → Int} : ∀ {n : Nat}, 0 < n → ∃ i, i < n ∧ ∀ j, j < n → x j ≤ x i
  | 0, h => by omega
  | 1, _ => ⟨0, by omega, fun j hj => by rw [show j = 0 by omega]; omega⟩
  | n + 2, _ => by
    obtain ⟨i, hi, h⟩ := maxAt (x := x) (n := n + 1) (by omega)
    by_cases e : x i ≤ x (n + 1)
    · exact ⟨n + 1, by omega, fun j hj => by
        by_cases z : j = n + 1
        · rw [z]; omega
        · have := h j (by omega); omega⟩
    · exact ⟨i, by omega, fun j hj => by
        by_cases z : j = n + 1
        · rw [z]; omega
        · exact h j (by omega)⟩
/-- lending by times: who lends most gives at least one along each tie to those that lend less -/
theorem lap_top (ht : TiesOk n ties) {x : Nat → Int} {i : Nat} (hi : ∀ j, j < n → x j ≤ x i) : outs n ties (fun j => decide (x i ≤ x j)) i ≤ lap ties x i := by
  rw [lap_near ht]
  refine S_le fun j hj => ?_
  have h1 := hi j hj
  have h2 := nearC_nonneg (ties := ties) (i := i) (j := j)
  by_cases e : x i ≤ x j
  · simp only [e, decide_true, if_true]
    have : x i - x j = 0 := by omega
    rw [this]; simp
  · simp only [e, decide_false, Bool.false_eq_true, if_false]
    have h3 : 1 ≤ x i - x j := by omega
    calc nearC ties i j = nearC ties i j * 1 := by simp
      _ ≤ nearC ties i j * (x i - x j) := Int.mul_le_mul_of_nonneg_left h3 h2
theorem outs_congr {A B : Nat → Bool} (h : ∀ j, j < n → A j = B j) (i : Nat) : outs n ties A i = outs n ties B i := S_congr fun j hj => by rw [h j hj]
/-- from reduced dues no times lead to such without owing, but with the place among those that lend most -/
theorem red_top (ht : TiesOk n ties) {q : Nat} {d x : Nat → Int} (hn : 0 < n) (r : Reduced n ties q d) (e : Eff n q fun i => d i - lap ties x i) : ∀ j, j < n → x j ≤ x q := by
  obtain ⟨m, hm, hx⟩ := maxAt (x := x) hn
  intro j hj
  by_cases hq : x m ≤ x q
  · have := hx j hj; omega
  · exfalso
    obtain ⟨i, hi, hA, hd⟩ := r.2 (fun j => decide (x m ≤ x j)) ⟨m, hm, by simp⟩ (by simpa using hq)
    have hA : x m ≤ x i := by simpa using hA
    have hxi : x i = x m := by have := hx i hi; omega
    have h1 := lap_top ht (x := x) (i := i) fun j hj => by rw [hxi]; exact hx j hj
    have h2 : outs n ties (fun j => decide (x i ≤ x j)) i = outs n ties (fun j => decide (x m ≤ x j)) i := outs_congr (fun j _ => by rw [hxi]) i
    have hne : i ≠ q := fun z => hq (by rw [← z, hxi]; omega)
    have h3 : 0 ≤ d i - lap ties x i := e i hi hne
    omega
theorem lap_neg {x : Nat → Int} {i : Nat} : lap ties (fun j => - x j) i = - lap ties x i := by
  have := lap_add (ties := ties) (x := x) (y := fun j => - x j) (i := i)
  have z := lap_const (ties := ties) (c := 0) (i := i)
  have e : (fun j => x j + - x j) = fun _ => (0 : Int) := by funext j; omega
  rw [e, z] at this
  omega
/-- reduced dues are one -/
theorem red_one (ht : TiesOk n ties) {q : Nat} {d d' x : Nat → Int} (hn : 0 < n) (hq : q < n) (r : Reduced n ties q d) (r' : Reduced n ties q d') (e : ∀ i, i < n → d' i = d i - lap ties x i) : ∀ i, i < n → d' i = d i := by
  have h1 := red_top ht hn r (x := x) fun i hi hne => by
    show 0 ≤ d i - lap ties x i
    rw [← e i hi]
    exact r'.1 i hi hne
  have h2 := red_top ht hn r' (x := fun j => - x j) fun i hi hne => by
    simp only [lap_neg, e i hi]
    have := r.1 i hi hne
    omega
  intro i hi
  rw [e i hi, lap_congr (y := fun _ => x q) ht (fun j hj => by have := h1 j hj; have := h2 j hj; omega), lap_const]
  omega
/-- of dues without owing the reduced ones have at least as many at the place -/
theorem red_most (ht : TiesOk n ties) {q : Nat} {d d' x : Nat → Int} (hn : 0 < n) (hq : q < n) (r : Reduced n ties q d') (ef : Eff n q d) (e : ∀ i, i < n → d' i = d i - lap ties x i) : d q ≤ d' q := by
  have h1 := red_top ht hn r (x := fun j => - x j) fun i hi hne => by
    simp only [lap_neg, e i hi]
    have := ef i hi hne
    omega
  have h2 : 0 ≤ lap ties (fun j => - x j) q := by
    rw [lap_near ht]
    refine S_nonneg fun j hj => Int.mul_nonneg nearC_nonneg ?_
    have := h1 j hj
    omega
  rw [lap_neg] at h2
  rw [e q hq]
  omega
end
section
variable {n : Nat} {ties : Ties}
/-- a sum over a list of unlike places -/
theorem Sl_S {f : Nat → Int} : ∀ {L : List Nat}, L.Nodup → (∀ j ∈ L, j < n) → Sl L f = S n fun j => if j ∈ L then f j else 0
  | [], _, _ => by simp [S_zero]
  | a :: L, hn, hl => by
    have ih := Sl_S (f := f) (L := L) (List.nodup_cons.mp hn).2 fun j hj => hl j (by simp [hj])
    have ha : a ∉ L := (List.nodup_cons.mp hn).1
    rw [Sl_cons, ih]
    have e : ∀ j, (if j ∈ a :: L then f j else 0) = (if j = a then f a else 0) + (if j ∈ L then f j else 0) := fun j => by
      by_cases e1 : j = a
      · subst e1
        simp [ha]
      · by_cases e2 : j ∈ L <;> simp [e1, e2]
    rw [S_congr fun j _ => e j, S_add, S_one, if_pos (hl a (by simp))]
/-- an order of all places from the one on, each behind the first with fewer than its ties with those ahead -/
structure Burn (n : Nat) (ties : Ties) (d : Nat → Int) (q : Nat) (o : List Nat) : Prop where
  nd : o.Nodup
  all : ∀ i, i ∈ o ↔ i < n
  hd : o[0]? = some q
  few : ∀ k v, 0 < k → o[k]? = some v → d v < Sl (o.take k) (nearC ties v)
theorem Sl_all {o : List Nat} {f : Nat → Int} (nd : o.Nodup) (all : ∀ i, i ∈ o ↔ i < n) : Sl o f = S n f := by
  rw [Sl_S nd fun j hj => (all j).mp hj]
  exact S_congr fun j hj => if_pos ((all j).mpr hj)
end
end TY
set_option Elab.async false
set_option linter.all false
set_option maxRecDepth 100000
namespace TY
open PySem AM
section
variable {n : Nat} {ties : Ties}
/-- the place draws r of the dues -/
def IsDraw (n : Nat) (ties : Ties) (q : Nat) (d : Nat → Int) (r : Int) : Prop := ∃ x d' : Nat → Int, Reduced n ties q d' ∧ (∀ i, i < n → d' i = d i - lap ties x i) ∧ d' q = r
theorem Reduced.congr {q : Nat} {d d' : Nat → Int} (r : Reduced n ties q d) (h : ∀ i, i < n → d' i = d i) : Reduced n ties q d' := by
  refine ⟨fun i hi hne => by rw [h i hi]; exact r.1 i hi hne, fun A hA hq => ?_⟩
  obtain ⟨i, hi, h1, h2⟩ := r.2 A hA hq
  exact ⟨i, hi, h1, by rw [h i hi]; exact h2⟩
theorem IsDraw.congr {q : Nat} {d d' : Nat → Int} {r : Int} (h : IsDraw n ties q d r) (e : ∀ i, i < n → d' i = d i) : IsDraw n ties q d' r := by
  obtain ⟨x, u, h1, h2, h3⟩ := h
  exact ⟨x, u, h1, fun i hi => by rw [h2 i hi, e i hi], h3⟩
theorem IsDraw.uniq (ht : TiesOk n ties) {q : Nat} {d : Nat → Int} {r s : Int} (hn : 0 < n) (hq : q < n) (h : IsDraw n ties q d r) (k : IsDraw n ties q d s) : r = s := by
  obtain ⟨x, u, h1, h2, rfl⟩ := h
  obtain ⟨y, v, k1, k2, rfl⟩ := k
  refine (red_one ht hn hq h1 k1 (x := fun j => y j - x j) (fun i hi => ?_) q hq).symm
  rw [lap_sub, h2 i hi, k2 i hi]
  omega
theorem IsDraw.lent {q : Nat} {d t : Nat → Int} {r : Int} (h : IsDraw n ties q d r) : IsDraw n ties q (fun i => d i - lap ties t i) r := by
  obtain ⟨x, u, h1, h2, h3⟩ := h
  refine ⟨fun j => x j - t j, u, h1, fun i hi => ?_, h3⟩
  rw [h2 i hi, lap_sub]
  show _ = d i - lap ties t i - _
  omega
theorem Reduced.more {q : Nat} {d : Nat → Int} {m : Int} (r : Reduced n ties q d) : Reduced n ties q fun i => if i = q then d i + m else d i := by
  refine ⟨fun i hi hne => by simp only [if_neg hne]; exact r.1 i hi hne, fun A hA hq => ?_⟩
  obtain ⟨i, hi, h1, h2⟩ := r.2 A hA hq
  have hne : i ≠ q := fun z => by rw [z, hq] at h1; cases h1
  exact ⟨i, hi, h1, by simp only [if_neg hne]; exact h2⟩
theorem IsDraw.more {q : Nat} {d : Nat → Int} {r m : Int} (h : IsDraw n ties q d r) : IsDraw n ties q (fun i => if i = q then d i + m else d i) (r + m) := by
  obtain ⟨x, u, h1, h2, h3⟩ := h
  refine ⟨x, _, h1.more (m := m), fun i hi => ?_, by simp [h3]⟩
  by_cases e : i = q
  · simp only [if_pos e, h2 i hi]; omega
  · simp only [if_neg e, h2 i hi]
theorem IsDraw.mono (ht : TiesOk n ties) {q v : Nat} {d : Nat → Int} {r s : Int} (hn : 0 < n) (hq : q < n) (h : IsDraw n ties q d r) (k : IsDraw n ties q (fun i => if i = v then d i + 1 else d i) s) : r ≤ s := by
  obtain ⟨x, u, h1, h2, rfl⟩ := h
  obtain ⟨y, w, k1, k2, rfl⟩ := k
  have := red_most ht hn hq (d := fun i => if i = v then u i + 1 else u i) (d' := w) (x := fun j => y j - x j) k1 (fun i hi hne => ?_) fun i hi => ?_
  · by_cases e : q = v
    · simp only [if_pos e] at this; omega
    · simpa only [if_neg e] using this
  · have := h1.1 i hi hne
    by_cases e : i = v
    · simp only [if_pos e]; omega
    · simp only [if_neg e]; exact this
  · rw [lap_sub, k2 i hi]
    by_cases e : i = v
    · simp only [if_pos e, h2 i hi]; omega
    · simp only [if_neg e, h2 i hi]; omega
/-- what can be cleared -/
def CanClear (n : Nat) (ties : Ties) (d : Nat → Int) : Prop := ∃ x : Nat → Int, ∀ i, i < n → 0 ≤ d i - lap ties x i
end
/-- the beginning of an order -/
structure Pre (n : Nat) (ties : Ties) (d : Nat → Int) (q : Nat) (o : List Nat) : Prop where
  nd : o.Nodup
  lt : ∀ i ∈ o, i < n
  hd : o[0]? = some q
  few : ∀ k v, 0 < k → o[k]? = some v → d v < Sl (o.take k) (nearC ties v)
section
variable {n : Nat} {ties : Ties} {d : Nat → Int} {q : Nat} {o : List Nat}
theorem Pre.len (p : Pre n ties d q o) : o.length ≤ n := by
  have h := Sl_S (f := fun _ => (1 : Int)) p.nd p.lt
  rw [Sl_const] at h
  have h2 : S n (fun j => if j ∈ o then (1 : Int) else 0) ≤ S n fun _ => 1 := S_le fun j _ => by split <;> omega
  rw [S_const] at h2
  omega
theorem Pre.all (p : Pre n ties d q o) (hl : o.length = n) : Burn n ties d q o := by
  refine ⟨p.nd, fun i => ⟨p.lt i, fun hi => ?_⟩, p.hd, p.few⟩
  apply Classical.byContradiction
  intro hno
  have h := Sl_S (f := fun _ => (1 : Int)) p.nd p.lt
  rw [Sl_const, hl] at h
  have h2 : S n (fun j => (if j ∈ o then (1 : Int) else 0) + if j = i then 1 else 0) ≤ S n fun _ => 1 := S_le fun j _ => by
    by_cases e : j = i
    · subst e; simp [hno]
    · by_cases e2 : j ∈ o <;> simp [e, e2]
  rw [S_const, S_add, S_one, if_pos hi] at h2
  omega
end
end TY
set_option Elab.async false
set_option linter.all false
set_option maxRecDepth 100000
namespace TY
open PySem AM
end TY
set_option Elab.async false
set_option linter.all false
set_option maxRecDepth 100000
namespace TY
open PySem AM
section
variable {n : Nat} {ties : Ties}
structure Ord (n : Nat) (o : List Nat) : Prop where
  nd : o.Nodup
  all : ∀ i, i ∈ o ↔ i < n
/-- for each place its ties with those ahead, less 1 -/
def nu (ties : Ties) (o : List Nat) (v : Nat) : Int := Sl (o.take (o.idxOf v)) (nearC ties v) - 1
theorem Ord.len {o : List Nat} (h : Ord n o) : o.length = n := by
  have h1 := Sl_all (f := fun _ => (1 : Int)) h.nd h.all
  rw [Sl_const, S_const] at h1
  omega
/-- what is more than nothing, all together -/
def pos (n : Nat) (f : Nat → Int) : Int := S n fun i => if 0 ≤ f i then f i else 0
/-- dues that an order bars with so many losses more -/
def Falls (n : Nat) (ties : Ties) (d : Nat → Int) (k : Int) : Prop := ∃ (x : Nat → Int) (o : List Nat), Ord n o ∧ pos n (fun i => d i - lap ties x i - nu ties o i) ≤ k
theorem Falls.mono {d : Nat → Int} {k l : Int} (h : Falls n ties d k) (hl : k ≤ l) : Falls n ties d l := by
  obtain ⟨x, o, h1, h⟩ := h
  exact ⟨x, o, h1, by omega⟩
theorem Falls.lent {d t : Nat → Int} {k : Int} (h : Falls n ties d k) : Falls n ties (fun i => d i - lap ties t i) k := by
  obtain ⟨x, o, ho, h⟩ := h
  refine ⟨fun i => x i - t i, o, ho, ?_⟩
  have : (fun i => d i - lap ties t i - lap ties (fun j => x j - t j) i - nu ties o i) = fun i => d i - lap ties x i - nu ties o i := by
    funext i
    rw [lap_sub]
    omega
  rw [this]
  exact h
theorem Falls.congr {d d' : Nat → Int} {k : Int} (h : Falls n ties d k) (e : ∀ i, i < n → d' i = d i) : Falls n ties d' k := by
  obtain ⟨x, o, ho, h⟩ := h
  refine ⟨x, o, ho, ?_⟩
  have : pos n (fun i => d' i - lap ties x i - nu ties o i) = pos n fun i => d i - lap ties x i - nu ties o i := S_congr fun i hi => by simp only [e i hi]
  omega
/-- the number that dues stand -/
def Stands (n : Nat) (ties : Ties) (d : Nat → Int) (r : Int) : Prop := -1 ≤ r ∧ ¬ Falls n ties d r ∧ Falls n ties d (r + 1)
theorem Stands.uniq {d : Nat → Int} {r s : Int} (h : Stands n ties d r) (k : Stands n ties d s) : r = s := by
  apply Classical.byContradiction
  intro hne
  rcases Int.lt_or_gt_of_ne hne with h1 | h1
  · exact k.2.1 (h.2.2.mono (by omega))
  · exact h.2.1 (k.2.2.mono (by omega))
theorem Stands.congr {d d' : Nat → Int} {r : Int} (h : Stands n ties d r) (e : ∀ i, i < n → d' i = d i) : Stands n ties d' r := ⟨h.1, fun z => h.2.1 (z.congr fun i hi => (e i hi).symm), h.2.2.congr e⟩
theorem Stands.lent {d t : Nat → Int} {r : Int} (h : Stands n ties d r) : Stands n ties (fun i => d i - lap ties t i) r := by
  refine ⟨h.1, fun z => h.2.1 ?_, h.2.2.lent⟩
  have := z.lent (t := fun i => - t i)
  exact this.congr fun i _ => by rw [lap_neg]; omega
theorem CanClear.sum (ht : TiesOk n ties) {d : Nat → Int} (h : CanClear n ties d) : 0 ≤ S n d := by
  obtain ⟨x, hx⟩ := h
  have := S_nonneg hx
  rw [S_sub, show S n (fun i => lap ties x i) = 0 from lap_sum ht] at this
  omega
theorem CanClear.lent {d t : Nat → Int} (h : CanClear n ties d) : CanClear n ties fun i => d i - lap ties t i := by
  obtain ⟨x, hx⟩ := h
  refine ⟨fun i => x i - t i, fun i hi => ?_⟩
  have := hx i hi
  rw [lap_sub]
  show 0 ≤ d i - lap ties t i - _
  omega
theorem CanClear.congr {d d' : Nat → Int} (h : CanClear n ties d) (e : ∀ i, i < n → d' i = d i) : CanClear n ties d' := by
  obtain ⟨x, hx⟩ := h
  exact ⟨x, fun i hi => by rw [e i hi]; exact hx i hi⟩
end
end TY
set_option Elab.async false
set_option linter.all false
set_option maxRecDepth 100000
set_option maxHeartbeats 4000000
namespace LW
open PySem AM TY
def PileOk (N : Nat) (p : List Int) : Prop := ∃ a b c : Int, p = [a, b, c] ∧ 0 ≤ c ∧ c < N
theorem PileOk.mono {N M : Nat} {p : List Int} (h : PileOk N p) (hl : N ≤ M) : PileOk M p := by
  obtain ⟨a, b, c, e, h0, h1⟩ := h
  exact ⟨a, b, c, e, h0, by omega⟩
theorem mixed_ok (a b : Int) (hb : b.natAbs < 2 ^ 60) : ∃ r, p__law_mixed a b = X.ok r := by
  unfold p__law_mixed
  rw [mulO_ok (n := 40) (m := 40) (by omega) (by decide) (by omega), ofO_some, bind_ok, mulO_ok (n := 60) (m := 40) hb (by decide) (by omega), ofO_some, bind_ok,
    mulO_ok (n := 40) (m := 40) (by omega) (by omega) (by omega), ofO_some, bind_ok, mulO_ok (n := 40) (m := 40) (by omega) (by omega) (by omega), ofO_some, bind_ok]
  exact ⟨_, rfl⟩
theorem take_ok {N : Nat} {p : List Int} {m : Int} (h : PileOk N p) (hN : N ≤ 2 ^ 50) (hm : 0 < m) (hm2 : m < 2 ^ 60) : ∃ r p', p__law_take p m = X.ok (r, p') ∧ 0 ≤ r ∧ r < m ∧ PileOk (N + 1) p' := by
  obtain ⟨a, b, c, rfl, h0, h1⟩ := h
  unfold p__law_take
  simp only [at_0, at_2, ofO_some, bind_ok, decide_eq_true_eq]
  have hd : divO a m = some (a / m) := divO_pos hm (Nat.lt_of_lt_of_le (show m.natAbs < 2 ^ 60 by omega) (Nat.pow_le_pow_right (by decide) (by decide)))
  by_cases hc : a ∈ [0, -1]
  · obtain ⟨r, hr⟩ := mixed_ok b (c + 1) (by omega)
    refine ⟨r % m, [a, b, c + 1], ?_, Int.emod_nonneg _ (by omega), Int.emod_lt_of_pos _ hm, a, b, c + 1, rfl, by omega, by omega⟩
    rw [if_pos hc, setO_ok (by decide) (by simp), ofO_some, bind_ok, ixO_ok (x := b) (by decide) rfl, ofO_some, bind_ok, ixO_ok (x := c + 1) (by decide) rfl, ofO_some, bind_ok]
    simp only [hr, bind_ok, modO_pos hm, ofO_some]
    rfl
  · refine ⟨a % m, [a / m, b, c], ?_, Int.emod_nonneg _ (by omega), Int.emod_lt_of_pos _ hm, a / m, b, c, rfl, by omega, by omega⟩
    rw [if_neg hc]
    simp only [modO_pos hm, hd, ofO_some, bind_ok]
    rw [setO_ok (by decide) (by simp), ofO_some, bind_ok]
    rfl
theorem pile_ok (ns : List Int) (k : Int) (h0 : 0 ≤ k) (h1 : k ≤ 1000) : ∃ p, p__law_pile ns k = X.ok p ∧ PileOk 100000 p := by
  have key : ∀ s2 : Int, ∃ p, (X.bind (X.ofO (at_  [0, (s2 % 1000000000000000000000000000000000000000000000000000000000000000000000000000000000000000000000000000000000000000000000000000000000000000000000000000000)] (b2i (decide (1000000000000000000 ≤ (absI s2)))))) fun x4 => X.bind (X.ofO (mulO  97 k)) fun x5 => X.ok [x4, (s2 % 2147483647), x5]) = X.ok p ∧ PileOk 100000 p := by
    intro s2
    rw [mulO_ok (n := 40) (m := 40) (by decide) (by omega) (by omega)]
    by_cases hb : 1000000000000000000 ≤ absI s2
    · rw [decide_eq_true hb, b2i_t]
      simp only [at_1, ofO_some, bind_ok]
      exact ⟨_, rfl, _, _, _, rfl, by omega, by omega⟩
    · rw [decide_eq_false hb, b2i_f]
      simp only [at_0, ofO_some, bind_ok]
      exact ⟨_, rfl, _, _, _, rfl, by omega, by omega⟩
  unfold p__law_pile
  simp only [decide_eq_true_eq]
  by_cases hk : k < ((ns.length : Nat) : Int)
  · rw [if_pos hk, at_ok (x := ns[k.toNat]'(by omega)) h0 (List.getElem?_eq_getElem _)]
    exact key _
  · rw [if_neg hk]
    exact key 0
theorem take_big {N : Nat} {p : List Int} {m : Int} (h : PileOk N p) (hN : N ≤ 2 ^ 50) (hm : 0 < m) (hm2 : m.natAbs < 2 ^ 200) : ∃ r p', p__law_take p m = X.ok (r, p') ∧ 0 ≤ r ∧ r < m ∧ PileOk (N + 1) p' := by
  obtain ⟨a, b, c, rfl, h0, h1⟩ := h
  unfold p__law_take
  simp only [at_0, at_2, ofO_some, bind_ok, decide_eq_true_eq]
  have hd : divO a m = some (a / m) := divO_pos hm (Nat.lt_of_lt_of_le hm2 (Nat.pow_le_pow_right (by decide) (by decide)))
  by_cases hc : a ∈ [0, -1]
  · obtain ⟨r, hr⟩ := mixed_ok b (c + 1) (by omega)
    refine ⟨r % m, [a, b, c + 1], ?_, Int.emod_nonneg _ (by omega), Int.emod_lt_of_pos _ hm, a, b, c + 1, rfl, by omega, by omega⟩
    rw [if_pos hc, setO_ok (by decide) (by simp), ofO_some, bind_ok, ixO_ok (x := b) (by decide) rfl, ofO_some, bind_ok, ixO_ok (x := c + 1) (by decide) rfl, ofO_some, bind_ok]
    simp only [hr, bind_ok, modO_pos hm, ofO_some]
    rfl
  · refine ⟨a % m, [a / m, b, c], ?_, Int.emod_nonneg _ (by omega), Int.emod_lt_of_pos _ hm, a / m, b, c, rfl, by omega, by omega⟩
    rw [if_neg hc]
    simp only [modO_pos hm, hd, ofO_some, bind_ok]
    rw [setO_ok (by decide) (by simp), ofO_some, bind_ok]
    rfl
theorem catT_ok {a b : List Nat} (h : a.length + b.length ≤ 100000) : catT a b = some (a ++ b) := if_pos h
structure Sm (L : Nat) (t : List Nat) : Prop where
  ok : okT t = true
  len : t.length ≤ L
theorem Sm.tx {L : Nat} {t : List Nat} (h : Sm L t) (hL : L ≤ 80000) : Tx t := ⟨h.ok, Nat.le_trans h.len hL⟩
theorem Sm.mono {L M : Nat} {t : List Nat} (h : Sm L t) (hL : L ≤ M) : Sm M t := ⟨h.ok, Nat.le_trans h.len hL⟩
theorem Sm.app {L M : Nat} {a b : List Nat} (h : Sm L a) (k : Sm M b) : Sm (L + M) (a ++ b) := ⟨okT_iff.mpr fun c hc => by
  rcases List.mem_append.mp hc with z | z
  · exact okT_iff.mp h.ok c z
  · exact okT_iff.mp k.ok c z, by have := h.len; have := k.len; simp; omega⟩
theorem numL_head {n : Nat} (h : n ≠ 0) : ∃ c r, TL.numL n = c :: r ∧ c ≠ 48 := by
  induction n using Nat.strongRecOn with
  | _ n ih =>
    by_cases h2 : n < 10
    · exact ⟨48 + n, [], TL.numL_lt h2, by omega⟩
    · obtain ⟨c, r, e, hc⟩ := ih (n / 10) (by omega) (by omega)
      exact ⟨c, r ++ [48 + n % 10], by rw [TL.numL_step (by omega), e]; rfl, hc⟩
theorem digs_all {l : List Nat} (h : PySem.NumText.AllDigits l) : l.all isDg = true := List.all_eq_true.mpr fun c hc => by
  have := h c hc
  simp only [isDg, Bool.and_eq_true, decide_eq_true_eq]
  exact this
theorem neg_text (m : Nat) : (Str.ofString (toString (Int.negSucc m))).cps.toList = 45 :: TL.numL (m + 1) := by
  have e1 : toString (Int.negSucc m) = "-" ++ toString ((m + 1 : Nat) : Int) := rfl
  have e2 := TL.tl_num (m + 1)
  rw [e1, Str.ofString_eq_toList, ← e2]
  unfold TL.tl
  rw [Str.ofString_eq_toList]
  simp [String.toList_append]
theorem int_text {z : Int} (h : z.natAbs < 10 ^ 40) : ∃ t, strT z = some t ∧ numI t = some z ∧ Sm 41 t ∧ 32 ∉ t ∧ t ≠ [] := by
  have hl : z.natAbs.log2 < 1920 := log_lt (Nat.lt_of_lt_of_le h (by decide)) (by decide)
  cases z with
  | ofNat n =>
    have e : (Str.ofString (toString ((n : Nat) : Int))).cps.toList = TL.numL n := TL.tl_num n
    have hd := TL.numL_digits n
    have hn : n < 10 ^ 40 := h
    have len := TL.numL_len (n := n) (k := 40) (by decide) hn
    have ne := TL.numL_ne n
    refine ⟨TL.numL n, by unfold strT; rw [if_pos hl]; exact congrArg some e, ?_, ⟨okT_iff.mpr fun c hc => by have := hd c hc; omega, by omega⟩, fun z => by have := hd 32 z; omega, ne⟩
    have r1 : rowN (TL.numL n) = TL.numL n := by
      unfold rowN
      rw [if_neg]
      intro z
      rcases e2 : TL.numL n with _ | ⟨c, r⟩
      · exact ne e2
      · rw [e2] at z hd
        simp at z
        have := hd c (by simp)
        omega
    have ok : okN (TL.numL n) = true := by
      unfold okN badN
      rw [r1, digs_all hd]
      by_cases h0 : n = 0
      · subst h0
        rw [TL.numL_lt (by decide)]
        (try rfl)
      · obtain ⟨c, r, e2, hc⟩ := numL_head h0
        rw [e2] at len ⊢
        simp at len
        simp [hc]
        (try omega)
    unfold numI
    rw [if_pos ok]
    have := TL.int_num (n := n) (by omega)
    have e3 : SX.S (TL.numL n) = Str.ofString (toString ((n : Nat) : Int)) := by
      rw [← e]
      (try rfl)
    rw [e3]
    exact this
  | negSucc m =>
    have e := neg_text m
    have hd := TL.numL_digits (m + 1)
    have hn : m + 1 < 10 ^ 40 := h
    have len := TL.numL_len (n := m + 1) (k := 40) (by decide) hn
    have ne := TL.numL_ne (m + 1)
    refine ⟨45 :: TL.numL (m + 1), by unfold strT; rw [if_pos hl]; exact congrArg some e, ?_, ⟨okT_iff.mpr fun c hc => by
      rcases List.mem_cons.mp hc with rfl | hc
      · decide
      · have := hd c hc; omega, by simp; omega⟩, fun z => by
      rcases List.mem_cons.mp z with z | z
      · cases z
      · have := hd 32 z; omega, by simp⟩
    have r1 : rowN (45 :: TL.numL (m + 1)) = TL.numL (m + 1) := rfl
    have ok : okN (45 :: TL.numL (m + 1)) = true := by
      unfold okN badN
      rw [r1, digs_all hd]
      obtain ⟨c, r, e2, hc⟩ := numL_head (n := m + 1) (by omega)
      rw [e2] at len ⊢
      simp at len
      simp [hc]
      (try omega)
    unfold numI
    rw [if_pos ok]
    have := PySem.intText_neg (x := SX.S (45 :: TL.numL (m + 1))) (cs := TL.numL (m + 1)) rfl hd ne (by rw [SX.S_len]; simp; omega)
    rw [this, TL.numL_val]
    rfl
end LW
set_option Elab.async false
set_option linter.all false
set_option maxRecDepth 100000
set_option maxHeartbeats 4000000
namespace LW
open PySem AM TY
theorem join_sm : ∀ {ys : List (List Nat)}, (∀ y ∈ ys, Sm 43 y) → Sm (44 * ys.length) (TL.joinL [32] ys)
  | [], _ => ⟨by decide, by simp [TL.joinL]⟩
  | [y], h => by
    have := h y (by simp)
    exact this.mono (by simp)
  | y :: z :: ys, h => by
    have h1 := h y (by simp)
    have h2 := join_sm (ys := z :: ys) fun x hx => h x (by simp [hx])
    rw [join_cons (by simp)]
    have s32 : Sm 1 [32] := ⟨by decide, by simp⟩
    have := h1.app (s32.app h2)
    refine this.mono ?_
    simp
    omega
theorem sum43 : ∀ {ys : List (List Nat)}, (∀ y ∈ ys, Sm 43 y) → (ys.map (·.length)).sum ≤ 43 * ys.length
  | [], _ => by simp
  | y :: ys, h => by
    have h1 := (h y (by simp)).len
    have h2 := sum43 (ys := ys) fun x hx => h x (by simp [hx])
    simp
    omega
theorem ints_text : ∀ {xs : List Int}, (∀ z ∈ xs, z.natAbs < 10 ^ 40) → ∃ ys, X.lcM (fun (x1 : Int) => X.bind (X.ofO (strT x1)) fun x3 => X.ok x3) xs = X.ok ys ∧
    X.lcM (fun (x2 : D) => X.bind (X.ofO (asI x2)) fun x4 => X.bind (X.ofO (strT x4)) fun x5 => X.ok x5) (xs.map tI) = X.ok ys ∧ ys.length = xs.length ∧ (∀ y ∈ ys, Sm 43 y ∧ 32 ∉ y) ∧ allI (ys.map numI) = some xs
  | [], _ => ⟨[], rfl, rfl, rfl, by simp, rfl⟩
  | x :: xs, h => by
    obtain ⟨ys, e, e', l, s, a⟩ := ints_text (xs := xs) fun z hz => h z (by simp [hz])
    obtain ⟨y, e1, n1, s1, f1, _⟩ := int_text (h x (by simp))
    have ea : asI (tI x) = some x := rfl
    refine ⟨y :: ys, ?_, ?_, by simp [l], fun z hz => ?_, ?_⟩
    · simp only [X.lcM, e1, ofO_some, bind_ok, e]
    · simp only [List.map_cons, X.lcM, ea, e1, ofO_some, bind_ok, e']
    · rcases List.mem_cons.mp hz with rfl | hz
      · exact ⟨s1.mono (by decide), f1⟩
      · exact s z hz
    · simp only [List.map_cons, allI, n1, a]
/-- numbers as words -/
structure Nw (xs : List Int) (ys : List (List Nat)) : Prop where
  len : ys.length = xs.length
  sm : ∀ y ∈ ys, Sm 43 y
  free : ∀ y ∈ ys, 32 ∉ y
  val : allI (ys.map numI) = some xs
theorem nums_text {xs : List Int} (h : ∀ z ∈ xs, z.natAbs < 10 ^ 40) (h0 : xs ≠ []) (h6 : xs.length ≤ 6) : ∃ ys, p__law_numbers_text xs = X.ok (TL.joinL [32] ys) ∧ p_show_numbers (tL tI xs) = X.ok (TL.joinL [32] ys) ∧ Nw xs ys ∧ ys ≠ [] := by
  obtain ⟨ys, e, e', l, s, a⟩ := ints_text h
  have h1 := sum43 (ys := ys) fun y hy => (s y hy).1
  have ne : ys ≠ [] := by
    rintro rfl
    exact h0 (List.length_eq_zero_iff.mp (by simpa using l.symm))
  have hj : joinT [32] ys = some (TL.joinL [32] ys) := by
    unfold joinT
    rw [if_pos (by simp; omega)]
  refine ⟨ys, ?_, ?_, ⟨l, fun y hy => (s y hy).1, fun y hy => (s y hy).2, a⟩, ne⟩
  · unfold p__law_numbers_text
    rw [lcX_M (by omega), e, bind_ok, hj, ofO_some, bind_ok]
  · unfold p_show_numbers
    have ed : dEls (tL tI xs) = some (xs.map tI) := rfl
    rw [ed, ofO_some, bind_ok, lcX_M (by simp; omega), e', bind_ok, hj, ofO_some, bind_ok]
theorem Nw.read {xs : List Int} {ys : List (List Nat)} (h : Nw xs ys) (ne : ys ≠ []) (h6 : xs.length ≤ 6) : numsI (TL.joinL [32] ys) = some xs := by
  unfold numsI
  rw [wds_of ne h.free]
  unfold numsW
  rw [if_neg (by have := h.len; omega)]
  exact h.val
end LW
set_option Elab.async false
set_option linter.all false
set_option maxRecDepth 100000
set_option maxHeartbeats 4000000
namespace LW
open PySem AM TY
theorem at_back {α : Type} {xs : List α} {k : Nat} (h1 : 0 < k) (h2 : k ≤ xs.length) : at_ xs (-(k : Int)) = xs[xs.length - k]? := by
  have e : ((-(k : Int)) + (xs.length : Int)).toNat = xs.length - k := by omega
  simp only [at_, L2.atI, L2.ixN]
  rw [if_neg (by omega)]
  first
  | (rw [if_pos (by omega)]; simp [e])
  | (simp [e]; try omega)
theorem cut_back {α : Type} {xs : List α} {k : Nat} (h1 : 0 < k) (h2 : k ≤ xs.length) : cutL xs none (some (-(k : Int))) = xs.take (xs.length - k) := by
  unfold cutL
  rw [HT.sIx_none]
  have e : HT.sIx xs.length xs.length (some (-(k : Int))) = xs.length - k := by
    show (if (-(k : Int)) < 0 then ((-(k : Int)) + (xs.length : Int)).toNat else _) = _
    rw [if_pos (by omega)]
    omega
  rw [e]
  simp
theorem gIn2 {w a b : List Nat} (hw : okT w = true) (ha : okT a = true) (hb : okT b = true) : wsB (gIn (((eD tT) w), ((eD (t2 tT tT)) (a, b)))) = some (decide (w = a) || decide (w = b)) := by
  obtain ⟨y, v1, v2, _⟩ := wPd_pn (pn_tup (k := 0) (ds := [tT a, tT b]) fun d hd => by
    simp at hd
    rcases hd with rfl | rfl
    · exact pn_str ha
    · exact pn_str hb) (by decide)
  simp only [D.pd, Option.map_eq_some_iff] at v2
  obtain ⟨ps, _, rfl⟩ := v2
  unfold gIn gDD
  (try dsimp only)
  rw [wPd_T hw, show eD (t2 tT tT) (a, b) = .sh (.tup [tT a, tT b]) from rfl, v1]
  have e1 : L2.eqV (.str (SX.S a)) (.str (SX.S w)) = decide (w = a) := by
    show (SX.S a == SX.S w) = _
    rw [SX.S_beq_eq]
    exact decide_eq_decide.mpr ⟨Eq.symm, Eq.symm⟩
  have e2 : L2.eqV (.str (SX.S b)) (.str (SX.S w)) = decide (w = b) := by
    show (SX.S b == SX.S w) = _
    rw [SX.S_beq_eq]
    exact decide_eq_decide.mpr ⟨Eq.symm, Eq.symm⟩
  have e3 : L2.inV (.str (SX.S w)) [.str (SX.S a), .str (SX.S b)] = (decide (w = a) || decide (w = b)) := by
    simp only [L2.inV, List.any_cons, List.any_nil, Bool.or_false, e1, e2]
  show wsB ((Option.map _ (fIn _ (.tuple ps))).or ((gInT false (.sh (tT w), .sh (.tup [tT a, tT b]))).or _)) = _
  simp only [fIn, Option.map_none, Option.none_or, gInT, tT, dFlat, dFlats, Bool.false_eq_true, if_false, e3]
  rfl
theorem pre_mark {c : Nat} {S2 p q : List Nat} (hc : c ≠ 32) (h : c ∉ p) : ∀ i, i < p.length → TL.pre (32 :: c :: S2) ((p ++ (32 :: c :: S2 ++ q)).drop i) = false := fun i hi => by
  have hd : (p ++ (32 :: c :: S2 ++ q)).drop i = p.drop i ++ (32 :: c :: S2 ++ q) := by rw [List.drop_append_of_le_length (by omega)]
  rw [hd]
  obtain ⟨x, e⟩ := TL.getElem_drop_cons hi
  obtain ⟨x, r, e, hx, hr⟩ : ∃ x r, p.drop i = x :: r ∧ x ∈ p ∧ (∀ y ∈ r, y ∈ p) := ⟨x, _, e, List.mem_of_mem_drop (by rw [e]; simp), fun y hy => List.mem_of_mem_drop hy⟩
  rw [e]
  cases r with
  | nil =>
    simp only [TL.pre, List.cons_append, List.nil_append, List.length_cons, List.take_succ_cons]
    simp [hc.symm]
  | cons y r =>
    have hy := hr y (by simp)
    have : y ≠ c := fun z => h (by rw [← z]; exact hy)
    simp only [TL.pre, List.cons_append, List.length_cons, List.take_succ_cons]
    simp [this]
theorem spl_mark {c : Nat} {S2 p q : List Nat} (hc : c ≠ 32) (h : c ∉ p) : TL.spl (32 :: c :: S2) 0 [] (p ++ (32 :: c :: S2 ++ q)) = p :: TL.spl (32 :: c :: S2) 0 [] q := by
  have := TL.spl_part (S := 32 :: c :: S2) (p := p) (rest := q) (acc := []) (by simp) (pre_mark hc h)
  simpa using this
theorem spl_no {c : Nat} {S2 : List Nat} : ∀ {l acc : List Nat}, c ∉ l → TL.spl (32 :: c :: S2) 0 acc l = [acc ++ l]
  | [], acc, _ => by rw [TL.spl_nil]; simp
  | x :: l, acc, h => by
    have hp : TL.pre (32 :: c :: S2) (x :: l) = false := by
      cases l with
      | nil => simp [TL.pre]
      | cons y l =>
        have : y ≠ c := fun z => h (by simp [z])
        simp [TL.pre, this]
    rw [TL.spl_miss hp, spl_no (acc := acc ++ [x]) fun z => h (by simp [z])]
    simp
theorem par_word {w r : List Nat} (h : 32 ∉ w) : TL.par [32] [] (w ++ ([32] ++ r)) = some (w, r) := by
  have := SX.par_head (sep := []) r h
  simpa using this
end LW
set_option Elab.async false
set_option linter.all false
set_option maxRecDepth 100000
set_option maxHeartbeats 4000000
namespace LW
open PySem AM TY
theorem pn_dues (l : List Int) : Pn 1 (tL tI l) := pn_lst fun d hd => by
  obtain ⟨i, _, rfl⟩ := List.mem_map.mp hd
  exact pn_int i
theorem Tx.nil : Tx [] := ⟨by decide, by simp⟩
theorem partT_ok {t b : List Nat} (h : Tx t) (hb : b ≠ []) : partT t b = some (match TL.par b [] t with
  | some (p, q) => (p, b, q)
  | none => (t, [], [])) := by
  unfold partT
  rw [if_pos ⟨hb, by have := h.len; omega⟩]
  try (rcases TL.par b [] t with _ | ⟨p, q⟩ <;> rfl)
theorem Tx.par {t b p q : List Nat} (h : Tx t) (hb : b ≠ []) (e : TL.par b [] t = some (p, q)) : Tx p ∧ Tx q := by
  have := par_eq hb e
  rw [List.nil_append] at this
  subst this
  exact ⟨h.sub (fun c hc => by simp [hc]) (by simp), h.sub (fun c hc => by simp [hc]) (by simp; omega)⟩
theorem Nw.sm_join {xs : List Int} {ys : List (List Nat)} (h : Nw xs ys) (h6 : xs.length ≤ 6) : Sm 264 (TL.joinL [32] ys) := (join_sm h.sm).mono (by have := h.len; omega)
theorem read_cl {w : List Nat} {xs : List Int} {ys : List (List Nat)} (hw : w = [99, 108, 101, 97, 114] ∨ w = [98, 97, 114, 114, 101, 100]) (n : Nw xs ys) (ne : ys ≠ []) (h6 : xs.length ≤ 6) : p_read_saying (w ++ ([32] ++ TL.joinL [32] ys)) = X.ok (.ot [eD tT w, eO (eD tI) xs]) := by
  have s1 := n.sm_join h6
  have s32 : Sm 1 [32] := ⟨by decide, by decide⟩
  have sw : Sm 10 w := by rcases hw with rfl | rfl <;> exact ⟨by decide, by decide⟩
  have st := (sw.app (s32.app s1)).tx (by omega)
  have hf : 32 ∉ w := by rcases hw with rfl | rfl <;> decide
  unfold p_read_saying p_saying_in
  rw [partT_ok st (by decide), ofO_some, bind_ok, par_word hf]
  (try dsimp only)
  rw [gIn2 sw.ok (by decide) (by decide), ofO_some, bind_ok, if_neg (by rcases hw with rfl | rfl <;> decide), gIn2 sw.ok (by decide) (by decide), ofO_some, bind_ok, if_pos (by rcases hw with rfl | rfl <;> decide), p_nums (s1.tx (by omega)), n.read ne h6]
  rfl
theorem Nw.noslash {xs : List Int} {ys : List (List Nat)} (h : Nw xs ys) : 47 ∉ TL.joinL [32] ys := fun z => by
  rcases join_mem z with z | ⟨y, hy, z⟩
  · simp at z
  · obtain ⟨v, hv⟩ := allI_mem h.val y hy
    have := numI_mem hv 47 z
    omega
theorem read_li {w : List Nat} {xs xs' : List Int} {ys ys' : List (List Nat)} (hw : w = [108, 105, 107, 101] ∨ w = [117, 110, 108, 105, 107, 101]) (n : Nw xs ys) (ne : ys ≠ []) (h6 : xs.length ≤ 6) (n' : Nw xs' ys') (ne' : ys' ≠ []) (hl : xs.length = xs'.length) :
    p_read_saying (w ++ ([32] ++ (TL.joinL [32] ys ++ ([32, 47, 32] ++ TL.joinL [32] ys')))) = X.ok (.ot [eD tT w, eO (eD tI) xs, eO (eD tI) xs']) := by
  have s1 := n.sm_join h6
  have s2 := n'.sm_join (by omega)
  have s32 : Sm 1 [32] := ⟨by decide, by decide⟩
  have s3 : Sm 3 [32, 47, 32] := ⟨by decide, by decide⟩
  have sw : Sm 10 w := by rcases hw with rfl | rfl <;> exact ⟨by decide, by decide⟩
  have sb := s1.app (s3.app s2)
  have st := (sw.app (s32.app sb)).tx (by omega)
  have hf : 32 ∉ w := by rcases hw with rfl | rfl <;> decide
  unfold p_read_saying p_saying_in
  rw [partT_ok st (by decide), ofO_some, bind_ok, par_word hf]
  (try dsimp only)
  have hh : p_halves (TL.joinL [32] ys ++ ([32, 47, 32] ++ TL.joinL [32] ys')) [32, 47, 32] = X.ok (TL.joinL [32] ys, TL.joinL [32] ys') := by
    unfold p_halves
    rw [splitT_ok (sb.tx (by omega)) (by decide) (by decide), ofO_some, bind_ok]
    have e1 := spl_mark (c := 47) (S2 := [32]) (p := TL.joinL [32] ys) (q := TL.joinL [32] ys') (by decide) n.noslash
    rw [spl_no n'.noslash, List.nil_append] at e1
    rw [show TL.spl [32, 47, 32] 0 [] (TL.joinL [32] ys ++ ([32, 47, 32] ++ TL.joinL [32] ys')) = [TL.joinL [32] ys, TL.joinL [32] ys'] from e1]
    rw [if_neg (by simp), at_0, ofO_some, bind_ok, at_1, ofO_some, bind_ok]
  have hm : X.lcX (fun (x4 : List Nat) => X.ok true) (fun (x4 : List Nat) => X.bind (p_numbers_in x4) fun r6 => X.ok r6) [TL.joinL [32] ys, TL.joinL [32] ys'] = X.ok [xs, xs'] := by
    rw [lcX_M (by simp)]
    simp only [X.lcM]
    rw [p_nums (s1.tx (by omega)), n.read ne h6, p_nums (s2.tx (by omega)), n'.read ne' (by omega)]
    rfl
  rw [gIn2 sw.ok (by decide) (by decide), ofO_some, bind_ok, if_pos (by rcases hw with rfl | rfl <;> decide), hh, bind_ok]
  (try dsimp only)
  rw [hm, bind_ok, show un2 [xs, xs'] = some (xs, xs') from rfl, ofO_some, bind_ok, if_neg (by simp [hl])]
  rfl
end LW
set_option Elab.async false
set_option linter.all false
set_option maxRecDepth 100000
set_option maxHeartbeats 4000000
namespace LW
open PySem AM TY
theorem join_by {ys : List (List Nat)} {m : List Nat} (ne : ys ≠ []) : TL.joinL [32] (ys ++ [[98, 121], m]) = TL.joinL [32] ys ++ ([32, 98, 121, 32] ++ m) := by
  rw [join_app ne (by simp)]
  rfl
theorem read_st {w m : List Nat} {xs : List Int} {v : Int} {ys : List (List Nat)} (hw : w = [115, 116, 97, 110, 100, 115] ∨ w = [102, 97, 108, 108, 115]) (n : Nw xs ys) (ne : ys ≠ []) (h6 : xs.length ≤ 6) (sm : Sm 41 m) (fm : 32 ∉ m) (vm : numI m = some v) (hv : -1 ≤ v) :
    p_read_saying (w ++ ([32] ++ (TL.joinL [32] ys ++ ([32, 98, 121, 32] ++ m)))) = X.ok (.ot [eD tT w, eO (eD tI) xs, eD tI v]) := by
  have s1 := n.sm_join h6
  have s32 : Sm 1 [32] := ⟨by decide, by decide⟩
  have s4 : Sm 4 [32, 98, 121, 32] := ⟨by decide, by decide⟩
  have sw : Sm 10 w := by rcases hw with rfl | rfl <;> exact ⟨by decide, by decide⟩
  have sb := s1.app (s4.app sm)
  have st := (sw.app (s32.app sb)).tx (by omega)
  have hf : 32 ∉ w := by rcases hw with rfl | rfl <;> decide
  have hwd : TL.spl [32] 0 [] (TL.joinL [32] ys ++ ([32, 98, 121, 32] ++ m)) = ys ++ [[98, 121], m] := by
    rw [← join_by ne]
    exact wds_of (by simp) fun p hp => by
      rcases List.mem_append.mp hp with hp | hp
      · exact n.free p hp
      · simp at hp
        rcases hp with rfl | rfl
        · decide
        · exact fm
  have hlen : 0 < ys.length := List.length_pos_iff.mpr ne
  have hjo : joinT [32] ys = some (TL.joinL [32] ys) := by
    have h1 := sum43 n.sm
    have := n.len
    unfold joinT
    rw [if_pos (by simp; omega)]
  unfold p_read_saying p_saying_in
  rw [partT_ok st (by decide), ofO_some, bind_ok, par_word hf]
  (try dsimp only)
  have a2 : at_ (ys ++ [[98, 121], m]) (-2) = some [98, 121] := by
    have := at_back (xs := ys ++ [[98, 121], m]) (k := 2) (by omega) (by simp)
    rw [show (-2 : Int) = -((2 : Nat) : Int) from rfl, this]
    simp
  have a1 : at_ (ys ++ [[98, 121], m]) (-1) = some m := by
    have := at_back (xs := ys ++ [[98, 121], m]) (k := 1) (by omega) (by simp)
    rw [show (-1 : Int) = -((1 : Nat) : Int) from rfl, this]
    simp
  have c2 : cutL (ys ++ [[98, 121], m]) none (some (-2)) = ys := by
    have := cut_back (xs := ys ++ [[98, 121], m]) (k := 2) (by omega) (by simp)
    rw [show (-2 : Int) = -((2 : Nat) : Int) from rfl, this]
    simp
  rw [gIn2 sw.ok (by decide) (by decide), ofO_some, bind_ok, if_neg (by rcases hw with rfl | rfl <;> decide), gIn2 sw.ok (by decide) (by decide), ofO_some, bind_ok, if_neg (by rcases hw with rfl | rfl <;> decide), splitT_ok (sb.tx (by omega)) (by decide) (by decide), ofO_some, bind_ok, hwd, gIn2 sw.ok (by decide) (by decide), ofO_some, bind_ok, if_pos (by rcases hw with rfl | rfl <;> decide), if_pos (by simp; omega), a2, ofO_some, bind_ok, eqT_ok (by decide) (by decide), ofO_some, bind_ok, bind_ok, bind_ok, if_pos (by decide), c2, hjo, ofO_some, bind_ok, p_nums (s1.tx (by omega)), n.read ne h6]
  rw [show xNL (some xs) = X.ok xs from rfl, bind_ok, a1, ofO_some, bind_ok, p_numf (sm.tx (by omega)), vm]
  (try dsimp only)
  rw [if_neg (by omega), bind_ok]
  rfl
theorem join_dr {us : List (List Nat)} {a v : List Nat} (ne : us ≠ []) : TL.joinL [32] (us ++ [[97, 116], a, [98, 121], v]) = TL.joinL [32] us ++ ([32, 97, 116, 32] ++ (a ++ ([32, 98, 121, 32] ++ v))) := by
  rw [join_app ne (by simp)]
  simp [TL.joinL]
end LW
set_option Elab.async false
set_option linter.all false
set_option maxRecDepth 100000
set_option maxHeartbeats 4000000
namespace LW
open PySem AM TY
theorem cutL_tl {α : Type} (x : α) (xs : List α) : cutL (x :: xs) (some 1) none = xs := by
  unfold cutL
  rw [HT.sIx_none]
  have e : (x :: xs).length = xs.length + 1 := rfl
  rw [show ((some 1 : Option Int)) = some ((1 : Nat) : Int) from rfl, HT.sIx_nat, e, Nat.min_eq_left (by omega)]
  simp
def tailD (s30 : List (List Nat) × List Nat) : X AM.W := X.bind (X.ofO (joinT ([32] : List Nat) (cutL s30.1 none (some (-4))))) fun x32 => X.bind (p_numbers_in x32) fun r33 => X.bind (X.ofO (at_  s30.1 (-3))) fun x34 => X.bind (p_number_from x34 0) fun r35 => X.bind (X.ofO (at_  s30.1 (-1))) fun x36 => X.bind (p_number_in x36) fun r37 => X.ok ((o4 (eD tT) (eO (eD tI)) (eD tI) (eD tI)) (s30.2, r33, r35, r37))
structure DrA (us : List (List Nat)) (a v : List Nat) : Prop where
  l4 : at_ (us ++ [[97, 116], a, [98, 121], v]) (-4) = some [97, 116]
  l3 : at_ (us ++ [[97, 116], a, [98, 121], v]) (-3) = some a
  l2 : at_ (us ++ [[97, 116], a, [98, 121], v]) (-2) = some [98, 121]
  l1 : at_ (us ++ [[97, 116], a, [98, 121], v]) (-1) = some v
  ct : cutL (us ++ [[97, 116], a, [98, 121], v]) none (some (-4)) = us
theorem dr_at (us : List (List Nat)) (a v : List Nat) : DrA us a v := by
  refine ⟨?_, ?_, ?_, ?_, ?_⟩
  · have := at_back (xs := us ++ [[97, 116], a, [98, 121], v]) (k := 4) (by omega) (by simp)
    rw [show (-4 : Int) = -((4 : Nat) : Int) from rfl, this]
    simp
  · have := at_back (xs := us ++ [[97, 116], a, [98, 121], v]) (k := 3) (by omega) (by simp)
    rw [show (-3 : Int) = -((3 : Nat) : Int) from rfl, this]
    simp
  · have := at_back (xs := us ++ [[97, 116], a, [98, 121], v]) (k := 2) (by omega) (by simp)
    rw [show (-2 : Int) = -((2 : Nat) : Int) from rfl, this]
    simp
  · have := at_back (xs := us ++ [[97, 116], a, [98, 121], v]) (k := 1) (by omega) (by simp)
    rw [show (-1 : Int) = -((1 : Nat) : Int) from rfl, this]
    simp
  · have := cut_back (xs := us ++ [[97, 116], a, [98, 121], v]) (k := 4) (by omega) (by simp)
    rw [show (-4 : Int) = -((4 : Nat) : Int) from rfl, this]
    simp
theorem tailD_ok {w a v : List Nat} {xs : List Int} {av vv : Int} {ys : List (List Nat)} (n : Nw xs ys) (ne : ys ≠ []) (h6 : xs.length ≤ 6) (sa : Sm 41 a) (sv : Sm 41 v) (va : numI a = some av) (h0 : 0 ≤ av) (vV : numI v = some vv) : tailD (ys ++ [[97, 116], a, [98, 121], v], w) = X.ok (.ot [eD tT w, eO (eD tI) xs, eD tI av, eD tI vv]) := by
  have s1 := n.sm_join h6
  have d := dr_at ys a v
  have hjo : joinT [32] ys = some (TL.joinL [32] ys) := by
    have h1 := sum43 n.sm
    have := n.len
    unfold joinT
    rw [if_pos (by simp; omega)]
  unfold tailD
  (try dsimp only)
  rw [d.ct, hjo, ofO_some, bind_ok, p_nums (s1.tx (by omega)), n.read ne h6, show xNL (some xs) = X.ok xs from rfl, bind_ok, d.l3, ofO_some, bind_ok, p_numf (sa.tx (by omega)), va]
  (try dsimp only)
  rw [if_neg (by omega), bind_ok, d.l1, ofO_some, bind_ok, p_num (sv.tx (by omega)), vV, show xN1 (some vv) = X.ok vv from rfl, bind_ok]
  rfl
theorem less_no {xs : List Int} {ys : List (List Nat)} (n : Nw xs ys) : ∀ y ∈ ys, y ≠ [108, 101, 115, 115] := fun y hy e => by
  obtain ⟨v, hv⟩ := allI_mem n.val y hy
  have := numI_mem hv 108 (by rw [e]; simp)
  omega
theorem read_dr {a v : List Nat} {xs : List Int} {av vv : Int} {ys : List (List Nat)} (n : Nw xs ys) (ne : ys ≠ []) (h6 : xs.length ≤ 6) (sa : Sm 41 a) (fa : 32 ∉ a) (sv : Sm 41 v) (fv : 32 ∉ v) (va : numI a = some av) (h0 : 0 ≤ av) (vV : numI v = some vv) (less : Bool) :
    p_read_saying ([100, 114, 97, 119, 115] ++ ([32] ++ TL.joinL [32] ((if less then [[108, 101, 115, 115]] else []) ++ (ys ++ [[97, 116], a, [98, 121], v])))) = X.ok (.ot [eD tT (if less then [100, 114, 97, 119, 115, 32, 108, 101, 115, 115] else [100, 114, 97, 119, 115]), eO (eD tI) xs, eD tI av, eD tI vv]) := by
  obtain ⟨us, hus⟩ : ∃ us, us = (if less then [[108, 101, 115, 115]] else []) ++ (ys ++ [[97, 116], a, [98, 121], v]) := ⟨_, rfl⟩
  have hys : 0 < ys.length := List.length_pos_iff.mpr ne
  have hmem : ∀ p ∈ us, Sm 43 p ∧ 32 ∉ p := fun p hp => by
    rw [hus] at hp
    rcases List.mem_append.mp hp with hp | hp
    · cases less with
      | false => simp at hp
      | true => simp at hp; subst hp; exact ⟨⟨by decide, by decide⟩, by decide⟩
    · rcases List.mem_append.mp hp with hp | hp
      · exact ⟨n.sm p hp, n.free p hp⟩
      · simp at hp
        rcases hp with rfl | rfl | rfl | rfl
        · exact ⟨⟨by decide, by decide⟩, by decide⟩
        · exact ⟨sa.mono (by decide), fa⟩
        · exact ⟨⟨by decide, by decide⟩, by decide⟩
        · exact ⟨sv.mono (by decide), fv⟩
  have hune : us ≠ [] := by rw [hus]; simp
  have hul : us.length ≤ 11 := by
    have := n.len
    rw [hus]
    cases less <;> simp <;> omega
  have sb : Sm 484 (TL.joinL [32] us) := (join_sm fun p hp => (hmem p hp).1).mono (by omega)
  have s32 : Sm 1 [32] := ⟨by decide, by decide⟩
  have sw : Sm 5 [100, 114, 97, 119, 115] := ⟨by decide, by decide⟩
  have st := (sw.app (s32.app sb)).tx (by omega)
  have hwd : TL.spl [32] 0 [] (TL.joinL [32] us) = us := wds_of hune fun p hp => (hmem p hp).2
  have l4 : at_ us (-4) = some [97, 116] := by
    rw [hus, ← List.append_assoc]
    exact (dr_at _ a v).l4
  have l2 : at_ us (-2) = some [98, 121] := by
    rw [hus, ← List.append_assoc]
    exact (dr_at _ a v).l2
  have h5 : 5 ≤ us.length := by
    rw [hus]
    simp
    omega
  rw [← hus]
  unfold p_read_saying p_saying_in
  rw [partT_ok st (by decide), ofO_some, bind_ok, par_word (by decide)]
  (try dsimp only)
  rw [gIn2 sw.ok (by decide) (by decide), ofO_some, bind_ok, if_neg (by decide), gIn2 sw.ok (by decide) (by decide), ofO_some, bind_ok, if_neg (by decide), splitT_ok (sb.tx (by omega)) (by decide) (by decide), ofO_some, bind_ok, hwd, gIn2 sw.ok (by decide) (by decide), ofO_some, bind_ok, if_neg (by decide), bind_ok, if_neg (by decide), neT_ok (by decide) (by decide), ofO_some, bind_ok, if_neg (by decide), if_neg (by simp; omega), l4, ofO_some, bind_ok, neT_ok (by decide) (by decide), ofO_some, bind_ok, if_neg (by decide), l2, ofO_some, bind_ok, neT_ok (by decide) (by decide), ofO_some, bind_ok, bind_ok, bind_ok, bind_ok, if_neg (by decide)]
  have hs : (X.bind (X.ofO (at_ us 0)) fun x28 => X.bind (X.ofO (eqT x28 ([108, 101, 115, 115] : List Nat))) fun x29 => if (x29 && (decide (5 < ((us.length : Nat) : Int)))) = true then (X.ok ((cutL us (some 1) none), ([100, 114, 97, 119, 115, 32, 108, 101, 115, 115] : List Nat))) else X.ok (us, ([100, 114, 97, 119, 115] : List Nat))) = X.ok (ys ++ [[97, 116], a, [98, 121], v], if less then [100, 114, 97, 119, 115, 32, 108, 101, 115, 115] else [100, 114, 97, 119, 115]) := by
    cases less with
    | true =>
      have e : us = [108, 101, 115, 115] :: (ys ++ [[97, 116], a, [98, 121], v]) := hus
      rw [e, at_0, ofO_some, bind_ok, eqT_ok (by decide) (by decide), ofO_some, bind_ok, if_pos (by simp; omega), cutL_tl]
      rfl
    | false =>
      have e : us = ys ++ [[97, 116], a, [98, 121], v] := hus
      obtain ⟨y, ys', ey⟩ := List.exists_cons_of_ne_nil ne
      have hy := less_no n y (by rw [ey]; simp)
      have oy := (n.sm y (by rw [ey]; simp)).ok
      have a0 : at_ us 0 = some y := by rw [e, ey]; exact at_0
      rw [a0, ofO_some, bind_ok, eqT_ok oy (by decide), ofO_some, bind_ok, if_neg (by simp [hy]), e]
      rfl
  show X.bind (X.bind (X.bind (X.ofO (at_ us 0)) _) tailD) _ = _
  rw [hs, bind_ok, tailD_ok n ne h6 sa sv va h0 vV, bind_ok]
end LW
set_option Elab.async false
set_option linter.all false
set_option maxRecDepth 100000
set_option maxHeartbeats 4000000
namespace LW
open PySem AM TY
theorem gIn2e {w a b : List Nat} (hw : okT w = true) (ha : okT a = true) (hb : okT b = true) : wsB (gIn (((eD tD) (tT w)), ((eD (t2 tT tT)) (a, b)))) = some (decide (w = a) || decide (w = b)) := gIn2 hw ha hb
theorem text_cl {w : List Nat} {xs : List Int} {T : List Nat} (hw : w = [99, 108, 101, 97, 114] ∨ w = [98, 97, 114, 114, 101, 100]) (e1 : p__law_numbers_text xs = X.ok T) (e2 : p_show_numbers (tL tI xs) = X.ok T) (s : Sm 264 T) :
    p__law_saying_text (.tup [tT w, tL tI xs]) = X.ok (w ++ ([32] ++ T)) ∧ p_show_saying (.tup [tT w, tL tI xs]) = X.ok (w ++ ([32] ++ T)) := by
  have sw : Sm 10 w := by rcases hw with rfl | rfl <;> exact ⟨by decide, by decide⟩
  have c1 : catT w [32] = some (w ++ [32]) := catT_ok (by have := sw.len; simp; omega)
  have c2 : catT (w ++ [32]) T = some (w ++ ([32] ++ T)) := by
    rw [catT_ok (by have := sw.len; have := s.len; simp; omega), List.append_assoc]
  have i0 : wsD (gIx (eD tD (.tup [tT w, tL tI xs]), eD tI 0)) = some (tT w) := rfl
  have i1 : wsD (gIx (eD tD (.tup [tT w, tL tI xs]), eD tI 1)) = some (tL tI xs) := rfl
  constructor
  · unfold p__law_saying_text
    rw [i0, i1]
    simp only [ofO_some, bind_ok, asT_tT, asLI_tL, c1, e1, c2]
    rw [gIn2e sw.ok (by decide) (by decide), ofO_some, bind_ok, if_neg (by rcases hw with rfl | rfl <;> decide), gIn2e sw.ok (by decide) (by decide), ofO_some, bind_ok, if_neg (by rcases hw with rfl | rfl <;> decide), gIn2e sw.ok (by decide) (by decide), ofO_some, bind_ok, if_neg (by rcases hw with rfl | rfl <;> decide)]
  · unfold p_show_saying
    rw [i0, i1]
    simp only [ofO_some, bind_ok, asT_tT, c1, e2, c2]
    rw [gIn2e sw.ok (by decide) (by decide), ofO_some, bind_ok, if_neg (by rcases hw with rfl | rfl <;> decide), gIn2e sw.ok (by decide) (by decide), ofO_some, bind_ok, if_pos (by rcases hw with rfl | rfl <;> decide)]
theorem text_li {w : List Nat} {xs xs' : List Int} {T T' : List Nat} (hw : w = [108, 105, 107, 101] ∨ w = [117, 110, 108, 105, 107, 101]) (e1 : p__law_numbers_text xs = X.ok T) (e2 : p_show_numbers (tL tI xs) = X.ok T) (s : Sm 264 T) (e1' : p__law_numbers_text xs' = X.ok T') (e2' : p_show_numbers (tL tI xs') = X.ok T') (s' : Sm 264 T') :
    p__law_saying_text (.tup [tT w, tL tI xs, tL tI xs']) = X.ok (w ++ ([32] ++ (T ++ ([32, 47, 32] ++ T')))) ∧ p_show_saying (.tup [tT w, tL tI xs, tL tI xs']) = X.ok (w ++ ([32] ++ (T ++ ([32, 47, 32] ++ T')))) := by
  have sw : Sm 10 w := by rcases hw with rfl | rfl <;> exact ⟨by decide, by decide⟩
  have hl := sw.len
  have h1 := s.len
  have h2 := s'.len
  have c1 : catT w [32] = some (w ++ [32]) := catT_ok (by simp; omega)
  have c2 : catT (w ++ [32]) T = some (w ++ [32] ++ T) := catT_ok (by simp; omega)
  have c3 : catT (w ++ [32] ++ T) [32, 47, 32] = some (w ++ [32] ++ T ++ [32, 47, 32]) := catT_ok (by simp; omega)
  have c4 : catT (w ++ [32] ++ T ++ [32, 47, 32]) T' = some (w ++ ([32] ++ (T ++ ([32, 47, 32] ++ T')))) := by
    rw [catT_ok (by simp; omega)]
    simp
  have i0 : wsD (gIx (eD tD (.tup [tT w, tL tI xs, tL tI xs']), eD tI 0)) = some (tT w) := rfl
  have i1 : wsD (gIx (eD tD (.tup [tT w, tL tI xs, tL tI xs']), eD tI 1)) = some (tL tI xs) := rfl
  have i2 : wsD (gIx (eD tD (.tup [tT w, tL tI xs, tL tI xs']), eD tI 2)) = some (tL tI xs') := rfl
  constructor
  · unfold p__law_saying_text
    rw [i0, i1, i2]
    simp only [ofO_some, bind_ok, asT_tT, asLI_tL, c1, e1, c2]
    rw [gIn2e sw.ok (by decide) (by decide), ofO_some, bind_ok, if_pos (by rcases hw with rfl | rfl <;> decide), c3, ofO_some, bind_ok, e1', bind_ok, c4, ofO_some, bind_ok]
  · unfold p_show_saying
    rw [i0, i1, i2]
    simp only [ofO_some, bind_ok, asT_tT, c1, e2, c2]
    rw [gIn2e sw.ok (by decide) (by decide), ofO_some, bind_ok, if_pos (by rcases hw with rfl | rfl <;> decide), c3, ofO_some, bind_ok, e2', bind_ok, c4, ofO_some, bind_ok]
theorem text_st {w m : List Nat} {xs : List Int} {v : Int} {T : List Nat} (hw : w = [115, 116, 97, 110, 100, 115] ∨ w = [102, 97, 108, 108, 115]) (e1 : p__law_numbers_text xs = X.ok T) (e2 : p_show_numbers (tL tI xs) = X.ok T) (s : Sm 264 T) (em : strT v = some m) (sm : Sm 41 m) :
    p__law_saying_text (.tup [tT w, tL tI xs, tI v]) = X.ok (w ++ ([32] ++ (T ++ ([32, 98, 121, 32] ++ m)))) ∧ p_show_saying (.tup [tT w, tL tI xs, tI v]) = X.ok (w ++ ([32] ++ (T ++ ([32, 98, 121, 32] ++ m)))) := by
  have sw : Sm 10 w := by rcases hw with rfl | rfl <;> exact ⟨by decide, by decide⟩
  have hl := sw.len
  have h1 := s.len
  have h2 := sm.len
  have c1 : catT w [32] = some (w ++ [32]) := catT_ok (by simp; omega)
  have c2 : catT (w ++ [32]) T = some (w ++ [32] ++ T) := catT_ok (by simp; omega)
  have c3 : catT (w ++ [32] ++ T) [32, 98, 121, 32] = some (w ++ [32] ++ T ++ [32, 98, 121, 32]) := catT_ok (by simp; omega)
  have c4 : catT (w ++ [32] ++ T ++ [32, 98, 121, 32]) m = some (w ++ ([32] ++ (T ++ ([32, 98, 121, 32] ++ m)))) := by
    rw [catT_ok (by simp; omega)]
    simp
  have i0 : wsD (gIx (eD tD (.tup [tT w, tL tI xs, tI v]), eD tI 0)) = some (tT w) := rfl
  have i1 : wsD (gIx (eD tD (.tup [tT w, tL tI xs, tI v]), eD tI 1)) = some (tL tI xs) := rfl
  have i2 : wsD (gIx (eD tD (.tup [tT w, tL tI xs, tI v]), eD tI 2)) = some (tI v) := rfl
  have ai : asI (tI v) = some v := rfl
  constructor
  · unfold p__law_saying_text
    rw [i0, i1, i2]
    simp only [ofO_some, bind_ok, asT_tT, asLI_tL, c1, e1, c2]
    rw [gIn2e sw.ok (by decide) (by decide), ofO_some, bind_ok, if_neg (by rcases hw with rfl | rfl <;> decide), gIn2e sw.ok (by decide) (by decide), ofO_some, bind_ok, if_neg (by rcases hw with rfl | rfl <;> decide), gIn2e sw.ok (by decide) (by decide), ofO_some, bind_ok, if_pos (by rcases hw with rfl | rfl <;> decide), c3, ofO_some, bind_ok, ai, ofO_some, bind_ok, em, ofO_some, bind_ok, c4, ofO_some, bind_ok]
  · unfold p_show_saying
    rw [i0, i1, i2]
    simp only [ofO_some, bind_ok, asT_tT, c1, e2, c2]
    rw [gIn2e sw.ok (by decide) (by decide), ofO_some, bind_ok, if_neg (by rcases hw with rfl | rfl <;> decide), gIn2e sw.ok (by decide) (by decide), ofO_some, bind_ok, if_neg (by rcases hw with rfl | rfl <;> decide), gIn2e sw.ok (by decide) (by decide), ofO_some, bind_ok, if_pos (by rcases hw with rfl | rfl <;> decide), c3, ofO_some, bind_ok, ai, ofO_some, bind_ok, em, ofO_some, bind_ok, c4, ofO_some, bind_ok]
theorem text_dr {w ma mv : List Nat} {xs : List Int} {a v : Int} {T : List Nat} (hw : w = [100, 114, 97, 119, 115] ∨ w = [100, 114, 97, 119, 115, 32, 108, 101, 115, 115]) (e1 : p__law_numbers_text xs = X.ok T) (e2 : p_show_numbers (tL tI xs) = X.ok T) (s : Sm 264 T) (ea : strT a = some ma) (sa : Sm 41 ma) (ev : strT v = some mv) (sv : Sm 41 mv) :
    p__law_saying_text (.tup [tT w, tL tI xs, tI a, tI v]) = X.ok (w ++ ([32] ++ (T ++ ([32, 97, 116, 32] ++ (ma ++ ([32, 98, 121, 32] ++ mv)))))) ∧ p_show_saying (.tup [tT w, tL tI xs, tI a, tI v]) = X.ok (w ++ ([32] ++ (T ++ ([32, 97, 116, 32] ++ (ma ++ ([32, 98, 121, 32] ++ mv)))))) := by
  have sw : Sm 10 w := by rcases hw with rfl | rfl <;> exact ⟨by decide, by decide⟩
  have hl := sw.len
  have h1 := s.len
  have h2 := sa.len
  have h3 := sv.len
  have c1 : catT w [32] = some (w ++ [32]) := catT_ok (by simp; omega)
  have c2 : catT (w ++ [32]) T = some (w ++ [32] ++ T) := catT_ok (by simp; omega)
  have c3 : catT (w ++ [32] ++ T) [32, 97, 116, 32] = some (w ++ [32] ++ T ++ [32, 97, 116, 32]) := catT_ok (by simp; omega)
  have c4 : catT (w ++ [32] ++ T ++ [32, 97, 116, 32]) ma = some (w ++ [32] ++ T ++ [32, 97, 116, 32] ++ ma) := catT_ok (by simp; omega)
  have c5 : catT (w ++ [32] ++ T ++ [32, 97, 116, 32] ++ ma) [32, 98, 121, 32] = some (w ++ [32] ++ T ++ [32, 97, 116, 32] ++ ma ++ [32, 98, 121, 32]) := catT_ok (by simp; omega)
  have c6 : catT (w ++ [32] ++ T ++ [32, 97, 116, 32] ++ ma ++ [32, 98, 121, 32]) mv = some (w ++ ([32] ++ (T ++ ([32, 97, 116, 32] ++ (ma ++ ([32, 98, 121, 32] ++ mv)))))) := by
    rw [catT_ok (by simp; omega)]
    simp
  have i0 : wsD (gIx (eD tD (.tup [tT w, tL tI xs, tI a, tI v]), eD tI 0)) = some (tT w) := rfl
  have i1 : wsD (gIx (eD tD (.tup [tT w, tL tI xs, tI a, tI v]), eD tI 1)) = some (tL tI xs) := rfl
  have i2 : wsD (gIx (eD tD (.tup [tT w, tL tI xs, tI a, tI v]), eD tI 2)) = some (tI a) := rfl
  have i3 : wsD (gIx (eD tD (.tup [tT w, tL tI xs, tI a, tI v]), eD tI 3)) = some (tI v) := rfl
  have aa : asI (tI a) = some a := rfl
  have ai : asI (tI v) = some v := rfl
  constructor
  · unfold p__law_saying_text
    rw [i0, i1, i2, i3]
    simp only [ofO_some, bind_ok, asT_tT, asLI_tL, c1, e1, c2]
    rw [gIn2e sw.ok (by decide) (by decide), ofO_some, bind_ok, if_neg (by rcases hw with rfl | rfl <;> decide), gIn2e sw.ok (by decide) (by decide), ofO_some, bind_ok, if_pos (by rcases hw with rfl | rfl <;> decide), c3, ofO_some, bind_ok, aa, ofO_some, bind_ok, ea, ofO_some, bind_ok, c4, ofO_some, bind_ok, c5, ofO_some, bind_ok, ai, ofO_some, bind_ok, ev, ofO_some, bind_ok, c6, ofO_some, bind_ok]
  · unfold p_show_saying
    rw [i0, i1, i2, i3]
    simp only [ofO_some, bind_ok, asT_tT, c1, e2, c2]
    rw [gIn2e sw.ok (by decide) (by decide), ofO_some, bind_ok, if_neg (by rcases hw with rfl | rfl <;> decide), gIn2e sw.ok (by decide) (by decide), ofO_some, bind_ok, if_neg (by rcases hw with rfl | rfl <;> decide), gIn2e sw.ok (by decide) (by decide), ofO_some, bind_ok, if_neg (by rcases hw with rfl | rfl <;> decide), c3, ofO_some, bind_ok, aa, ofO_some, bind_ok, ea, ofO_some, bind_ok, c4, ofO_some, bind_ok, c5, ofO_some, bind_ok, ai, ofO_some, bind_ok, ev, ofO_some, bind_ok, c6, ofO_some, bind_ok]
end LW
set_option Elab.async false
set_option linter.all false
set_option maxRecDepth 100000
set_option maxHeartbeats 4000000
namespace LW
open PySem AM TY
theorem gNe_same {k : Nat} {a b : W} {d : D} (ha : W.toD a = some d) (hb : W.toD b = some d) (h : Pn k d) (hk : k ≤ 64) : wsB (gNe (a, b)) = some false := by
  obtain ⟨x, w1, _, cl⟩ := wPd_pn h hk
  have wa : wPd a = some x := by
    unfold wPd at w1 ⊢
    rw [ha]
    exact w1
  have wb : wPd b = some x := by
    unfold wPd at w1 ⊢
    rw [hb]
    exact w1
  unfold gNe gDD
  (try dsimp only)
  rw [wa, wb]
  simp [fNe, wsB, PySem.SeqAt.eqv_refl x cl]
theorem toD_dues (xs : List Int) : W.toD (eO (eD tI) xs) = some (tL tI xs) := by
  show (W.toDs (xs.map (eD tI))).map D.lst = _
  rw [toDs_map (t := tI) (fun _ => rfl) xs]
  rfl
theorem isl_L (l : List Int) : wsB (gIs "list" (eD tD (tL tI l))) = some true := rfl
theorem isl_I (v : Int) : wsB (gIs "list" (eD tD (tI v))) = some false := rfl
theorem ist_W (ws : List W) : wsB (gIs "tuple" (eW (.ot ws))) = some true := rfl
theorem whole_I (v : Int) : p__law_whole (tI v) = X.ok true := rfl
theorem are_dues {xs : List Int} (h6 : xs.length ≤ 6) : p__law_are_dues (tL tI xs) (xs.length : Int) = X.ok true := by
  unfold p__law_are_dues
  rw [isl_L, ofO_some, bind_ok, if_neg (by decide)]
  have hl : wsI (gLen [eD tD (tL tI xs)]) = some (xs.length : Int) := by
    show wsI (gLen [eD (tL tI) xs]) = _
    rw [len_sh]
    rfl
  have ed : dEls (tL tI xs) = some (xs.map tI) := rfl
  rw [hl, ofO_some, bind_ok, bind_ok, if_neg (by simp), ed, ofO_some, bind_ok, lcXF_ok (t := fun _ => false) (g := fun y => y) (by simp; omega) (fun y hy => by
    obtain ⟨v, _, rfl⟩ := List.mem_map.mp hy
    rw [whole_I, nx_ok, bind_ok]
    rfl) (fun y hy z => by cases z), bind_ok]
  rw [show (List.filter (fun _ => false) (xs.map tI)).map (fun y => y) = [] by simp]
  rfl
end LW
set_option Elab.async false
set_option linter.all false
set_option maxRecDepth 100000
set_option maxHeartbeats 4000000
namespace LW
open PySem AM TY
theorem read_12 : p_read_saying [99, 108, 101, 97, 114, 32, 49, 32, 50] = X.ok (.ot [eD tT [99, 108, 101, 97, 114], eO (eD tI) [1, 2]]) := by
  have n : Nw [1, 2] [[49], [50]] := ⟨rfl, by intro y hy; simp at hy; rcases hy with rfl | rfl <;> exact ⟨by decide, by decide⟩, by intro y hy; simp at hy; rcases hy with rfl | rfl <;> decide, by decide +kernel⟩
  exact read_cl (w := [99, 108, 101, 97, 114]) (.inl rfl) n (by simp) (by simp)
theorem tmpO_go {τ lam : Type} {pk : X (Out τ lam Bool)} {u : Unit} : X.tmpO (X.ok (.go u)) pk = pk := rfl
theorem owPart_1 {a : W} {ws us : List W} : owPart (.ot (a :: .ol ws :: us)) 1 = some (1, ws) := by
  unfold owPart
  simp only [L2.ixN, List.length_cons]
  rw [if_pos (by decide), if_pos (by omega)]
  rfl
theorem ixO_2 {α : Type} {a b : α} : ixO [a, b] 0 = some (0, a) ∧ ixO [a, b] 1 = some (1, b) := ⟨rfl, rfl⟩
theorem kept_cl {w t : List Nat} {xs : List Int} (ow : okT w = true) (h6 : xs.length ≤ 6) (ht : Tx t) (hl : p__law_saying_text (.tup [tT w, tL tI xs]) = X.ok t) (hs : p_show_saying (.tup [tT w, tL tI xs]) = X.ok t) (hr : p_read_saying t = X.ok (.ot [eD tT w, eO (eD tI) xs])) : p__law_kept (.tup [tT w, tL tI xs]) = X.ok true := by
  have hW : W.toD (.ot [eD tT w, eO (eD tI) xs]) = some (.tup [tT w, tL tI xs]) := by
    show (W.toDs [eD tT w, eO (eD tI) xs]).map D.tup = _
    simp only [W.toDs, toD_dues]
    rfl
  have pn : Pn 2 (.tup [tT w, tL tI xs]) := pn_tup fun d hd => by
    simp at hd
    rcases hd with rfl | rfl
    · exact (pn_str ow).mono (by decide)
    · exact pn_dues _
  have nE := gNe_same (a := eW (.ot [eD tT w, eO (eD tI) xs])) (b := eD tD (.tup [tT w, tL tI xs])) hW rfl pn (by decide)
  have hd : dTEls (.tup [tT w, tL tI xs]) = some [tT w, tL tI xs] := rfl
  have l1 : X.lcX (fun (x3 : D) => X.bind (X.ofO (wsB (gIs "list" ((eD tD) x3)))) fun x5 => X.ok x5) (fun (x3 : D) => X.bind (X.ofO (dEls x3)) fun x6 => X.ok x6) [tT w, tL tI xs] = X.ok [xs.map tI] := rfl
  have l2 : X.lcX (fun (x20 : D) => X.bind (X.ofO (wsB (gIs "list" ((eD tD) x20)))) fun x22 => X.ok x22) (fun (x20 : D) => X.ok x20) [tT w, tL tI xs] = X.ok [tL tI xs] := rfl
  have h2 : rg1 2 = some [0, 1] := by decide +kernel
  have nL : wsB (gNe (((eO (eD tD)) [tL tI xs]), ((eD (tL (tL tD))) [xs.map tI]))) = some false := by
    refine gNe_same (k := 3) (d := .lst [tL tI xs]) ?_ ?_ (pn_lst fun d hd => by
      simp at hd
      rw [hd]
      exact (pn_dues _).mono (by decide)) (by decide)
    · rfl
    · show some (D.lst [tL tD (xs.map tI)]) = _
      rw [tLD]
      rfl
  have s1 : wsD (gSl (((eD tD) (.tup [tT w, tL tI xs])), (some 1), none)) = some (.tup [tL tI xs]) := rfl
  have d1 : dTEls (.tup [tL tI xs]) = some [tL tI xs] := rfl
  have ed : (((xs.map tI).length : Nat) : Int) = (xs.length : Int) := by simp
  unfold p__law_kept
  rw [hl, bind_ok, hd, ofO_some, bind_ok, l1, bind_ok, h2, ofO_some, bind_ok, forL_u (fun x hx => ?_), bindR_go]
  left
  rw [hs, bind_ok, hr, bind_ok, if_neg (by decide), neT_ok ht.ok ht.ok, ofO_some, bind_ok, if_neg (by simp), ist_W, ofO_some, bind_ok, if_neg (by decide), nE, ofO_some, bind_ok, bind_ok, bind_ok, bind_ok, if_neg (by decide), bind_ok, l2, bind_ok, nL, ofO_some, bind_ok, if_neg (by decide), hW, ofO_some, bind_ok, s1, ofO_some, bind_ok, d1, ofO_some, bind_ok]
  simp only [X.forL, isl_L, ofO_some, bind_ok, Bool.not_true, Bool.false_eq_true, if_false, if_true, at_0, ed, are_dues h6, up_go, bindO_go, tmpO_go, read_12]
  have p1 : owPart (.ot [eD tT w, eO (eD tI) xs]) 1 = some (1, xs.map (eD tI)) := owPart_1
  have p2 : owPart (.ot [eD tT [99, 108, 101, 97, 114], eO (eD tI) [1, 2]]) 1 = some (1, [1, 2].map (eD tI)) := owPart_1
  have ap : appO (xs.map (eD tI)) (eD tI 1) = some (xs.map (eD tI) ++ [eD tI 1]) := appO_ok (by simp; omega)
  have eo : owSet (.ot [eD tT w, eO (eD tI) xs]) 1 (xs.map (eD tI) ++ [eD tI 1]) = .ot [eD tT w, eO (eD tI) (xs ++ [1])] := by
    show W.ot [eD tT w, .ol (xs.map (eD tI) ++ [eD tI 1])] = W.ot [eD tT w, .ol ((xs ++ [1]).map (eD tI))]
    rw [List.map_append]
    rfl
  have hW2 : W.toD (.ot [eD tT w, eO (eD tI) (xs ++ [1])]) = some (.tup [tT w, tL tI (xs ++ [1])]) := by
    show (W.toDs [eD tT w, eO (eD tI) (xs ++ [1])]).map D.tup = _
    simp only [W.toDs, toD_dues]
    rfl
  have s2 : wsD (gSl (((eD tD) (.tup [tT w, tL tI (xs ++ [1])])), (some 2), none)) = some (.tup []) := rfl
  have s3 : wsD (gSl (((eD tD) (.tup [tT w, tL tI xs])), (some 2), none)) = some (.tup []) := rfl
  have nE2 := gNe_same (a := eD tD (.tup [])) (b := eD tD (.tup [])) rfl rfl (pn_tup (k := 0) (ds := []) (by simp)) (by decide)
  rw [ixO_2.1, ofO_some, bind_ok]
  (try dsimp only)
  rw [p1, ofO_some, bind_ok]
  (try dsimp only)
  rw [show (List.set [W.ot [eD tT w, eO (eD tI) xs], W.ot [eD tT [99, 108, 101, 97, 114], eO (eD tI) [1, 2]]] 0 (owSet (W.ot [eD tT w, eO (eD tI) xs]) 1 [])) = [owSet (W.ot [eD tT w, eO (eD tI) xs]) 1 [], W.ot [eD tT [99, 108, 101, 97, 114], eO (eD tI) [1, 2]]] from rfl, ixO_2.2, ofO_some, bind_ok]
  (try dsimp only)
  rw [p2, ofO_some, bind_ok]
  (try dsimp only)
  rw [bind_ok]
  (try dsimp only)
  rw [ap, ofO_some, bind_ok, eo, hW2, ofO_some, bind_ok, s2, ofO_some, bind_ok, s3, ofO_some, bind_ok, nE2, ofO_some, bind_ok, if_neg (by decide), tmpO_go]
end LW
set_option Elab.async false
set_option linter.all false
set_option maxRecDepth 100000
set_option maxHeartbeats 4000000
namespace LW
open PySem AM TY
theorem kept_li {w t : List Nat} {xs : List Int} {ys : List Int} (hy : ys.length = xs.length) (ow : okT w = true) (h6 : xs.length ≤ 6) (ht : Tx t) (hl : p__law_saying_text (.tup [tT w, tL tI xs, tL tI ys]) = X.ok t) (hs : p_show_saying (.tup [tT w, tL tI xs, tL tI ys]) = X.ok t) (hr : p_read_saying t = X.ok (.ot [eD tT w, eO (eD tI) xs, eO (eD tI) ys])) : p__law_kept (.tup [tT w, tL tI xs, tL tI ys]) = X.ok true := by
  have hW : W.toD (.ot [eD tT w, eO (eD tI) xs, eO (eD tI) ys]) = some (.tup [tT w, tL tI xs, tL tI ys]) := by
    show (W.toDs [eD tT w, eO (eD tI) xs, eO (eD tI) ys]).map D.tup = _
    simp only [W.toDs, toD_dues]
    rfl
  have pn : Pn 2 (.tup [tT w, tL tI xs, tL tI ys]) := pn_tup fun d hd => by
    simp at hd
    rcases hd with rfl | rfl | rfl
    · exact (pn_str ow).mono (by decide)
    · exact pn_dues _
    · exact pn_dues _
  have nE := gNe_same (a := eW (.ot [eD tT w, eO (eD tI) xs, eO (eD tI) ys])) (b := eD tD (.tup [tT w, tL tI xs, tL tI ys])) hW rfl pn (by decide)
  have hd : dTEls (.tup [tT w, tL tI xs, tL tI ys]) = some [tT w, tL tI xs, tL tI ys] := rfl
  have l1 : X.lcX (fun (x3 : D) => X.bind (X.ofO (wsB (gIs "list" ((eD tD) x3)))) fun x5 => X.ok x5) (fun (x3 : D) => X.bind (X.ofO (dEls x3)) fun x6 => X.ok x6) [tT w, tL tI xs, tL tI ys] = X.ok [xs.map tI, ys.map tI] := rfl
  have l2 : X.lcX (fun (x20 : D) => X.bind (X.ofO (wsB (gIs "list" ((eD tD) x20)))) fun x22 => X.ok x22) (fun (x20 : D) => X.ok x20) [tT w, tL tI xs, tL tI ys] = X.ok [tL tI xs, tL tI ys] := rfl
  have h2 : rg1 2 = some [0, 1] := by decide +kernel
  have nL : wsB (gNe (((eO (eD tD)) [tL tI xs, tL tI ys]), ((eD (tL (tL tD))) [xs.map tI, ys.map tI]))) = some false := by
    refine gNe_same (k := 3) (d := .lst [tL tI xs, tL tI ys]) ?_ ?_ (pn_lst fun d hd => by
      simp at hd
      rcases hd with rfl | rfl <;> exact (pn_dues _).mono (by decide)) (by decide)
    · rfl
    · show some (D.lst [tL tD (xs.map tI), tL tD (ys.map tI)]) = _
      rw [tLD, tLD]
      rfl
  have s1 : wsD (gSl (((eD tD) (.tup [tT w, tL tI xs, tL tI ys])), (some 1), none)) = some (.tup [tL tI xs, tL tI ys]) := rfl
  have d1 : dTEls (.tup [tL tI xs, tL tI ys]) = some [tL tI xs, tL tI ys] := rfl
  have ed : (((xs.map tI).length : Nat) : Int) = (xs.length : Int) := by simp
  unfold p__law_kept
  rw [hl, bind_ok, hd, ofO_some, bind_ok, l1, bind_ok, h2, ofO_some, bind_ok, forL_u (fun x hx => ?_), bindR_go]
  left
  rw [hs, bind_ok, hr, bind_ok, if_neg (by decide), neT_ok ht.ok ht.ok, ofO_some, bind_ok, if_neg (by simp), ist_W, ofO_some, bind_ok, if_neg (by decide), nE, ofO_some, bind_ok, bind_ok, bind_ok, bind_ok, if_neg (by decide), bind_ok, l2, bind_ok, nL, ofO_some, bind_ok, if_neg (by decide), hW, ofO_some, bind_ok, s1, ofO_some, bind_ok, d1, ofO_some, bind_ok]
  have ay : p__law_are_dues (tL tI ys) (xs.length : Int) = X.ok true := by
    rw [← hy]
    exact are_dues (by omega)
  simp only [X.forL, isl_L, ofO_some, bind_ok, Bool.not_true, Bool.false_eq_true, if_false, if_true, at_0, ed, are_dues h6, ay, up_go, bindO_go, tmpO_go, read_12]
  have p1 : owPart (.ot [eD tT w, eO (eD tI) xs, eO (eD tI) ys]) 1 = some (1, xs.map (eD tI)) := owPart_1
  have p2 : owPart (.ot [eD tT [99, 108, 101, 97, 114], eO (eD tI) [1, 2]]) 1 = some (1, [1, 2].map (eD tI)) := owPart_1
  have ap : appO (xs.map (eD tI)) (eD tI 1) = some (xs.map (eD tI) ++ [eD tI 1]) := appO_ok (by simp; omega)
  have eo : owSet (.ot [eD tT w, eO (eD tI) xs, eO (eD tI) ys]) 1 (xs.map (eD tI) ++ [eD tI 1]) = .ot [eD tT w, eO (eD tI) (xs ++ [1]), eO (eD tI) ys] := by
    show W.ot [eD tT w, .ol (xs.map (eD tI) ++ [eD tI 1]), eO (eD tI) ys] = W.ot [eD tT w, .ol ((xs ++ [1]).map (eD tI)), eO (eD tI) ys]
    rw [List.map_append]
    rfl
  have hW2 : W.toD (.ot [eD tT w, eO (eD tI) (xs ++ [1]), eO (eD tI) ys]) = some (.tup [tT w, tL tI (xs ++ [1]), tL tI ys]) := by
    show (W.toDs [eD tT w, eO (eD tI) (xs ++ [1]), eO (eD tI) ys]).map D.tup = _
    simp only [W.toDs, toD_dues]
    rfl
  have s2 : wsD (gSl (((eD tD) (.tup [tT w, tL tI (xs ++ [1]), tL tI ys])), (some 2), none)) = some (.tup [tL tI ys]) := rfl
  have s3 : wsD (gSl (((eD tD) (.tup [tT w, tL tI xs, tL tI ys])), (some 2), none)) = some (.tup [tL tI ys]) := rfl
  have nE2 := gNe_same (a := eD tD (.tup [tL tI ys])) (b := eD tD (.tup [tL tI ys])) rfl rfl (pn_tup (k := 1) (ds := [tL tI ys]) fun d hd => by
    simp at hd
    rw [hd]
    exact pn_dues _) (by decide)
  rw [ixO_2.1, ofO_some, bind_ok]
  (try dsimp only)
  rw [p1, ofO_some, bind_ok]
  (try dsimp only)
  rw [show (List.set [W.ot [eD tT w, eO (eD tI) xs, eO (eD tI) ys], W.ot [eD tT [99, 108, 101, 97, 114], eO (eD tI) [1, 2]]] 0 (owSet (W.ot [eD tT w, eO (eD tI) xs, eO (eD tI) ys]) 1 [])) = [owSet (W.ot [eD tT w, eO (eD tI) xs, eO (eD tI) ys]) 1 [], W.ot [eD tT [99, 108, 101, 97, 114], eO (eD tI) [1, 2]]] from rfl, ixO_2.2, ofO_some, bind_ok]
  (try dsimp only)
  rw [p2, ofO_some, bind_ok]
  (try dsimp only)
  rw [bind_ok]
  (try dsimp only)
  rw [ap, ofO_some, bind_ok, eo, hW2, ofO_some, bind_ok, s2, ofO_some, bind_ok, s3, ofO_some, bind_ok, nE2, ofO_some, bind_ok, if_neg (by decide), tmpO_go]
theorem kept_st {w t : List Nat} {xs : List Int} {v : Int} (ow : okT w = true) (h6 : xs.length ≤ 6) (ht : Tx t) (hl : p__law_saying_text (.tup [tT w, tL tI xs, tI v]) = X.ok t) (hs : p_show_saying (.tup [tT w, tL tI xs, tI v]) = X.ok t) (hr : p_read_saying t = X.ok (.ot [eD tT w, eO (eD tI) xs, eD tI v])) : p__law_kept (.tup [tT w, tL tI xs, tI v]) = X.ok true := by
  have hW : W.toD (.ot [eD tT w, eO (eD tI) xs, eD tI v]) = some (.tup [tT w, tL tI xs, tI v]) := by
    show (W.toDs [eD tT w, eO (eD tI) xs, eD tI v]).map D.tup = _
    simp only [W.toDs, toD_dues]
    rfl
  have pn : Pn 2 (.tup [tT w, tL tI xs, tI v]) := pn_tup fun d hd => by
    simp at hd
    rcases hd with rfl | rfl | rfl
    · exact (pn_str ow).mono (by decide)
    · exact pn_dues _
    · exact (pn_int _).mono (by decide)
  have nE := gNe_same (a := eW (.ot [eD tT w, eO (eD tI) xs, eD tI v])) (b := eD tD (.tup [tT w, tL tI xs, tI v])) hW rfl pn (by decide)
  have hd : dTEls (.tup [tT w, tL tI xs, tI v]) = some [tT w, tL tI xs, tI v] := rfl
  have l1 : X.lcX (fun (x3 : D) => X.bind (X.ofO (wsB (gIs "list" ((eD tD) x3)))) fun x5 => X.ok x5) (fun (x3 : D) => X.bind (X.ofO (dEls x3)) fun x6 => X.ok x6) [tT w, tL tI xs, tI v] = X.ok [xs.map tI] := rfl
  have l2 : X.lcX (fun (x20 : D) => X.bind (X.ofO (wsB (gIs "list" ((eD tD) x20)))) fun x22 => X.ok x22) (fun (x20 : D) => X.ok x20) [tT w, tL tI xs, tI v] = X.ok [tL tI xs] := rfl
  have h2 : rg1 2 = some [0, 1] := by decide +kernel
  have nL : wsB (gNe (((eO (eD tD)) [tL tI xs]), ((eD (tL (tL tD))) [xs.map tI]))) = some false := by
    refine gNe_same (k := 3) (d := .lst [tL tI xs]) ?_ ?_ (pn_lst fun d hd => by
      simp at hd
      rw [hd]
      exact (pn_dues _).mono (by decide)) (by decide)
    · rfl
    · show some (D.lst [tL tD (xs.map tI)]) = _
      rw [tLD]
      rfl
  have s1 : wsD (gSl (((eD tD) (.tup [tT w, tL tI xs, tI v])), (some 1), none)) = some (.tup [tL tI xs, tI v]) := rfl
  have d1 : dTEls (.tup [tL tI xs, tI v]) = some [tL tI xs, tI v] := rfl
  have ed : (((xs.map tI).length : Nat) : Int) = (xs.length : Int) := by simp
  unfold p__law_kept
  rw [hl, bind_ok, hd, ofO_some, bind_ok, l1, bind_ok, h2, ofO_some, bind_ok, forL_u (fun x hx => ?_), bindR_go]
  left
  rw [hs, bind_ok, hr, bind_ok, if_neg (by decide), neT_ok ht.ok ht.ok, ofO_some, bind_ok, if_neg (by simp), ist_W, ofO_some, bind_ok, if_neg (by decide), nE, ofO_some, bind_ok, bind_ok, bind_ok, bind_ok, if_neg (by decide), bind_ok, l2, bind_ok, nL, ofO_some, bind_ok, if_neg (by decide), hW, ofO_some, bind_ok, s1, ofO_some, bind_ok, d1, ofO_some, bind_ok]
  simp only [X.forL, isl_L, ofO_some, bind_ok, Bool.not_true, Bool.false_eq_true, if_false, if_true, at_0, ed, are_dues h6, isl_I, whole_I, Bool.not_false, up_go, bindO_go, tmpO_go, read_12]
  have p1 : owPart (.ot [eD tT w, eO (eD tI) xs, eD tI v]) 1 = some (1, xs.map (eD tI)) := owPart_1
  have p2 : owPart (.ot [eD tT [99, 108, 101, 97, 114], eO (eD tI) [1, 2]]) 1 = some (1, [1, 2].map (eD tI)) := owPart_1
  have ap : appO (xs.map (eD tI)) (eD tI 1) = some (xs.map (eD tI) ++ [eD tI 1]) := appO_ok (by simp; omega)
  have eo : owSet (.ot [eD tT w, eO (eD tI) xs, eD tI v]) 1 (xs.map (eD tI) ++ [eD tI 1]) = .ot [eD tT w, eO (eD tI) (xs ++ [1]), eD tI v] := by
    show W.ot [eD tT w, .ol (xs.map (eD tI) ++ [eD tI 1]), eD tI v] = W.ot [eD tT w, .ol ((xs ++ [1]).map (eD tI)), eD tI v]
    rw [List.map_append]
    rfl
  have hW2 : W.toD (.ot [eD tT w, eO (eD tI) (xs ++ [1]), eD tI v]) = some (.tup [tT w, tL tI (xs ++ [1]), tI v]) := by
    show (W.toDs [eD tT w, eO (eD tI) (xs ++ [1]), eD tI v]).map D.tup = _
    simp only [W.toDs, toD_dues]
    rfl
  have s2 : wsD (gSl (((eD tD) (.tup [tT w, tL tI (xs ++ [1]), tI v])), (some 2), none)) = some (.tup [tI v]) := rfl
  have s3 : wsD (gSl (((eD tD) (.tup [tT w, tL tI xs, tI v])), (some 2), none)) = some (.tup [tI v]) := rfl
  have nE2 := gNe_same (a := eD tD (.tup [tI v])) (b := eD tD (.tup [tI v])) rfl rfl (pn_tup (k := 1) (ds := [tI v]) fun d hd => by
    simp at hd
    rw [hd]
    exact (pn_int _).mono (by decide)) (by decide)
  rw [ixO_2.1, ofO_some, bind_ok]
  (try dsimp only)
  rw [p1, ofO_some, bind_ok]
  (try dsimp only)
  rw [show (List.set [W.ot [eD tT w, eO (eD tI) xs, eD tI v], W.ot [eD tT [99, 108, 101, 97, 114], eO (eD tI) [1, 2]]] 0 (owSet (W.ot [eD tT w, eO (eD tI) xs, eD tI v]) 1 [])) = [owSet (W.ot [eD tT w, eO (eD tI) xs, eD tI v]) 1 [], W.ot [eD tT [99, 108, 101, 97, 114], eO (eD tI) [1, 2]]] from rfl, ixO_2.2, ofO_some, bind_ok]
  (try dsimp only)
  rw [p2, ofO_some, bind_ok]
  (try dsimp only)
  rw [bind_ok]
  (try dsimp only)
  rw [ap, ofO_some, bind_ok, eo, hW2, ofO_some, bind_ok, s2, ofO_some, bind_ok, s3, ofO_some, bind_ok, nE2, ofO_some, bind_ok, if_neg (by decide), tmpO_go]
theorem kept_dr {w t : List Nat} {xs : List Int} {a v : Int} (ow : okT w = true) (h6 : xs.length ≤ 6) (ht : Tx t) (hl : p__law_saying_text (.tup [tT w, tL tI xs, tI a, tI v]) = X.ok t) (hs : p_show_saying (.tup [tT w, tL tI xs, tI a, tI v]) = X.ok t) (hr : p_read_saying t = X.ok (.ot [eD tT w, eO (eD tI) xs, eD tI a, eD tI v])) : p__law_kept (.tup [tT w, tL tI xs, tI a, tI v]) = X.ok true := by
  have hW : W.toD (.ot [eD tT w, eO (eD tI) xs, eD tI a, eD tI v]) = some (.tup [tT w, tL tI xs, tI a, tI v]) := by
    show (W.toDs [eD tT w, eO (eD tI) xs, eD tI a, eD tI v]).map D.tup = _
    simp only [W.toDs, toD_dues]
    rfl
  have pn : Pn 2 (.tup [tT w, tL tI xs, tI a, tI v]) := pn_tup fun d hd => by
    simp at hd
    rcases hd with rfl | rfl | rfl | rfl
    · exact (pn_str ow).mono (by decide)
    · exact pn_dues _
    · exact (pn_int _).mono (by decide)
    · exact (pn_int _).mono (by decide)
  have nE := gNe_same (a := eW (.ot [eD tT w, eO (eD tI) xs, eD tI a, eD tI v])) (b := eD tD (.tup [tT w, tL tI xs, tI a, tI v])) hW rfl pn (by decide)
  have hd : dTEls (.tup [tT w, tL tI xs, tI a, tI v]) = some [tT w, tL tI xs, tI a, tI v] := rfl
  have l1 : X.lcX (fun (x3 : D) => X.bind (X.ofO (wsB (gIs "list" ((eD tD) x3)))) fun x5 => X.ok x5) (fun (x3 : D) => X.bind (X.ofO (dEls x3)) fun x6 => X.ok x6) [tT w, tL tI xs, tI a, tI v] = X.ok [xs.map tI] := rfl
  have l2 : X.lcX (fun (x20 : D) => X.bind (X.ofO (wsB (gIs "list" ((eD tD) x20)))) fun x22 => X.ok x22) (fun (x20 : D) => X.ok x20) [tT w, tL tI xs, tI a, tI v] = X.ok [tL tI xs] := rfl
  have h2 : rg1 2 = some [0, 1] := by decide +kernel
  have nL : wsB (gNe (((eO (eD tD)) [tL tI xs]), ((eD (tL (tL tD))) [xs.map tI]))) = some false := by
    refine gNe_same (k := 3) (d := .lst [tL tI xs]) ?_ ?_ (pn_lst fun d hd => by
      simp at hd
      rw [hd]
      exact (pn_dues _).mono (by decide)) (by decide)
    · rfl
    · show some (D.lst [tL tD (xs.map tI)]) = _
      rw [tLD]
      rfl
  have s1 : wsD (gSl (((eD tD) (.tup [tT w, tL tI xs, tI a, tI v])), (some 1), none)) = some (.tup [tL tI xs, tI a, tI v]) := rfl
  have d1 : dTEls (.tup [tL tI xs, tI a, tI v]) = some [tL tI xs, tI a, tI v] := rfl
  have ed : (((xs.map tI).length : Nat) : Int) = (xs.length : Int) := by simp
  unfold p__law_kept
  rw [hl, bind_ok, hd, ofO_some, bind_ok, l1, bind_ok, h2, ofO_some, bind_ok, forL_u (fun x hx => ?_), bindR_go]
  left
  rw [hs, bind_ok, hr, bind_ok, if_neg (by decide), neT_ok ht.ok ht.ok, ofO_some, bind_ok, if_neg (by simp), ist_W, ofO_some, bind_ok, if_neg (by decide), nE, ofO_some, bind_ok, bind_ok, bind_ok, bind_ok, if_neg (by decide), bind_ok, l2, bind_ok, nL, ofO_some, bind_ok, if_neg (by decide), hW, ofO_some, bind_ok, s1, ofO_some, bind_ok, d1, ofO_some, bind_ok]
  simp only [X.forL, isl_L, ofO_some, bind_ok, Bool.not_true, Bool.false_eq_true, if_false, if_true, at_0, ed, are_dues h6, isl_I, whole_I, Bool.not_false, up_go, bindO_go, tmpO_go, read_12]
  have p1 : owPart (.ot [eD tT w, eO (eD tI) xs, eD tI a, eD tI v]) 1 = some (1, xs.map (eD tI)) := owPart_1
  have p2 : owPart (.ot [eD tT [99, 108, 101, 97, 114], eO (eD tI) [1, 2]]) 1 = some (1, [1, 2].map (eD tI)) := owPart_1
  have ap : appO (xs.map (eD tI)) (eD tI 1) = some (xs.map (eD tI) ++ [eD tI 1]) := appO_ok (by simp; omega)
  have eo : owSet (.ot [eD tT w, eO (eD tI) xs, eD tI a, eD tI v]) 1 (xs.map (eD tI) ++ [eD tI 1]) = .ot [eD tT w, eO (eD tI) (xs ++ [1]), eD tI a, eD tI v] := by
    show W.ot [eD tT w, .ol (xs.map (eD tI) ++ [eD tI 1]), eD tI a, eD tI v] = W.ot [eD tT w, .ol ((xs ++ [1]).map (eD tI)), eD tI a, eD tI v]
    rw [List.map_append]
    rfl
  have hW2 : W.toD (.ot [eD tT w, eO (eD tI) (xs ++ [1]), eD tI a, eD tI v]) = some (.tup [tT w, tL tI (xs ++ [1]), tI a, tI v]) := by
    show (W.toDs [eD tT w, eO (eD tI) (xs ++ [1]), eD tI a, eD tI v]).map D.tup = _
    simp only [W.toDs, toD_dues]
    rfl
  have s2 : wsD (gSl (((eD tD) (.tup [tT w, tL tI (xs ++ [1]), tI a, tI v])), (some 2), none)) = some (.tup [tI a, tI v]) := rfl
  have s3 : wsD (gSl (((eD tD) (.tup [tT w, tL tI xs, tI a, tI v])), (some 2), none)) = some (.tup [tI a, tI v]) := rfl
  have nE2 := gNe_same (a := eD tD (.tup [tI a, tI v])) (b := eD tD (.tup [tI a, tI v])) rfl rfl (pn_tup (k := 1) (ds := [tI a, tI v]) fun d hd => by
    simp at hd
    rcases hd with rfl | rfl
    · exact (pn_int _).mono (by decide)
    · exact (pn_int _).mono (by decide)) (by decide)
  rw [ixO_2.1, ofO_some, bind_ok]
  (try dsimp only)
  rw [p1, ofO_some, bind_ok]
  (try dsimp only)
  rw [show (List.set [W.ot [eD tT w, eO (eD tI) xs, eD tI a, eD tI v], W.ot [eD tT [99, 108, 101, 97, 114], eO (eD tI) [1, 2]]] 0 (owSet (W.ot [eD tT w, eO (eD tI) xs, eD tI a, eD tI v]) 1 [])) = [owSet (W.ot [eD tT w, eO (eD tI) xs, eD tI a, eD tI v]) 1 [], W.ot [eD tT [99, 108, 101, 97, 114], eO (eD tI) [1, 2]]] from rfl, ixO_2.2, ofO_some, bind_ok]
  (try dsimp only)
  rw [p2, ofO_some, bind_ok]
  (try dsimp only)
  rw [bind_ok]
  (try dsimp only)
  rw [ap, ofO_some, bind_ok, eo, hW2, ofO_some, bind_ok, s2, ofO_some, bind_ok, s3, ofO_some, bind_ok, nE2, ofO_some, bind_ok, if_neg (by decide), tmpO_go]
end LW
set_option Elab.async false
set_option linter.all false
set_option maxRecDepth 100000
set_option maxHeartbeats 4000000
namespace LW
open PySem AM TY
theorem kp_cl {w : List Nat} {xs : List Int} (hw : w = [99, 108, 101, 97, 114] ∨ w = [98, 97, 114, 114, 101, 100]) (h : ∀ z ∈ xs, z.natAbs < 10 ^ 40) (h0 : xs ≠ []) (h6 : xs.length ≤ 6) : p__law_kept (.tup [tT w, tL tI xs]) = X.ok true := by
  obtain ⟨ys, e1, e2, n, ne⟩ := nums_text h h0 h6
  have s := n.sm_join h6
  have sw : Sm 10 w := by rcases hw with rfl | rfl <;> exact ⟨by decide, by decide⟩
  have s32 : Sm 1 [32] := ⟨by decide, by decide⟩
  obtain ⟨a, b⟩ := text_cl hw e1 e2 s
  exact kept_cl sw.ok h6 ((sw.app (s32.app s)).tx (by omega)) a b (read_cl hw n ne h6)
theorem kp_li {w : List Nat} {xs xs' : List Int} (hw : w = [108, 105, 107, 101] ∨ w = [117, 110, 108, 105, 107, 101]) (h : ∀ z ∈ xs, z.natAbs < 10 ^ 40) (h0 : xs ≠ []) (h6 : xs.length ≤ 6) (h' : ∀ z ∈ xs', z.natAbs < 10 ^ 40) (hl : xs'.length = xs.length) : p__law_kept (.tup [tT w, tL tI xs, tL tI xs']) = X.ok true := by
  obtain ⟨ys, e1, e2, n, ne⟩ := nums_text h h0 h6
  obtain ⟨ys', e1', e2', n', ne'⟩ := nums_text (xs := xs') h' (fun z => h0 (List.length_eq_zero_iff.mp (by rw [← hl, z]; rfl))) (by omega)
  have s := n.sm_join h6
  have s' := n'.sm_join (by omega)
  have sw : Sm 10 w := by rcases hw with rfl | rfl <;> exact ⟨by decide, by decide⟩
  have s32 : Sm 1 [32] := ⟨by decide, by decide⟩
  have s3 : Sm 3 [32, 47, 32] := ⟨by decide, by decide⟩
  obtain ⟨a, b⟩ := text_li hw e1 e2 s e1' e2' s'
  exact kept_li hl sw.ok h6 ((sw.app (s32.app (s.app (s3.app s')))).tx (by omega)) a b (read_li hw n ne h6 n' ne' hl.symm)
theorem kp_st {w : List Nat} {xs : List Int} {v : Int} (hw : w = [115, 116, 97, 110, 100, 115] ∨ w = [102, 97, 108, 108, 115]) (h : ∀ z ∈ xs, z.natAbs < 10 ^ 40) (h0 : xs ≠ []) (h6 : xs.length ≤ 6) (hv : v.natAbs < 10 ^ 40) (hv1 : -1 ≤ v) : p__law_kept (.tup [tT w, tL tI xs, tI v]) = X.ok true := by
  obtain ⟨ys, e1, e2, n, ne⟩ := nums_text h h0 h6
  obtain ⟨m, em, vm, sm, fm, _⟩ := int_text hv
  have s := n.sm_join h6
  have sw : Sm 10 w := by rcases hw with rfl | rfl <;> exact ⟨by decide, by decide⟩
  have s32 : Sm 1 [32] := ⟨by decide, by decide⟩
  have s4 : Sm 4 [32, 98, 121, 32] := ⟨by decide, by decide⟩
  obtain ⟨a, b⟩ := text_st hw e1 e2 s em sm
  exact kept_st sw.ok h6 ((sw.app (s32.app (s.app (s4.app sm)))).tx (by omega)) a b (read_st hw n ne h6 sm fm vm hv1)
theorem kp_dr {w : List Nat} {xs : List Int} {p v : Int} (hw : w = [100, 114, 97, 119, 115] ∨ w = [100, 114, 97, 119, 115, 32, 108, 101, 115, 115]) (h : ∀ z ∈ xs, z.natAbs < 10 ^ 40) (h0 : xs ≠ []) (h6 : xs.length ≤ 6) (hp : p.natAbs < 10 ^ 40) (hp0 : 0 ≤ p) (hv : v.natAbs < 10 ^ 40) : p__law_kept (.tup [tT w, tL tI xs, tI p, tI v]) = X.ok true := by
  obtain ⟨ys, e1, e2, n, ne⟩ := nums_text h h0 h6
  obtain ⟨ma, ea, va, sa, fa, _⟩ := int_text hp
  obtain ⟨mv, ev, vV, sv, fv, _⟩ := int_text hv
  have s := n.sm_join h6
  have sw : Sm 10 w := by rcases hw with rfl | rfl <;> exact ⟨by decide, by decide⟩
  have s32 : Sm 1 [32] := ⟨by decide, by decide⟩
  have s4 : Sm 4 [32, 98, 121, 32] := ⟨by decide, by decide⟩
  have s5 : Sm 4 [32, 97, 116, 32] := ⟨by decide, by decide⟩
  obtain ⟨a, b⟩ := text_dr hw e1 e2 s ea sa ev sv
  have r : p_read_saying (w ++ ([32] ++ (TL.joinL [32] ys ++ ([32, 97, 116, 32] ++ (ma ++ ([32, 98, 121, 32] ++ mv)))))) = X.ok (.ot [eD tT w, eO (eD tI) xs, eD tI p, eD tI v]) := by
    rcases hw with rfl | rfl
    · have := read_dr n ne h6 sa fa sv fv va hp0 vV false
      simp only [Bool.false_eq_true, if_false, List.nil_append] at this
      rw [join_dr ne] at this
      exact this
    · have := read_dr n ne h6 sa fa sv fv va hp0 vV true
      simp only [if_true, List.singleton_append] at this
      rw [join_cons (by simp), join_dr ne] at this
      exact this
  exact kept_dr sw.ok h6 ((sw.app (s32.app (s.app (s5.app (sa.app (s4.app sv)))))).tx (by omega)) a b r
theorem great_ok {N : Nat} {p : List Int} (h : PileOk N p) (hN : N ≤ 2 ^ 48) : ∃ v p', p__law_great p = X.ok (v, p') ∧ 0 ≤ v ∧ v < 10 ^ 40 ∧ PileOk (N + 3) p' := by
  unfold p__law_great
  obtain ⟨a, p1, e1, a0, a1, o1⟩ := take_big (m := 100000000000000000000) h (by omega) (by decide) (by decide)
  rw [e1, bind_ok]
  (try dsimp only)
  obtain ⟨w, p2, e2, w0, w1, o2⟩ := take_ok (m := 4) o1 (by omega) (by decide) (by decide)
  rw [e2, bind_ok, mulO_ok (n := 80) (m := 80) (by omega) (by decide) (by decide), ofO_some, bind_ok]
  (try dsimp only)
  obtain ⟨b, p3, e3, b0, b1, o3⟩ := take_big (m := 10000000000000000000) o2 (by omega) (by decide) (by decide)
  rw [e3, bind_ok]
  (try dsimp only)
  rw [mulO_ok (n := 160) (m := 10) (by omega) (by decide) (by decide), ofO_some, bind_ok]
  have x1 : a % 8 < 8 := Int.emod_lt_of_pos _ (by decide)
  have x2 : 0 ≤ a % 8 := Int.emod_nonneg _ (by decide)
  have x3 : a % 100 < 100 := Int.emod_lt_of_pos _ (by decide)
  have x4 : 0 ≤ a % 100 := Int.emod_nonneg _ (by decide)
  have x5 : a % 9 < 9 := Int.emod_lt_of_pos _ (by decide)
  have x6 : 0 ≤ a % 9 := Int.emod_nonneg _ (by decide)
  rcases (show w = 0 ∨ w = 1 ∨ w = 2 ∨ w = 3 by omega) with rfl | rfl | rfl | rfl
  · exact ⟨_, p3, by rw [at_ok (x := a % 8) (by decide) rfl, ofO_some, bind_ok], x2, by omega, o3⟩
  · exact ⟨_, p3, by rw [at_ok (x := a % 100) (by decide) rfl, ofO_some, bind_ok], x4, by omega, o3⟩
  · exact ⟨_, p3, by rw [at_ok (x := a) (by decide) rfl, ofO_some, bind_ok], a0, by omega, o3⟩
  · exact ⟨_, p3, by rw [at_ok (x := (a * 10000000000000000000 + b) * 9 + a % 9) (by decide) rfl, ofO_some, bind_ok], by omega, by omega, o3⟩
theorem signed_ok {N : Nat} {p : List Int} (h : PileOk N p) (hN : N ≤ 2 ^ 47) : ∃ v p', p__law_signed p = X.ok (v, p') ∧ v.natAbs < 10 ^ 40 ∧ PileOk (N + 4) p' := by
  unfold p__law_signed
  obtain ⟨a, p1, e1, a0, a1, o1⟩ := great_ok h (by omega)
  rw [e1, bind_ok]
  (try dsimp only)
  obtain ⟨w, p2, e2, w0, w1, o2⟩ := take_ok (m := 3) o1 (by omega) (by decide) (by decide)
  rw [e2, bind_ok]
  (try dsimp only)
  rcases (show w = 0 ∨ w = 1 ∨ w = 2 by omega) with rfl | rfl | rfl
  · exact ⟨_, p2, by rw [at_ok (x := a) (by decide) rfl, ofO_some, bind_ok], by omega, o2⟩
  · exact ⟨_, p2, by rw [at_ok (x := a) (by decide) rfl, ofO_some, bind_ok], by omega, o2⟩
  · exact ⟨_, p2, by rw [at_ok (x := -a) (by decide) rfl, ofO_some, bind_ok], by omega, o2⟩
end LW
set_option Elab.async false
set_option linter.all false
set_option maxRecDepth 100000
set_option maxHeartbeats 4000000
namespace LW
open PySem AM TY
theorem signeds_ok {N n : Nat} {c : Int} {p : List Int} (h : PileOk N p) (hN : N ≤ 2 ^ 46) (hc : c = n) (hn : n ≤ 6) : ∃ xs p', X.lcSX (fun (x6 : Int) (s4 : List Int) => X.bind (X.nx (p__law_signed s4)) fun r7 => X.ok (r7.1, r7.2)) (rgT 0 1 c.toNat) p = X.ok (xs, p') ∧ xs.length = n ∧ (∀ z ∈ xs, z.natAbs < 10 ^ 40) ∧ PileOk (N + 24) p' := by
  obtain ⟨ts, p5, e5, q1, q2, q3⟩ := lcSX_ok (f := fun (x6 : Int) (s4 : List Int) => X.bind (X.nx (p__law_signed s4)) fun r7 => X.ok (r7.1, r7.2)) (xs := rgT 0 1 c.toNat) (s := p)
    (fun i zs s => zs.length = i ∧ PileOk (N + 4 * i) s ∧ ∀ z ∈ zs, z.natAbs < 10 ^ 40) (by simp; omega) ⟨rfl, h, by simp⟩ (fun i x acc s hx hs => by
      have hi : i < c.toNat := by
        have := (List.getElem?_eq_some_iff.mp hx).1
        simpa using this
      obtain ⟨q1, q2, q3⟩ := hs
      obtain ⟨r2, p3, e2, h3, o3⟩ := signed_ok q2 (by omega)
      refine ⟨r2, p3, by simp only [e2, nx_ok, bind_ok], by simp [q1], o3.mono (by omega), fun z hz => ?_⟩
      rcases List.mem_append.mp hz with hz | hz
      · exact q3 z hz
      · simp only [List.mem_singleton] at hz
        rw [hz]; exact h3)
  rw [rgT_len] at q1 q2
  exact ⟨ts, p5, e5, by omega, q3, q2.mono (by omega)⟩
theorem saying_ok {N : Nat} {p : List Int} (h : PileOk N p) (hN : N ≤ 2 ^ 45) : ∃ d p', p__law_saying p = X.ok (d, p') ∧ p__law_kept d = X.ok true ∧ PileOk (N + 100) p' := by
  unfold p__law_saying
  obtain ⟨w, p1, e1, w0, w1, o1⟩ := take_ok (m := 8) h (by omega) (by decide) (by decide)
  rw [e1, bind_ok]
  (try dsimp only)
  obtain ⟨k, p2, e2, k0, k1, o2⟩ := take_ok (m := 6) o1 (by omega) (by decide) (by decide)
  rw [e2, bind_ok, rg1_ok (by omega) (by omega), ofO_some, bind_ok]
  (try dsimp only)
  obtain ⟨xs, p3, e3, l3, b3, o3⟩ := signeds_ok (n := (1 + k).toNat) (c := 1 + k) o2 (by omega) (by omega) (by omega)
  have xne : xs ≠ [] := by
    intro z
    rw [z] at l3
    simp at l3
    omega
  have x6 : xs.length ≤ 6 := by omega
  rw [e3, bind_ok]
  (try dsimp only)
  by_cases c1 : w < 2
  · rw [if_pos (by simpa using c1)]
    obtain ⟨u, hu, hu2⟩ : ∃ u, at_ [([108, 105, 107, 101] : List Nat), ([117, 110, 108, 105, 107, 101] : List Nat)] w = some u ∧ (u = [108, 105, 107, 101] ∨ u = [117, 110, 108, 105, 107, 101]) := by
      rcases (show w = 0 ∨ w = 1 by omega) with rfl | rfl
      · exact ⟨_, at_0, .inl rfl⟩
      · exact ⟨_, at_1, .inr rfl⟩
    obtain ⟨ys, p4, e4, l4, b4, o4⟩ := signeds_ok (n := (1 + k).toNat) (c := 1 + k) o3 (by omega) (by omega) (by omega)
    rw [hu, ofO_some, bind_ok, bind_ok, e4, bind_ok]
    exact ⟨_, p4, rfl, kp_li (xs := xs) (xs' := ys) hu2 b3 xne x6 b4 (l4.trans l3.symm), o4.mono (by omega)⟩
  rw [if_neg (by simpa using c1)]
  by_cases c2 : w < 4
  · rw [if_pos (by simpa using c2)]
    obtain ⟨u, hu, hu2⟩ : ∃ u, at_ [([99, 108, 101, 97, 114] : List Nat), ([98, 97, 114, 114, 101, 100] : List Nat)] (w - 2) = some u ∧ (u = [99, 108, 101, 97, 114] ∨ u = [98, 97, 114, 114, 101, 100]) := by
      rcases (show w = 2 ∨ w = 3 by omega) with rfl | rfl
      · exact ⟨_, at_0, .inl rfl⟩
      · exact ⟨_, at_1, .inr rfl⟩
    rw [hu, ofO_some, bind_ok]
    exact ⟨_, p3, rfl, kp_cl (xs := xs) hu2 b3 xne x6, o3.mono (by omega)⟩
  rw [if_neg (by simpa using c2)]
  by_cases c3 : w < 6
  · rw [if_pos (by simpa using c3)]
    obtain ⟨u, hu, hu2⟩ : ∃ u, at_ [([100, 114, 97, 119, 115] : List Nat), ([100, 114, 97, 119, 115, 32, 108, 101, 115, 115] : List Nat)] (w - 4) = some u ∧ (u = [100, 114, 97, 119, 115] ∨ u = [100, 114, 97, 119, 115, 32, 108, 101, 115, 115]) := by
      rcases (show w = 4 ∨ w = 5 by omega) with rfl | rfl
      · exact ⟨_, at_0, .inl rfl⟩
      · exact ⟨_, at_1, .inr rfl⟩
    obtain ⟨a, p4, e4, a0, a1, o4⟩ := great_ok o3 (by omega)
    obtain ⟨v, p5, e5, v1, o5⟩ := signed_ok o4 (by omega)
    rw [hu, ofO_some, bind_ok, e4, bind_ok, e5, bind_ok]
    exact ⟨_, p5, rfl, kp_dr (xs := xs) (p := a) (v := v) hu2 b3 xne x6 (by omega) a0 v1, o5.mono (by omega)⟩
  rw [if_neg (by simpa using c3)]
  obtain ⟨u, hu, hu2⟩ : ∃ u, at_ [([115, 116, 97, 110, 100, 115] : List Nat), ([102, 97, 108, 108, 115] : List Nat)] (w - 6) = some u ∧ (u = [115, 116, 97, 110, 100, 115] ∨ u = [102, 97, 108, 108, 115]) := by
    rcases (show w = 6 ∨ w = 7 by omega) with rfl | rfl
    · exact ⟨_, at_0, .inl rfl⟩
    · exact ⟨_, at_1, .inr rfl⟩
  obtain ⟨a, p4, e4, a0, a1, o4⟩ := great_ok o3 (by omega)
  obtain ⟨b, p5, e5, b0, b1, o5⟩ := take_ok (m := 2) o4 (by omega) (by decide) (by decide)
  obtain ⟨z, zs, rfl⟩ : ∃ z zs, xs = z :: zs := by
    cases xs with
    | nil => simp at l3; omega
    | cons z zs => exact ⟨z, zs, rfl⟩
  have bz : (b2i (decide (3 < z))) = 0 ∨ (b2i (decide (3 < z))) = 1 := by
    cases decide (3 < z)
    · exact .inl rfl
    · exact .inr rfl
  rw [hu, ofO_some, bind_ok, e4, bind_ok]
  (try dsimp only)
  rw [e5, bind_ok]
  (try dsimp only)
  rw [at_0, ofO_some, bind_ok, mulO_ok (n := 10) (m := 10) (by omega) (by omega) (by decide), ofO_some, bind_ok]
  refine ⟨.tup [tT u, tL tI (z :: zs), tI (a - b * b2i (decide (3 < z)))], p5, rfl, kp_st (xs := z :: zs) (v := a - b * b2i (decide (3 < z))) hu2 b3 xne x6 ?_ ?_, o5.mono (by omega)⟩
  · rcases bz with e | e <;> rw [e] <;> omega
  · rcases bz with e | e <;> rw [e] <;> omega
end LW
set_option Elab.async false
set_option linter.all false
set_option maxRecDepth 100000
set_option maxHeartbeats 4000000
namespace LW
open PySem AM TY
def eds : List D := [.tup [tT [115, 116, 97, 110, 100, 115], tL tI [0], tI (-1)], .tup [tT [102, 97, 108, 108, 115], tL tI [0, 0], tI (-1)], .tup [tT [115, 116, 97, 110, 100, 115], tL tI [-1, -1, -1, -1, -1, -1], tI 0], .tup [tT [100, 114, 97, 119, 115], tL tI [0], tI 0, tI 0],
  .tup [tT [100, 114, 97, 119, 115, 32, 108, 101, 115, 115], tL tI [5, -5], tI 9, tI (-1)], .tup [tT [108, 105, 107, 101], tL tI [0], tL tI [0]], .tup [tT [117, 110, 108, 105, 107, 101], tL tI [1 - 10 ^ 40], tL tI [10 ^ 40 - 1]],
  .tup [tT [117, 110, 108, 105, 107, 101], tL tI [1 - 10 ^ 40, 1 - 10 ^ 40, 1 - 10 ^ 40, 1 - 10 ^ 40, 1 - 10 ^ 40, 1 - 10 ^ 40], tL tI [1 - 10 ^ 40, 1 - 10 ^ 40, 1 - 10 ^ 40, 1 - 10 ^ 40, 1 - 10 ^ 40, 1 - 10 ^ 40]],
  .tup [tT [99, 108, 101, 97, 114], tL tI [0, 0, 0, 0, 0, 0]], .tup [tT [98, 97, 114, 114, 101, 100], tL tI [-3]], .tup [tT [100, 114, 97, 119, 115], tL tI [1, 2], tI 7, tI (1 - 10 ^ 40)]]
theorem edges_ok : p__law_edges = X.ok eds := by rfl
theorem eds_kept : ∀ d ∈ eds, p__law_kept d = X.ok true := fun d hd => by
  simp only [eds, List.mem_cons, List.not_mem_nil, or_false] at hd
  rcases hd with rfl | rfl | rfl | rfl | rfl | rfl | rfl | rfl | rfl | rfl | rfl
  · exact kp_st (.inl rfl) (by decide) (by decide) (by decide) (by decide) (by decide)
  · exact kp_st (.inr rfl) (by decide) (by decide) (by decide) (by decide) (by decide)
  · exact kp_st (.inl rfl) (by decide) (by decide) (by decide) (by decide) (by decide)
  · exact kp_dr (.inl rfl) (by decide) (by decide) (by decide) (by decide) (by decide) (by decide)
  · exact kp_dr (.inr rfl) (by decide) (by decide) (by decide) (by decide) (by decide) (by decide)
  · exact kp_li (.inl rfl) (by decide) (by decide) (by decide) (by decide) (by decide)
  · exact kp_li (.inr rfl) (by decide) (by decide) (by decide) (by decide) (by decide)
  · exact kp_li (.inr rfl) (by decide) (by decide) (by decide) (by decide) (by decide)
  · exact kp_cl (.inl rfl) (by decide) (by decide) (by decide)
  · exact kp_cl (.inr rfl) (by decide) (by decide) (by decide)
  · exact kp_dr (.inl rfl) (by decide) (by decide) (by decide) (by decide) (by decide) (by decide)
theorem law_p (ns : List Int) : p_law ns = X.ok true := by
  unfold p_law
  have h20 : rg1 20 = some (rgT 0 1 20) := rg1_ok (by decide) (by decide)
  rw [h20, ofO_some, bind_ok, forL_u (fun x hx => ?_), bindR_go]
  · rw [edges_ok, nx_ok, bind_ok, nx_ok, bind_ok, lcXF_ok (t := fun _ => false) (g := fun y => y) (by decide) (fun y hy => by rw [eds_kept y hy, nx_ok, bind_ok]; rfl) (fun y hy z => by cases z), bind_ok]
    rw [show (eds.filter fun _ => false).map (fun y => y) = [] by simp]
    rfl
  · left
    have hx0 := rgT_mem.mp hx
    obtain ⟨p, e1, o1⟩ := pile_ok ns x (by omega) (by omega)
    rw [e1, bind_ok]
    obtain ⟨d, p2, e2, k2, o2⟩ := saying_ok o1 (by decide)
    rw [e2, bind_ok]
    (try dsimp only)
    rw [k2, bind_ok, if_neg (by decide)]
theorem law_ok : ∀ ns : List Int, ns.length ≤ 63 → ∃ (fu : Nat) (outs : List (Option AM.W)), m_law [.sh (.scr ns)] = some (.ok (.sh (.bl true)), outs) := fun ns _ => by
  have h := t_law ns
  rw [law_p ns] at h
  exact ⟨0, _, h.h⟩
end LW
set_option Elab.async false
set_option linter.all false
set_option maxRecDepth 100000
set_option maxHeartbeats 4000000
namespace LW
open PySem PySem.Spec PyProof.Rows L2 AM
def topS (i : Nat) : Stmt := PySem.Challenge.pw_standloss_k62_sayings_as_texts.main.body.getD i (.Pass ⟨0, 0, 0, 0⟩)
abbrev s__law_numbers_text : Stmt := topS 24
abbrev s__law_saying_text : Stmt := topS 25
abbrev s_show_numbers : Stmt := topS 11
abbrev s_show_saying : Stmt := topS 12
abbrev s_halves : Stmt := topS 10
abbrev s_number_in : Stmt := topS 7
abbrev s_numbers_in : Stmt := topS 9
abbrev s_number_from : Stmt := topS 8
abbrev s_saying_in : Stmt := topS 13
abbrev s_read_saying : Stmt := topS 14
abbrev s__law_whole : Stmt := topS 19
abbrev s__law_are_dues : Stmt := topS 20
abbrev s__law_kept : Stmt := topS 27
abbrev s__law_mixed : Stmt := topS 16
abbrev s__law_take : Stmt := topS 18
abbrev s__law_great : Stmt := topS 21
abbrev s__law_signed : Stmt := topS 22
abbrev s__law_saying : Stmt := topS 23
abbrev s__law_pile : Stmt := topS 17
abbrev s__law_edges : Stmt := topS 26
abbrev s_law : Stmt := topS 28
structure Facts (w : World) (K : PySem.W.Frag) (mg : Str → Option Value) : Prop where
  f__law_numbers_text : ∃ (f : Addr) (fd : FuncData), Fun K "_law_numbers_text" "_law_numbers_text" s__law_numbers_text f fd ∧ mg "_law_numbers_text" = some (.ref f)
  f__law_saying_text : ∃ (f : Addr) (fd : FuncData), Fun K "_law_saying_text" "_law_saying_text" s__law_saying_text f fd ∧ mg "_law_saying_text" = some (.ref f)
  f_show_numbers : ∃ (f : Addr) (fd : FuncData), Fun K "show_numbers" "show_numbers" s_show_numbers f fd ∧ mg "show_numbers" = some (.ref f)
  f_show_saying : ∃ (f : Addr) (fd : FuncData), Fun K "show_saying" "show_saying" s_show_saying f fd ∧ mg "show_saying" = some (.ref f)
  f_halves : ∃ (f : Addr) (fd : FuncData), Fun K "halves" "halves" s_halves f fd ∧ mg "halves" = some (.ref f)
  f_number_in : ∃ (f : Addr) (fd : FuncData), Fun K "number_in" "number_in" s_number_in f fd ∧ mg "number_in" = some (.ref f)
  f_numbers_in : ∃ (f : Addr) (fd : FuncData), Fun K "numbers_in" "numbers_in" s_numbers_in f fd ∧ mg "numbers_in" = some (.ref f)
  f_number_from : ∃ (f : Addr) (fd : FuncData), Fun K "number_from" "number_from" s_number_from f fd ∧ mg "number_from" = some (.ref f)
  f_saying_in : ∃ (f : Addr) (fd : FuncData), Fun K "saying_in" "saying_in" s_saying_in f fd ∧ mg "saying_in" = some (.ref f)
  f_read_saying : ∃ (f : Addr) (fd : FuncData), Fun K "read_saying" "read_saying" s_read_saying f fd ∧ mg "read_saying" = some (.ref f)
  f__law_whole : ∃ (f : Addr) (fd : FuncData), Fun K "_law_whole" "_law_whole" s__law_whole f fd ∧ mg "_law_whole" = some (.ref f)
  f__law_are_dues : ∃ (f : Addr) (fd : FuncData), Fun K "_law_are_dues" "_law_are_dues" s__law_are_dues f fd ∧ mg "_law_are_dues" = some (.ref f)
  f__law_kept : ∃ (f : Addr) (fd : FuncData), Fun K "_law_kept" "_law_kept" s__law_kept f fd ∧ mg "_law_kept" = some (.ref f)
  f__law_mixed : ∃ (f : Addr) (fd : FuncData), Fun K "_law_mixed" "_law_mixed" s__law_mixed f fd ∧ mg "_law_mixed" = some (.ref f)
  f__law_take : ∃ (f : Addr) (fd : FuncData), Fun K "_law_take" "_law_take" s__law_take f fd ∧ mg "_law_take" = some (.ref f)
  f__law_great : ∃ (f : Addr) (fd : FuncData), Fun K "_law_great" "_law_great" s__law_great f fd ∧ mg "_law_great" = some (.ref f)
  f__law_signed : ∃ (f : Addr) (fd : FuncData), Fun K "_law_signed" "_law_signed" s__law_signed f fd ∧ mg "_law_signed" = some (.ref f)
  f__law_saying : ∃ (f : Addr) (fd : FuncData), Fun K "_law_saying" "_law_saying" s__law_saying f fd ∧ mg "_law_saying" = some (.ref f)
  f__law_pile : ∃ (f : Addr) (fd : FuncData), Fun K "_law_pile" "_law_pile" s__law_pile f fd ∧ mg "_law_pile" = some (.ref f)
  f__law_edges : ∃ (f : Addr) (fd : FuncData), Fun K "_law_edges" "_law_edges" s__law_edges f fd ∧ mg "_law_edges" = some (.ref f)
  f_law : ∃ (f : Addr) (fd : FuncData), Fun K "law" "law" s_law f fd ∧ mg "law" = some (.ref f)
  b_abs : mg "abs" = none
  b_bool : mg "bool" = none
  b_int : mg "int" = none
  b_isinstance : mg "isinstance" = none
  b_len : mg "len" = none
  b_list : mg "list" = none
  b_range : mg "range" = none
  b_str : mg "str" = none
  b_tuple : mg "tuple" = none
  e_NoText : ExC K mg "NoText"
  c_FIGURES : ∃ u, mg "FIGURES" = some u ∧ RelV (.str "0123456789") u
  c_MOST_FIGURES : ∃ u, mg "MOST_FIGURES" = some u ∧ RelV (.int 40) u
  c_MOST_NUMBERS : ∃ u, mg "MOST_NUMBERS" = some u ∧ RelV (.int 6) u
section
variable {P : Program} {w : World} {K : PySem.W.Frag} {mg : Str → Option Value} {base : Heap}
theorem sc__law_numbers_text : FnScope ["_law_numbers", "_law_number"] ["_law_numbers"] (defScope s__law_numbers_text) := ⟨rfl, rfl, rfl, by decide +kernel, rfl, by decide +kernel, by decide +kernel⟩
theorem d__law_numbers_text (V : Facts w K mg) : Df P w K mg base "_law_numbers_text" 1 (m__law_numbers_text) 1 := by
  obtain ⟨f, fd, F, hm⟩ := V.f__law_numbers_text
  refine ⟨⟨f, fd, ["_law_numbers"], fn_ok F sc__law_numbers_text rfl (by decide) (fun cdv A outer s H E hr => ?_), hm, F.kp, F.binds fun _ _ _ _ _ _ us hl => match us, hl with | [_], _ => rfl⟩, fnM_len⟩
  have nd := (sc__law_numbers_text).nd
  have tk : Takes (cxOf (L2.CX P w) P w K mg base ["_law_numbers", "_law_number"] "_law_numbers_text" (defScope s__law_numbers_text) f cdv A outer s H E) (fun cls d _ H' => E cls d H') := takes_of rfl rfl rfl rfl
  exact (sss_one (ss_ret (se_ms PySem.F.slot_str_join PySem.F.type_str_join mt_join ops_join se_str (sa_cons (se_lcP rfl nd (si_list (se_varS 0 (pv 0))) (blkOk_by (own := [("_law_number", 1)]) (by kernel_rfl)) (fun b => (sg_name nd rfl (.inl rfl) rfl)) (fun b => sts_nil) (fun b => (se_ty call_str_int ops_str (by rfl) V.b_str PyProof.Rows.boot_str (sa_cons (se_varS 1 (pv 1)) sa_nil)))) sa_nil))))
theorem sc__law_saying_text : FnScope ["_law_saying_here", "_law_text"] ["_law_saying_here"] (defScope s__law_saying_text) := ⟨rfl, rfl, rfl, by decide +kernel, rfl, by decide +kernel, by decide +kernel⟩
theorem d__law_saying_text (V : Facts w K mg) : Df P w K mg base "_law_saying_text" 1 (m__law_saying_text) 2 := by
  obtain ⟨f, fd, F, hm⟩ := V.f__law_saying_text
  refine ⟨⟨f, fd, ["_law_saying_here"], fn_ok F sc__law_saying_text rfl (by decide) (fun cdv A outer s H E hr => ?_), hm, F.kp, F.binds fun _ _ _ _ _ _ us hl => match us, hl with | [_], _ => rfl⟩, fnM_len⟩
  have nd := (sc__law_saying_text).nd
  have tk : Takes (cxOf (L2.CX P w) P w K mg base ["_law_saying_here", "_law_text"] "_law_saying_text" (defScope s__law_saying_text) f cdv A outer s H E) (fun cls d _ H' => E cls d H') := takes_of rfl rfl rfl rfl
  exact (sss_cons (ss_set (i := 1) nd rfl (.inl rfl) rfl (se_fz (se_add (se_add (se_ix (se_varS 0 (pv 0)) se_int (fun _ _ => rfl)) se_str) (se_call0 tk (d__law_numbers_text V) (hr.mono (by decide)) (by rfl) (sw_own (se_fz (se_ix (se_varS 0 (pv 0)) se_int (fun _ _ => rfl))) sw_nil)))))
    (sss_cons (ss_if (st_c (cr_in (r65 hr) (by rfl)) (se_ix (se_varS 0 (pv 0)) se_int (fun _ _ => rfl)) (se_tup (sa_cons se_str (sa_cons se_str sa_nil)))) (sss_one (ss_ret (se_add (se_add (se_varS 1 (pv 1)) se_str) (se_call0 tk (d__law_numbers_text V) (hr.mono (by decide)) (by rfl) (sw_own (se_fz (se_ix (se_varS 0 (pv 0)) se_int (fun _ _ => rfl))) sw_nil))))) sss_nil)
    (sss_cons (ss_if (st_c (cr_in (r65 hr) (by rfl)) (se_ix (se_varS 0 (pv 0)) se_int (fun _ _ => rfl)) (se_tup (sa_cons se_str (sa_cons se_str sa_nil)))) (sss_one (ss_ret (se_add (se_add (se_add (se_add (se_varS 1 (pv 1)) se_str) (se_ty call_str_int ops_str (by rfl) V.b_str PyProof.Rows.boot_str (sa_cons (se_ix (se_varS 0 (pv 0)) se_int (fun _ _ => rfl)) sa_nil))) se_str) (se_ty call_str_int ops_str (by rfl) V.b_str PyProof.Rows.boot_str (sa_cons (se_ix (se_varS 0 (pv 0)) se_int (fun _ _ => rfl)) sa_nil))))) sss_nil)
    (sss_cons (ss_if (st_c (cr_in (r65 hr) (by rfl)) (se_ix (se_varS 0 (pv 0)) se_int (fun _ _ => rfl)) (se_tup (sa_cons se_str (sa_cons se_str sa_nil)))) (sss_one (ss_ret (se_add (se_add (se_varS 1 (pv 1)) se_str) (se_ty call_str_int ops_str (by rfl) V.b_str PyProof.Rows.boot_str (sa_cons (se_ix (se_varS 0 (pv 0)) se_int (fun _ _ => rfl)) sa_nil))))) sss_nil)
    (sss_one (ss_ret (se_varS 1 (pv 1))))))))
theorem sc_show_numbers : FnScope ["numbers", "number"] ["numbers"] (defScope s_show_numbers) := ⟨rfl, rfl, rfl, by decide +kernel, rfl, by decide +kernel, by decide +kernel⟩
theorem d_show_numbers (V : Facts w K mg) : Df P w K mg base "show_numbers" 1 (m_show_numbers) 1 := by
  obtain ⟨f, fd, F, hm⟩ := V.f_show_numbers
  refine ⟨⟨f, fd, ["numbers"], fn_ok F sc_show_numbers rfl (by decide) (fun cdv A outer s H E hr => ?_), hm, F.kp, F.binds fun _ _ _ _ _ _ us hl => match us, hl with | [_], _ => rfl⟩, fnM_len⟩
  have nd := (sc_show_numbers).nd
  have tk : Takes (cxOf (L2.CX P w) P w K mg base ["numbers", "number"] "show_numbers" (defScope s_show_numbers) f cdv A outer s H E) (fun cls d _ H' => E cls d H') := takes_of rfl rfl rfl rfl
  exact (sss_one (ss_ret (se_ms PySem.F.slot_str_join PySem.F.type_str_join mt_join ops_join se_str (sa_cons (se_lcP rfl nd (si_list (se_varS 0 (pv 0))) (blkOk_by (own := [("number", 1)]) (by kernel_rfl)) (fun b => (sg_name nd rfl (.inl rfl) rfl)) (fun b => sts_nil) (fun b => (se_ty call_str_int ops_str (by rfl) V.b_str PyProof.Rows.boot_str (sa_cons (se_varS 1 (pv 1)) sa_nil)))) sa_nil))))
theorem sc_show_saying : FnScope ["saying", "line"] ["saying"] (defScope s_show_saying) := ⟨rfl, rfl, rfl, by decide +kernel, rfl, by decide +kernel, by decide +kernel⟩
theorem d_show_saying (V : Facts w K mg) : Df P w K mg base "show_saying" 1 (m_show_saying) 2 := by
  obtain ⟨f, fd, F, hm⟩ := V.f_show_saying
  refine ⟨⟨f, fd, ["saying"], fn_ok F sc_show_saying rfl (by decide) (fun cdv A outer s H E hr => ?_), hm, F.kp, F.binds fun _ _ _ _ _ _ us hl => match us, hl with | [_], _ => rfl⟩, fnM_len⟩
  have nd := (sc_show_saying).nd
  have tk : Takes (cxOf (L2.CX P w) P w K mg base ["saying", "line"] "show_saying" (defScope s_show_saying) f cdv A outer s H E) (fun cls d _ H' => E cls d H') := takes_of rfl rfl rfl rfl
  exact (sss_cons (ss_set (i := 1) nd rfl (.inl rfl) rfl (se_fz (se_add (se_add (se_ix (se_varS 0 (pv 0)) se_int (fun _ _ => rfl)) se_str) (se_call0 tk (d_show_numbers V) (hr.mono (by decide)) (by rfl) (sw_own (se_fz (se_ix (se_varS 0 (pv 0)) se_int (fun _ _ => rfl))) sw_nil)))))
    (sss_cons (ss_if (st_c (cr_in (r65 hr) (by rfl)) (se_ix (se_varS 0 (pv 0)) se_int (fun _ _ => rfl)) (se_tup (sa_cons se_str (sa_cons se_str sa_nil)))) (sss_one (ss_ret (se_add (se_add (se_varS 1 (pv 1)) se_str) (se_call0 tk (d_show_numbers V) (hr.mono (by decide)) (by rfl) (sw_own (se_fz (se_ix (se_varS 0 (pv 0)) se_int (fun _ _ => rfl))) sw_nil))))) sss_nil)
    (sss_cons (ss_if (st_c (cr_in (r65 hr) (by rfl)) (se_ix (se_varS 0 (pv 0)) se_int (fun _ _ => rfl)) (se_tup (sa_cons se_str (sa_cons se_str sa_nil)))) (sss_one (ss_ret (se_varS 1 (pv 1)))) sss_nil)
    (sss_cons (ss_if (st_c (cr_in (r65 hr) (by rfl)) (se_ix (se_varS 0 (pv 0)) se_int (fun _ _ => rfl)) (se_tup (sa_cons se_str (sa_cons se_str sa_nil)))) (sss_one (ss_ret (se_add (se_add (se_varS 1 (pv 1)) se_str) (se_ty call_str_int ops_str (by rfl) V.b_str PyProof.Rows.boot_str (sa_cons (se_ix (se_varS 0 (pv 0)) se_int (fun _ _ => rfl)) sa_nil))))) sss_nil)
    (sss_one (ss_ret (se_add (se_add (se_add (se_add (se_varS 1 (pv 1)) se_str) (se_ty call_str_int ops_str (by rfl) V.b_str PyProof.Rows.boot_str (sa_cons (se_ix (se_varS 0 (pv 0)) se_int (fun _ _ => rfl)) sa_nil))) se_str) (se_ty call_str_int ops_str (by rfl) V.b_str PyProof.Rows.boot_str (sa_cons (se_ix (se_varS 0 (pv 0)) se_int (fun _ _ => rfl)) sa_nil)))))))))
theorem sc_halves : FnScope ["text", "mark", "parts"] ["text", "mark"] (defScope s_halves) := ⟨rfl, rfl, rfl, by decide +kernel, rfl, by decide +kernel, by decide +kernel⟩
theorem d_halves (V : Facts w K mg) : Df P w K mg base "halves" 2 (m_halves) 1 := by
  obtain ⟨f, fd, F, hm⟩ := V.f_halves
  refine ⟨⟨f, fd, ["text", "mark"], fn_ok F sc_halves rfl (by decide) (fun cdv A outer s H E hr => ?_), hm, F.kp, F.binds fun _ _ _ _ _ _ us hl => match us, hl with | [_, _], _ => rfl⟩, fnM_len⟩
  have nd := (sc_halves).nd
  have tk : Takes (cxOf (L2.CX P w) P w K mg base ["text", "mark", "parts"] "halves" (defScope s_halves) f cdv A outer s H E) (fun cls d _ H' => E cls d H') := takes_of rfl rfl rfl rfl
  exact (sss_cons (ss_set (i := 2) nd rfl (.inl rfl) rfl (se_fz (se_ms PySem.F.slot_str_split PySem.F.type_str_split mt_split ops_split (se_varS 0 (pv 0)) (sa_cons (se_varS 1 (pv 1)) sa_nil))))
    (sss_cons (ss_if (st_c (cr_ne hr.units) (se_bi call_len ops_len (by rfl) V.b_len PySem.boot_len (sa_cons (se_varS 2 (pv 2)) sa_nil)) se_int) (sss_one (ss_raise rfl tk V.e_NoText (by rfl))) sss_nil)
    (sss_one (ss_ret (se_tup (sa_cons (se_ix (se_varS 2 (pv 2)) se_int (fun _ _ => rfl)) (sa_cons (se_ix (se_varS 2 (pv 2)) se_int (fun _ _ => rfl)) sa_nil)))))))
theorem sc_number_in : FnScope ["word", "figures", "sign"] ["word"] (defScope s_number_in) := ⟨rfl, rfl, rfl, by decide +kernel, rfl, by decide +kernel, by decide +kernel⟩
theorem d_number_in (V : Facts w K mg) : Df P w K mg base "number_in" 1 (m_number_in) 1 := by
  obtain ⟨f, fd, F, hm⟩ := V.f_number_in
  refine ⟨⟨f, fd, ["word"], fn_ok F sc_number_in rfl (by decide) (fun cdv A outer s H E hr => ?_), hm, F.kp, F.binds fun _ _ _ _ _ _ us hl => match us, hl with | [_], _ => rfl⟩, fnM_len⟩
  have nd := (sc_number_in).nd
  have tk : Takes (cxOf (L2.CX P w) P w K mg base ["word", "figures", "sign"] "number_in" (defScope s_number_in) f cdv A outer s H E) (fun cls d _ H' => E cls d H') := takes_of rfl rfl rfl rfl
  exact (sss_cons (ss_set (i := 1) nd rfl (.inl rfl) rfl (se_fz (se_if (st_c (cr_eq hr.units) (se_sl (se_varS 0 (pv 0)) so_none (so_some se_int)) se_str) (se_fz (se_sl (se_varS 0 (pv 0)) (so_some se_int) so_none)) (se_varS 0 (pv 0)))))
    (sss_cons (ss_if (st_w (sw_or (st_c (cr_eq hr.units) (se_varS 1 (pv 1)) se_str) (sw_or (st_c cr_gt (se_bi call_len ops_len (by rfl) V.b_len PySem.boot_len (sa_cons (se_varS 1 (pv 1)) sa_nil)) (se_gintE (by rfl) V.c_MOST_FIGURES)) (sw_or1 (st_w (sw_and (st_c (cr_eq hr.units) (se_ix (se_varS 1 (pv 1)) se_int (fun _ _ => rfl)) se_str) (sw_and1 (st_c (cr_ne hr.units) (se_varS 0 (pv 0)) se_str)))))))) (sss_one (ss_raise rfl tk V.e_NoText (by rfl))) sss_nil)
    (sss_cons (ss_for (qq := false) (passes_of rfl) rfl (si_txt (se_varS 1 (pv 1))) (sg_name nd rfl (.inl rfl) rfl) (sss_one (ss_if (st_c (cr_notInC (by rfl)) (se_varS 2 (pv 2)) (se_gstrE (by rfl) V.c_FIGURES)) (sss_one (ss_raise rfl tk V.e_NoText (by rfl))) sss_nil)))
    (sss_one (ss_ret (se_ty (AM.CallR.or call_int1 call_int_str) ops_int (by rfl) V.b_int PyProof.Rows.boot_int (sa_cons (se_varS 0 (pv 0)) sa_nil)))))))
theorem sc_numbers_in : FnScope ["text", "words", "word"] ["text"] (defScope s_numbers_in) := ⟨rfl, rfl, rfl, by decide +kernel, rfl, by decide +kernel, by decide +kernel⟩
theorem d_numbers_in (V : Facts w K mg) : Df P w K mg base "numbers_in" 1 (m_numbers_in) 2 := by
  obtain ⟨f, fd, F, hm⟩ := V.f_numbers_in
  refine ⟨⟨f, fd, ["text"], fn_ok F sc_numbers_in rfl (by decide) (fun cdv A outer s H E hr => ?_), hm, F.kp, F.binds fun _ _ _ _ _ _ us hl => match us, hl with | [_], _ => rfl⟩, fnM_len⟩
  have nd := (sc_numbers_in).nd
  have tk : Takes (cxOf (L2.CX P w) P w K mg base ["text", "words", "word"] "numbers_in" (defScope s_numbers_in) f cdv A outer s H E) (fun cls d _ H' => E cls d H') := takes_of rfl rfl rfl rfl
  exact (sss_cons (ss_set (i := 1) nd rfl (.inl rfl) rfl (se_fz (se_ms PySem.F.slot_str_split PySem.F.type_str_split mt_split ops_split (se_varS 0 (pv 0)) (sa_cons se_str sa_nil))))
    (sss_cons (ss_if (st_c cr_gt (se_bi call_len ops_len (by rfl) V.b_len PySem.boot_len (sa_cons (se_varS 1 (pv 1)) sa_nil)) (se_gintE (by rfl) V.c_MOST_NUMBERS)) (sss_one (ss_raise rfl tk V.e_NoText (by rfl))) sss_nil)
    (sss_one (ss_ret (se_lcX rfl rfl tk rfl nd (si_list (se_varS 1 (pv 1))) (blkOk_by (own := [("word", 2)]) (by kernel_rfl)) (fun b xe => (sg_name nd rfl (.inl rfl) rfl)) (fun b xe => sts_nil) (fun b xe Wb hp => (se_callP hp (d_number_in V) (hr.mono (by decide)) (by rfl) (sw_own (se_varS 2 (pv 2)) sw_nil))))))))
theorem sc_number_from : FnScope ["word", "least", "number"] ["word", "least"] (defScope s_number_from) := ⟨rfl, rfl, rfl, by decide +kernel, rfl, by decide +kernel, by decide +kernel⟩
theorem d_number_from (V : Facts w K mg) : Df P w K mg base "number_from" 2 (m_number_from) 2 := by
  obtain ⟨f, fd, F, hm⟩ := V.f_number_from
  refine ⟨⟨f, fd, ["word", "least"], fn_ok F sc_number_from rfl (by decide) (fun cdv A outer s H E hr => ?_), hm, F.kp, F.binds fun _ _ _ _ _ _ us hl => match us, hl with | [_, _], _ => rfl⟩, fnM_len⟩
  have nd := (sc_number_from).nd
  have tk : Takes (cxOf (L2.CX P w) P w K mg base ["word", "least", "number"] "number_from" (defScope s_number_from) f cdv A outer s H E) (fun cls d _ H' => E cls d H') := takes_of rfl rfl rfl rfl
  exact (sss_cons (ss_set (i := 2) nd rfl (.inl rfl) rfl (se_call0 tk (d_number_in V) (hr.mono (by decide)) (by rfl) (sw_own (se_varS 0 (pv 0)) sw_nil)))
    (sss_cons (ss_if (st_c cr_lt (se_var 2 (pv 2)) (se_varS 1 (pv 1))) (sss_one (ss_raise rfl tk V.e_NoText (by rfl))) sss_nil)
    (sss_one (ss_ret (se_mov 2 (pv 2))))))
theorem sc_saying_in : FnScope ["text", "dues_in", "words", "word", "mark", "rest", "one", "other", "half"] ["text", "dues_in"] (defScope s_saying_in) := ⟨rfl, rfl, rfl, by decide +kernel, rfl, by decide +kernel, by decide +kernel⟩
theorem d_saying_in (V : Facts w K mg) : Df P w K mg base "saying_in" 2 (m_saying_in) 3 := by
  obtain ⟨f, fd, F, hm⟩ := V.f_saying_in
  refine ⟨⟨f, fd, ["text", "dues_in"], fn_ok F sc_saying_in rfl (by decide) (fun cdv A outer s H E hr => ?_), hm, F.kp, F.binds fun _ _ _ _ _ _ us hl => match us, hl with | [_, _], _ => rfl⟩, fnM_len⟩
  have nd := (sc_saying_in).nd
  have tk : Takes (cxOf (L2.CX P w) P w K mg base ["text", "dues_in", "words", "word", "mark", "rest", "one", "other", "half"] "saying_in" (defScope s_saying_in) f cdv A outer s H E) (fun cls d _ H' => E cls d H') := takes_of rfl rfl rfl rfl
  exact (sss_cons (ss_asg (qq := false) (se_fz (se_ms PySem.F.slot_str_partition PySem.F.type_str_partition mt_partition ops_part (se_varS 0 (pv 0)) (sa_cons se_str sa_nil))) (sg_tup rfl (sgs_cons (sg_name nd rfl (.inl rfl) rfl) (sgs_cons (sg_name nd rfl (.inl rfl) rfl) (sgs_cons (sg_name nd rfl (.inl rfl) rfl) sgs_nil)))))
    (sss_cons (ss_if (st_c (cr_in (r65 hr) (by rfl)) (se_varS 3 (pv 3)) (se_tup (sa_cons se_str (sa_cons se_str sa_nil)))) (sss_cons (ss_asg (qq := false) (se_lcX rfl rfl tk rfl nd (si_tup (se_fz (se_call0 tk (d_halves V) (hr.mono (by decide)) (by rfl) (sw_own (se_varS 5 (pv 5)) (sw_own se_str sw_nil))))) (blkOk_by (own := [("half", 8)]) (by kernel_rfl)) (fun b xe => (sg_name nd rfl (.inl rfl) rfl)) (fun b xe => sts_nil) (fun b xe Wb hp => (se_callLP 1 (pv 1) hp (d_numbers_in V) (hr.mono (by decide)) (sw_own (se_varS 8 (pv 8)) sw_nil)))) (sg_unlO rfl (sgs_cons (sg_name nd rfl (.inl rfl) rfl) (sgs_cons (sg_name nd rfl (.inl rfl) rfl) sgs_nil))))
    (sss_cons (ss_if (st_w (sw_and (st_val (se_isi kit_list (by rfl) V.b_isinstance (by rfl) V.b_list PyProof.Rows.boot_list (se_var 6 (pv 6)))) (sw_and (st_val (se_isi kit_list (by rfl) V.b_isinstance (by rfl) V.b_list PyProof.Rows.boot_list (se_var 7 (pv 7)))) (sw_and1 (st_c (cr_ne hr.units) (se_bi call_len ops_len (by rfl) V.b_len PySem.boot_len (sa_cons (se_var 6 (pv 6)) sa_nil)) (se_bi call_len ops_len (by rfl) V.b_len PySem.boot_len (sa_cons (se_var 7 (pv 7)) sa_nil))))))) (sss_one (ss_raise rfl tk V.e_NoText (by rfl))) sss_nil)
    (sss_one (ss_ret (se_tup (sa_cons (se_varS 3 (pv 3)) (sa_cons (se_mov 6 (pv 6)) (sa_cons (se_mov 7 (pv 7)) sa_nil)))))))) sss_nil)
    (sss_cons (ss_if (st_c (cr_in (r65 hr) (by rfl)) (se_varS 3 (pv 3)) (se_tup (sa_cons se_str (sa_cons se_str sa_nil)))) (sss_one (ss_ret (se_tup (sa_cons (se_varS 3 (pv 3)) (sa_cons (se_callL 1 (pv 1) tk (d_numbers_in V) (hr.mono (by decide)) (sw_own (se_varS 5 (pv 5)) sw_nil)) sa_nil))))) sss_nil)
    (sss_cons (ss_set (i := 2) nd rfl (.inl rfl) rfl (se_fz (se_ms PySem.F.slot_str_split PySem.F.type_str_split mt_split ops_split (se_varS 5 (pv 5)) (sa_cons se_str sa_nil))))
    (sss_cons (ss_if (st_w (sw_and (st_c (cr_in (r65 hr) (by rfl)) (se_varS 3 (pv 3)) (se_tup (sa_cons se_str (sa_cons se_str sa_nil)))) (sw_and (st_c cr_gt (se_bi call_len ops_len (by rfl) V.b_len PySem.boot_len (sa_cons (se_varS 2 (pv 2)) sa_nil)) se_int) (sw_and1 (st_c (cr_eq hr.units) (se_ix (se_varS 2 (pv 2)) (se_neg se_int) (fun _ _ => rfl)) se_str))))) (sss_one (ss_ret (se_tup (sa_cons (se_varS 3 (pv 3)) (sa_cons (se_callL 1 (pv 1) tk (d_numbers_in V) (hr.mono (by decide)) (sw_own (se_fz (se_ms PySem.F.slot_str_join PySem.F.type_str_join mt_join ops_join se_str (sa_cons (se_sl (se_varS 2 (pv 2)) so_none (so_some (se_neg se_int))) sa_nil))) sw_nil)) (sa_cons (se_call0 tk (d_number_from V) (hr.mono (by decide)) (by rfl) (sw_own (se_fz (se_ix (se_varS 2 (pv 2)) (se_neg se_int) (fun _ _ => rfl))) (sw_own (se_neg se_int) sw_nil))) sa_nil)))))) sss_nil)
    (sss_cons (ss_if (st_w (sw_or (st_c (cr_ne hr.units) (se_varS 3 (pv 3)) se_str) (sw_or (st_c cr_lt (se_bi call_len ops_len (by rfl) V.b_len PySem.boot_len (sa_cons (se_varS 2 (pv 2)) sa_nil)) se_int) (sw_or (st_c (cr_ne hr.units) (se_ix (se_varS 2 (pv 2)) (se_neg se_int) (fun _ _ => rfl)) se_str) (sw_or1 (st_c (cr_ne hr.units) (se_ix (se_varS 2 (pv 2)) (se_neg se_int) (fun _ _ => rfl)) se_str)))))) (sss_one (ss_raise rfl tk V.e_NoText (by rfl))) sss_nil)
    (sss_cons (ss_if (st_w (sw_and (st_c (cr_eq hr.units) (se_ix (se_varS 2 (pv 2)) se_int (fun _ _ => rfl)) se_str) (sw_and1 (st_c cr_gt (se_bi call_len ops_len (by rfl) V.b_len PySem.boot_len (sa_cons (se_varS 2 (pv 2)) sa_nil)) se_int)))) (sss_cons (ss_set (i := 3) nd rfl (.inl rfl) rfl se_str)
    (sss_one (ss_set (i := 2) nd rfl (.inl rfl) rfl (se_fz (se_sl (se_varS 2 (pv 2)) (so_some se_int) so_none))))) sss_nil)
    (sss_one (ss_ret (se_tup (sa_cons (se_varS 3 (pv 3)) (sa_cons (se_callL 1 (pv 1) tk (d_numbers_in V) (hr.mono (by decide)) (sw_own (se_fz (se_ms PySem.F.slot_str_join PySem.F.type_str_join mt_join ops_join se_str (sa_cons (se_sl (se_varS 2 (pv 2)) so_none (so_some (se_neg se_int))) sa_nil))) sw_nil)) (sa_cons (se_call0 tk (d_number_from V) (hr.mono (by decide)) (by rfl) (sw_own (se_fz (se_ix (se_varS 2 (pv 2)) (se_neg se_int) (fun _ _ => rfl))) (sw_own se_int sw_nil))) (sa_cons (se_call0 tk (d_number_in V) (hr.mono (by decide)) (by rfl) (sw_own (se_fz (se_ix (se_varS 2 (pv 2)) (se_neg se_int) (fun _ _ => rfl))) sw_nil)) sa_nil))))))))))))))
theorem sc_read_saying : FnScope ["text"] ["text"] (defScope s_read_saying) := ⟨rfl, rfl, rfl, by decide +kernel, rfl, by decide +kernel, by decide +kernel⟩
theorem d_read_saying (V : Facts w K mg) : Df P w K mg base "read_saying" 1 (m_read_saying) 4 := by
  obtain ⟨f, fd, F, hm⟩ := V.f_read_saying
  refine ⟨⟨f, fd, ["text"], fn_ok F sc_read_saying rfl (by decide) (fun cdv A outer s H E hr => ?_), hm, F.kp, F.binds fun _ _ _ _ _ _ us hl => match us, hl with | [_], _ => rfl⟩, fnM_len⟩
  have nd := (sc_read_saying).nd
  have tk : Takes (cxOf (L2.CX P w) P w K mg base ["text"] "read_saying" (defScope s_read_saying) f cdv A outer s H E) (fun cls d _ H' => E cls d H') := takes_of rfl rfl rfl rfl
  exact (sss_one (ss_ret (se_call0 tk (d_saying_in V) (hr.mono (by decide)) (by rfl) (sw_own (se_varS 0 (pv 0)) (sw_own (se_fz (se_fn (d_numbers_in V) (by rfl))) sw_nil)))))
theorem sc__law_whole : FnScope ["_law_number"] ["_law_number"] (defScope s__law_whole) := ⟨rfl, rfl, rfl, by decide +kernel, rfl, by decide +kernel, by decide +kernel⟩
theorem d__law_whole (V : Facts w K mg) : Df P w K mg base "_law_whole" 1 (m__law_whole) 1 := by
  obtain ⟨f, fd, F, hm⟩ := V.f__law_whole
  refine ⟨⟨f, fd, ["_law_number"], fn_ok F sc__law_whole rfl (by decide) (fun cdv A outer s H E hr => ?_), hm, F.kp, F.binds fun _ _ _ _ _ _ us hl => match us, hl with | [_], _ => rfl⟩, fnM_len⟩
  have nd := (sc__law_whole).nd
  have tk : Takes (cxOf (L2.CX P w) P w K mg base ["_law_number"] "_law_whole" (defScope s__law_whole) f cdv A outer s H E) (fun cls d _ H' => E cls d H') := takes_of rfl rfl rfl rfl
  exact (sss_one (ss_ret (se_andV (se_isi kit_int (by rfl) V.b_isinstance (by rfl) V.b_int PyProof.Rows.boot_int (se_varS 0 (pv 0))) (se_one (se_not (se_isi kit_bool (by rfl) V.b_isinstance (by rfl) V.b_bool PyProof.Rows.boot_bool (se_varS 0 (pv 0))))))))
theorem sc__law_are_dues : FnScope ["_law_found", "_law_n", "_law_one"] ["_law_found", "_law_n"] (defScope s__law_are_dues) := ⟨rfl, rfl, rfl, by decide +kernel, rfl, by decide +kernel, by decide +kernel⟩
theorem d__law_are_dues (V : Facts w K mg) : Df P w K mg base "_law_are_dues" 2 (m__law_are_dues) 2 := by
  obtain ⟨f, fd, F, hm⟩ := V.f__law_are_dues
  refine ⟨⟨f, fd, ["_law_found", "_law_n"], fn_ok F sc__law_are_dues rfl (by decide) (fun cdv A outer s H E hr => ?_), hm, F.kp, F.binds fun _ _ _ _ _ _ us hl => match us, hl with | [_, _], _ => rfl⟩, fnM_len⟩
  have nd := (sc__law_are_dues).nd
  have tk : Takes (cxOf (L2.CX P w) P w K mg base ["_law_found", "_law_n", "_law_one"] "_law_are_dues" (defScope s__law_are_dues) f cdv A outer s H E) (fun cls d _ H' => E cls d H') := takes_of rfl rfl rfl rfl
  exact (sss_cons (ss_if (st_w (sw_or (st_not (st_val (se_isi kit_list (by rfl) V.b_isinstance (by rfl) V.b_list PyProof.Rows.boot_list (se_varS 0 (pv 0))))) (sw_or1 (st_c (cr_ne hr.units) (se_bi call_len ops_len (by rfl) V.b_len PySem.boot_len (sa_cons (se_varS 0 (pv 0)) sa_nil)) (se_varS 1 (pv 1)))))) (sss_one (ss_ret se_bl)) sss_nil)
    (sss_one (ss_ret (se_c (cr_eq hr.units) (se_lcP rfl nd (si_list (se_varS 0 (pv 0))) (blkOk_by (own := [("_law_one", 2)]) (by kernel_rfl)) (fun b => (sg_name nd rfl (.inl rfl) rfl)) (fun b => (sts_one (st_not (st_val (se_call0 takes0 (d__law_whole V) (hr.mono (by decide)) (by rfl) (sw_own (se_varS 2 (pv 2)) sw_nil)))))) (fun b => (se_varS 2 (pv 2)))) (se_lst sa_nil)))))
theorem sc__law_kept : FnScope ["_law_saying_here", "_law_due", "_law_held", "_law_turn", "_law_text", "_law_told", "_law_one", "_law_other"] ["_law_saying_here"] (defScope s__law_kept) := ⟨rfl, rfl, rfl, by decide +kernel, rfl, by decide +kernel, by decide +kernel⟩
theorem d__law_kept (V : Facts w K mg) : Df P w K mg base "_law_kept" 1 (m__law_kept) 5 := by
  obtain ⟨f, fd, F, hm⟩ := V.f__law_kept
  refine ⟨⟨f, fd, ["_law_saying_here"], fn_ok F sc__law_kept rfl (by decide) (fun cdv A outer s H E hr => ?_), hm, F.kp, F.binds fun _ _ _ _ _ _ us hl => match us, hl with | [_], _ => rfl⟩, fnM_len⟩
  have nd := (sc__law_kept).nd
  have tk : Takes (cxOf (L2.CX P w) P w K mg base ["_law_saying_here", "_law_due", "_law_held", "_law_turn", "_law_text", "_law_told", "_law_one", "_law_other"] "_law_kept" (defScope s__law_kept) f cdv A outer s H E) (fun cls d _ H' => E cls d H') := takes_of rfl rfl rfl rfl
  exact (sss_cons (ss_set (i := 1) nd rfl (.inl rfl) rfl (se_fz (se_call0 tk (d__law_saying_text V) (hr.mono (by decide)) (by rfl) (sw_own (se_varS 0 (pv 0)) sw_nil))))
    (sss_cons (ss_lcPZ (i := 2) rfl rfl nd rfl rfl (sw_true rfl rfl rfl (by decide +kernel)) (si_tup (se_varS 0 (pv 0))) (blkOk_by (own := [("_law_one", 6)]) (by kernel_rfl)) (fun b => (sg_name nd rfl (.inl rfl) rfl)) (fun b => (sts_one (st_val (se_isi kit_list (by rfl) V.b_isinstance (by rfl) V.b_list PyProof.Rows.boot_list (se_varS 6 (pv 6)))))) (fun b => (se_ty call_list_of ops_list (by rfl) V.b_list PyProof.Rows.boot_list (sa_cons (se_varS 6 (pv 6)) sa_nil))))
    (sss_cons (ss_for (qq := false) (passes_of rfl) rfl (si_rg1 (by rfl) V.b_range (sa_cons se_int sa_nil)) (sg_name nd rfl (.inl rfl) rfl) (sss_cons (ss_set (i := 4) nd rfl (.inl rfl) rfl (se_fz (se_call0 tk (d_show_saying V) (hr.mono (by decide)) (by rfl) (sw_own (se_varS 0 (pv 0)) sw_nil))))
    (sss_cons (ss_set (i := 5) nd rfl (.inl rfl) rfl (se_call0 tk (d_read_saying V) (hr.mono (by decide)) (by rfl) (sw_own (se_varS 1 (pv 1)) sw_nil)))
    (sss_cons (ss_if (st_w (sw_or (st_not (st_val (se_isi kit_str (by rfl) V.b_isinstance (by rfl) V.b_str PyProof.Rows.boot_str (se_varS 4 (pv 4))))) (sw_or (st_c (cr_ne hr.units) (se_varS 4 (pv 4)) (se_varS 1 (pv 1))) (sw_or (st_not (st_val (se_isi kit_tuple (by rfl) V.b_isinstance (by rfl) V.b_tuple PyProof.Rows.boot_tuple (se_var 5 (pv 5))))) (sw_or1 (st_c (cr_ne hr.units) (se_var 5 (pv 5)) (se_varS 0 (pv 0)))))))) (sss_one (ss_ret se_bl)) sss_nil)
    (sss_cons (ss_if (st_c (cr_ne hr.units) (se_lcP rfl nd (si_tup (se_varS 0 (pv 0))) (blkOk_by (own := [("_law_one", 6)]) (by kernel_rfl)) (fun b => (sg_name nd rfl (.inl rfl) rfl)) (fun b => (sts_one (st_val (se_isi kit_list (by rfl) V.b_isinstance (by rfl) V.b_list PyProof.Rows.boot_list (se_varS 6 (pv 6)))))) (fun b => (se_varS 6 (pv 6)))) (se_varS 2 (pv 2))) (sss_one (ss_ret se_bl)) sss_nil)
    (sss_cons (ss_tmp 5 [6] (ss_for (qq := false) (passes_of rfl) rfl (si_tup (se_sl (se_varS 5 (pv 5)) (so_some se_int) so_none)) (sg_name nd rfl (.inl rfl) rfl) (sss_cons (ss_if (st_w (sw_and (st_not (st_val (se_isi kit_list (by rfl) V.b_isinstance (by rfl) V.b_list PyProof.Rows.boot_list (se_varS 6 (pv 6))))) (sw_and1 (st_not (st_val (se_call0 tk (d__law_whole V) (hr.mono (by decide)) (by rfl) (sw_own (se_varS 6 (pv 6)) sw_nil))))))) (sss_one (ss_ret se_bl)) sss_nil)
    (sss_one (ss_if (st_w (sw_and (st_val (se_isi kit_list (by rfl) V.b_isinstance (by rfl) V.b_list PyProof.Rows.boot_list (se_varS 6 (pv 6)))) (sw_and1 (st_not (st_val (se_call0 tk (d__law_are_dues V) (hr.mono (by decide)) (by rfl) (sw_own (se_varS 6 (pv 6)) (sw_own (se_bi call_len ops_len (by rfl) V.b_len PySem.boot_len (sa_cons (se_ix (se_varS 2 (pv 2)) se_int (fun _ _ => rfl)) sa_nil)) sw_nil)))))))) (sss_one (ss_ret se_bl)) sss_nil)))))
    (sss_cons (ss_set (i := 7) nd rfl (.inl rfl) rfl (se_lst (sa_cons (se_call0 tk (d_read_saying V) (hr.mono (by decide)) (by rfl) (sw_own (se_varS 1 (pv 1)) sw_nil)) (sa_cons (se_call0 tk (d_read_saying V) (hr.mono (by decide)) (by rfl) (sw_own se_str sw_nil)) sa_nil))))
    (sss_cons (ss_expr (se_meth0 PySem.F.slot_list_clear PySem.F.type_list_clear mt_clear opi_clr (sl_ix (Wx := W0) (sl_ix (Wx := W0) (sl_var 7 (pv 7)) se_int (fun _ _ => rfl)) se_int (fun _ _ => rfl))))
    (sss_cons (ss_expr (se_meth0 PySem.F.slot_list_clear PySem.F.type_list_clear mt_clear opi_clr (sl_ix (Wx := W0) (sl_ix (Wx := W0) (sl_var 7 (pv 7)) se_int (fun _ _ => rfl)) se_int (fun _ _ => rfl))))
    (sss_cons (ss_if (st_c (cr_ne hr.units) (se_var 5 (pv 5)) (se_varS 0 (pv 0))) (sss_one (ss_ret se_bl)) sss_nil)
    (sss_cons (ss_expr (se_meth PySem.F.slot_list_append PySem.F.type_list_append mt_append opi_app (sl_ix (Wx := W0) (sl_var 5 (pv 5)) se_int (fun _ _ => rfl)) (sa_cons se_int sa_nil) (.inl rfl)))
    (sss_one (ss_tmp 5 [] (ss_if (st_c (cr_ne hr.units) (se_sl (se_varS 5 (pv 5)) (so_some se_int) so_none) (se_sl (se_varS 0 (pv 0)) (so_some se_int) so_none)) (sss_one (ss_ret se_bl)) sss_nil))))))))))))))
    (sss_one (ss_ret se_bl)))))
theorem sc__law_mixed : FnScope ["_law_cell", "_law_k", "_law_number"] ["_law_cell", "_law_k"] (defScope s__law_mixed) := ⟨rfl, rfl, rfl, by decide +kernel, rfl, by decide +kernel, by decide +kernel⟩
theorem d__law_mixed (V : Facts w K mg) : Df P w K mg base "_law_mixed" 2 (m__law_mixed) 1 := by
  obtain ⟨f, fd, F, hm⟩ := V.f__law_mixed
  refine ⟨⟨f, fd, ["_law_cell", "_law_k"], fn_ok F sc__law_mixed rfl (by decide) (fun cdv A outer s H E hr => ?_), hm, F.kp, F.binds fun _ _ _ _ _ _ us hl => match us, hl with | [_, _], _ => rfl⟩, fnM_len⟩
  have nd := (sc__law_mixed).nd
  have tk : Takes (cxOf (L2.CX P w) P w K mg base ["_law_cell", "_law_k", "_law_number"] "_law_mixed" (defScope s__law_mixed) f cdv A outer s H E) (fun cls d _ H' => E cls d H') := takes_of rfl rfl rfl rfl
  exact (sss_cons (ss_set (i := 2) nd rfl (.inl rfl) rfl (se_mod (se_add (se_add (se_mul (se_mod (se_varS 0 (pv 0)) se_int) se_int) (se_mul (se_varS 1 (pv 1)) se_int)) se_int) se_int))
    (sss_cons (ss_set (i := 2) nd rfl (.inl rfl) rfl (se_mod (se_mul (se_varS 2 (pv 2)) (se_varS 2 (pv 2))) se_int))
    (sss_one (ss_ret (se_fdiv (se_mod (se_mul (se_varS 2 (pv 2)) (se_varS 2 (pv 2))) se_int) se_int)))))
theorem sc__law_take : FnScope ["_law_pile_here", "_law_many", "_law_digit"] ["_law_pile_here", "_law_many"] (defScope s__law_take) := ⟨rfl, rfl, rfl, by decide +kernel, rfl, by decide +kernel, by decide +kernel⟩
theorem d__law_take (V : Facts w K mg) : Df P w K mg base "_law_take" 2 (m__law_take) 2 := by
  obtain ⟨f, fd, F, hm⟩ := V.f__law_take
  refine ⟨⟨f, fd, ["_law_pile_here", "_law_many"], fn_ok F sc__law_take rfl (by decide) (fun cdv A outer s H E hr => ?_), hm, F.kp, F.binds fun _ _ _ _ _ _ us hl => match us, hl with | [_, _], _ => rfl⟩, fnM_len⟩
  have nd := (sc__law_take).nd
  have tk : Takes (cxOf (L2.CX P w) P w K mg base ["_law_pile_here", "_law_many", "_law_digit"] "_law_take" (defScope s__law_take) f cdv A outer s H E) (fun cls d _ H' => E cls d H') := takes_of rfl rfl rfl rfl
  exact (sss_cons (ss_if (st_c (cr_in (r65 hr) (by rfl)) (se_ix (se_var 0 (pv 0)) se_int (fun _ _ => rfl)) (se_lst (sa_cons se_int (sa_cons (se_neg se_int) sa_nil)))) (sss_cons (ss_asg (qq := false) (se_add (se_ix (se_var 0 (pv 0)) se_int (fun _ _ => rfl)) se_int) (sg_ix (Wx := W0) (sl_var 0 (pv 0)) se_int))
    (sss_one (ss_ret (se_mod (se_call0 tk (d__law_mixed V) (hr.mono (by decide)) (by rfl) (sw_bor (sl_ix (Wx := W0) (sl_var 0 (pv 0)) se_int (fun _ _ => rfl)) (sw_bor (sl_ix (Wx := W0) (sl_var 0 (pv 0)) se_int (fun _ _ => rfl)) sw_nil (.inl rfl)) (.inl rfl))) (se_varS 1 (pv 1)))))) sss_nil)
    (sss_cons (ss_set (i := 2) nd rfl (.inl rfl) rfl (se_mod (se_ix (se_var 0 (pv 0)) se_int (fun _ _ => rfl)) (se_varS 1 (pv 1))))
    (sss_cons (ss_asg (qq := false) (se_fdiv (se_ix (se_var 0 (pv 0)) se_int (fun _ _ => rfl)) (se_varS 1 (pv 1))) (sg_ix (Wx := W0) (sl_var 0 (pv 0)) se_int))
    (sss_one (ss_ret (se_varS 2 (pv 2)))))))
theorem sc__law_great : FnScope ["_law_pile_here", "_law_number", "_law_way"] ["_law_pile_here"] (defScope s__law_great) := ⟨rfl, rfl, rfl, by decide +kernel, rfl, by decide +kernel, by decide +kernel⟩
theorem d__law_great (V : Facts w K mg) : Df P w K mg base "_law_great" 1 (m__law_great) 3 := by
  obtain ⟨f, fd, F, hm⟩ := V.f__law_great
  refine ⟨⟨f, fd, ["_law_pile_here"], fn_ok F sc__law_great rfl (by decide) (fun cdv A outer s H E hr => ?_), hm, F.kp, F.binds fun _ _ _ _ _ _ us hl => match us, hl with | [_], _ => rfl⟩, fnM_len⟩
  have nd := (sc__law_great).nd
  have tk : Takes (cxOf (L2.CX P w) P w K mg base ["_law_pile_here", "_law_number", "_law_way"] "_law_great" (defScope s__law_great) f cdv A outer s H E) (fun cls d _ H' => E cls d H') := takes_of rfl rfl rfl rfl
  exact (sss_cons (ss_set (i := 1) nd rfl (.inl rfl) rfl (se_fz (se_call1 tk (d__law_take V) (hr.mono (by decide)) (by rfl) (sw_io (sl_var 0 (pv 0)) (sw_own (se_pow se_int se_int) sw_nil) (.inl rfl)))))
    (sss_cons (ss_set (i := 2) nd rfl (.inl rfl) rfl (se_fz (se_call1 tk (d__law_take V) (hr.mono (by decide)) (by rfl) (sw_io (sl_var 0 (pv 0)) (sw_own se_int sw_nil) (.inl rfl)))))
    (sss_one (ss_ret (se_ix (se_lst (sa_cons (se_mod (se_varS 1 (pv 1)) se_int) (sa_cons (se_mod (se_varS 1 (pv 1)) se_int) (sa_cons (se_varS 1 (pv 1)) (sa_cons (se_add (se_mul (se_add (se_mul (se_varS 1 (pv 1)) (se_pow se_int se_int)) (se_call1 tk (d__law_take V) (hr.mono (by decide)) (by rfl) (sw_io (sl_var 0 (pv 0)) (sw_own (se_pow se_int se_int) sw_nil) (.inl rfl)))) se_int) (se_mod (se_varS 1 (pv 1)) se_int)) sa_nil))))) (se_varS 2 (pv 2)) (fun _ _ => rfl))))))
theorem sc__law_signed : FnScope ["_law_pile_here", "_law_number"] ["_law_pile_here"] (defScope s__law_signed) := ⟨rfl, rfl, rfl, by decide +kernel, rfl, by decide +kernel, by decide +kernel⟩
theorem d__law_signed (V : Facts w K mg) : Df P w K mg base "_law_signed" 1 (m__law_signed) 4 := by
  obtain ⟨f, fd, F, hm⟩ := V.f__law_signed
  refine ⟨⟨f, fd, ["_law_pile_here"], fn_ok F sc__law_signed rfl (by decide) (fun cdv A outer s H E hr => ?_), hm, F.kp, F.binds fun _ _ _ _ _ _ us hl => match us, hl with | [_], _ => rfl⟩, fnM_len⟩
  have nd := (sc__law_signed).nd
  have tk : Takes (cxOf (L2.CX P w) P w K mg base ["_law_pile_here", "_law_number"] "_law_signed" (defScope s__law_signed) f cdv A outer s H E) (fun cls d _ H' => E cls d H') := takes_of rfl rfl rfl rfl
  exact (sss_cons (ss_set (i := 1) nd rfl (.inl rfl) rfl (se_fz (se_call1 tk (d__law_great V) (hr.mono (by decide)) (by rfl) (sw_io (sl_var 0 (pv 0)) sw_nil (.inl rfl)))))
    (sss_one (ss_ret (se_ix (se_lst (sa_cons (se_varS 1 (pv 1)) (sa_cons (se_varS 1 (pv 1)) (sa_cons (se_neg (se_varS 1 (pv 1))) sa_nil)))) (se_call1 tk (d__law_take V) (hr.mono (by decide)) (by rfl) (sw_io (sl_var 0 (pv 0)) (sw_own se_int sw_nil) (.inl rfl))) (fun _ _ => rfl)))))
theorem sc__law_saying : FnScope ["_law_pile_here", "_law_way", "_law_n", "_law_dues", "_law_k"] ["_law_pile_here"] (defScope s__law_saying) := ⟨rfl, rfl, rfl, by decide +kernel, rfl, by decide +kernel, by decide +kernel⟩
theorem d__law_saying (V : Facts w K mg) : Df P w K mg base "_law_saying" 1 (m__law_saying) 5 := by
  obtain ⟨f, fd, F, hm⟩ := V.f__law_saying
  refine ⟨⟨f, fd, ["_law_pile_here"], fn_ok F sc__law_saying rfl (by decide) (fun cdv A outer s H E hr => ?_), hm, F.kp, F.binds fun _ _ _ _ _ _ us hl => match us, hl with | [_], _ => rfl⟩, fnM_len⟩
  have nd := (sc__law_saying).nd
  have tk : Takes (cxOf (L2.CX P w) P w K mg base ["_law_pile_here", "_law_way", "_law_n", "_law_dues", "_law_k"] "_law_saying" (defScope s__law_saying) f cdv A outer s H E) (fun cls d _ H' => E cls d H') := takes_of rfl rfl rfl rfl
  exact (sss_cons (ss_set (i := 1) nd rfl (.inl rfl) rfl (se_fz (se_call1 tk (d__law_take V) (hr.mono (by decide)) (by rfl) (sw_io (sl_var 0 (pv 0)) (sw_own se_int sw_nil) (.inl rfl)))))
    (sss_cons (ss_set (i := 2) nd rfl (.inl rfl) rfl (se_fz (se_add se_int (se_call1 tk (d__law_take V) (hr.mono (by decide)) (by rfl) (sw_io (sl_var 0 (pv 0)) (sw_own se_int sw_nil) (.inl rfl))))))
    (sss_cons (ss_lc (i := 3) (q := false) rfl rfl nd rfl rfl (sw_true rfl rfl rfl (by decide +kernel)) (si_p (si_rg1 (by rfl) V.b_range (sa_cons (se_varS 2 (pv 2)) sa_nil))) (blkOk_by (own := [("_law_k", 4)]) (by kernel_rfl)) (fun b => (sg_name nd rfl (.inl rfl) rfl)) (fun b => (sts_p sts_nil)) (fun b => (se_call1 takes0 (d__law_signed V) (hr.mono (by decide)) (by rfl) (sw_io (sl_var 0 (pv 0)) sw_nil (.inl rfl)))))
    (sss_cons (ss_if (st_c cr_lt (se_varS 1 (pv 1)) se_int) (sss_one (ss_ret (se_fz (se_tup (sa_cons (se_ix (se_lst (sa_cons se_str (sa_cons se_str sa_nil))) (se_varS 1 (pv 1)) (fun _ _ => rfl)) (sa_cons (se_mov 3 (pv 3)) (sa_cons (se_lc (q := false) rfl nd (si_p (si_rg1 (by rfl) V.b_range (sa_cons (se_varS 2 (pv 2)) sa_nil))) (blkOk_by (own := [("_law_k", 4)]) (by kernel_rfl)) (fun b => (sg_name nd rfl (.inl rfl) rfl)) (fun b => (sts_p sts_nil)) (fun b => (se_call1 takes0 (d__law_signed V) (hr.mono (by decide)) (by rfl) (sw_io (sl_var 0 (pv 0)) sw_nil (.inl rfl))))) sa_nil))))))) sss_nil)
    (sss_cons (ss_if (st_c cr_lt (se_varS 1 (pv 1)) se_int) (sss_one (ss_ret (se_fz (se_tup (sa_cons (se_ix (se_lst (sa_cons se_str (sa_cons se_str sa_nil))) (se_sub (se_varS 1 (pv 1)) se_int) (fun _ _ => rfl)) (sa_cons (se_mov 3 (pv 3)) sa_nil)))))) sss_nil)
    (sss_cons (ss_if (st_c cr_lt (se_varS 1 (pv 1)) se_int) (sss_one (ss_ret (se_fz (se_tup (sa_cons (se_ix (se_lst (sa_cons se_str (sa_cons se_str sa_nil))) (se_sub (se_varS 1 (pv 1)) se_int) (fun _ _ => rfl)) (sa_cons (se_mov 3 (pv 3)) (sa_cons (se_call1 tk (d__law_great V) (hr.mono (by decide)) (by rfl) (sw_io (sl_var 0 (pv 0)) sw_nil (.inl rfl))) (sa_cons (se_call1 tk (d__law_signed V) (hr.mono (by decide)) (by rfl) (sw_io (sl_var 0 (pv 0)) sw_nil (.inl rfl))) sa_nil)))))))) sss_nil)
    (sss_one (ss_ret (se_fz (se_tup (sa_cons (se_ix (se_lst (sa_cons se_str (sa_cons se_str sa_nil))) (se_sub (se_varS 1 (pv 1)) se_int) (fun _ _ => rfl)) (sa_cons (se_frz 3 (pv 3)) (sa_cons (se_sub (se_call1 tk (d__law_great V) (hr.mono (by decide)) (by rfl) (sw_io (sl_var 0 (pv 0)) sw_nil (.inl rfl))) (se_mul (se_call1 tk (d__law_take V) (hr.mono (by decide)) (by rfl) (sw_io (sl_var 0 (pv 0)) (sw_own se_int sw_nil) (.inl rfl))) (se_ty (AM.CallR.or call_int1 call_int_str) ops_int (by rfl) V.b_int PyProof.Rows.boot_int (sa_cons (se_c cr_gt (se_ix (se_var 3 (pv 3)) se_int (fun _ _ => rfl)) se_int) sa_nil)))) sa_nil)))))))))))))
theorem sc__law_pile : FnScope ["_law_script", "_law_k", "_law_cell"] ["_law_script", "_law_k"] (defScope s__law_pile) := ⟨rfl, rfl, rfl, by decide +kernel, rfl, by decide +kernel, by decide +kernel⟩
theorem d__law_pile (V : Facts w K mg) : Df P w K mg base "_law_pile" 2 (m__law_pile) 1 := by
  obtain ⟨f, fd, F, hm⟩ := V.f__law_pile
  refine ⟨⟨f, fd, ["_law_script", "_law_k"], fn_ok F sc__law_pile rfl (by decide) (fun cdv A outer s H E hr => ?_), hm, F.kp, F.binds fun _ _ _ _ _ _ us hl => match us, hl with | [_, _], _ => rfl⟩, fnM_len⟩
  have nd := (sc__law_pile).nd
  have tk : Takes (cxOf (L2.CX P w) P w K mg base ["_law_script", "_law_k", "_law_cell"] "_law_pile" (defScope s__law_pile) f cdv A outer s H E) (fun cls d _ H' => E cls d H') := takes_of rfl rfl rfl rfl
  exact (sss_cons (ss_set (i := 2) nd rfl (.inl rfl) rfl se_int)
    (sss_cons (ss_if (st_c cr_lt (se_varS 1 (pv 1)) (se_bi call_len ops_len (by rfl) V.b_len PySem.boot_len (sa_cons (se_varS 0 (pv 0)) sa_nil))) (sss_one (ss_set (i := 2) nd rfl (.inl rfl) rfl (se_fz (se_ix (se_varS 0 (pv 0)) (se_varS 1 (pv 1)) (fun _ _ => rfl))))) sss_nil)
    (sss_one (ss_ret (se_lst (sa_cons (se_ix (se_lst (sa_cons se_int (sa_cons (se_mod (se_varS 2 (pv 2)) (se_mul (se_mul (se_pow se_int se_int) (se_pow se_int se_int)) (se_pow se_int se_int))) sa_nil))) (se_ty (AM.CallR.or call_int1 call_int_str) ops_int (by rfl) V.b_int PyProof.Rows.boot_int (sa_cons (se_c cr_ge (se_bi call_abs ops_abs (by rfl) V.b_abs PyProof.Rows.boot_abs (sa_cons (se_varS 2 (pv 2)) sa_nil)) (se_pow se_int se_int)) sa_nil)) (fun _ _ => rfl)) (sa_cons (se_mod (se_varS 2 (pv 2)) se_int) (sa_cons (se_mul se_int (se_varS 1 (pv 1))) sa_nil))))))))
theorem sc__law_edges : FnScope ["_law_found"] [] (defScope s__law_edges) := ⟨rfl, rfl, rfl, by decide +kernel, rfl, by decide +kernel, by decide +kernel⟩
theorem d__law_edges (V : Facts w K mg) : Df P w K mg base "_law_edges" 0 (m__law_edges) 1 := by
  obtain ⟨f, fd, F, hm⟩ := V.f__law_edges
  refine ⟨⟨f, fd, [], fn_ok F sc__law_edges rfl (by decide) (fun cdv A outer s H E hr => ?_), hm, F.kp, F.binds fun _ _ _ _ _ _ us hl => match us, hl with | [], _ => rfl⟩, fnM_len⟩
  have nd := (sc__law_edges).nd
  have tk : Takes (cxOf (L2.CX P w) P w K mg base ["_law_found"] "_law_edges" (defScope s__law_edges) f cdv A outer s H E) (fun cls d _ H' => E cls d H') := takes_of rfl rfl rfl rfl
  exact (sss_cons (ss_set (i := 0) nd rfl (.inl rfl) rfl (se_lst (sa_cons (se_fz (se_tup (sa_cons se_str (sa_cons (se_lst (sa_cons se_int sa_nil)) (sa_cons (se_neg se_int) sa_nil))))) (sa_cons (se_fz (se_tup (sa_cons se_str (sa_cons (se_lst (sa_cons se_int (sa_cons se_int sa_nil))) (sa_cons (se_neg se_int) sa_nil))))) (sa_cons (se_fz (se_tup (sa_cons se_str (sa_cons (se_mul (se_lst (sa_cons (se_neg se_int) sa_nil)) se_int) (sa_cons se_int sa_nil))))) (sa_cons (se_fz (se_tup (sa_cons se_str (sa_cons (se_lst (sa_cons se_int sa_nil)) (sa_cons se_int (sa_cons se_int sa_nil)))))) sa_nil))))))
    (sss_cons (ss_set (i := 0) nd rfl (.inl rfl) rfl (se_add (se_var 0 (pv 0)) (se_lst (sa_cons (se_fz (se_tup (sa_cons se_str (sa_cons (se_lst (sa_cons se_int (sa_cons (se_neg se_int) sa_nil))) (sa_cons se_int (sa_cons (se_neg se_int) sa_nil)))))) (sa_cons (se_fz (se_tup (sa_cons se_str (sa_cons (se_lst (sa_cons se_int sa_nil)) (sa_cons (se_lst (sa_cons se_int sa_nil)) sa_nil))))) (sa_cons (se_fz (se_tup (sa_cons se_str (sa_cons (se_lst (sa_cons (se_sub se_int (se_pow se_int se_int)) sa_nil)) (sa_cons (se_lst (sa_cons (se_sub (se_pow se_int se_int) se_int) sa_nil)) sa_nil))))) sa_nil))))))
    (sss_cons (ss_expr (se_meth PySem.F.slot_list_append PySem.F.type_list_append mt_append opi_app (sl_var 0 (pv 0)) (sa_cons (se_fz (se_tup (sa_cons se_str (sa_cons (se_mul (se_lst (sa_cons (se_sub se_int (se_pow se_int se_int)) sa_nil)) se_int) (sa_cons (se_mul (se_lst (sa_cons (se_sub se_int (se_pow se_int se_int)) sa_nil)) se_int) sa_nil))))) sa_nil) (.inl rfl)))
    (sss_one (ss_ret (se_add (se_var 0 (pv 0)) (se_lst (sa_cons (se_fz (se_tup (sa_cons se_str (sa_cons (se_mul (se_lst (sa_cons se_int sa_nil)) se_int) sa_nil)))) (sa_cons (se_fz (se_tup (sa_cons se_str (sa_cons (se_lst (sa_cons (se_neg se_int) sa_nil)) sa_nil)))) (sa_cons (se_fz (se_tup (sa_cons se_str (sa_cons (se_lst (sa_cons se_int (sa_cons se_int sa_nil))) (sa_cons se_int (sa_cons (se_sub se_int (se_pow se_int se_int)) sa_nil)))))) sa_nil))))))))))
theorem sc_law : FnScope ["_law_script", "_law_at", "_law_saying_here"] ["_law_script"] (defScope s_law) := ⟨rfl, rfl, rfl, by decide +kernel, rfl, by decide +kernel, by decide +kernel⟩
theorem ok_law (V : Facts w K mg) {f : Addr} {fd : FuncData} (F : Fun K "law" "law" s_law f fd) : FnOk P w K mg base (L2.CX P w) 6 f fd ["_law_script"] (spOf ⟨K, mg⟩ 1 (m_law)) := by
  refine fn_ok F sc_law rfl (by decide) (fun cdv A outer s H E hr => ?_)
  have nd := (sc_law).nd
  have tk : Takes (cxOf (L2.CX P w) P w K mg base ["_law_script", "_law_at", "_law_saying_here"] "law" (defScope s_law) f cdv A outer s H E) (fun cls d _ H' => E cls d H') := takes_of rfl rfl rfl rfl
  exact (sss_cons (ss_for (qq := false) (passes_of rfl) rfl (si_rg1 (by rfl) V.b_range (sa_cons se_int sa_nil)) (sg_name nd rfl (.inl rfl) rfl) (sss_one (ss_if (st_not (st_val (se_call0 tk (d__law_kept V) (hr.mono (by decide)) (by rfl) (sw_own (se_fz (se_call0 tk (d__law_saying V) (hr.mono (by decide)) (by rfl) (sw_own (se_call0 tk (d__law_pile V) (hr.mono (by decide)) (by rfl) (sw_own (se_varS 0 (pv 0)) (sw_own (se_varS 1 (pv 1)) sw_nil))) sw_nil))) sw_nil)))) (sss_one (ss_ret se_bl)) sss_nil)))
    (sss_one (ss_ret (se_c (cr_eq hr.units) (se_lcP rfl nd (si_list (se_fz (se_callN (d__law_edges V) (hr.mono (by decide)) (by rfl)))) (blkOk_by (own := [("_law_saying_here", 2)]) (by kernel_rfl)) (fun b => (sg_name nd rfl (.inl rfl) rfl)) (fun b => (sts_one (st_not (st_val (se_call0 takes0 (d__law_kept V) (hr.mono (by decide)) (by rfl) (sw_own (se_varS 2 (pv 2)) sw_nil)))))) (fun b => (se_varS 2 (pv 2)))) (se_lst sa_nil)))))
end
theorem all_mk {P : Program} {w : World} {K : PySem.W.Frag} {h : Heap} {mg : Str → Option Value} {fa : Addr} (X : K.In h) (G : h.Ns mainGlobals mg) (hfa : mg "law" = some (.ref fa))
    {f0 : Addr} {od0 an0 : Option Addr} {sl0 : Array (Option Value)} {oc0 kV0 dc0 pm0 cd0 ct0 : Value} {f1 : Addr} {od1 an1 : Option Addr} {sl1 : Array (Option Value)} {oc1 kV1 dc1 pm1 cd1 ct1 : Value} {f2 : Addr} {od2 an2 : Option Addr} {sl2 : Array (Option Value)} {oc2 kV2 dc2 pm2 cd2 ct2 : Value} {f3 : Addr} {od3 an3 : Option Addr} {sl3 : Array (Option Value)} {oc3 kV3 dc3 pm3 cd3 ct3 : Value} {f4 : Addr} {od4 an4 : Option Addr} {sl4 : Array (Option Value)} {oc4 kV4 dc4 pm4 cd4 ct4 : Value} {f5 : Addr} {od5 an5 : Option Addr} {sl5 : Array (Option Value)} {oc5 kV5 dc5 pm5 cd5 ct5 : Value} {f6 : Addr} {od6 an6 : Option Addr} {sl6 : Array (Option Value)} {oc6 kV6 dc6 pm6 cd6 ct6 : Value} {f7 : Addr} {od7 an7 : Option Addr} {sl7 : Array (Option Value)} {oc7 kV7 dc7 pm7 cd7 ct7 : Value} {f8 : Addr} {od8 an8 : Option Addr} {sl8 : Array (Option Value)} {oc8 kV8 dc8 pm8 cd8 ct8 : Value} {f9 : Addr} {od9 an9 : Option Addr} {sl9 : Array (Option Value)} {oc9 kV9 dc9 pm9 cd9 ct9 : Value} {f10 : Addr} {od10 an10 : Option Addr} {sl10 : Array (Option Value)} {oc10 kV10 dc10 pm10 cd10 ct10 : Value} {f11 : Addr} {od11 an11 : Option Addr} {sl11 : Array (Option Value)} {oc11 kV11 dc11 pm11 cd11 ct11 : Value} {f12 : Addr} {od12 an12 : Option Addr} {sl12 : Array (Option Value)} {oc12 kV12 dc12 pm12 cd12 ct12 : Value} {f13 : Addr} {od13 an13 : Option Addr} {sl13 : Array (Option Value)} {oc13 kV13 dc13 pm13 cd13 ct13 : Value} {f14 : Addr} {od14 an14 : Option Addr} {sl14 : Array (Option Value)} {oc14 kV14 dc14 pm14 cd14 ct14 : Value} {f15 : Addr} {od15 an15 : Option Addr} {sl15 : Array (Option Value)} {oc15 kV15 dc15 pm15 cd15 ct15 : Value} {f16 : Addr} {od16 an16 : Option Addr} {sl16 : Array (Option Value)} {oc16 kV16 dc16 pm16 cd16 ct16 : Value} {f17 : Addr} {od17 an17 : Option Addr} {sl17 : Array (Option Value)} {oc17 kV17 dc17 pm17 cd17 ct17 : Value} {f18 : Addr} {od18 an18 : Option Addr} {sl18 : Array (Option Value)} {oc18 kV18 dc18 pm18 cd18 ct18 : Value} {f19 : Addr} {od19 an19 : Option Addr} {sl19 : Array (Option Value)} {oc19 kV19 dc19 pm19 cd19 ct19 : Value} {f20 : Addr} {od20 an20 : Option Addr} {sl20 : Array (Option Value)} {oc20 kV20 dc20 pm20 cd20 ct20 : Value} {C0 : Addr} {tk0 : Tok} {tk1 : Tok} {tk2 : Tok}
    (a0 : PySem.W.nsIn K mainGlobals "_law_numbers_text" = some (some (.ref f0)))
    (l0 : K.lookup f0 = some ⟨oc0, od0, .func (PySem.W.fnOf "_law_numbers_text" "_law_numbers_text" (defArgs s__law_numbers_text) (defBody s__law_numbers_text) (defScope s__law_numbers_text) .none kV0 dc0 pm0 an0 cd0 ct0), sl0⟩)
    (c0 : PySem.W.codeIn K cd0 "_law_numbers_text" = true) (k0 : PySem.W.keepIn K (.ref f0) = true)
    (a1 : PySem.W.nsIn K mainGlobals "_law_saying_text" = some (some (.ref f1)))
    (l1 : K.lookup f1 = some ⟨oc1, od1, .func (PySem.W.fnOf "_law_saying_text" "_law_saying_text" (defArgs s__law_saying_text) (defBody s__law_saying_text) (defScope s__law_saying_text) .none kV1 dc1 pm1 an1 cd1 ct1), sl1⟩)
    (c1 : PySem.W.codeIn K cd1 "_law_saying_text" = true) (k1 : PySem.W.keepIn K (.ref f1) = true)
    (a2 : PySem.W.nsIn K mainGlobals "show_numbers" = some (some (.ref f2)))
    (l2 : K.lookup f2 = some ⟨oc2, od2, .func (PySem.W.fnOf "show_numbers" "show_numbers" (defArgs s_show_numbers) (defBody s_show_numbers) (defScope s_show_numbers) .none kV2 dc2 pm2 an2 cd2 ct2), sl2⟩)
    (c2 : PySem.W.codeIn K cd2 "show_numbers" = true) (k2 : PySem.W.keepIn K (.ref f2) = true)
    (a3 : PySem.W.nsIn K mainGlobals "show_saying" = some (some (.ref f3)))
    (l3 : K.lookup f3 = some ⟨oc3, od3, .func (PySem.W.fnOf "show_saying" "show_saying" (defArgs s_show_saying) (defBody s_show_saying) (defScope s_show_saying) .none kV3 dc3 pm3 an3 cd3 ct3), sl3⟩)
    (c3 : PySem.W.codeIn K cd3 "show_saying" = true) (k3 : PySem.W.keepIn K (.ref f3) = true)
    (a4 : PySem.W.nsIn K mainGlobals "halves" = some (some (.ref f4)))
    (l4 : K.lookup f4 = some ⟨oc4, od4, .func (PySem.W.fnOf "halves" "halves" (defArgs s_halves) (defBody s_halves) (defScope s_halves) .none kV4 dc4 pm4 an4 cd4 ct4), sl4⟩)
    (c4 : PySem.W.codeIn K cd4 "halves" = true) (k4 : PySem.W.keepIn K (.ref f4) = true)
    (a5 : PySem.W.nsIn K mainGlobals "number_in" = some (some (.ref f5)))
    (l5 : K.lookup f5 = some ⟨oc5, od5, .func (PySem.W.fnOf "number_in" "number_in" (defArgs s_number_in) (defBody s_number_in) (defScope s_number_in) .none kV5 dc5 pm5 an5 cd5 ct5), sl5⟩)
    (c5 : PySem.W.codeIn K cd5 "number_in" = true) (k5 : PySem.W.keepIn K (.ref f5) = true)
    (a6 : PySem.W.nsIn K mainGlobals "numbers_in" = some (some (.ref f6)))
    (l6 : K.lookup f6 = some ⟨oc6, od6, .func (PySem.W.fnOf "numbers_in" "numbers_in" (defArgs s_numbers_in) (defBody s_numbers_in) (defScope s_numbers_in) .none kV6 dc6 pm6 an6 cd6 ct6), sl6⟩)
    (c6 : PySem.W.codeIn K cd6 "numbers_in" = true) (k6 : PySem.W.keepIn K (.ref f6) = true)
    (a7 : PySem.W.nsIn K mainGlobals "number_from" = some (some (.ref f7)))
    (l7 : K.lookup f7 = some ⟨oc7, od7, .func (PySem.W.fnOf "number_from" "number_from" (defArgs s_number_from) (defBody s_number_from) (defScope s_number_from) .none kV7 dc7 pm7 an7 cd7 ct7), sl7⟩)
    (c7 : PySem.W.codeIn K cd7 "number_from" = true) (k7 : PySem.W.keepIn K (.ref f7) = true)
    (a8 : PySem.W.nsIn K mainGlobals "saying_in" = some (some (.ref f8)))
    (l8 : K.lookup f8 = some ⟨oc8, od8, .func (PySem.W.fnOf "saying_in" "saying_in" (defArgs s_saying_in) (defBody s_saying_in) (defScope s_saying_in) .none kV8 dc8 pm8 an8 cd8 ct8), sl8⟩)
    (c8 : PySem.W.codeIn K cd8 "saying_in" = true) (k8 : PySem.W.keepIn K (.ref f8) = true)
    (a9 : PySem.W.nsIn K mainGlobals "read_saying" = some (some (.ref f9)))
    (l9 : K.lookup f9 = some ⟨oc9, od9, .func (PySem.W.fnOf "read_saying" "read_saying" (defArgs s_read_saying) (defBody s_read_saying) (defScope s_read_saying) .none kV9 dc9 pm9 an9 cd9 ct9), sl9⟩)
    (c9 : PySem.W.codeIn K cd9 "read_saying" = true) (k9 : PySem.W.keepIn K (.ref f9) = true)
    (a10 : PySem.W.nsIn K mainGlobals "_law_whole" = some (some (.ref f10)))
    (l10 : K.lookup f10 = some ⟨oc10, od10, .func (PySem.W.fnOf "_law_whole" "_law_whole" (defArgs s__law_whole) (defBody s__law_whole) (defScope s__law_whole) .none kV10 dc10 pm10 an10 cd10 ct10), sl10⟩)
    (c10 : PySem.W.codeIn K cd10 "_law_whole" = true) (k10 : PySem.W.keepIn K (.ref f10) = true)
    (a11 : PySem.W.nsIn K mainGlobals "_law_are_dues" = some (some (.ref f11)))
    (l11 : K.lookup f11 = some ⟨oc11, od11, .func (PySem.W.fnOf "_law_are_dues" "_law_are_dues" (defArgs s__law_are_dues) (defBody s__law_are_dues) (defScope s__law_are_dues) .none kV11 dc11 pm11 an11 cd11 ct11), sl11⟩)
    (c11 : PySem.W.codeIn K cd11 "_law_are_dues" = true) (k11 : PySem.W.keepIn K (.ref f11) = true)
    (a12 : PySem.W.nsIn K mainGlobals "_law_kept" = some (some (.ref f12)))
    (l12 : K.lookup f12 = some ⟨oc12, od12, .func (PySem.W.fnOf "_law_kept" "_law_kept" (defArgs s__law_kept) (defBody s__law_kept) (defScope s__law_kept) .none kV12 dc12 pm12 an12 cd12 ct12), sl12⟩)
    (c12 : PySem.W.codeIn K cd12 "_law_kept" = true) (k12 : PySem.W.keepIn K (.ref f12) = true)
    (a13 : PySem.W.nsIn K mainGlobals "_law_mixed" = some (some (.ref f13)))
    (l13 : K.lookup f13 = some ⟨oc13, od13, .func (PySem.W.fnOf "_law_mixed" "_law_mixed" (defArgs s__law_mixed) (defBody s__law_mixed) (defScope s__law_mixed) .none kV13 dc13 pm13 an13 cd13 ct13), sl13⟩)
    (c13 : PySem.W.codeIn K cd13 "_law_mixed" = true) (k13 : PySem.W.keepIn K (.ref f13) = true)
    (a14 : PySem.W.nsIn K mainGlobals "_law_take" = some (some (.ref f14)))
    (l14 : K.lookup f14 = some ⟨oc14, od14, .func (PySem.W.fnOf "_law_take" "_law_take" (defArgs s__law_take) (defBody s__law_take) (defScope s__law_take) .none kV14 dc14 pm14 an14 cd14 ct14), sl14⟩)
    (c14 : PySem.W.codeIn K cd14 "_law_take" = true) (k14 : PySem.W.keepIn K (.ref f14) = true)
    (a15 : PySem.W.nsIn K mainGlobals "_law_great" = some (some (.ref f15)))
    (l15 : K.lookup f15 = some ⟨oc15, od15, .func (PySem.W.fnOf "_law_great" "_law_great" (defArgs s__law_great) (defBody s__law_great) (defScope s__law_great) .none kV15 dc15 pm15 an15 cd15 ct15), sl15⟩)
    (c15 : PySem.W.codeIn K cd15 "_law_great" = true) (k15 : PySem.W.keepIn K (.ref f15) = true)
    (a16 : PySem.W.nsIn K mainGlobals "_law_signed" = some (some (.ref f16)))
    (l16 : K.lookup f16 = some ⟨oc16, od16, .func (PySem.W.fnOf "_law_signed" "_law_signed" (defArgs s__law_signed) (defBody s__law_signed) (defScope s__law_signed) .none kV16 dc16 pm16 an16 cd16 ct16), sl16⟩)
    (c16 : PySem.W.codeIn K cd16 "_law_signed" = true) (k16 : PySem.W.keepIn K (.ref f16) = true)
    (a17 : PySem.W.nsIn K mainGlobals "_law_saying" = some (some (.ref f17)))
    (l17 : K.lookup f17 = some ⟨oc17, od17, .func (PySem.W.fnOf "_law_saying" "_law_saying" (defArgs s__law_saying) (defBody s__law_saying) (defScope s__law_saying) .none kV17 dc17 pm17 an17 cd17 ct17), sl17⟩)
    (c17 : PySem.W.codeIn K cd17 "_law_saying" = true) (k17 : PySem.W.keepIn K (.ref f17) = true)
    (a18 : PySem.W.nsIn K mainGlobals "_law_pile" = some (some (.ref f18)))
    (l18 : K.lookup f18 = some ⟨oc18, od18, .func (PySem.W.fnOf "_law_pile" "_law_pile" (defArgs s__law_pile) (defBody s__law_pile) (defScope s__law_pile) .none kV18 dc18 pm18 an18 cd18 ct18), sl18⟩)
    (c18 : PySem.W.codeIn K cd18 "_law_pile" = true) (k18 : PySem.W.keepIn K (.ref f18) = true)
    (a19 : PySem.W.nsIn K mainGlobals "_law_edges" = some (some (.ref f19)))
    (l19 : K.lookup f19 = some ⟨oc19, od19, .func (PySem.W.fnOf "_law_edges" "_law_edges" (defArgs s__law_edges) (defBody s__law_edges) (defScope s__law_edges) .none kV19 dc19 pm19 an19 cd19 ct19), sl19⟩)
    (c19 : PySem.W.codeIn K cd19 "_law_edges" = true) (k19 : PySem.W.keepIn K (.ref f19) = true)
    (a20 : PySem.W.nsIn K mainGlobals "law" = some (some (.ref f20)))
    (l20 : K.lookup f20 = some ⟨oc20, od20, .func (PySem.W.fnOf "law" "law" (defArgs s_law) (defBody s_law) (defScope s_law) .none kV20 dc20 pm20 an20 cd20 ct20), sl20⟩)
    (c20 : PySem.W.codeIn K cd20 "law" = true) (k20 : PySem.W.keepIn K (.ref f20) = true)
    (z0 : PySem.W.nsIn K mainGlobals "abs" = some none)
    (z1 : PySem.W.nsIn K mainGlobals "bool" = some none)
    (z2 : PySem.W.nsIn K mainGlobals "int" = some none)
    (z3 : PySem.W.nsIn K mainGlobals "isinstance" = some none)
    (z4 : PySem.W.nsIn K mainGlobals "len" = some none)
    (z5 : PySem.W.nsIn K mainGlobals "list" = some none)
    (z6 : PySem.W.nsIn K mainGlobals "range" = some none)
    (z7 : PySem.W.nsIn K mainGlobals "str" = some none)
    (z8 : PySem.W.nsIn K mainGlobals "tuple" = some none)
    (ea0 : PySem.W.nsIn K mainGlobals "NoText" = some (some (.ref C0)))
    (eb0 : PySem.W.excIn K C0 [.type "ValueError", .type "Exception", .type "BaseException", .type "object"] "ValueError.__new__" = true)
    (ec0 : PySem.W.keepIn K (.ref C0) = true) (ed0 : PySem.W.subIn K (.ref C0) (.type "BaseException") = some true) (ee0 : PySem.W.typeIn K (.ref C0) = some (.type "type"))
    (n0 : PySem.W.nsIn K mainGlobals "FIGURES" = some (some (.str "0123456789" tk0)))
    (n1 : PySem.W.nsIn K mainGlobals "MOST_FIGURES" = some (some (.int 40 tk1)))
    (n2 : PySem.W.nsIn K mainGlobals "MOST_NUMBERS" = some (some (.int 6 tk2))) :
    ∃ fd : FuncData, (∀ (s : Shared) (v : Value), BindsTo s fd ⟨[v], []⟩ [("_law_script", v)]) ∧ ∀ base : Heap, K.In base → base.Ns mainGlobals mg → FnOk P w K mg base (L2.CX P w) 6 fa fd ["_law_script"] (spL K (fun _ => m_law)) := by
  have e := hfa.symm.trans (PySem.W.mg_of X G a20)
  cases e
  have F0 := fun_mk (st := s__law_numbers_text) l0 c0 k0
  have F1 := fun_mk (st := s__law_saying_text) l1 c1 k1
  have F2 := fun_mk (st := s_show_numbers) l2 c2 k2
  have F3 := fun_mk (st := s_show_saying) l3 c3 k3
  have F4 := fun_mk (st := s_halves) l4 c4 k4
  have F5 := fun_mk (st := s_number_in) l5 c5 k5
  have F6 := fun_mk (st := s_numbers_in) l6 c6 k6
  have F7 := fun_mk (st := s_number_from) l7 c7 k7
  have F8 := fun_mk (st := s_saying_in) l8 c8 k8
  have F9 := fun_mk (st := s_read_saying) l9 c9 k9
  have F10 := fun_mk (st := s__law_whole) l10 c10 k10
  have F11 := fun_mk (st := s__law_are_dues) l11 c11 k11
  have F12 := fun_mk (st := s__law_kept) l12 c12 k12
  have F13 := fun_mk (st := s__law_mixed) l13 c13 k13
  have F14 := fun_mk (st := s__law_take) l14 c14 k14
  have F15 := fun_mk (st := s__law_great) l15 c15 k15
  have F16 := fun_mk (st := s__law_signed) l16 c16 k16
  have F17 := fun_mk (st := s__law_saying) l17 c17 k17
  have F18 := fun_mk (st := s__law_pile) l18 c18 k18
  have F19 := fun_mk (st := s__law_edges) l19 c19 k19
  have F20 := fun_mk (st := s_law) l20 c20 k20
  have V : Facts w K mg := ⟨⟨_, _, F0, PySem.W.mg_of X G a0⟩, ⟨_, _, F1, PySem.W.mg_of X G a1⟩, ⟨_, _, F2, PySem.W.mg_of X G a2⟩, ⟨_, _, F3, PySem.W.mg_of X G a3⟩, ⟨_, _, F4, PySem.W.mg_of X G a4⟩, ⟨_, _, F5, PySem.W.mg_of X G a5⟩, ⟨_, _, F6, PySem.W.mg_of X G a6⟩, ⟨_, _, F7, PySem.W.mg_of X G a7⟩, ⟨_, _, F8, PySem.W.mg_of X G a8⟩, ⟨_, _, F9, PySem.W.mg_of X G a9⟩, ⟨_, _, F10, PySem.W.mg_of X G a10⟩, ⟨_, _, F11, PySem.W.mg_of X G a11⟩, ⟨_, _, F12, PySem.W.mg_of X G a12⟩, ⟨_, _, F13, PySem.W.mg_of X G a13⟩, ⟨_, _, F14, PySem.W.mg_of X G a14⟩, ⟨_, _, F15, PySem.W.mg_of X G a15⟩, ⟨_, _, F16, PySem.W.mg_of X G a16⟩, ⟨_, _, F17, PySem.W.mg_of X G a17⟩, ⟨_, _, F18, PySem.W.mg_of X G a18⟩, ⟨_, _, F19, PySem.W.mg_of X G a19⟩, ⟨_, _, F20, PySem.W.mg_of X G a20⟩, PySem.W.mg_none_of X G z0, PySem.W.mg_none_of X G z1, PySem.W.mg_none_of X G z2, PySem.W.mg_none_of X G z3, PySem.W.mg_none_of X G z4, PySem.W.mg_none_of X G z5, PySem.W.mg_none_of X G z6, PySem.W.mg_none_of X G z7, PySem.W.mg_none_of X G z8, exc_mk (PySem.W.mg_of X G ea0) eb0 ec0 ed0 ee0, ⟨_, PySem.W.mg_of X G n0, ⟨_, rfl⟩⟩, ⟨_, PySem.W.mg_of X G n1, ⟨_, rfl⟩⟩, ⟨_, PySem.W.mg_of X G n2, ⟨_, rfl⟩⟩⟩
  exact ⟨_, fun s v => .of_eq rfl, fun base _ _ => FnOk.law fun fu => ok_law V F20⟩
end LW
open PySem PySem.W PyProof.Rows
set_option maxHeartbeats 0 in
theorem PySem.Challenge.cw_standloss_k62_sayings_as_texts_holds : PySem.Challenge.rw_standloss_k62_sayings_as_texts.Holds := by
  w_on; o_law; k_head; (case hw => w_witness2)
  k_fill
  refine L2.walk_of (l := PySem.Challenge.rw_standloss_k62_sayings_as_texts) (n := 63) (k := 6) (x := "_law_script") (CX := fun w => L2.CX PySem.Challenge.pw_standloss_k62_sayings_as_texts w) (sp := fun w => AM.spL _ (fun _ => LW.m_law)) rfl (by decide) rfl ⟨rfl, by decide, by decide⟩ (fun w h Y => PySem.W.kIn_of Y) ?F (fun _ _ a ns hl _ hS => AM.spL_mk hS (LW.law_ok ns hl)) (fun _ _ _ _ _ h => AM.noCX h)
  case F =>
    intro w mg fa h KX G hmg
    refine' LW.all_mk KX G hmg ?a0 ?l0 ?c0 ?k0 ?a1 ?l1 ?c1 ?k1 ?a2 ?l2 ?c2 ?k2 ?a3 ?l3 ?c3 ?k3 ?a4 ?l4 ?c4 ?k4 ?a5 ?l5 ?c5 ?k5 ?a6 ?l6 ?c6 ?k6 ?a7 ?l7 ?c7 ?k7 ?a8 ?l8 ?c8 ?k8 ?a9 ?l9 ?c9 ?k9 ?a10 ?l10 ?c10 ?k10 ?a11 ?l11 ?c11 ?k11 ?a12 ?l12 ?c12 ?k12 ?a13 ?l13 ?c13 ?k13 ?a14 ?l14 ?c14 ?k14 ?a15 ?l15 ?c15 ?k15 ?a16 ?l16 ?c16 ?k16 ?a17 ?l17 ?c17 ?k17 ?a18 ?l18 ?c18 ?k18 ?a19 ?l19 ?c19 ?k19 ?a20 ?l20 ?c20 ?k20 ?z0 ?z1 ?z2 ?z3 ?z4 ?z5 ?z6 ?z7 ?z8 ?ea0 ?eb0 ?ec0 ?ed0 ?ee0 ?n0 ?n1 ?n2
    (case a0 => k_is)
    (case l0 => k_is)
    (case c0 => k_is)
    (case k0 => k_is)
    (case a1 => k_is)
    (case l1 => k_is)
    (case c1 => k_is)
    (case k1 => k_is)
    (case a2 => k_is)
    (case l2 => k_is)
    (case c2 => k_is)
    (case k2 => k_is)
    (case a3 => k_is)
    (case l3 => k_is)
    (case c3 => k_is)
    (case k3 => k_is)
    (case a4 => k_is)
    (case l4 => k_is)
    (case c4 => k_is)
    (case k4 => k_is)
    (case a5 => k_is)
    (case l5 => k_is)
    (case c5 => k_is)
    (case k5 => k_is)
    (case a6 => k_is)
    (case l6 => k_is)
    (case c6 => k_is)
    (case k6 => k_is)
    (case a7 => k_is)
    (case l7 => k_is)
    (case c7 => k_is)
    (case k7 => k_is)
    (case a8 => k_is)
    (case l8 => k_is)
    (case c8 => k_is)
    (case k8 => k_is)
    (case a9 => k_is)
    (case l9 => k_is)
    (case c9 => k_is)
    (case k9 => k_is)
    (case a10 => k_is)
    (case l10 => k_is)
    (case c10 => k_is)
    (case k10 => k_is)
    (case a11 => k_is)
    (case l11 => k_is)
    (case c11 => k_is)
    (case k11 => k_is)
    (case a12 => k_is)
    (case l12 => k_is)
    (case c12 => k_is)
    (case k12 => k_is)
    (case a13 => k_is)
    (case l13 => k_is)
    (case c13 => k_is)
    (case k13 => k_is)
    (case a14 => k_is)
    (case l14 => k_is)
    (case c14 => k_is)
    (case k14 => k_is)
    (case a15 => k_is)
    (case l15 => k_is)
    (case c15 => k_is)
    (case k15 => k_is)
    (case a16 => k_is)
    (case l16 => k_is)
    (case c16 => k_is)
    (case k16 => k_is)
    (case a17 => k_is)
    (case l17 => k_is)
    (case c17 => k_is)
    (case k17 => k_is)
    (case a18 => k_is)
    (case l18 => k_is)
    (case c18 => k_is)
    (case k18 => k_is)
    (case a19 => k_is)
    (case l19 => k_is)
    (case c19 => k_is)
    (case k19 => k_is)
    (case a20 => k_is)
    (case l20 => k_is)
    (case c20 => k_is)
    (case k20 => k_is)
    (case z0 => k_is)
    (case z1 => k_is)
    (case z2 => k_is)
    (case z3 => k_is)
    (case z4 => k_is)
    (case z5 => k_is)
    (case z6 => k_is)
    (case z7 => k_is)
    (case z8 => k_is)
    (case ea0 => k_is)
    (case eb0 => k_exc)
    (case ec0 => k_is)
    (case ed0 => k_is)
    (case ee0 => k_is)
    (case n0 => k_is)
    (case n1 => k_is)
    (case n2 => k_is)
