import PyProof.Rows.All
import Wide.All
import OpenK.AllK
import Wide.FinOn
import HandS.ForMost
import HandS.ForExc
import HandS.Walk
import HandS.Wide
import HandS.Deep
import HandS.WideBits
import HandS.TupAny
import HandS.SortInts
import HandS.More
import HandS.Conv
import HandS.ForSpec
import HandS.IsInst
import HandS.Style
import HandS.TupLe
import HandS.Text
import HandS.ExcInit
import HandS.ExcValue
import HandS.ExcField
import KE.KExcIs
import PyProof.ReprRoads
import PyProof.ReprLen
import PyProof.Rows.RegStrFacts
import HandS.Ends
import PyProof.LongRange
import HandS.NoneIn
import HandS.Dict
import KE.KDictDisplayH
import KE.SortData
import KE.DataMinMax
import HandS.TupSets
import KE.GoesZip
import KE.GoesMore
import KE.GoesEnum
import HandS.SetFor
import HandS.Strs
import PyProof.StrOps2
import KE.GoesRaise
import KE.KAsSuite
import HandS.SuiteRaise
import HandS.RaiseFrom
import HandS.ExcInitHot
import HandS.Codes
import PyProof.Rows.StrPartPair
import PyProof.Rows.StrSplitMax
import PySem.Challenge.RW_standloss_k64_papers_as_texts
set_option Elab.async false
set_option linter.all false
set_option maxRecDepth 100000
namespace AM
open PySem L2
inductive D where
  | non | bl (b : Bool) | int (i : Int) | str (s : Str) | lst (ds : List D) | tup (ds : List D) | exc (c : Str) (ds : List D) | scr (ns : List Int) | obj (c : Str) (fs : List Str) (ds : List D) | fn (c : Str) | adr (a : Addr) | la (a : Addr) (ds : List D) | any
inductive W where
  | sh (d : D) | ol (ws : List W) | ot (ws : List W) | ob (c : Str) (fs : List Str) (ws : List W) | dk (ks : List Key) (ws : List W) | dt (ks : List (List Key)) (ws : List W)
structure GX where
  K : PySem.W.Frag
  mg : Str → Option Value
def exv (a C : Addr) (d : Option Addr) : HO := .ext fun h => ∃ (oe : Obj) (vs : Array Value), h.get? a = some oe ∧ oe.cls = .ref C ∧ oe.dict = d ∧ oe.data = .fields vs
section
variable (G : GX) (B H : Hp)
mutual
def repD : D → V → Prop
  | .non, v => v = .non
  | .bl b, v => v = .bl b
  | .int i, v => v = .int i
  | .str s, v => v = .str s
  | .lst ds, v => ∃ a vs, v = .ref a ∧ B a = some (.lst vs) ∧ repDs ds vs
  | .scr ns, v => ∃ a, v = .ref a ∧ SqL G.K B a (ns.map V.int)
  | .fn c, v => ∃ f, v = .ref f ∧ G.mg c = some (.ref f) ∧ PySem.W.keepIn G.K (.ref f) = true
  | .adr a, v => v = .ref a
  | .any, v => v ≠ .non
  | .la a ds, v => ∃ vs, v = .ref a ∧ B a = some (.lst vs) ∧ repDs ds vs
  | .tup ds, v => ∃ a vs, v = .ref a ∧ SqT G.K B a vs ∧ repDs ds vs
  | .exc c ds, v => ∃ a C d, v = .ref a ∧ G.mg c = some (.ref C) ∧ B a = some (exv a C d) ∧
      ((d = none ∧ ds = []) ∨ ∃ dd x, d = some dd ∧ B dd = some (.xd [(("place" : Str), x)]) ∧ repDs ds [x])
  | .obj c fs ds, v => ∃ p dx C vs, v = .ref p ∧ G.mg c = some (.ref C) ∧ B p = some (.ins C dx (fs.zip vs)) ∧ B dx = some (.own p) ∧ fs.length = vs.length ∧ repDs ds vs
def repDs : List D → List V → Prop
  | [], vs => vs = []
  | d :: ds, vs => ∃ v r, vs = v :: r ∧ repD d v ∧ repDs ds r
end
mutual
def relW : W → V → List Addr → Prop
  | .sh d, v, f => repD G B d v ∧ f = []
  | .ol ws, v, f => ∃ p vs g, v = .ref p ∧ H p = some (.lst vs) ∧ relWs ws vs g ∧ f = p :: g
  | .ot ws, v, f => ∃ p vs, v = .ref p ∧ B p = some (.tup vs) ∧ relWs ws vs f
  | .ob c fs ws, v, f => ∃ p dx C vs g, v = .ref p ∧ G.mg c = some (.ref C) ∧ H p = some (.ins C dx (fs.zip vs)) ∧ H dx = some (.own p) ∧ fs.length = vs.length ∧ relWs ws vs g ∧ f = p :: dx :: g
  | .dk ks ws, v, f => ∃ p vs g, v = .ref p ∧ H p = some (.dK (ks.zip vs)) ∧ ks.length = vs.length ∧ relWs ws vs g ∧ f = p :: g
  | .dt ks ws, v, f => ∃ p vs g, v = .ref p ∧ H p = some (.dT (ks.zip vs)) ∧ ks.length = vs.length ∧ relWs ws vs g ∧ f = p :: g
def relWs : List W → List V → List Addr → Prop
  | [], vs, f => vs = [] ∧ f = []
  | w :: ws, vs, f => ∃ v r g1 g2, vs = v :: r ∧ relW w v g1 ∧ relWs ws r g2 ∧ f = g1 ++ g2
end
end
mutual
def W.toD : W → Option D
  | .sh d => some d
  | .ol ws => (W.toDs ws).map D.lst
  | .ot ws => (W.toDs ws).map D.tup
  | .ob c fs ws => (W.toDs ws).map (D.obj c fs)
  | .dk _ _ => none
  | .dt _ _ => none
def W.toDs : List W → Option (List D)
  | [] => some []
  | w :: ws => match W.toD w, W.toDs ws with
    | some d, some ds => some (d :: ds)
    | _, _ => none
end
section
variable {G : GX} {B H B' H' : Hp}
theorem sqT_of_same {K : PySem.W.Frag} {a : Addr} {xs : List V} (e : Same B B') (h : SqT K B a xs) : SqT K B' a xs := by
  rcases h with (h | ⟨o, h⟩) | h
  · exact .inl (.inl (e _ _ h))
  · exact .inl (.inr ⟨o, e _ _ h⟩)
  · exact .inr h
mutual
theorem repD_mono (e : Same B B') : ∀ {d : D} {v : V}, repD G B d v → repD G B' d v
  | .non, _, h => by simpa [repD] using h
  | .bl _, _, h => by simpa [repD] using h
  | .int _, _, h => by simpa [repD] using h
  | .str _, _, h => by simpa [repD] using h
  | .lst ds, v, h => by
    simp only [repD] at h ⊢
    obtain ⟨a, vs, h1, h2, h3⟩ := h
    exact ⟨a, vs, h1, e _ _ h2, repDs_mono e h3⟩
  | .scr ns, v, h => by
    simp only [repD] at h ⊢
    obtain ⟨a, h1, h2⟩ := h
    exact ⟨a, h1, Same.seq e h2⟩
  | .fn c, v, h => by
    simp only [repD] at h ⊢
    exact h
  | .adr _, _, h => by simpa [repD] using h
  | .any, _, h => by simpa [repD] using h
  | .la a ds, v, h => by
    simp only [repD] at h ⊢
    obtain ⟨vs, h1, h2, h3⟩ := h
    exact ⟨vs, h1, e _ _ h2, repDs_mono e h3⟩
  | .tup ds, v, h => by
    simp only [repD] at h ⊢
    obtain ⟨a, vs, h1, h2, h3⟩ := h
    exact ⟨a, vs, h1, sqT_of_same e h2, repDs_mono e h3⟩
  | .exc c ds, v, h => by
    simp only [repD] at h ⊢
    obtain ⟨a, C, d, h1, h2, h3, h4⟩ := h
    refine ⟨a, C, d, h1, h2, e _ _ h3, ?_⟩
    rcases h4 with h4 | ⟨dd, x, h5, h6, h7⟩
    · exact .inl h4
    · exact .inr ⟨dd, x, h5, e _ _ h6, repDs_mono e h7⟩
  | .obj c fs ds, v, h => by
    simp only [repD] at h ⊢
    obtain ⟨p, dx, C, vs, h1, h2, h3, h4, h5, h6⟩ := h
    exact ⟨p, dx, C, vs, h1, h2, e _ _ h3, e _ _ h4, h5, repDs_mono e h6⟩
theorem repDs_mono (e : Same B B') : ∀ {ds : List D} {vs : List V}, repDs G B ds vs → repDs G B' ds vs
  | [], _, h => by simpa [repDs] using h
  | d :: ds, vs, h => by
    simp only [repDs] at h ⊢
    obtain ⟨v, r, h1, h2, h3⟩ := h
    exact ⟨v, r, h1, repD_mono e h2, repDs_mono e h3⟩
end
mutual
theorem relW_frame (e : Same B B') : ∀ {w : W} {v : V} {f : List Addr}, relW G B H w v f → (∀ q ∈ f, H' q = H q) → relW G B' H' w v f
  | .sh d, v, f, h, _ => by
    simp only [relW] at h ⊢
    exact ⟨repD_mono e h.1, h.2⟩
  | .ol ws, v, f, h, k => by
    simp only [relW] at h ⊢
    obtain ⟨p, vs, g, h1, h2, h3, rfl⟩ := h
    exact ⟨p, vs, g, h1, (k p (by simp)).trans h2, relWs_frame e h3 (fun q hq => k q (by simp [hq])), rfl⟩
  | .ot ws, v, f, h, k => by
    simp only [relW] at h ⊢
    obtain ⟨p, vs, h1, h2, h3⟩ := h
    exact ⟨p, vs, h1, e _ _ h2, relWs_frame e h3 k⟩
  | .ob c fs ws, v, f, h, k => by
    simp only [relW] at h ⊢
    obtain ⟨p, dx, C, vs, g, h1, h2, h3, h4, h5, h6, rfl⟩ := h
    exact ⟨p, dx, C, vs, g, h1, h2, (k p (by simp)).trans h3, (k dx (by simp)).trans h4, h5, relWs_frame e h6 (fun q hq => k q (by simp [hq])), rfl⟩
  | .dk ks ws, v, f, h, k => by
    simp only [relW] at h ⊢
    obtain ⟨p, vs, g, h1, h2, h3, h4, rfl⟩ := h
    exact ⟨p, vs, g, h1, (k p (by simp)).trans h2, h3, relWs_frame e h4 (fun q hq => k q (by simp [hq])), rfl⟩
  | .dt ks ws, v, f, h, k => by
    simp only [relW] at h ⊢
    obtain ⟨p, vs, g, h1, h2, h3, h4, rfl⟩ := h
    exact ⟨p, vs, g, h1, (k p (by simp)).trans h2, h3, relWs_frame e h4 (fun q hq => k q (by simp [hq])), rfl⟩
theorem relWs_frame (e : Same B B') : ∀ {ws : List W} {vs : List V} {f : List Addr}, relWs G B H ws vs f → (∀ q ∈ f, H' q = H q) → relWs G B' H' ws vs f
  | [], _, _, h, _ => by simpa [relWs] using h
  | w :: ws, vs, f, h, k => by
    simp only [relWs] at h ⊢
    obtain ⟨v, r, g1, g2, h1, h2, h3, rfl⟩ := h
    exact ⟨v, r, g1, g2, h1, relW_frame e h2 (fun q hq => k q (by simp [hq])), relWs_frame e h3 (fun q hq => k q (by simp [hq])), rfl⟩
end
mutual
theorem relW_live : ∀ {w : W} {v : V} {f : List Addr}, relW G B H w v f → ∀ q ∈ f, H q ≠ none
  | .sh d, v, f, h, q, hq => by
    simp only [relW] at h
    rw [h.2] at hq
    simp at hq
  | .ol ws, v, f, h, q, hq => by
    simp only [relW] at h
    obtain ⟨p, vs, g, h1, h2, h3, rfl⟩ := h
    rcases List.mem_cons.mp hq with rfl | hq
    · simp [h2]
    · exact relWs_live h3 q hq
  | .ot ws, v, f, h, q, hq => by
    simp only [relW] at h
    obtain ⟨p, vs, h1, h2, h3⟩ := h
    exact relWs_live h3 q hq
  | .ob c fs ws, v, f, h, q, hq => by
    simp only [relW] at h
    obtain ⟨p, dx, C, vs, g, h1, h2, h3, h4, h5, h6, rfl⟩ := h
    rcases List.mem_cons.mp hq with rfl | hq
    · simp [h3]
    · rcases List.mem_cons.mp hq with rfl | hq
      · simp [h4]
      · exact relWs_live h6 q hq
  | .dk ks ws, v, f, h, q, hq => by
    simp only [relW] at h
    obtain ⟨p, vs, g, h1, h2, h3, h4, rfl⟩ := h
    rcases List.mem_cons.mp hq with rfl | hq
    · simp [h2]
    · exact relWs_live h4 q hq
  | .dt ks ws, v, f, h, q, hq => by
    simp only [relW] at h
    obtain ⟨p, vs, g, h1, h2, h3, h4, rfl⟩ := h
    rcases List.mem_cons.mp hq with rfl | hq
    · simp [h2]
    · exact relWs_live h4 q hq
theorem relWs_live : ∀ {ws : List W} {vs : List V} {f : List Addr}, relWs G B H ws vs f → ∀ q ∈ f, H q ≠ none
  | [], _, _, h, q, hq => by
    simp only [relWs] at h
    rw [h.2] at hq
    simp at hq
  | w :: ws, vs, f, h, q, hq => by
    simp only [relWs] at h
    obtain ⟨v, r, g1, g2, h1, h2, h3, rfl⟩ := h
    rcases List.mem_append.mp hq with hq | hq
    · exact relW_live h2 q hq
    · exact relWs_live h3 q hq
end
mutual
theorem relW_toD (e : Same B B') : ∀ {w : W} {v : V} {f : List Addr} {d : D}, relW G B H w v f → w.toD = some d → (∀ q ∈ f, B' q = H q) → repD G B' d v
  | .sh d0, v, f, d, h, t, k => by
    simp only [relW] at h
    simp only [W.toD, Option.some.injEq] at t
    subst t
    exact repD_mono e h.1
  | .ol ws, v, f, d, h, t, k => by
    simp only [relW] at h
    obtain ⟨p, vs, g, h1, h2, h3, rfl⟩ := h
    simp only [W.toD, Option.map_eq_some_iff] at t
    obtain ⟨ds, t1, rfl⟩ := t
    simp only [repD]
    exact ⟨p, vs, h1, (k p (by simp)).trans h2, relWs_toD e h3 t1 (fun q hq => k q (by simp [hq]))⟩
  | .ot ws, v, f, d, h, t, k => by
    simp only [relW] at h
    obtain ⟨p, vs, h1, h2, h3⟩ := h
    simp only [W.toD, Option.map_eq_some_iff] at t
    obtain ⟨ds, t1, rfl⟩ := t
    simp only [repD]
    exact ⟨p, vs, h1, SqT.of (e _ _ h2), relWs_toD e h3 t1 k⟩
  | .ob c fs ws, v, f, d, h, t, k => by
    simp only [relW] at h
    obtain ⟨p, dx, C, vs, g, h1, h2, h3, h4, h5, h6, rfl⟩ := h
    simp only [W.toD, Option.map_eq_some_iff] at t
    obtain ⟨ds, t1, rfl⟩ := t
    simp only [repD]
    exact ⟨p, dx, C, vs, h1, h2, (k p (by simp)).trans h3, (k dx (by simp)).trans h4, h5, relWs_toD e h6 t1 (fun q hq => k q (by simp [hq]))⟩
  | .dk _ _, _, _, _, _, t, _ => by simp [W.toD] at t
  | .dt _ _, _, _, _, _, t, _ => by simp [W.toD] at t
theorem relWs_toD (e : Same B B') : ∀ {ws : List W} {vs : List V} {f : List Addr} {ds : List D}, relWs G B H ws vs f → W.toDs ws = some ds → (∀ q ∈ f, B' q = H q) → repDs G B' ds vs
  | [], vs, f, ds, h, t, k => by
    simp only [relWs] at h
    simp only [W.toDs, Option.some.injEq] at t
    subst t
    simp only [repDs]
    exact h.1
  | w :: ws, vs, f, ds, h, t, k => by
    simp only [relWs] at h
    obtain ⟨v, r, g1, g2, h1, h2, h3, rfl⟩ := h
    simp only [W.toDs] at t
    split at t
    · rename_i d ds' e1 e2
      simp only [Option.some.injEq] at t
      subst t
      simp only [repDs]
      exact ⟨v, r, h1, relW_toD e h2 e1 (fun q hq => k q (by simp [hq])), relWs_toD e h3 e2 (fun q hq => k q (by simp [hq]))⟩
    · exact absurd t (by simp)
end
theorem repDs_length : ∀ {ds : List D} {vs : List V}, repDs G B ds vs → ds.length = vs.length
  | [], _, h => by simp only [repDs] at h; simp [h]
  | d :: ds, vs, h => by
    simp only [repDs] at h
    obtain ⟨v, r, rfl, _, h3⟩ := h
    simp [repDs_length h3]
theorem relWs_length : ∀ {ws : List W} {vs : List V} {f : List Addr}, relWs G B H ws vs f → ws.length = vs.length
  | [], _, _, h => by simp only [relWs] at h; simp [h.1]
  | w :: ws, vs, f, h => by
    simp only [relWs] at h
    obtain ⟨v, r, g1, g2, rfl, _, h3, _⟩ := h
    simp [relWs_length h3]
theorem repDs_get : ∀ {ds : List D} {vs : List V} {i : Nat} {d : D}, repDs G B ds vs → ds[i]? = some d → ∃ v, vs[i]? = some v ∧ repD G B d v
  | [], _, i, d, _, e => by simp at e
  | d0 :: ds, vs, 0, d, h, e => by
    simp only [repDs] at h
    obtain ⟨v, r, rfl, h2, h3⟩ := h
    simp at e
    subst e
    exact ⟨v, by simp, h2⟩
  | d0 :: ds, vs, i + 1, d, h, e => by
    simp only [repDs] at h
    obtain ⟨v, r, rfl, h2, h3⟩ := h
    simp at e
    obtain ⟨u, h4, h5⟩ := repDs_get h3 e
    exact ⟨u, by simpa using h4, h5⟩
theorem repDs_append : ∀ {ds es : List D} {vs us : List V}, repDs G B ds vs → repDs G B es us → repDs G B (ds ++ es) (vs ++ us)
  | [], es, vs, us, h, k => by
    simp only [repDs] at h
    subst h
    simpa using k
  | d :: ds, es, vs, us, h, k => by
    simp only [repDs] at h
    obtain ⟨v, r, rfl, h2, h3⟩ := h
    show repDs G B (d :: (ds ++ es)) (v :: (r ++ us))
    simp only [repDs]
    exact ⟨v, r ++ us, rfl, h2, repDs_append h3 k⟩
theorem relWs_append : ∀ {ws xs : List W} {vs us : List V} {f g : List Addr}, relWs G B H ws vs f → relWs G B H xs us g → relWs G B H (ws ++ xs) (vs ++ us) (f ++ g)
  | [], xs, vs, us, f, g, h, k => by
    simp only [relWs] at h
    obtain ⟨rfl, rfl⟩ := h
    simpa using k
  | w :: ws, xs, vs, us, f, g, h, k => by
    simp only [relWs] at h
    obtain ⟨v, r, g1, g2, rfl, h2, h3, rfl⟩ := h
    show relWs G B H (w :: (ws ++ xs)) (v :: (r ++ us)) _
    simp only [relWs]
    exact ⟨v, r ++ us, g1, g2 ++ g, rfl, h2, relWs_append h3 k, by simp⟩
theorem relWs_sh : ∀ {ds : List D} {vs : List V}, repDs G B ds vs → relWs G B H (ds.map W.sh) vs []
  | [], vs, h => by
    simp only [repDs] at h
    simp [relWs, h]
  | d :: ds, vs, h => by
    simp only [repDs] at h
    obtain ⟨v, r, rfl, h2, h3⟩ := h
    show relWs G B H (W.sh d :: ds.map W.sh) _ _
    simp only [relWs]
    exact ⟨v, r, [], [], rfl, by simp only [relW]; exact ⟨h2, trivial⟩, relWs_sh h3, rfl⟩
theorem relWs_split : ∀ {ws : List W} {vs : List V} {f : List Addr} {i : Nat} {w : W}, relWs G B H ws vs f → ws[i]? = some w →
    ∃ w1 w2 v1 v v2 f1 g f2, ws = w1 ++ w :: w2 ∧ vs = v1 ++ v :: v2 ∧ w1.length = i ∧ v1.length = i ∧ f = f1 ++ (g ++ f2) ∧ relWs G B H w1 v1 f1 ∧ relW G B H w v g ∧ relWs G B H w2 v2 f2
  | [], _, _, i, w, _, e => by simp at e
  | w0 :: ws, vs, f, 0, w, h, e => by
    simp only [relWs] at h
    obtain ⟨v, r, g1, g2, rfl, h2, h3, rfl⟩ := h
    simp at e
    subst e
    exact ⟨[], ws, [], v, r, [], g1, g2, rfl, rfl, rfl, rfl, by simp, by simp [relWs], h2, h3⟩
  | w0 :: ws, vs, f, i + 1, w, h, e => by
    simp only [relWs] at h
    obtain ⟨v, r, g1, g2, rfl, h2, h3, rfl⟩ := h
    simp at e
    obtain ⟨w1, w2, v1, u, v2, f1, g, f2, rfl, rfl, h4, h5, rfl, h6, h7, h8⟩ := relWs_split h3 e
    exact ⟨w0 :: w1, w2, v :: v1, u, v2, g1 ++ f1, g, f2, rfl, rfl, by simp [h4], by simp [h5], by simp, by simp only [relWs]; exact ⟨v, v1, g1, f1, rfl, h2, h6, rfl⟩, h7, h8⟩
theorem relWs_join {w1 w2 : List W} {v1 v2 : List V} {w : W} {v : V} {f1 g f2 : List Addr} (h1 : relWs G B H w1 v1 f1) (h : relW G B H w v g) (h2 : relWs G B H w2 v2 f2) : relWs G B H (w1 ++ w :: w2) (v1 ++ v :: v2) (f1 ++ (g ++ f2)) :=
  relWs_append h1 (by simp only [relWs]; exact ⟨v, v2, g, f2, rfl, h, h2, rfl⟩)
end
end AM
namespace AM
open PySem L2
abbrev Env := List (Option W)
structure XV where
  c : Str
  ds : List D
inductive Res (α : Type) where
  | ok (a : α)
  | ex (e : XV)
abbrev ME (α : Type) := Env → Option (Res α × Env)
def ME.bind {α β : Type} (m : ME α) (f : α → ME β) : ME β := fun env => match m env with
  | none => none
  | some (.ok a, e) => f a e
  | some (.ex x, e) => some (.ex x, e)
def ME.pure {α : Type} (a : α) : ME α := fun env => some (.ok a, env)
def ME.stuck {α : Type} : ME α := fun _ => none
def ME.op {α β : Type} (g : α → Option β) (a : α) : ME β := fun env => (g a).map fun b => (.ok b, env)
section
variable (G : GX)
def relS (B H : Hp) (o : Option V) (w : Option W) (f : List Addr) : Prop :=
  match w with
  | none => f = []
  | some w => ∃ v, o = some v ∧ relW G B H w v f
def relE (B H : Hp) : St → Env → List Addr → Prop
  | σ, [], f => σ = [] ∧ f = []
  | σ, w :: e, f => ∃ o τ f1 f2, σ = o :: τ ∧ relS G B H o w f1 ∧ relE B H τ e f2 ∧ f = f1 ++ f2
structure Ok (B H : Hp) (σ : St) (env : Env) (fp : List Addr) : Prop where
  sub : Same B H
  rel : relE G B H σ env fp
  nd : fp.Nodup
  out : ∀ q ∈ fp, B q = none
end
structure Step (B H : Hp) (fp : List Addr) (B' H' : Hp) (S : List Addr) : Prop where
  keep : ∀ a o, H a = some o → a ∉ fp → H' a = some o
  bext : Same B B'
  bold : ∀ a, H a ≠ none → a ∉ fp → B' a = B a
  new : ∀ a ∈ S, a ∈ fp ∨ H a = none
  live : ∀ a, H a ≠ none → H' a ≠ none
section
variable {G : GX} {B H B' H' B1 H1 B2 H2 : Hp} {σ : St} {env : Env} {fp S T : List Addr}
theorem Step.refl (h : ∀ a ∈ S, a ∈ fp) : Step B H fp B H S := ⟨fun _ _ h _ => h, fun _ _ h => h, fun _ _ _ => rfl, fun a ha => .inl (h a ha), fun _ h => h⟩
theorem Step.trans {f1 : List Addr} (a : Step B H fp B1 H1 (S ++ f1)) (b : Step B1 H1 f1 B2 H2 T) : Step B H fp B2 H2 (S ++ T) where
  keep := fun x o h n => b.keep x o (a.keep x o h n) fun z => by
    rcases a.new x (by simp [z]) with z | z
    · exact n z
    · rw [z] at h; cases h
  bext := fun x o h => b.bext x o (a.bext x o h)
  bold := fun x h n => (b.bold x (a.live x h) fun z => by
    rcases a.new x (by simp [z]) with z | z
    · exact n z
    · exact h z).trans (a.bold x h n)
  new := fun x hx => by
    rcases List.mem_append.mp hx with hx | hx
    · exact a.new x (by simp [hx])
    · rcases b.new x hx with z | z
      · exact a.new x (by simp [z])
      · refine .inr ?_
        cases q : H x with
        | none => rfl
        | some o => exact absurd z (a.live x (by simp [q]))
  live := fun x h => b.live x (a.live x h)
theorem Step.mono (a : Step B H fp B' H' S) (h : ∀ x ∈ T, x ∈ S) : Step B H fp B' H' T := ⟨a.keep, a.bext, a.bold, fun x hx => a.new x (h x hx), a.live⟩
theorem Step.drop {f1 : List Addr} (a : Step B H fp B' H' (S ++ f1)) : Step B H fp B' H' ([] ++ f1) := a.mono fun x hx => by
  have : x ∈ f1 := by simpa using hx
  simp [this]
theorem relS_frame {o : Option V} {w : Option W} {f : List Addr} (e : Same B B') (h : relS G B H o w f) (k : ∀ q ∈ f, H' q = H q) : relS G B' H' o w f := by
  cases w with
  | none => exact h
  | some w =>
    obtain ⟨v, h1, h2⟩ := h
    exact ⟨v, h1, relW_frame e h2 k⟩
theorem relE_frame (e : Same B B') : ∀ {env : Env} {σ : St} {f : List Addr}, relE G B H σ env f → (∀ q ∈ f, H' q = H q) → relE G B' H' σ env f
  | [], _, _, h, _ => h
  | w :: env, σ, f, h, k => by
    obtain ⟨o, τ, f1, f2, h1, h2, h3, rfl⟩ := h
    exact ⟨o, τ, f1, f2, h1, relS_frame e h2 (fun q hq => k q (by simp [hq])), relE_frame e h3 (fun q hq => k q (by simp [hq])), rfl⟩
theorem relE_live : ∀ {env : Env} {σ : St} {f : List Addr}, relE G B H σ env f → ∀ q ∈ f, H q ≠ none
  | [], _, _, h, q, hq => by
    rw [h.2] at hq
    simp at hq
  | w :: env, σ, f, h, q, hq => by
    obtain ⟨o, τ, f1, f2, h1, h2, h3, rfl⟩ := h
    rcases List.mem_append.mp hq with hq | hq
    · cases w with
      | none =>
        rw [show f1 = [] from h2] at hq
        simp at hq
      | some w =>
        obtain ⟨v, _, h2⟩ := h2
        exact relW_live h2 q hq
    · exact relE_live h3 q hq
theorem relE_length : ∀ {env : Env} {σ : St} {f : List Addr}, relE G B H σ env f → σ.length = env.length
  | [], _, _, h => by simp [h.1]
  | w :: env, σ, f, h => by
    obtain ⟨o, τ, f1, f2, rfl, h2, h3, rfl⟩ := h
    simp [relE_length h3]
theorem relE_split : ∀ {env : Env} {σ : St} {f : List Addr} {i : Nat} {w : Option W}, relE G B H σ env f → env[i]? = some w →
    ∃ e1 e2 s1 o s2 f1 g f2, env = e1 ++ w :: e2 ∧ σ = s1 ++ o :: s2 ∧ e1.length = i ∧ s1.length = i ∧ f = f1 ++ (g ++ f2) ∧ relE G B H s1 e1 f1 ∧ relS G B H o w g ∧ relE G B H s2 e2 f2
  | [], σ, f, i, w, _, e => by simp at e
  | w0 :: env, σ, f, 0, w, h, e => by
    obtain ⟨o, τ, f1, f2, rfl, h2, h3, rfl⟩ := h
    simp at e
    subst e
    exact ⟨[], env, [], o, τ, [], f1, f2, rfl, rfl, rfl, rfl, by simp, ⟨rfl, rfl⟩, h2, h3⟩
  | w0 :: env, σ, f, i + 1, w, h, e => by
    obtain ⟨o, τ, f1, f2, rfl, h2, h3, rfl⟩ := h
    simp at e
    obtain ⟨e1, e2, s1, u, s2, g1, g, g2, rfl, rfl, h4, h5, rfl, h6, h7, h8⟩ := relE_split h3 e
    exact ⟨w0 :: e1, e2, o :: s1, u, s2, f1 ++ g1, g, g2, rfl, rfl, by simp [h4], by simp [h5], by simp, ⟨o, s1, f1, g1, rfl, h2, h6, rfl⟩, h7, h8⟩
theorem relE_append : ∀ {e1 e2 : Env} {s1 s2 : St} {f1 f2 : List Addr}, relE G B H s1 e1 f1 → relE G B H s2 e2 f2 → relE G B H (s1 ++ s2) (e1 ++ e2) (f1 ++ f2)
  | [], _, _, _, _, _, h, k => by
    obtain ⟨rfl, rfl⟩ := h
    simpa using k
  | w :: e1, e2, s1, s2, f1, f2, h, k => by
    obtain ⟨o, τ, g1, g2, rfl, h2, h3, rfl⟩ := h
    exact ⟨o, τ ++ s2, g1, g2 ++ f2, rfl, h2, relE_append h3 k, by simp⟩
theorem relE_join {e1 e2 : Env} {s1 s2 : St} {w : Option W} {o : Option V} {f1 g f2 : List Addr} (h1 : relE G B H s1 e1 f1) (h : relS G B H o w g) (h2 : relE G B H s2 e2 f2) : relE G B H (s1 ++ o :: s2) (e1 ++ w :: e2) (f1 ++ (g ++ f2)) :=
  relE_append h1 ⟨o, s2, g, f2, rfl, h, h2, rfl⟩
theorem set_mid {α : Type} {a b : List α} {x y : α} {i : Nat} (h : a.length = i) : (a ++ x :: b).set i y = a ++ y :: b := by
  subst h
  simp
theorem get_mid {α : Type} {a b : List α} {x : α} {i : Nat} (h : a.length = i) : (a ++ x :: b)[i]? = some x := by
  subst h
  simp
end
abbrev RR (α β : Type) := Hp → Hp → α → β → List Addr → Prop
structure RR.Good {α β : Type} (R : RR α β) : Prop where
  frame : ∀ {B H B' H' : Hp} {a : α} {b : β} {f : List Addr}, R B H a b f → Same B B' → (∀ q ∈ f, H' q = H q) → R B' H' a b f
  live : ∀ {B H : Hp} {a : α} {b : β} {f : List Addr}, R B H a b f → ∀ q ∈ f, H q ≠ none
def rW (G : GX) : RR W V := relW G
def rWs (G : GX) : RR (List W) (List V) := relWs G
def rEqv (α : Type) : RR α α := fun _ _ a b f => a = b ∧ f = []
def rPair {α β γ δ : Type} (R : RR α β) (T : RR γ δ) : RR (α × γ) (β × δ) := fun B H a b f => ∃ f1 f2, R B H a.1 b.1 f1 ∧ T B H a.2 b.2 f2 ∧ f = f1 ++ f2
theorem rW_good (G : GX) : (rW G).Good := ⟨fun h e k => relW_frame e h k, fun h => relW_live h⟩
theorem rEqv_good (α : Type) : (rEqv α).Good := ⟨fun h _ _ => h, fun h q hq => by rw [h.2] at hq; simp at hq⟩
structure Post {α β : Type} (G : GX) (k p : Bool) (R : RR α β) (B H : Hp) (σ : St) (env : Env) (fp : List Addr) (a : α) (env' : Env) (b : β) (H' B' : Hp) (f0 fp2 : List Addr) : Prop where
  ok : Ok G B' H' σ env' fp2
  rel : R B' H' a b f0
  out : ∀ q ∈ f0, B' q = none
  step : Step B H fp B' H' (f0 ++ fp2)
  own : k = true → f0.Nodup ∧ ∀ q ∈ f0, q ∉ fp2
  pure : p = true → Same H H' ∧ (∀ q, H q ≠ none → B' q = B q) ∧ env' = env ∧ fp2 = fp
def relX (G : GX) (H : Hp) (x : XV) (cls : Value) (d : Option Addr) : Prop :=
  ∃ C, cls = .ref C ∧ G.mg x.c = some (.ref C) ∧ ((d = none ∧ x.ds = []) ∨ ∃ dd v y, d = some dd ∧ H dd = some (.xd [(("place" : Str), v)]) ∧ x.ds = [y] ∧ repD G (fun _ => none) y v)
def Cont {α β : Type} (G : GX) (k p : Bool) (R : RR α β) (Wx : WX) (B H : Hp) (σ : St) (env : Env) (fp : List Addr) (r : Option (Res α × Env)) (Q : β → Hp → Prop) : Prop :=
  match r with
  | none => False
  | some (.ok a, env') => ∀ b H' B' f0 fp2, Post G k p R B H σ env fp a env' b H' B' f0 fp2 → Q b H'
  | some (.ex x, env') => ∀ cls d H' B' fp2, Ok G B' H' σ env' fp2 → Step B H fp B' H' fp2 → relX G H' x cls d → (∀ dd, d = some dd → B' dd = none ∧ dd ∉ fp2 ∧ H dd = none) → Wx cls d σ H'
def Sim {α β : Type} (G : GX) (k p : Bool) (Wx : WX) (R : RR α β) (t : St → Hp → (β → Hp → Prop) → Prop) (m : ME α) : Prop :=
  ∀ B H σ env fp, Ok G B H σ env fp → ∀ Q, Cont G k p R Wx B H σ env fp (m env) Q → t σ H Q
def OpS {α β γ δ : Type} (R : RR α β) (T : RR γ δ) (r : β → Hp → (δ → Hp → Prop) → Prop) (g : α → Option γ) : Prop :=
  ∀ (B H : Hp) (a : α) (b : β) (f : List Addr) (c : γ), Same B H → R B H a b f → (∀ q ∈ f, B q = none) → g a = some c → ∀ Q : δ → Hp → Prop,
    (∀ y H' B' f', Same H H' → Same B B' → Same B' H' → (∀ q, H q ≠ none → B' q = B q) → (∀ q ∈ f', H q = none ∧ B' q = none) → f'.Nodup → T B' H' c y f' → Q y H') → r b H Q
section
variable {α β γ δ : Type} {G : GX} {k p k2 p2 : Bool} {Wx : WX} {R : RR α β} {T : RR γ δ} {t : St → Hp → (β → Hp → Prop) → Prop} {u : St → Hp → (δ → Hp → Prop) → Prop} {m : ME α} {n : ME γ}
theorem same_some {H H' : Hp} (s : Same H H') {q : Addr} (h : H q ≠ none) : H' q = H q := by
  cases e : H q with
  | none => exact absurd e h
  | some o => exact s q o e
theorem Sim.pair (gR : R.Good) (h1 : Sim G k p Wx R t m) (h2 : Sim G k2 p2 Wx T u n) (hc : k = true ∨ p2 = true) :
    Sim G (k && k2) (p && p2) Wx (rPair R T) (fun σ H Q => t σ H fun x H1 => u σ H1 fun y H2 => Q (x, y) H2) (m.bind fun a => n.bind fun b => ME.pure (a, b)) := by
  intro B H σ env fp O Q c
  refine h1 B H σ env fp O _ ?_
  unfold ME.bind at c
  cases e1 : m env with
  | none => rw [e1] at c; exact c
  | some r1 =>
    obtain ⟨r1, env1⟩ := r1
    rw [e1] at c
    cases r1 with
    | ex x => exact c
    | ok a =>
      intro x H1 B1 f1 fp1 P1
      refine h2 B1 H1 σ env1 fp1 P1.ok _ ?_
      simp only at c
      cases e2 : n env1 with
      | none => rw [e2] at c; exact c
      | some r2 =>
        obtain ⟨r2, env2⟩ := r2
        rw [e2] at c
        cases r2 with
        | ex x =>
          intro cls d H2 B2 fp2 O2 S2 hx hd
          refine c cls d H2 B2 fp2 O2 (P1.step.drop.trans S2) hx fun dd e => ?_
          obtain ⟨a1, a2, a3⟩ := hd dd e
          refine ⟨a1, a2, ?_⟩
          cases q : H dd with
          | none => rfl
          | some o => exact absurd a3 (P1.step.live dd (by simp [q]))
        | ok b =>
          intro y H2 B2 f2 fp2 P2
          have live1 := gR.live P1.rel
          have kp : ∀ q ∈ f1, H2 q = H1 q := fun q hq => by
            rcases hc with hc | hc
            · have hn := (P1.own hc).2 q hq
              cases e : H1 q with
              | none => exact absurd e (live1 q hq)
              | some o => exact P2.step.keep q o e hn
            · exact same_some (P2.pure hc).1 (live1 q hq)
          refine c (x, y) H2 B2 (f1 ++ f2) fp2 ⟨P2.ok, ⟨f1, f2, gR.frame P1.rel P2.step.bext kp, P2.rel, rfl⟩, fun q hq => ?_, ?_, fun hk => ?_, fun hp => ?_⟩
          · rcases List.mem_append.mp hq with hq | hq
            · rcases hc with hc | hc
              · rw [P2.step.bold q (live1 q hq) ((P1.own hc).2 q hq)]
                exact P1.out q hq
              · rw [(P2.pure hc).2.1 q (live1 q hq)]
                exact P1.out q hq
            · exact P2.out q hq
          · have := P1.step.trans P2.step
            rw [List.append_assoc]
            exact this
          · simp only [Bool.and_eq_true] at hk
            obtain ⟨n1, d1⟩ := P1.own hk.1
            obtain ⟨n2, d2⟩ := P2.own hk.2
            have dis : ∀ q ∈ f1, q ∉ f2 ++ fp2 := fun q hq z => by
              rcases P2.step.new q z with z | z
              · exact d1 q hq z
              · exact live1 q hq z
            refine ⟨List.nodup_append.mpr ⟨n1, n2, fun q hq r hr e => ?_⟩, fun q hq z => ?_⟩
            · subst e
              exact dis q hq (by simp [hr])
            · rcases List.mem_append.mp hq with hq | hq
              · exact dis q hq (by simp [z])
              · exact d2 q hq z
          · simp only [Bool.and_eq_true] at hp
            obtain ⟨s1, b1, v1, u1⟩ := P1.pure hp.1
            obtain ⟨s2, b2, v2, u2⟩ := P2.pure hp.2
            exact ⟨fun q o h => s2 q o (s1 q o h), fun q h => (b2 q (P1.step.live q h)).trans (b1 q h), v2.trans v1, u2.trans u1⟩
theorem Sim.op {r : β → Hp → (δ → Hp → Prop) → Prop} {g : α → Option γ} (h : Sim G k p Wx R t m) (ho : OpS R T r g) : Sim G true p Wx T (fun σ H Q => t σ H fun x H1 => r x H1 Q) (m.bind (ME.op g)) := by
  intro B H σ env fp O Q c
  refine h B H σ env fp O _ ?_
  unfold ME.bind at c
  cases e1 : m env with
  | none => rw [e1] at c; exact c
  | some r1 =>
    obtain ⟨r1, env1⟩ := r1
    rw [e1] at c
    cases r1 with
    | ex x => exact c
    | ok a =>
      intro x H1 B1 f1 fp1 P1
      simp only [ME.op] at c
      cases e2 : g a with
      | none => rw [e2] at c; exact c.elim
      | some b =>
        rw [e2] at c
        refine ho B1 H1 a x f1 b P1.ok.sub P1.rel P1.out e2 Q fun y H2 B2 f2 s1 s2 s3 s4 s5 s6 s7 => ?_
        have liveE := relE_live P1.ok.rel
        have fresh : ∀ q ∈ f2, q ∉ fp1 := fun q hq z => liveE q z (s5 q hq).1
        refine c y H2 B2 f2 fp1 ⟨⟨s3, relE_frame s2 P1.ok.rel fun q hq => same_some s1 (liveE q hq), P1.ok.nd, fun q hq => ?_⟩, s7, fun q hq => (s5 q hq).2, ⟨fun q o e n => ?_, fun q o e => s2 q o (P1.step.bext q o e), fun q h n => ?_, fun q hq => ?_, fun q h => ?_⟩, fun _ => ⟨s6, fresh⟩, fun hp => ?_⟩
        · rw [s4 q (liveE q hq)]
          exact P1.ok.out q hq
        · exact s1 q o (P1.step.keep q o e n)
        · rw [s4 q (P1.step.live q h)]
          exact P1.step.bold q h n
        · rcases List.mem_append.mp hq with hq | hq
          · refine .inr ?_
            cases e : H q with
            | none => rfl
            | some o => exact absurd (s5 q hq).1 (P1.step.live q (by simp [e]))
          · exact P1.step.new q (by simp [hq])
        · rw [same_some s1 (P1.step.live q h)]
          exact P1.step.live q h
        · obtain ⟨a1, a2, a3, a4⟩ := P1.pure hp
          exact ⟨fun q o e => s1 q o (a1 q o e), fun q e => (s4 q (P1.step.live q e)).trans (a2 q e), a3, a4⟩
theorem Sim.own (h : Sim G true p Wx R t m) (k' : Bool) : Sim G k' p Wx R t m := by
  intro B H σ env fp O Q c
  refine h B H σ env fp O Q ?_
  cases e : m env with
  | none => rw [e] at c; exact c
  | some r =>
    obtain ⟨r, env'⟩ := r
    rw [e] at c
    cases r with
    | ex x => exact c
    | ok a => exact fun b H' B' f0 fp2 P => c b H' B' f0 fp2 ⟨P.ok, P.rel, P.out, P.step, fun _ => P.own rfl, P.pure⟩
theorem Sim.unpure (h : Sim G k true Wx R t m) (p' : Bool) : Sim G k p' Wx R t m := by
  intro B H σ env fp O Q c
  refine h B H σ env fp O Q ?_
  cases e : m env with
  | none => rw [e] at c; exact c
  | some r =>
    obtain ⟨r, env'⟩ := r
    rw [e] at c
    cases r with
    | ex x => exact c
    | ok a => exact fun b H' B' f0 fp2 P => c b H' B' f0 fp2 ⟨P.ok, P.rel, P.out, P.step, P.own, fun _ => P.pure rfl⟩
end
end AM
namespace AM
open PySem L2
abbrev gx (X : Cx) : GX := ⟨X.K, X.mg⟩
def SE (X : Cx) (Wx : WX) (k p : Bool) (e : Expr) (m : ME W) : Prop := ∃ t : TE, PE X e t ∧ Sim (gx X) k p Wx (rW (gx X)) t m
def SA (X : Cx) (Wx : WX) (k p : Bool) (es : List Expr) (m : ME (List W)) : Prop := ∃ t : TA, PA X es t ∧ Sim (gx X) k p Wx (rWs (gx X)) t m
def STt (X : Cx) (Wx : WX) (p : Bool) (e : Expr) (m : ME Bool) : Prop := ∃ t : TT, PT X e t ∧ Sim (gx X) true p Wx (rEqv Bool) t m
def mVar (i : Nat) : ME W := fun env => match env[i]? with
  | some (some w) => some (.ok w, env)
  | _ => none
def mVarS (i : Nat) : ME W := fun env => match env[i]? with
  | some (some (.sh d)) => some (.ok (.sh d), env)
  | _ => none
def mMov (i : Nat) : ME W := fun env => match env[i]? with
  | some (some w) => some (.ok w, env.set i none)
  | _ => none
def grd (B H : Hp) (g : List Addr) : Hp := fun a => if a ∈ g then H a else B a
theorem grd_in {B H : Hp} {g : List Addr} {a : Addr} (h : a ∈ g) : grd B H g a = H a := if_pos h
theorem grd_out {B H : Hp} {g : List Addr} {a : Addr} (h : a ∉ g) : grd B H g a = B a := if_neg h
theorem grd_bext {B H : Hp} {g : List Addr} (h : ∀ q ∈ g, B q = none) : Same B (grd B H g) := fun a o e => by
  rw [grd_out (fun z => by rw [h a z] at e; cases e)]
  exact e
theorem grd_sub {B H : Hp} {g : List Addr} (s : Same B H) : Same (grd B H g) H := fun a o e => by
  unfold grd at e
  split at e
  · exact e
  · exact s a o e
section
variable {G : GX} {Wx : WX} {i : Nat}
theorem sim_var : Sim G false true Wx (rW G) (tVar i) (mVar i) := by
  intro B H σ env fp O Q c
  unfold mVar at c
  cases e : env[i]? with
  | none => rw [e] at c; exact c.elim
  | some w =>
    rw [e] at c
    cases w with
    | none => exact c.elim
    | some w =>
      obtain ⟨e1, e2, s1, o, s2, f1, g, f2, rfl, rfl, h1, h2, rfl, r1, ⟨v, rfl, rv⟩, r2⟩ := relE_split O.rel e
      refine ⟨v, get_mid h2, c v H B g (f1 ++ (g ++ f2)) ⟨O, rv, fun q hq => O.out q (by simp [hq]), Step.refl (fun a ha => by simp only [List.mem_append] at ha ⊢; grind), fun z => (Bool.noConfusion z), fun _ => ⟨Same.refl H, fun _ _ => rfl, rfl, rfl⟩⟩⟩
theorem sim_varS : Sim G true true Wx (rW G) (tVar i) (mVarS i) := by
  intro B H σ env fp O Q c
  unfold mVarS at c
  cases e : env[i]? with
  | none => rw [e] at c; exact c.elim
  | some w =>
    rw [e] at c
    cases w with
    | none => exact c.elim
    | some w =>
      cases w with
      | sh d =>
        obtain ⟨e1, e2, s1, o, s2, f1, g, f2, rfl, rfl, h1, h2, rfl, r1, ⟨v, rfl, rv⟩, r2⟩ := relE_split O.rel e
        refine ⟨v, get_mid h2, c v H B [] (f1 ++ (g ++ f2)) ⟨O, ?_, fun q hq => by simp at hq, Step.refl (by simp), fun z => ⟨List.nodup_nil, fun q hq => by simp at hq⟩, fun _ => ⟨Same.refl H, fun _ _ => rfl, rfl, rfl⟩⟩⟩
        simp only [relW] at rv
        show relW G B H _ _ _
        simp only [relW]
        exact ⟨rv.1, trivial⟩
      | ol _ => exact c.elim
      | ot _ => exact c.elim
      | ob _ _ _ => exact c.elim
      | dk _ _ => exact c.elim
      | dt _ _ => exact c.elim
theorem sim_mov (p : Bool) (hp : p = false) : Sim G true p Wx (rW G) (tVar i) (mMov i) := by
  intro B H σ env fp O Q c
  unfold mMov at c
  cases e : env[i]? with
  | none => rw [e] at c; exact c.elim
  | some w =>
    rw [e] at c
    cases w with
    | none => exact c.elim
    | some w =>
      obtain ⟨e1, e2, s1, o, s2, f1, g, f2, rfl, rfl, h1, h2, rfl, r1, ⟨v, rfl, rv⟩, r2⟩ := relE_split O.rel e
      have nd := O.nd
      simp only [List.nodup_append, List.mem_append] at nd
      obtain ⟨n1, ⟨n2, n3, n4⟩, n5⟩ := nd
      have O' : Ok G B H (s1 ++ some v :: s2) ((e1 ++ some w :: e2).set i none) (f1 ++ ([] ++ f2)) := by
        rw [set_mid h1]
        refine ⟨O.sub, relE_join r1 rfl r2, ?_, fun q hq => O.out q ?_⟩
        · simp only [List.nil_append, List.nodup_append]
          exact ⟨n1, n3, fun a ha b hb => n5 a ha b (.inr hb)⟩
        · simp only [List.nil_append, List.mem_append] at hq ⊢
          rcases hq with hq | hq
          · exact .inl hq
          · exact .inr (.inr hq)
      refine ⟨v, get_mid h2, c v H B g (f1 ++ ([] ++ f2)) ⟨O', rv, fun q hq => O.out q (by simp [hq]), Step.refl ?_, fun _ => ⟨n2, fun q hq z => ?_⟩, fun z => by rw [hp] at z; cases z⟩⟩
      · intro a ha
        simp only [List.nil_append, List.mem_append] at ha ⊢
        rcases ha with ha | ha | ha
        · exact .inr (.inl ha)
        · exact .inl ha
        · exact .inr (.inr ha)
      · simp only [List.nil_append, List.mem_append] at z
        rcases z with z | z
        · exact n5 q z q (.inl hq) rfl
        · exact n4 q hq q z rfl
def mC (d : D) : ME W := ME.pure (.sh d)
theorem sim_c {v : V} {d : D} (h : ∀ B : Hp, repD G B d v) : Sim G true true Wx (rW G) (tC v) (mC d) := by
  intro B H σ env fp O Q c
  refine c v H B [] fp ⟨O, ?_, fun q hq => by simp at hq, Step.refl (by simp), fun _ => ⟨List.nodup_nil, fun q hq => by simp at hq⟩, fun _ => ⟨Same.refl H, fun _ _ => rfl, rfl, rfl⟩⟩
  show relW G B H _ _ _
  simp only [relW]
  exact ⟨h B, trivial⟩
end
section
variable {X : Cx} {Wx : WX} {i : Nat} {x : Str} {pos : Pos}
theorem se_var (i : Nat) (h : PE X (.Name x pos) (tVar i)) : SE X Wx false true (.Name x pos) (mVar i) := ⟨_, h, sim_var⟩
theorem se_varS (i : Nat) (h : PE X (.Name x pos) (tVar i)) : SE X Wx true true (.Name x pos) (mVarS i) := ⟨_, h, sim_varS⟩
theorem se_mov (i : Nat) (h : PE X (.Name x pos) (tVar i)) : SE X Wx true false (.Name x pos) (mMov i) := ⟨_, h, sim_mov false rfl⟩
theorem se_int {i : Int} {j} : SE X Wx true true (.Constant (.int i) j pos) (mC (.int i)) := ⟨_, pe_int, sim_c fun _ => by simp [repD]⟩
theorem se_bl {b : Bool} {j} : SE X Wx true true (.Constant (.bool b) j pos) (mC (.bl b)) := ⟨_, pe_bl, sim_c fun _ => by simp [repD]⟩
theorem se_non {j} : SE X Wx true true (.Constant .none j pos) (mC .non) := ⟨_, pe_non, sim_c fun _ => by simp [repD]⟩
theorem se_str {s : Str} {j} : SE X Wx true true (.Constant (.str s) j pos) (mC (.str s)) := ⟨_, pe_str, sim_c fun _ => by simp [repD]⟩
theorem se_gint {i : Int} {u : Value} (hg : Gl X x) (hm : X.mg x = some u) (r : RelV (.int i) u) (hd : (x == ("__debug__" : Str)) = false := by decide) : SE X Wx true true (.Name x pos) (mC (.int i)) := ⟨_, pe_glob hg hm r hd, sim_c fun _ => by simp [repD]⟩
theorem se_gstr {s : Str} {u : Value} (hg : Gl X x) (hm : X.mg x = some u) (r : RelV (.str s) u) (hd : (x == ("__debug__" : Str)) = false := by decide) : SE X Wx true true (.Name x pos) (mC (.str s)) := ⟨_, pe_glob hg hm r hd, sim_c fun _ => by simp [repD]⟩
end
section
variable {G : GX} {α β : Type} {R : RR α β}
theorem OpS.or {δ γ : Type} {T : RR γ δ} {r r' : β → Hp → (δ → Hp → Prop) → Prop} {g g' : α → Option γ} (h : OpS R T r g) (h' : OpS R T r' g') : OpS R T (fun b H Q => r b H Q ∨ r' b H Q) (fun a => (g a).or (g' a)) := by
  intro B H a b f c s ra o e Q q
  have e : (g a).or (g' a) = some c := e
  cases e1 : g a with
  | some c1 =>
    rw [e1] at e
    cases e
    exact .inl (h B H a b f _ s ra o e1 Q q)
  | none =>
    rw [e1] at e
    exact .inr (h' B H a b f _ s ra o e Q q)
theorem OpR.or {X : Cx} {f : Value → Value → Sem Value} {r r' : R2} (h : OpR X f r) (h' : OpR X f r') : OpR X f (fun x y H Q => r x y H Q ∨ r' x y H Q) :=
  fun pins s σ H x y v u Q I rx ry q => q.elim (h pins s σ H x y v u Q I rx ry) (h' pins s σ H x y v u Q I rx ry)
theorem ops_flat {r : β → Hp → VK → Prop} {g : α → Option W} (h : ∀ (B H : Hp) (a : α) (b : β) (f : List Addr) (c : W), Same B H → R B H a b f → g a = some c → ∃ d v, c = .sh d ∧ repD G B d v ∧ ∀ Q : VK, Q v H → r b H Q) : OpS R (rW G) r g := by
  intro B H a b f c s ra o e Q q
  obtain ⟨d, v, rfl, rd, k⟩ := h B H a b f c s ra e
  refine k Q (q v H B [] (Same.refl H) (Same.refl B) s (fun _ _ => rfl) (fun q hq => by simp at hq) List.nodup_nil ?_)
  show relW G B H _ _ _
  simp only [relW]
  exact ⟨rd, trivial⟩
theorem ops_newL {r : β → Hp → VK → Prop} {g : α → Option W} (h : ∀ (B H : Hp) (a : α) (b : β) (f : List Addr) (c : W), Same B H → R B H a b f → g a = some c → ∃ ds vs, c = .ol (ds.map W.sh) ∧ repDs G B ds vs ∧ ∀ Q : VK, (∀ p, H p = none → Q (.ref p) (upd H p (.lst vs))) → r b H Q) : OpS R (rW G) r g := by
  intro B H a b f c s ra o e Q q
  obtain ⟨ds, vs, rfl, rd, k⟩ := h B H a b f c s ra e
  refine k Q fun p np => ?_
  have nB : B p = none := by
    cases z : B p with
    | none => rfl
    | some o' => rw [s p o' z] at np; cases np
  have sm : Same H (upd H p (.lst vs)) := fun a o e => by rw [upd_ne (ne_of_none e np)]; exact e
  refine q _ _ B [p] sm (Same.refl B) (s.trans sm) (fun _ _ => rfl) (fun x hx => by simp at hx; subst hx; exact ⟨np, nB⟩) (by simp) ?_
  show relW G B _ _ _ _
  simp only [relW]
  exact ⟨p, vs, [], rfl, upd_same, relWs_sh rd, rfl⟩
theorem ops_newT {r : β → Hp → VK → Prop} {g : α → Option W} (h : ∀ (B H : Hp) (a : α) (b : β) (f : List Addr) (c : W), Same B H → R B H a b f → g a = some c → ∃ ds vs, c = .sh (.tup ds) ∧ repDs G B ds vs ∧ ∀ Q : VK, (∀ p, H p = none → Q (.ref p) (upd H p (.tup vs))) → r b H Q) : OpS R (rW G) r g := by
  intro B H a b f c s ra o e Q q
  obtain ⟨ds, vs, rfl, rd, k⟩ := h B H a b f c s ra e
  refine k Q fun p np => ?_
  have nB : B p = none := by
    cases z : B p with
    | none => rfl
    | some o' => rw [s p o' z] at np; cases np
  have sm : Same H (upd H p (.tup vs)) := fun a o e => by rw [upd_ne (ne_of_none e np)]; exact e
  have sB : Same B (upd B p (.tup vs)) := fun a o e => by rw [upd_ne (ne_of_none e nB)]; exact e
  refine q _ _ (upd B p (.tup vs)) [] sm sB (fun a o e => ?_) (fun a ha => ?_) (fun x hx => by simp at hx) List.nodup_nil ?_
  · by_cases ea : a = p
    · subst ea
      rw [upd_same] at e ⊢
      exact e
    · rw [upd_ne ea] at e ⊢
      exact s a o e
  · rw [upd_ne (fun z => ha (by rw [z]; exact np))]
  · show relW G _ _ _ _ _
    simp only [relW, repD]
    exact ⟨⟨p, vs, rfl, SqT.of upd_same, repDs_mono sB rd⟩, trivial⟩
end
def mOp2 (g : W × W → Option W) (ma mb : ME W) : ME W := (ma.bind fun a => mb.bind fun b => ME.pure (a, b)).bind (ME.op g)
def mOp1 (g : W → Option W) (ma : ME W) : ME W := ma.bind (ME.op g)
abbrev rWW (G : GX) : RR (W × W) (V × V) := rPair (rW G) (rW G)
section
variable {X : Cx} {Wx : WX} {k1 p1 k2 p2 : Bool} {a b : Expr} {ma mb : ME W} {pos : Pos} {r : R2} {g : W × W → Option W}
theorem se_op {op : Operator} (ho : OpR X (binaryOp op) r) (hs : OpS (rWW (gx X)) (rW (gx X)) (fun xy => r xy.1 xy.2) g) (ha : SE X Wx k1 p1 a ma) (hb : SE X Wx k2 p2 b mb) (hc : k1 = true ∨ p2 = true := by decide) : SE X Wx true (p1 && p2) (.BinOp a op b pos) (mOp2 g ma mb) := by
  obtain ⟨ta, pa, sa⟩ := ha
  obtain ⟨tb, pb, sb⟩ := hb
  exact ⟨_, pe_op ho pa pb, (Sim.pair (rW_good _) sa sb hc).op hs⟩
theorem se_cmp {op : CmpOp} (ho : OpR X (compareOp op) r) (hs : OpS (rWW (gx X)) (rW (gx X)) (fun xy => r xy.1 xy.2) g) (hm : behindInMarks op b = false) (ha : SE X Wx k1 p1 a ma) (hb : SE X Wx k2 p2 b mb) (hc : k1 = true ∨ p2 = true := by decide) : SE X Wx true (p1 && p2) (.Compare a [op] [b] pos) (mOp2 g ma mb) := by
  obtain ⟨ta, pa, sa⟩ := ha
  obtain ⟨tb, pb, sb⟩ := hb
  exact ⟨_, pe_cmpR ho pa pb hm, (Sim.pair (rW_good _) sa sb hc).op hs⟩
theorem se_un {op : UnaryOp} {r : V → Hp → VK → Prop} {g : W → Option W} (ho : UnR X (unaryOp op) r) (hs : OpS (rW (gx X)) (rW (gx X)) r g) (ha : SE X Wx k1 p1 a ma) : SE X Wx true p1 (.UnaryOp op a pos) (mOp1 g ma) := by
  obtain ⟨ta, pa, sa⟩ := ha
  exact ⟨_, pe_un ho pa, sa.op hs⟩
end
def wInt : W → Option Int
  | .sh (.int i) => some i
  | _ => none
def wStr : W → Option Str
  | .sh (.str s) => some s
  | _ => none
def wBl : W → Option Bool
  | .sh (.bl b) => some b
  | _ => none
theorem wInt_eq {w : W} {i : Int} (h : wInt w = some i) : w = .sh (.int i) := by
  unfold wInt at h
  split at h
  · cases h; rfl
  · cases h
theorem wStr_eq {w : W} {i : Str} (h : wStr w = some i) : w = .sh (.str i) := by
  unfold wStr at h
  split at h
  · cases h; rfl
  · cases h
theorem wBl_eq {w : W} {i : Bool} (h : wBl w = some i) : w = .sh (.bl i) := by
  unfold wBl at h
  split at h
  · cases h; rfl
  · cases h
def gII (C : Int → Int → Bool) (f : Int → Int → D) : W × W → Option W := fun p => match wInt p.1, wInt p.2 with
  | some i, some j => if C i j then some (.sh (f i j)) else none
  | _, _ => none
def gI (f : Int → D) : W → Option W := fun w => (wInt w).map fun i => .sh (f i)
section
variable {G : GX}
theorem ops_II {C : Int → Int → Prop} {C' : Int → Int → Bool} {f : Int → Int → D} {fv : Int → Int → V} (hC : ∀ i j, C' i j = true → C i j) (hf : ∀ B i j, repD G B (f i j) (fv i j)) : OpS (rWW G) (rW G) (fun xy => rI C fv xy.1 xy.2) (gII C' f) := by
  refine ops_flat fun B H a b fp c s ra e => ?_
  obtain ⟨f1, f2, r1, r2, _⟩ := ra
  unfold gII at e
  split at e
  · rename_i i j h1 h2
    split at e
    · rename_i h3
      rw [wInt_eq h1] at r1
      rw [wInt_eq h2] at r2
      have r1 : relW _ _ _ _ _ _ := r1
      have r2 : relW _ _ _ _ _ _ := r2
      simp only [relW, repD] at r1 r2
      cases e
      exact ⟨_, fv i j, rfl, hf B i j, fun Q q => ⟨i, j, r1.1, r2.1, hC i j h3, q⟩⟩
    · cases e
  · cases e
theorem ops_II0 {f : Int → Int → D} {fv : Int → Int → V} (hf : ∀ B i j, repD G B (f i j) (fv i j)) : OpS (rWW G) (rW G) (fun xy => rI0 fv xy.1 xy.2) (gII (fun _ _ => true) f) := by
  refine ops_flat fun B H a b fp c s ra e => ?_
  obtain ⟨f1, f2, r1, r2, _⟩ := ra
  unfold gII at e
  split at e
  · rename_i i j h1 h2
    rw [wInt_eq h1] at r1
    rw [wInt_eq h2] at r2
    have r1 : relW _ _ _ _ _ _ := r1
    have r2 : relW _ _ _ _ _ _ := r2
    simp only [relW, repD] at r1 r2
    cases e
    exact ⟨_, fv i j, rfl, hf B i j, fun Q q => ⟨i, j, r1.1, r2.1, q⟩⟩
  · cases e
theorem ops_I {f : Int → D} {fv : Int → V} (hf : ∀ B i, repD G B (f i) (fv i)) : OpS (rW G) (rW G) (rU fv) (gI f) := by
  refine ops_flat fun B H a b fp c s ra e => ?_
  unfold gI at e
  simp only [Option.map_eq_some_iff] at e
  obtain ⟨i, h1, rfl⟩ := e
  rw [wInt_eq h1] at ra
  have ra : relW _ _ _ _ _ _ := ra
  simp only [relW, repD] at ra
  exact ⟨_, fv i, rfl, hf B i, fun Q q => ⟨i, ra.1, q⟩⟩
end
end AM
namespace AM
open PySem L2
def OpG {α β γ δ : Type} (R : RR α β) (T : RR γ δ) (r : β → Hp → (δ → Hp → Prop) → Prop) (g : α → Option γ) : Prop :=
  ∀ (B H : Hp) (a : α) (b : β) (f : List Addr) (c : γ), Same B H → R B H a b f → (∀ q ∈ f, B q = none) → f.Nodup → g a = some c → ∀ Q : δ → Hp → Prop,
    (∀ y H' B' f', Same H H' → Same B B' → Same B' H' → (∀ q, H q ≠ none → B' q = B q) → (∀ q ∈ f', B' q = none ∧ (q ∈ f ∨ H q = none)) → f'.Nodup → T B' H' c y f' → Q y H') → r b H Q
def OpP {α β γ δ : Type} (R : RR α β) (T : RR γ δ) (r : β → Hp → (δ → Hp → Prop) → Prop) (g : α → Option γ) : Prop :=
  ∀ (B H : Hp) (a : α) (b : β) (f : List Addr) (c : γ), Same B H → R B H a b f → g a = some c → ∀ Q : δ → Hp → Prop,
    (∀ y f', (∀ q ∈ f', q ∈ f) → (f.Nodup → f'.Nodup) → T B H c y f' → Q y H) → r b H Q
section
variable {α β γ δ : Type} {G : GX} {k p : Bool} {Wx : WX} {R : RR α β} {T : RR γ δ} {t : St → Hp → (β → Hp → Prop) → Prop} {m : ME α}
theorem Sim.opG {r : β → Hp → (δ → Hp → Prop) → Prop} {g : α → Option γ} (h : Sim G true p Wx R t m) (ho : OpG R T r g) : Sim G true p Wx T (fun σ H Q => t σ H fun x H1 => r x H1 Q) (m.bind (ME.op g)) := by
  intro B H σ env fp O Q c
  refine h B H σ env fp O _ ?_
  unfold ME.bind at c
  cases e1 : m env with
  | none => rw [e1] at c; exact c
  | some r1 =>
    obtain ⟨r1, env1⟩ := r1
    rw [e1] at c
    cases r1 with
    | ex x => exact c
    | ok a =>
      intro x H1 B1 f1 fp1 P1
      simp only [ME.op] at c
      cases e2 : g a with
      | none => rw [e2] at c; exact c.elim
      | some b =>
        rw [e2] at c
        obtain ⟨nd1, ds1⟩ := P1.own rfl
        refine ho B1 H1 a x f1 b P1.ok.sub P1.rel P1.out nd1 e2 Q fun y H2 B2 f2 s1 s2 s3 s4 s5 s6 s7 => ?_
        have liveE := relE_live P1.ok.rel
        have fresh : ∀ q ∈ f2, q ∉ fp1 := fun q hq z => by
          rcases (s5 q hq).2 with y | y
          · exact ds1 q y z
          · exact liveE q z y
        refine c y H2 B2 f2 fp1 ⟨⟨s3, relE_frame s2 P1.ok.rel fun q hq => same_some s1 (liveE q hq), P1.ok.nd, fun q hq => ?_⟩, s7, fun q hq => (s5 q hq).1, ⟨fun q o e n => ?_, fun q o e => s2 q o (P1.step.bext q o e), fun q h n => ?_, fun q hq => ?_, fun q h => ?_⟩, fun _ => ⟨s6, fresh⟩, fun hp => ?_⟩
        · rw [s4 q (liveE q hq)]
          exact P1.ok.out q hq
        · exact s1 q o (P1.step.keep q o e n)
        · rw [s4 q (P1.step.live q h)]
          exact P1.step.bold q h n
        · rcases List.mem_append.mp hq with hq | hq
          · rcases (s5 q hq).2 with y | y
            · exact P1.step.new q (by simp [y])
            · refine .inr ?_
              cases e : H q with
              | none => rfl
              | some o => exact absurd y (P1.step.live q (by simp [e]))
          · exact P1.step.new q (by simp [hq])
        · rw [same_some s1 (P1.step.live q h)]
          exact P1.step.live q h
        · obtain ⟨a1, a2, a3, a4⟩ := P1.pure hp
          exact ⟨fun q o e => s1 q o (a1 q o e), fun q e => (s4 q (P1.step.live q e)).trans (a2 q e), a3, a4⟩
theorem Sim.opP {r : β → Hp → (δ → Hp → Prop) → Prop} {g : α → Option γ} (h : Sim G k p Wx R t m) (ho : OpP R T r g) : Sim G k p Wx T (fun σ H Q => t σ H fun x H1 => r x H1 Q) (m.bind (ME.op g)) := by
  intro B H σ env fp O Q c
  refine h B H σ env fp O _ ?_
  unfold ME.bind at c
  cases e1 : m env with
  | none => rw [e1] at c; exact c
  | some r1 =>
    obtain ⟨r1, env1⟩ := r1
    rw [e1] at c
    cases r1 with
    | ex x => exact c
    | ok a =>
      intro x H1 B1 f1 fp1 P1
      simp only [ME.op] at c
      cases e2 : g a with
      | none => rw [e2] at c; exact c.elim
      | some b =>
        rw [e2] at c
        refine ho B1 H1 a x f1 b P1.ok.sub P1.rel e2 Q fun y f2 s1 s2 s3 => ?_
        exact c y H1 B1 f2 fp1 ⟨P1.ok, s3, fun q hq => P1.out q (s1 q hq), P1.step.mono fun q hq => by
          rcases List.mem_append.mp hq with hq | hq
          · simp [s1 q hq]
          · simp [hq], fun z => ⟨s2 (P1.own z).1, fun q hq => (P1.own z).2 q (s1 q hq)⟩, P1.pure⟩
def wSh : W → Option W
  | .sh d => some (.sh d)
  | _ => none
def mSh (m : ME W) : ME W := m.bind (ME.op wSh)
theorem Sim.sh {t : TE} {m : ME W} (h : Sim G k p Wx (rW G) t m) : Sim G true p Wx (rW G) t (mSh m) := by
  intro B H σ env fp O Q c
  refine h B H σ env fp O _ ?_
  unfold mSh ME.bind at c
  cases e1 : m env with
  | none => rw [e1] at c; exact c
  | some r1 =>
    obtain ⟨r1, env1⟩ := r1
    rw [e1] at c
    cases r1 with
    | ex x => exact c
    | ok a =>
      intro x H1 B1 f1 fp1 P1
      cases a with
      | sh d =>
        have P1r : relW G B1 H1 (.sh d) x f1 := P1.rel
        have e0 : f1 = [] := by simp only [relW] at P1r; exact P1r.2
        subst e0
        exact c x H1 B1 [] fp1 ⟨P1.ok, P1.rel, P1.out, P1.step, fun _ => ⟨List.nodup_nil, fun q hq => by simp at hq⟩, P1.pure⟩
      | ol _ => exact c.elim
      | ot _ => exact c.elim
      | ob _ _ _ => exact c.elim
      | dk _ _ => exact c.elim
      | dt _ _ => exact c.elim
end
section
variable {X : Cx} {Wx : WX} {k p k1 p1 k2 p2 : Bool} {e a b : Expr} {es : List Expr} {m ma mb : ME W} {ms : ME (List W)} {pos : Pos}
theorem se_p (h : SE X Wx k true e m) : SE X Wx k false e m := by
  obtain ⟨t, pe, s⟩ := h
  exact ⟨t, pe, s.unpure false⟩
def mNil : ME (List W) := ME.pure []
def mCons (m : ME W) (ms : ME (List W)) : ME (List W) := (m.bind fun a => ms.bind fun b => ME.pure (a, b)).bind (ME.op fun p => some (p.1 :: p.2))
theorem sim_nil {G : GX} : Sim G true true Wx (rWs G) tNil mNil := by
  intro B H σ env fp O Q c
  refine c [] H B [] fp ⟨O, ?_, fun q hq => by simp at hq, Step.refl (by simp), fun _ => ⟨List.nodup_nil, fun q hq => by simp at hq⟩, fun _ => ⟨Same.refl H, fun _ _ => rfl, rfl, rfl⟩⟩
  show relWs G B H [] [] []
  simp [relWs]
theorem sa_nil : SA X Wx true true [] mNil := ⟨_, pa_nil, sim_nil⟩
theorem sa_cons (h : SE X Wx k1 p1 e m) (hr : SA X Wx k2 p2 es ms) (hc : k1 = true ∨ p2 = true := by decide) (hs : starEach (e :: es) X.env = (false, eval e X.env) :: starEach es X.env := by rfl) : SA X Wx (k1 && k2) (p1 && p2) (e :: es) (mCons m ms) := by
  obtain ⟨t, pe, s⟩ := h
  obtain ⟨u, pr, sr⟩ := hr
  refine ⟨_, pa_cons pe pr hs, ?_⟩
  have := (Sim.pair (rW_good _) s sr hc).opP (T := rWs (gx X)) (r := fun (xy : V × List V) H (Q : List V → Hp → Prop) => Q (xy.1 :: xy.2) H) (g := fun p => some (p.1 :: p.2)) (by
    intro B H a b f c sb ra e Q q
    obtain ⟨f1, f2, r1, r2, rfl⟩ := ra
    cases e
    refine q _ (f1 ++ f2) (fun _ h => h) (fun h => h) ?_
    show relWs _ _ _ _ _ _
    simp only [relWs]
    exact ⟨b.1, b.2, f1, f2, rfl, r1, r2, rfl⟩)
  exact this
def shsOf : List W → Option (List D)
  | [] => some []
  | .sh d :: ws => (shsOf ws).map fun ds => d :: ds
  | _ :: _ => none
theorem shsOf_eq : ∀ {ws : List W} {ds : List D}, shsOf ws = some ds → ws = ds.map W.sh
  | [], ds, h => by cases h; rfl
  | .sh d :: ws, ds, h => by
    simp only [shsOf, Option.map_eq_some_iff] at h
    obtain ⟨r, h1, rfl⟩ := h
    rw [shsOf_eq h1]
    rfl
  | .ol _ :: _, _, h => by simp [shsOf] at h
  | .ot _ :: _, _, h => by simp [shsOf] at h
  | .ob _ _ _ :: _, _, h => by simp [shsOf] at h
  | .dk _ _ :: _, _, h => by simp [shsOf] at h
  | .dt _ _ :: _, _, h => by simp [shsOf] at h
theorem relWs_shs {G : GX} {B H : Hp} : ∀ {ds : List D} {vs : List V} {f : List Addr}, relWs G B H (ds.map W.sh) vs f → repDs G B ds vs ∧ f = []
  | [], vs, f, h => by
    simp only [List.map_nil, relWs] at h
    simp [repDs, h]
  | d :: ds, vs, f, h => by
    simp only [List.map_cons, relWs, relW] at h
    obtain ⟨v, r, g1, g2, rfl, ⟨h1, rfl⟩, h2, rfl⟩ := h
    obtain ⟨h3, rfl⟩ := relWs_shs h2
    exact ⟨by simp only [repDs]; exact ⟨v, r, rfl, h1, h3⟩, rfl⟩
def gLst (ws : List W) : Option W := if ws.length ≤ 100000 then some (.ol ws) else none
def gTup (ws : List W) : Option W := if ws.length ≤ 100000 then some (match shsOf ws with
  | some ds => .sh (.tup ds)
  | none => .ot ws) else none
theorem sz_ok {n : Nat} (h : n ≤ 100000) : n ≤ sizeLine := Nat.le_trans h (by decide)
theorem none_of_sub {B H : Hp} (s : Same B H) {p : Addr} (h : H p = none) : B p = none := by
  cases z : B p with
  | none => rfl
  | some o' => rw [s p o' z] at h; cases h
theorem same_new {H : Hp} {p : Addr} {o : HO} (np : H p = none) : Same H (upd H p o) := fun a u e => by rw [upd_ne (ne_of_none e np)]; exact e
theorem opg_lst {G : GX} : OpG (rWs G) (rW G) (fun (xs : List V) H (Q : VK) => xs.length ≤ sizeLine ∧ ∀ p, H p = none → Q (.ref p) (upd H p (.lst xs))) gLst := by
  intro B H ws vs f c s ra o nd e Q q
  have ra : relWs _ _ _ _ _ _ := ra
  unfold gLst at e
  split at e
  · rename_i hl
    cases e
    refine ⟨by rw [← relWs_length ra]; exact sz_ok hl, fun p np => ?_⟩
    have nB := none_of_sub s np
    have sm : Same H (upd H p (.lst vs)) := same_new np
    have lv := relWs_live ra
    refine q _ _ B (p :: f) sm (Same.refl B) (s.trans sm) (fun _ _ => rfl) (fun x hx => ?_) (List.nodup_cons.mpr ⟨fun z => lv p z np, nd⟩) ?_
    · rcases List.mem_cons.mp hx with rfl | hx
      · exact ⟨nB, .inr np⟩
      · exact ⟨o x hx, .inl hx⟩
    · show relW _ _ _ _ _ _
      simp only [relW]
      exact ⟨p, vs, f, rfl, upd_same, relWs_frame (Same.refl B) ra fun x hx => by rw [upd_ne (fun z => lv x hx (by rw [z]; exact np))], rfl⟩
  · cases e
theorem opg_tup {G : GX} : OpG (rWs G) (rW G) (fun (xs : List V) H (Q : VK) => xs.length ≤ sizeLine ∧ ∀ p, H p = none → Q (.ref p) (upd H p (.tup xs))) gTup := by
  intro B H ws vs f c s ra o nd e Q q
  have ra : relWs _ _ _ _ _ _ := ra
  unfold gTup at e
  split at e
  · rename_i hl
    cases e
    refine ⟨by rw [← relWs_length ra]; exact sz_ok hl, fun p np => ?_⟩
    have nB := none_of_sub s np
    have sm : Same H (upd H p (.tup vs)) := same_new np
    have sB : Same B (upd B p (.tup vs)) := same_new nB
    have lv := relWs_live ra
    have nep : ∀ x ∈ f, x ≠ p := fun x hx z => lv x hx (by rw [z]; exact np)
    refine q _ _ (upd B p (.tup vs)) f sm sB (fun a u z => ?_) (fun a ha => by rw [upd_ne (fun z => ha (by rw [z]; exact np))]) (fun x hx => ⟨by rw [upd_ne (nep x hx)]; exact o x hx, .inl hx⟩) nd ?_
    · by_cases ea : a = p
      · subst ea
        rw [upd_same] at z ⊢
        exact z
      · rw [upd_ne ea] at z ⊢
        exact s a u z
    · have ra' := relWs_frame sB ra (H' := upd H p (.tup vs)) fun x hx => upd_ne (nep x hx)
      cases es : shsOf ws with
      | none =>
        show relW _ _ _ (.ot ws) _ _
        simp only [relW]
        exact ⟨p, vs, rfl, upd_same, ra'⟩
      | some ds =>
        rw [shsOf_eq es] at ra'
        obtain ⟨r1, rfl⟩ := relWs_shs ra'
        show relW _ _ _ (.sh (.tup ds)) _ _
        simp only [relW, repD]
        exact ⟨⟨p, vs, rfl, SqT.of upd_same, r1⟩, trivial⟩
  · cases e
def mLst (m : ME (List W)) : ME W := m.bind (ME.op gLst)
def mTup (m : ME (List W)) : ME W := m.bind (ME.op gTup)
theorem se_lst (h : SA X Wx true p es ms) : SE X Wx true p (.List es pos) (mLst ms) := by
  obtain ⟨t, pa, s⟩ := h
  exact ⟨_, pe_lst pa, s.opG opg_lst⟩
theorem se_tup {x1} (h : SA X Wx true p es ms) : SE X Wx true p (.Tuple es x1 pos) (mTup ms) := by
  obtain ⟨t, pa, s⟩ := h
  exact ⟨_, pe_tup pa, s.opG opg_tup⟩
end
mutual
def D.pd : D → Option PyData
  | .non => some .none
  | .bl b => some (.bool b)
  | .int i => some (.int i)
  | .str s => some (.str s)
  | .lst ds => (D.pds ds).map .list
  | .tup ds => (D.pds ds).map .tuple
  | .exc _ _ => none
  | .scr _ => none
  | .fn _ => none
  | .adr _ => none
  | .any => none
  | .la _ ds => (D.pds ds).map .list
  | .obj _ _ _ => none
def D.pds : List D → Option (List PyData)
  | [] => some []
  | d :: ds => match D.pd d, D.pds ds with
    | some x, some xs => some (x :: xs)
    | _, _ => none
end
section
variable {G : GX} {B H : Hp}
mutual
theorem repD_dp : ∀ {d : D} {v : V} {x : PyData}, repD G H d v → d.pd = some x → Dp G.K H v x
  | .non, v, x, h, e => by simp only [repD] at h; simp only [D.pd] at e; cases e; subst h; exact .non
  | .bl b, v, x, h, e => by simp only [repD] at h; simp only [D.pd] at e; cases e; subst h; exact .bl b
  | .int i, v, x, h, e => by simp only [repD] at h; simp only [D.pd] at e; cases e; subst h; exact .int i
  | .str s, v, x, h, e => by simp only [repD] at h; simp only [D.pd] at e; cases e; subst h; exact .str s
  | .lst ds, v, x, h, e => by
    simp only [repD] at h
    simp only [D.pd, Option.map_eq_some_iff] at e
    obtain ⟨xs, e1, rfl⟩ := e
    obtain ⟨a, vs, rfl, h1, h2⟩ := h
    exact .lst (SqL.of h1) (repDs_dp h2 e1)
  | .tup ds, v, x, h, e => by
    simp only [repD] at h
    simp only [D.pd, Option.map_eq_some_iff] at e
    obtain ⟨xs, e1, rfl⟩ := e
    obtain ⟨a, vs, rfl, h1, h2⟩ := h
    exact .tup h1 (repDs_dp h2 e1)
  | .exc _ _, _, _, _, e => by simp [D.pd] at e
  | .scr _, _, _, _, e => by simp [D.pd] at e
  | .fn _, _, _, _, e => by simp [D.pd] at e
  | .adr _, _, _, _, e => by simp [D.pd] at e
  | .any, _, _, _, e => by simp [D.pd] at e
  | .la a ds, v, x, h, e => by
    simp only [repD] at h
    simp only [D.pd, Option.map_eq_some_iff] at e
    obtain ⟨xs, e1, rfl⟩ := e
    obtain ⟨vs, rfl, h1, h2⟩ := h
    exact .lst (SqL.of h1) (repDs_dp h2 e1)
  | .obj _ _ _, _, _, _, e => by simp [D.pd] at e
theorem repDs_dp : ∀ {ds : List D} {vs : List V} {xs : List PyData}, repDs G H ds vs → D.pds ds = some xs → DpAll G.K H vs xs
  | [], vs, xs, h, e => by simp only [repDs] at h; simp only [D.pds] at e; cases e; subst h; exact .nil
  | d :: ds, vs, xs, h, e => by
    simp only [repDs] at h
    obtain ⟨v, r, rfl, h1, h2⟩ := h
    simp only [D.pds] at e
    split at e
    · rename_i x xs' e1 e2
      cases e
      exact .cons (repD_dp h1 e1) (repDs_dp h2 e2)
    · cases e
end
theorem relW_D {w : W} {v : V} {f : List Addr} {d : D} (s : Same B H) (r : relW G B H w v f) (e : w.toD = some d) : repD G H d v := relW_toD s r e fun _ _ => rfl
def wPd (w : W) : Option PyData := match w.toD.bind D.pd with
  | some x => if SeqAt.shaped x then some x else none
  | none => none
theorem relW_pd {w : W} {v : V} {f : List Addr} {x : PyData} (s : Same B H) (r : relW G B H w v f) (e : wPd w = some x) : Dp G.K H v x ∧ SeqAt.shaped x = true := by
  unfold wPd at e
  split at e
  · rename_i y h
    split at e
    · rename_i h2
      cases e
      simp only [Option.bind_eq_some_iff] at h
      obtain ⟨d, e1, e2⟩ := h
      exact ⟨repD_dp (relW_D s r e1) e2, h2⟩
    · cases e
  · cases e
def gDD (f : PyData → PyData → Option Bool) : W × W → Option W := fun p => match wPd p.1, wPd p.2 with
  | some x, some y => (f x y).map fun b => .sh (.bl b)
  | _, _ => none
def fEq (x y : PyData) : Option Bool := some (PyData.eqv x y)
def fNe (x y : PyData) : Option Bool := some (!PyData.eqv x y)
def fIn (x y : PyData) : Option Bool := match y with
  | .list ds => some (ds.any fun z => PyData.eqv z x)
  | _ => none
theorem ops_DD {r : R2} {f : PyData → PyData → Option Bool} (hr : ∀ (H : Hp) (x y : V) (d e : PyData) (b : Bool) (Q : VK), Dp G.K H x d → Dp G.K H y e → SeqAt.shaped d = true → SeqAt.shaped e = true → f d e = some b → Q (.bl b) H → r x y H Q) :
    OpS (rWW G) (rW G) (fun xy => r xy.1 xy.2) (gDD f) := by
  refine ops_flat fun B H a b fp c s ra e => ?_
  obtain ⟨f1, f2, r1, r2, _⟩ := ra
  unfold gDD at e
  split at e
  · rename_i x y h1 h2
    simp only [Option.map_eq_some_iff] at e
    obtain ⟨z, e1, rfl⟩ := e
    obtain ⟨d1, s1⟩ := relW_pd s r1 h1
    obtain ⟨d2, s2⟩ := relW_pd s r2 h2
    exact ⟨.bl z, .bl z, rfl, by simp [repD], fun Q q => hr H _ _ x y z Q d1 d2 s1 s2 e1 q⟩
  · cases e
end
section
variable {X : Cx} {Wx : WX} {k p k1 p1 k2 p2 : Bool} {e a b : Expr} {m ma mb : ME W} {pos : Pos}
def gEq : W × W → Option W := gDD fEq
def gNe : W × W → Option W := gDD fNe
def gInS (neg : Bool) : W × W → Option W := fun p => match wStr p.1, wStr p.2 with
  | some x, some y => some (.sh (.bl (if neg then !(!(Builtin.Str.occurrences y x 0 y.length 1).isEmpty) else !(Builtin.Str.occurrences y x 0 y.length 1).isEmpty)))
  | _, _ => none
def dFlat : D → Option V
  | .non => some .non
  | .bl b => some (.bl b)
  | .int i => some (.int i)
  | .str s => some (.str s)
  | _ => none
def dFlats : List D → Option (List V)
  | [] => some []
  | d :: ds => match dFlat d, dFlats ds with
    | some x, some xs => some (x :: xs)
    | _, _ => none
theorem dFlat_eq {G : GX} {B : Hp} {d : D} {x v : V} (h : dFlat d = some x) (r : repD G B d v) : v = x ∧ flatV x = true := by
  unfold dFlat at h
  split at h <;> first | (cases h; simp only [repD] at r; exact ⟨r, rfl⟩) | cases h
theorem dFlats_eq {G : GX} {B : Hp} : ∀ {ds : List D} {xs vs : List V}, dFlats ds = some xs → repDs G B ds vs → vs = xs ∧ xs.all flatV = true
  | [], xs, vs, h, r => by simp only [dFlats] at h; cases h; simp only [repDs] at r; simp [r]
  | d :: ds, xs, vs, h, r => by
    simp only [repDs] at r
    obtain ⟨v, r', rfl, r1, r2⟩ := r
    simp only [dFlats] at h
    split at h
    · rename_i x xs' h1 h2
      cases h
      obtain ⟨rfl, f1⟩ := dFlat_eq h1 r1
      obtain ⟨rfl, f2⟩ := dFlats_eq h2 r2
      exact ⟨rfl, by simp [f1, f2]⟩
    · cases h
def gInT (neg : Bool) : W × W → Option W := fun p => match p.1, p.2 with
  | .sh d, .sh (.tup ds) => match dFlat d, dFlats ds with
    | some x, some xs => some (.sh (.bl (if neg then !inV x xs else inV x xs)))
    | _, _ => none
  | _, _ => none
theorem ops_inT {G : GX} (neg : Bool) : OpS (rWW G) (rW G) (fun xy => rIn G.K neg xy.1 xy.2) (gInT neg) := by
  refine ops_flat fun B H a b fp c s ra e => ?_
  obtain ⟨f1, f2, r1, r2, _⟩ := ra
  obtain ⟨a1, a2⟩ := a
  unfold gInT at e
  simp only at e r1 r2
  split at e
  · rename_i d ds
    have r1 : relW _ _ _ _ _ _ := r1
    have r2 : relW _ _ _ _ _ _ := r2
    simp only [relW, repD] at r1 r2
    obtain ⟨⟨p, vs, e2, h2, h3⟩, _⟩ := r2
    split at e
    · rename_i x xs h4 h5
      cases e
      obtain ⟨e1, fx⟩ := dFlat_eq h4 r1.1
      obtain ⟨e3, fs⟩ := dFlats_eq h5 h3
      subst e3
      exact ⟨.bl _, .bl (if neg then !inV x vs else inV x vs), rfl, by simp [repD], fun Q q => ⟨p, _, e2, .inr (sqT_of_same s h2), by rw [e1]; exact fx, fs, by rw [e1]; exact q⟩⟩
    · cases e
  · cases e
theorem ops_inS {G : GX} : OpS (rWW G) (rW G) (fun xy => (fun x y H (Q : VK) => ∃ i j, x = V.str i ∧ y = V.str j ∧ Q (.bl (!(Builtin.Str.occurrences j i 0 j.length 1).isEmpty)) H) xy.1 xy.2) (gInS false) := by
  refine ops_flat fun B H a b fp c s ra e => ?_
  obtain ⟨f1, f2, r1, r2, _⟩ := ra
  unfold gInS at e
  split at e
  · rename_i x y h1 h2
    cases e
    rw [wStr_eq h1] at r1
    rw [wStr_eq h2] at r2
    have r1 : relW _ _ _ _ _ _ := r1
    have r2 : relW _ _ _ _ _ _ := r2
    simp only [relW, repD] at r1 r2
    exact ⟨.bl _, .bl _, rfl, by simp [repD], fun Q q => ⟨x, y, r1.1, r2.1, q⟩⟩
  · cases e
def gIn : W × W → Option W := fun p => (gDD fIn p).or ((gInT false p).or (gInS false p))
def gLt := gII (fun _ _ => true) fun i j => .bl (decide (i < j))
def gGt := gII (fun _ _ => true) fun i j => .bl (decide (j < i))
def gGe := gII (fun _ _ => true) fun i j => .bl (decide (j ≤ i))
def gSub := gII (fun _ _ => true) fun i j => .int (i - j)
def gMulI := gII (fun i j => decide (i.natAbs.log2 + j.natAbs.log2 < 100000000)) fun i j => .int (i * j)
def gDivP := gII (fun _ j => decide (0 < j) && decide (j.natAbs.log2 < 9000)) fun i j => .int (i / j)
def gDivN := gII (fun _ j => decide (j ≠ 0) && decide (j.natAbs < 1073741824)) fun i j => .int (i.fdiv j)
def gModP := gII (fun _ j => decide (0 < j)) fun i j => .int (i % j)
def gModN := gII (fun _ j => decide (j ≠ 0)) fun i j => .int (i.fmod j)
def gPow := gII (fun i j => decide (0 ≤ j) && decide (j ≤ 1000000) && decide (i.natAbs < 2 ^ 64)) fun i j => .int (i ^ j.toNat)
def gDiv : W × W → Option W := fun p => (gDivP p).or (gDivN p)
def gMod : W × W → Option W := fun p => (gModP p).or (gModN p)
theorem se_sub (ha : SE X Wx k1 p1 a ma) (hb : SE X Wx k2 p2 b mb) (hc : k1 = true ∨ p2 = true := by decide) : SE X Wx true (p1 && p2) (.BinOp a .Sub b pos) (mOp2 gSub ma mb) := se_op op_sub (ops_II0 fun _ _ _ => by simp [repD]) ha hb hc
theorem se_fdiv (ha : SE X Wx k1 p1 a ma) (hb : SE X Wx k2 p2 b mb) (hc : k1 = true ∨ p2 = true := by decide) : SE X Wx true (p1 && p2) (.BinOp a .FloorDiv b pos) (mOp2 gDiv ma mb) :=
  se_op (OpR.or op_fdivW op_fdivN) (OpS.or (ops_II (fun i j h => by simpa [CDivW] using h) fun _ _ _ => by simp [repD]) (ops_II (fun i j h => by simpa [CDivN] using h) fun _ _ _ => by simp [repD])) ha hb hc
theorem se_mod (ha : SE X Wx k1 p1 a ma) (hb : SE X Wx k2 p2 b mb) (hc : k1 = true ∨ p2 = true := by decide) : SE X Wx true (p1 && p2) (.BinOp a .Mod b pos) (mOp2 gMod ma mb) :=
  se_op (OpR.or op_mod op_modN) (OpS.or (ops_II (fun i j h => by simpa using h) fun _ _ _ => by simp [repD]) (ops_II (fun i j h => by simpa using h) fun _ _ _ => by simp [repD])) ha hb hc
theorem se_pow (ha : SE X Wx k1 p1 a ma) (hb : SE X Wx k2 p2 b mb) (hc : k1 = true ∨ p2 = true := by decide) : SE X Wx true (p1 && p2) (.BinOp a .Pow b pos) (mOp2 gPow ma mb) :=
  se_op op_pow (ops_II (fun i j h => by simp only [Bool.and_eq_true, decide_eq_true_eq] at h; exact ⟨h.1.1, h.1.2, h.2⟩) fun _ _ _ => by simp [repD]) ha hb hc
def gNeg := gI fun i => .int (-i)
theorem se_neg (ha : SE X Wx k1 p1 a ma) : SE X Wx true p1 (.UnaryOp .USub a pos) (mOp1 gNeg ma) := se_un un_neg (ops_I fun _ _ => by simp [repD]) ha
def gAddI := gII (fun _ _ => true) fun i j => .int (i + j)
def gAddS : W × W → Option W := fun p => match wStr p.1, wStr p.2 with
  | some x, some y => if x.length + y.length ≤ 100000 then some (.sh (.str (x ++ y))) else none
  | _, _ => none
def wEls : W → Option (List D)
  | .sh (.lst ds) => some ds
  | .ol ws => shsOf ws
  | _ => none
def wTEls : W → Option (List D)
  | .sh (.tup ds) => some ds
  | _ => none
theorem wEls_eq {G : GX} {B H : Hp} {w : W} {v : V} {f : List Addr} {ds : List D} (s : Same B H) (r : relW G B H w v f) (e : wEls w = some ds) : ∃ a vs, v = .ref a ∧ H a = some (.lst vs) ∧ repDs G B ds vs := by
  unfold wEls at e
  split at e
  · cases e
    simp only [relW, repD] at r
    obtain ⟨⟨a, vs, h1, h2, h3⟩, _⟩ := r
    exact ⟨a, vs, h1, s _ _ h2, h3⟩
  · rename_i ws
    simp only [relW] at r
    obtain ⟨p, vs, g, h1, h2, h3, _⟩ := r
    rw [shsOf_eq e] at h3
    exact ⟨p, vs, h1, h2, (relWs_shs h3).1⟩
  · cases e
def gCat : W × W → Option W := fun p => match wEls p.1, wEls p.2 with
  | some x, some y => if x.length + y.length ≤ 100000 then some (.ol ((x ++ y).map W.sh)) else none
  | _, _ => none
theorem ops_addS {G : GX} : OpS (rWW G) (rW G) (fun xy => (fun x y H (Q : VK) => ∃ i j, x = V.str i ∧ y = V.str j ∧ i.length + j.length ≤ sizeLine ∧ Q (.str (i ++ j)) H) xy.1 xy.2) gAddS := by
  refine ops_flat fun B H a b fp c s ra e => ?_
  obtain ⟨f1, f2, r1, r2, _⟩ := ra
  unfold gAddS at e
  split at e
  · rename_i x y h1 h2
    split at e
    · rename_i h3
      cases e
      rw [wStr_eq h1] at r1
      rw [wStr_eq h2] at r2
      have r1 : relW _ _ _ _ _ _ := r1
      have r2 : relW _ _ _ _ _ _ := r2
      simp only [relW, repD] at r1 r2
      exact ⟨.str _, .str _, rfl, by simp [repD], fun Q q => ⟨x, y, r1.1, r2.1, sz_ok h3, q⟩⟩
    · cases e
  · cases e
theorem ops_cat {G : GX} : OpS (rWW G) (rW G) (fun xy => rCat xy.1 xy.2) gCat := by
  refine ops_newL fun B H a b fp c s ra e => ?_
  obtain ⟨f1, f2, r1, r2, _⟩ := ra
  unfold gCat at e
  split at e
  · rename_i x y h1 h2
    split at e
    · rename_i h3
      cases e
      obtain ⟨l1, v1, e1, g1, d1⟩ := wEls_eq s r1 h1
      obtain ⟨l2, v2, e2, g2, d2⟩ := wEls_eq s r2 h2
      exact ⟨x ++ y, v1 ++ v2, rfl, repDs_append d1 d2, fun Q q => ⟨l1, l2, v1, v2, e1, e2, g1, g2, by rw [← repDs_length d1, ← repDs_length d2]; exact sz_ok h3, q⟩⟩
    · cases e
  · cases e
def gAdd : W × W → Option W := fun p => (gAddI p).or ((gAddS p).or (gCat p))
theorem se_add (ha : SE X Wx k1 p1 a ma) (hb : SE X Wx k2 p2 b mb) (hc : k1 = true ∨ p2 = true := by decide) : SE X Wx true (p1 && p2) (.BinOp a .Add b pos) (mOp2 gAdd ma mb) :=
  se_op (OpR.or op_add (OpR.or op_add_str op_cat)) (OpS.or (ops_II0 fun _ _ _ => by simp [repD]) (OpS.or ops_addS ops_cat)) ha hb hc
def gRep : W × W → Option W := fun p => match wEls p.1, wInt p.2 with
  | some x, some k => if x.length * k.toNat ≤ 100000 ∧ -100000 ≤ k ∧ k ≤ 100000 then some (.ol ((List.replicate k.toNat x).flatten.map W.sh)) else none
  | _, _ => none
theorem repDs_flatten {G : GX} {B : Hp} {ds : List D} {vs : List V} (h : repDs G B ds vs) : ∀ n : Nat, repDs G B (List.replicate n ds).flatten (List.replicate n vs).flatten
  | 0 => by simp [repDs]
  | n + 1 => by
    simp only [List.replicate_succ, List.flatten_cons]
    exact repDs_append h (repDs_flatten h n)
theorem ops_rep {G : GX} : OpS (rWW G) (rW G) (fun xy => rRep xy.1 xy.2) gRep := by
  refine ops_newL fun B H a b fp c s ra e => ?_
  obtain ⟨f1, f2, r1, r2, _⟩ := ra
  unfold gRep at e
  split at e
  · rename_i x k h1 h2
    split at e
    · rename_i h3
      cases e
      obtain ⟨l1, v1, e1, g1, d1⟩ := wEls_eq s r1 h1
      rw [wInt_eq h2] at r2
      have r2 : relW _ _ _ _ _ _ := r2
      simp only [relW, repD] at r2
      exact ⟨_, _, rfl, repDs_flatten d1 k.toNat, fun Q q => ⟨l1, k, v1, e1, r2.1, g1, by omega, by omega, by rw [← repDs_length d1]; exact sz_ok h3.1, q⟩⟩
    · cases e
  · cases e
theorem mulX_log {i j : Int} (h : decide (i.natAbs.log2 + j.natAbs.log2 < 100000000) = true) : CMulX i j := by
  have h1 := of_decide_eq_true h
  exact mulx_ok (Nat.lt_log2_self) (Nat.lt_log2_self) (show i.natAbs.log2 + 1 + (j.natAbs.log2 + 1) ≤ 134217728 by omega)
def gMul : W × W → Option W := fun p => (gMulI p).or (gRep p)
theorem se_mul (ha : SE X Wx k1 p1 a ma) (hb : SE X Wx k2 p2 b mb) (hc : k1 = true ∨ p2 = true := by decide) : SE X Wx true (p1 && p2) (.BinOp a .Mult b pos) (mOp2 gMul ma mb) :=
  se_op (OpR.or op_mulX op_rep) (OpS.or (ops_II (fun i j h => mulX_log h) fun _ _ _ => by simp [repD]) ops_rep) ha hb hc
end
end AM
namespace AM
open PySem L2
def CR (X : Cx) (op : CmpOp) (b : Expr) (g : W × W → Option W) : Prop := ∃ r : R2, OpR X (compareOp op) r ∧ OpS (rWW (gx X)) (rW (gx X)) (fun xy => r xy.1 xy.2) g ∧ behindInMarks op b = false
section
variable {X : Cx} {Wx : WX} {k p k1 p1 k2 p2 k3 p3 : Bool} {e a b c : Expr} {m ma mb mc : ME W} {pos : Pos}
theorem cr_lt : CR X .Lt b gLt := ⟨_, op_lt, ops_II0 fun _ _ _ => by simp [repD], nomark _⟩
theorem cr_gt : CR X .Gt b gGt := ⟨_, op_gt, ops_II0 fun _ _ _ => by simp [repD], nomark _⟩
theorem cr_ge : CR X .GtE b gGe := ⟨_, op_ge, ops_II0 fun _ _ _ => by simp [repD], nomark _⟩
theorem cr_eq (hu : X.A.units + 64 < cLine) : CR X .Eq b gEq := ⟨_, op_eqD hu, ops_DD (G := gx X) fun H x y d e b Q h1 h2 h3 h4 hf q => ⟨d, e, h1, h2, h3, h4, by cases hf; exact q⟩, nomark _⟩
theorem cr_ne (hu : X.A.units + 64 < cLine) : CR X .NotEq b gNe := ⟨_, op_neD hu, ops_DD (G := gx X) fun H x y d e b Q h1 h2 h3 h4 hf q => ⟨d, e, h1, h2, h3, h4, by cases hf; exact q⟩, nomark _⟩
theorem cr_in (hu : X.A.units + 65 < cLine) (hm : behindInMarks .In b = false) : CR X .In b gIn := by
  refine ⟨_, OpR.or (op_inD hu) (OpR.or op_in_seq op_in_str), OpS.or (ops_DD (G := gx X) fun H x y d e b Q h1 h2 h3 h4 hf q => ?_) (OpS.or (ops_inT false) ops_inS), hm⟩
  unfold fIn at hf
  split at hf
  · cases hf
    exact ⟨d, _, h1, h2, h3, h4, q⟩
  · cases hf
def wNon : W → Bool
  | .sh .non => true
  | _ => false
theorem wNon_rel {G : GX} {B H : Hp} {w : W} {v : V} {f : List Addr} (r : relW G B H w v f) : decide (v = .non) = wNon w := by
  cases w with
  | sh d =>
    simp only [relW] at r
    cases d with
    | non => simp only [repD] at r; obtain ⟨rfl, _⟩ := r; rfl
    | bl b => simp only [repD] at r; obtain ⟨rfl, _⟩ := r; rfl
    | int b => simp only [repD] at r; obtain ⟨rfl, _⟩ := r; rfl
    | str b => simp only [repD] at r; obtain ⟨rfl, _⟩ := r; rfl
    | lst b => simp only [repD] at r; obtain ⟨⟨a, vs, rfl, _⟩, _⟩ := r; rfl
    | tup b => simp only [repD] at r; obtain ⟨⟨a, vs, rfl, _⟩, _⟩ := r; rfl
    | exc b c => simp only [repD] at r; obtain ⟨⟨a, C, d, rfl, _⟩, _⟩ := r; rfl
    | scr b => simp only [repD] at r; obtain ⟨⟨a, rfl, _⟩, _⟩ := r; rfl
    | obj _ _ _ => simp only [repD] at r; obtain ⟨⟨a, _, _, _, rfl, _⟩, _⟩ := r; rfl
    | fn _ => simp only [repD] at r; obtain ⟨⟨a, rfl, _⟩, _⟩ := r; rfl
    | adr _ => simp only [repD] at r; obtain ⟨rfl, _⟩ := r; rfl
    | la _ _ => simp only [repD] at r; obtain ⟨⟨vs, rfl, _⟩, _⟩ := r; rfl
    | any => simp only [repD] at r; exact (decide_eq_false r.1)
  | ol _ => simp only [relW] at r; obtain ⟨p, _, _, rfl, _⟩ := r; rfl
  | ot _ => simp only [relW] at r; obtain ⟨p, _, rfl, _⟩ := r; rfl
  | ob _ _ _ => simp only [relW] at r; obtain ⟨p, _, _, _, _, rfl, _⟩ := r; rfl
  | dk _ _ => simp only [relW] at r; obtain ⟨p, _, _, rfl, _⟩ := r; rfl
  | dt _ _ => simp only [relW] at r; obtain ⟨p, _, _, rfl, _⟩ := r; rfl
theorem se_c {op : CmpOp} {g : W × W → Option W} (hr : CR X op b g) (ha : SE X Wx k1 p1 a ma) (hb : SE X Wx k2 p2 b mb) (hc : k1 = true ∨ p2 = true := by decide) : SE X Wx true (p1 && p2) (.Compare a [op] [b] pos) (mOp2 g ma mb) := by
  obtain ⟨r, ho, hs, hm⟩ := hr
  exact se_cmp ho hs hm ha hb hc
end
def mB (m : ME W) : ME Bool := m.bind (ME.op wBl)
section
variable {G : GX} {k p : Bool} {Wx : WX} {t : TE} {m : ME W}
theorem ops_bl {G : GX} : OpS (rW G) (rEqv Bool) (fun (x : V) H (Q : Bool → Hp → Prop) => ∃ k, x = .bl k ∧ Q k H) wBl := by
  intro B H a b f c s ra o e Q q
  have e1 := wBl_eq e
  subst e1
  have ra : relW _ _ _ _ _ _ := ra
  simp only [relW, repD] at ra
  exact ⟨c, ra.1, q c H B [] (Same.refl H) (Same.refl B) s (fun _ _ => rfl) (fun x hx => by simp at hx) List.nodup_nil ⟨rfl, rfl⟩⟩
theorem Sim.test (h : Sim G k p Wx (rW G) t m) : Sim G true p Wx (rEqv Bool) (fun σ H Q => t σ H fun x H' => ∃ k, x = .bl k ∧ Q k H') (mB m) := h.op ops_bl
theorem Sim.ite {α β : Type} {R : RR α β} {tt : TT} {mt : ME Bool} {u1 u2 : St → Hp → (β → Hp → Prop) → Prop} {n1 n2 : ME α} {q pq : Bool} (h : Sim G true p Wx (rEqv Bool) tt mt) (h1 : Sim G q pq Wx R u1 n1) (h2 : Sim G q pq Wx R u2 n2) :
    Sim G q (p && pq) Wx R (fun σ H Q => tt σ H fun c H1 => if c = true then u1 σ H1 Q else u2 σ H1 Q) (mt.bind fun c => if c then n1 else n2) := by
  intro B H σ env fp O Q c
  refine h B H σ env fp O _ ?_
  unfold ME.bind at c
  cases e1 : mt env with
  | none => rw [e1] at c; exact c
  | some r1 =>
    obtain ⟨r1, env1⟩ := r1
    rw [e1] at c
    cases r1 with
    | ex x => exact c
    | ok a =>
      intro x H1 B1 f1 fp1 P1
      obtain ⟨ea, ef⟩ := P1.rel
      subst ea ef
      have key : ∀ (u : St → Hp → (β → Hp → Prop) → Prop) (n : ME α), Sim G q pq Wx R u n → Cont G q (p && pq) R Wx B H σ env fp (n env1) Q → u σ H1 Q := fun u n hn cn => by
        refine hn B1 H1 σ env1 fp1 P1.ok Q ?_
        cases e2 : n env1 with
        | none => rw [e2] at cn; exact cn
        | some r2 =>
          obtain ⟨r2, env2⟩ := r2
          rw [e2] at cn
          cases r2 with
          | ex x =>
            intro cls d H2 B2 fp2 O2 S2 hx hd
            refine cn cls d H2 B2 fp2 O2 (P1.step.drop.trans S2) hx fun dd e => ?_
            obtain ⟨a1, a2, a3⟩ := hd dd e
            refine ⟨a1, a2, ?_⟩
            cases q : H dd with
            | none => rfl
            | some o => exact absurd a3 (P1.step.live dd (by simp [q]))
          | ok b =>
            intro y H2 B2 f2 fp2 P2
            refine cn y H2 B2 f2 fp2 ⟨P2.ok, P2.rel, P2.out, P1.step.trans (S := []) P2.step, P2.own, fun hp => ?_⟩
            simp only [Bool.and_eq_true] at hp
            obtain ⟨s1, b1, v1, u1⟩ := P1.pure hp.1
            obtain ⟨s2, b2, v2, u2⟩ := P2.pure hp.2
            exact ⟨fun q o h => s2 q o (s1 q o h), fun q h => (b2 q (P1.step.live q h)).trans (b1 q h), v2.trans v1, u2.trans u1⟩
      show if a = true then _ else _
      cases a with
      | true =>
        rw [if_pos rfl]
        exact key u1 n1 h1 c
      | false =>
        rw [if_neg Bool.false_ne_true]
        exact key u2 n2 h2 c
theorem sim_pureB {b : Bool} {Wx : WX} : Sim G true true Wx (rEqv Bool) (fun _ H Q => Q b H) (ME.pure b) := by
  intro B H σ env fp O Q c
  exact c b H B [] fp ⟨O, ⟨rfl, rfl⟩, fun q hq => by simp at hq, Step.refl (by simp), fun _ => ⟨List.nodup_nil, fun q hq => by simp at hq⟩, fun _ => ⟨Same.refl H, fun _ _ => rfl, rfl, rfl⟩⟩
end
def STw (X : Cx) (Wx : WX) (p : Bool) (e : Expr) (m : ME Bool) : Prop := ∃ t : TT, PW X e t ∧ Sim (gx X) true p Wx (rEqv Bool) t m
def mAnd (a b : ME Bool) : ME Bool := a.bind fun c => if c then b else ME.pure false
def mOr (a b : ME Bool) : ME Bool := a.bind fun c => if c then ME.pure true else b
def mNot (a : ME Bool) : ME Bool := a.bind (ME.op fun c => some (!c))
def mIf {α : Type} (c : ME Bool) (a b : ME α) : ME α := c.bind fun c => if c then a else b
section
variable {X : Cx} {Wx : WX} {k p k1 p1 k2 p2 k3 p3 : Bool} {e a b c : Expr} {es : List Expr} {m ma mb mc : ME W} {n na nb : ME Bool} {pos : Pos}
theorem st_c {op : CmpOp} {g : W × W → Option W} (hr : CR X op b g) (ha : SE X Wx k1 p1 a ma) (hb : SE X Wx k2 p2 b mb) (hc : k1 = true ∨ p2 = true := by decide) : STt X Wx (p1 && p2) (.Compare a [op] [b] pos) (mB (mOp2 g ma mb)) := by
  obtain ⟨r, ho, hs, hm⟩ := hr
  obtain ⟨ta, pa, sa⟩ := ha
  obtain ⟨tb, pb, sb⟩ := hb
  exact ⟨_, pt_cmpR ho pa pb hm, ((Sim.pair (rW_good _) sa sb hc).op hs).test⟩
theorem st_val (ha : SE X Wx k p a ma) (he : ∀ whole, isTrue a X.env whole = (do let v ← whole; standAt a.pos; holding [v] (truthy v)) := by intro _; rfl) : STt X Wx p a (mB ma) := by
  obtain ⟨ta, pa, sa⟩ := ha
  exact ⟨_, pt_val pa he, sa.test⟩
theorem sw_and1 (ha : STt X Wx p a na) : STw X Wx p (.BoolOp .And [a] pos) na := by
  obtain ⟨t, pa, s⟩ := ha
  exact ⟨t, pw_and1 pa, s⟩
theorem sw_or1 (ha : STt X Wx p a na) : STw X Wx p (.BoolOp .Or [a] pos) na := by
  obtain ⟨t, pa, s⟩ := ha
  exact ⟨t, pw_or1 pa, s⟩
theorem sw_and (ha : STt X Wx p1 a na) (hb : STw X Wx p2 (.BoolOp .And (b :: es) pos) nb) : STw X Wx (p1 && p2) (.BoolOp .And (a :: b :: es) pos) (mAnd na nb) := by
  obtain ⟨t, pa, s⟩ := ha
  obtain ⟨u, pb, s2⟩ := hb
  refine ⟨_, pw_and pa pb, ?_⟩
  have hf : Sim (gx X) true p2 Wx (rEqv Bool) (fun _ H Q => Q false H) (ME.pure false) := by
    cases p2
    · exact sim_pureB.unpure false
    · exact sim_pureB
  exact Sim.ite s s2 hf
theorem sw_or (ha : STt X Wx p1 a na) (hb : STw X Wx p2 (.BoolOp .Or (b :: es) pos) nb) : STw X Wx (p1 && p2) (.BoolOp .Or (a :: b :: es) pos) (mOr na nb) := by
  obtain ⟨t, pa, s⟩ := ha
  obtain ⟨u, pb, s2⟩ := hb
  refine ⟨_, pw_or pa pb, ?_⟩
  have hf : Sim (gx X) true p2 Wx (rEqv Bool) (fun _ H Q => Q true H) (ME.pure true) := by
    cases p2
    · exact sim_pureB.unpure false
    · exact sim_pureB
  exact Sim.ite s hf s2
theorem st_w (h : STw X Wx p e n) : STt X Wx p e n := by
  obtain ⟨t, pa, s⟩ := h
  exact ⟨t, pa.pt, s⟩
theorem st_not (ha : STt X Wx p a na) : STt X Wx p (.UnaryOp .Not a pos) (mNot na) := by
  obtain ⟨t, pa, s⟩ := ha
  refine ⟨_, pt_not pa, ?_⟩
  refine s.op (T := rEqv Bool) (r := fun c H Q => Q (!c) H) ?_
  intro B H a b f c sb ra o e Q q
  cases e
  obtain ⟨rfl, rfl⟩ := ra
  exact q _ H B [] (Same.refl H) (Same.refl B) sb (fun _ _ => rfl) (fun x hx => by simp at hx) List.nodup_nil ⟨rfl, rfl⟩
theorem se_one {op} (h : SE X Wx k p a m) : SE X Wx k p (.BoolOp op [a] pos) m := by
  obtain ⟨t, pa, s⟩ := h
  exact ⟨t, pe_one pa, s⟩
def mAndV (a b : ME W) : ME W := (mB a).bind fun c => if c then b else mC (.bl false)
def mOrV (a b : ME W) : ME W := (mB a).bind fun c => if c then mC (.bl true) else b
theorem se_andV (ha : SE X Wx k1 p1 a ma) (hb : SE X Wx true p2 (.BoolOp .And (b :: es) pos) mb) : SE X Wx true (p1 && p2) (.BoolOp .And (a :: b :: es) pos) (mAndV ma mb) := by
  obtain ⟨t, pa, s⟩ := ha
  obtain ⟨u, pb, s2⟩ := hb
  refine ⟨_, pe_and pa pb, ?_⟩
  have hf : Sim (gx X) true p2 Wx (rW (gx X)) (tC (.bl false)) (mC (.bl false)) := by
    cases p2
    · exact (sim_c fun _ => by simp [repD]).unpure false
    · exact sim_c fun _ => by simp [repD]
  exact Sim.ite s.test s2 hf
theorem se_orV (ha : SE X Wx k1 p1 a ma) (hb : SE X Wx true p2 (.BoolOp .Or (b :: es) pos) mb) : SE X Wx true (p1 && p2) (.BoolOp .Or (a :: b :: es) pos) (mOrV ma mb) := by
  obtain ⟨t, pa, s⟩ := ha
  obtain ⟨u, pb, s2⟩ := hb
  refine ⟨_, pe_or pa pb, ?_⟩
  have hf : Sim (gx X) true p2 Wx (rW (gx X)) (tC (.bl true)) (mC (.bl true)) := by
    cases p2
    · exact (sim_c fun _ => by simp [repD]).unpure false
    · exact sim_c fun _ => by simp [repD]
  exact Sim.ite s.test hf s2
def gNotV : W → Option W := fun w => (wBl w).map fun b => .sh (.bl (!b))
theorem se_not (ha : SE X Wx k p a m) : SE X Wx true p (.UnaryOp .Not a pos) (mOp1 gNotV m) := by
  obtain ⟨t, pa, s⟩ := ha
  refine ⟨_, pe_not pa, s.op (r := fun x H Q => ∃ c, x = .bl c ∧ Q (.bl (!c)) H) (ops_flat fun B H a b fp c sb ra e => ?_)⟩
  unfold gNotV at e
  simp only [Option.map_eq_some_iff] at e
  obtain ⟨i, h1, rfl⟩ := e
  rw [wBl_eq h1] at ra
  have ra : relW _ _ _ _ _ _ := ra
  simp only [relW, repD] at ra
  exact ⟨.bl _, .bl _, rfl, by simp [repD], fun Q q => ⟨i, ra.1, q⟩⟩
theorem se_if (hc : STt X Wx p c n) (ha : SE X Wx k p1 a ma) (hb : SE X Wx k p1 b mb) : SE X Wx k (p && p1) (.IfExp c a b pos) (mIf n ma mb) := by
  obtain ⟨t, pc, s⟩ := hc
  obtain ⟨ta, pa, sa⟩ := ha
  obtain ⟨tb, pb, sb⟩ := hb
  exact ⟨_, pe_ifExp pc pa pb, Sim.ite s sa sb⟩
def gIx : W × W → Option W := fun p => match wInt p.2 with
  | none => none
  | some i => match p.1 with
    | .sh (.lst ds) => (atI ds i).map W.sh
    | .sh (.tup ds) => (atI ds i).map W.sh
    | .sh (.scr ns) => (atI ns i).map fun n => .sh (.int n)
    | .sh (.str z) => if z.length ≤ 100000 then (atI z.cps.toList i).map fun c => .sh (.str ⟨#[c]⟩) else none
    | .ol ws => atI ws i
    | .ot ws => atI ws i
    | _ => none
theorem atI_rel {α β : Type} {xs : List α} {ys : List β} {i : Int} {x : α} (hl : xs.length = ys.length) (h : atI xs i = some x) : ∃ j, ixN xs.length i = some j ∧ xs[j]? = some x ∧ ∀ y, ys[j]? = some y → atI ys i = some y := by
  unfold atI at h
  simp only [Option.bind_eq_some_iff] at h
  obtain ⟨j, h1, h2⟩ := h
  refine ⟨j, h1, h2, fun y hy => ?_⟩
  unfold atI
  rw [← hl, h1]
  exact hy
theorem opp_ix {G : GX} : OpP (rWW G) (rW G) (fun xy => rIx G.K xy.1 xy.2) gIx := by
  intro B H a b f c s ra e Q q
  obtain ⟨f1, f2, r1, r2, rfl⟩ := ra
  obtain ⟨a1, a2⟩ := a
  unfold gIx at e
  simp only at e r1 r2
  split at e
  · cases e
  · rename_i i hi
    rw [wInt_eq hi] at r2
    replace r2 : relW _ _ _ _ _ _ := r2
    simp only [relW, repD] at r2
    obtain ⟨r2, rfl⟩ := r2
    replace r1 : relW _ _ _ _ _ _ := r1
    split at e
    · rename_i ds
      simp only [Option.map_eq_some_iff] at e
      obtain ⟨d, e1, rfl⟩ := e
      simp only [relW, repD] at r1
      obtain ⟨⟨p, vs, h1, h2, h3⟩, rfl⟩ := r1
      obtain ⟨j, j1, j2, j3⟩ := atI_rel (repDs_length h3) e1
      obtain ⟨v, j4, j5⟩ := repDs_get h3 j2
      refine .inl ⟨p, vs, i, v, h1, r2, SqL.of (s _ _ h2), j3 v j4, q v [] (by simp) (fun _ => List.nodup_nil) ?_⟩
      show relW _ _ _ _ _ _
      simp only [relW]
      exact ⟨j5, trivial⟩
    · rename_i ds
      simp only [Option.map_eq_some_iff] at e
      obtain ⟨d, e1, rfl⟩ := e
      simp only [relW, repD] at r1
      obtain ⟨⟨p, vs, h1, h2, h3⟩, rfl⟩ := r1
      obtain ⟨j, j1, j2, j3⟩ := atI_rel (repDs_length h3) e1
      obtain ⟨v, j4, j5⟩ := repDs_get h3 j2
      refine .inr (.inl ⟨p, vs, i, v, h1, r2, sqT_of_same s h2, j3 v j4, q v [] (by simp) (fun _ => List.nodup_nil) ?_⟩)
      show relW _ _ _ _ _ _
      simp only [relW]
      exact ⟨j5, trivial⟩
    · rename_i ns
      simp only [Option.map_eq_some_iff] at e
      obtain ⟨d, e1, rfl⟩ := e
      simp only [relW, repD] at r1
      obtain ⟨⟨p, h1, h2⟩, rfl⟩ := r1
      obtain ⟨j, j1, j2, j3⟩ := atI_rel (xs := ns) (ys := ns.map V.int) (by simp) e1
      refine .inl ⟨p, _, i, .int d, h1, r2, Same.seq s h2, j3 _ (by simp [j2]), q _ [] (by simp) (fun _ => List.nodup_nil) ?_⟩
      show relW _ _ _ _ _ _
      simp [relW, repD]
    · rename_i z
      split at e
      · rename_i hz
        simp only [Option.map_eq_some_iff] at e
        obtain ⟨d, e1, rfl⟩ := e
        simp only [relW, repD] at r1
        obtain ⟨h1, rfl⟩ := r1
        refine .inr (.inr ⟨z, i, d, h1, r2, sz_ok hz, e1, q _ [] (by simp) (fun _ => List.nodup_nil) ?_⟩)
        show relW _ _ _ _ _ _
        simp [relW, repD]
      · cases e
    · rename_i ws
      simp only [relW] at r1
      obtain ⟨p, vs, g, h1, h2, h3, rfl⟩ := r1
      obtain ⟨j, j1, j2, j3⟩ := atI_rel (relWs_length h3) e
      obtain ⟨w1, w2, v1, v, v2, g1, g0, g2, rfl, rfl, l1, l2, rfl, r3, r4, r5⟩ := relWs_split h3 j2
      refine .inl ⟨p, _, i, v, h1, r2, SqL.of h2, j3 v (get_mid l2), q v g0 (by grind) (fun nd => ?_) r4⟩
      grind
    · rename_i ws
      simp only [relW] at r1
      obtain ⟨p, vs, h1, h2, h3⟩ := r1
      obtain ⟨j, j1, j2, j3⟩ := atI_rel (relWs_length h3) e
      obtain ⟨w1, w2, v1, v, v2, g1, g0, g2, rfl, rfl, l1, l2, rfl, r3, r4, r5⟩ := relWs_split h3 j2
      refine .inr (.inl ⟨p, _, i, v, h1, r2, SqT.of (s _ _ h2), j3 v (get_mid l2), q v g0 (by grind) (fun nd => ?_) r4⟩)
      grind
    · cases e
def mIx (ma mb : ME W) : ME W := (ma.bind fun a => mb.bind fun b => ME.pure (a, b)).bind (ME.op gIx)
theorem se_ix (ha : SE X Wx k1 p1 a ma) (hb : SE X Wx k2 p2 b mb) (hs : PlainIx b) (hc : k1 = true ∨ p2 = true := by decide) : SE X Wx (k1 && k2) (p1 && p2) (.Subscript a b pos) (mIx ma mb) := by
  obtain ⟨ta, pa, sa⟩ := ha
  obtain ⟨tb, pb, sb⟩ := hb
  exact ⟨_, pe_ix ix_seq pa pb hs, (Sim.pair (rW_good _) sa sb hc).opP opp_ix⟩
end
def SO (X : Cx) (Wx : WX) (p : Bool) (e : Option Expr) (m : ME (Option Int)) : Prop := ∃ t : TO, PO X e t ∧ Sim (gx X) true p Wx (rEqv (Option Int)) t m
def mNoPart : ME (Option Int) := ME.pure none
def mPart (m : ME W) : ME (Option Int) := m.bind (ME.op fun w => (wInt w).map some)
def cutL {α : Type} (xs : List α) (lo hi : Option Int) : List α := (xs.drop (HT.sIx xs.length 0 lo)).take (HT.sIx xs.length xs.length hi - HT.sIx xs.length 0 lo)
def gSl : W × (Option Int × Option Int) → Option W := fun p => match p.1 with
  | .sh (.str z) => if z.length ≤ 100000 then some (.sh (.str (cutS z p.2.1 p.2.2))) else none
  | .sh (.tup ds) => some (.sh (.tup (cutL ds p.2.1 p.2.2)))
  | w => (wEls w).map fun ds => .ol ((cutL ds p.2.1 p.2.2).map W.sh)
def mSl (m : ME W) (lo hi : ME (Option Int)) : ME W := (m.bind fun a => (lo.bind fun b => hi.bind fun c => ME.pure (b, c)).bind fun d => ME.pure (a, d)).bind (ME.op gSl)
section
variable {X : Cx} {Wx : WX} {k p k1 p1 k2 p2 k3 p3 : Bool} {e a b c : Expr} {es : List Expr} {m ma mb mc : ME W} {pos p2' : Pos} {lo hi : Option Expr} {ml mh : ME (Option Int)}
theorem so_none : SO X Wx true none mNoPart := by
  refine ⟨_, po_none, ?_⟩
  intro B H σ env fp O Q c
  exact c none H B [] fp ⟨O, ⟨rfl, rfl⟩, fun q hq => by simp at hq, Step.refl (by simp), fun _ => ⟨List.nodup_nil, fun q hq => by simp at hq⟩, fun _ => ⟨Same.refl H, fun _ _ => rfl, rfl, rfl⟩⟩
theorem so_some (h : SE X Wx k p e m) : SO X Wx p (some e) (mPart m) := by
  obtain ⟨t, pe, s⟩ := h
  refine ⟨_, po_some pe, s.op (T := rEqv (Option Int)) (r := fun (x : V) H (Q : Option Int → Hp → Prop) => ∃ i, x = V.int i ∧ Q (some i) H) ?_⟩
  intro B H a b f c sb ra o e Q q
  simp only [Option.map_eq_some_iff] at e
  obtain ⟨i, e1, rfl⟩ := e
  rw [wInt_eq e1] at ra
  have ra : relW _ _ _ _ _ _ := ra
  simp only [relW, repD] at ra
  exact ⟨i, ra.1, q _ H B [] (Same.refl H) (Same.refl B) sb (fun _ _ => rfl) (fun x hx => by simp at hx) List.nodup_nil ⟨rfl, rfl⟩⟩
theorem repDs_take {G : GX} {B : Hp} : ∀ {ds : List D} {vs : List V} (n : Nat), repDs G B ds vs → repDs G B (ds.take n) (vs.take n)
  | _, _, 0, _ => by simp [repDs]
  | [], vs, n + 1, h => by simp only [repDs] at h; subst h; simp [repDs]
  | d :: ds, vs, n + 1, h => by
    simp only [repDs] at h
    obtain ⟨v, r, rfl, h1, h2⟩ := h
    simp only [List.take_succ_cons, repDs]
    exact ⟨v, r.take n, rfl, h1, repDs_take n h2⟩
theorem repDs_drop {G : GX} {B : Hp} : ∀ {ds : List D} {vs : List V} (n : Nat), repDs G B ds vs → repDs G B (ds.drop n) (vs.drop n)
  | _, _, 0, h => by simpa using h
  | [], vs, n + 1, h => by simp only [repDs] at h; subst h; simp [repDs]
  | d :: ds, vs, n + 1, h => by
    simp only [repDs] at h
    obtain ⟨v, r, rfl, h1, h2⟩ := h
    simp only [List.drop_succ_cons]
    exact repDs_drop n h2
theorem repDs_cut {G : GX} {B : Hp} {ds : List D} {vs : List V} (h : repDs G B ds vs) (lo hi : Option Int) : repDs G B (cutL ds lo hi) (cutV vs lo hi) := by
  unfold cutL cutV
  rw [repDs_length h]
  exact repDs_take _ (repDs_drop _ h)
def rSlAll (K : PySem.W.Frag) : V → Option Int → Option Int → Hp → VK → Prop := fun x lo hi H Q => rSlS x lo hi H Q ∨ (rSlA K x lo hi H Q ∨ rSlL K x lo hi H Q)
theorem opp_sl {G : GX} : OpS (rPair (rW G) (rPair (rEqv (Option Int)) (rEqv (Option Int)))) (rW G) (fun (b : V × (Option Int × Option Int)) H Q => rSlAll G.K b.1 b.2.1 b.2.2 H Q) gSl := by
  intro B H a b f c s ra o e Q q
  obtain ⟨f1, f2, r1, ⟨f3, f4, ⟨e3, rfl⟩, ⟨e4, rfl⟩, rfl⟩, rfl⟩ := ra
  obtain ⟨a1, a2, a3⟩ := a
  obtain ⟨b1, b2, b3⟩ := b
  simp only at e3 e4 r1
  subst e3 e4
  replace r1 : relW _ _ _ _ _ _ := r1
  unfold gSl at e
  simp only at e
  split at e
  · rename_i z
    split at e
    · rename_i hz
      cases e
      simp only [relW, repD] at r1
      refine .inl ⟨z, r1.1, sz_ok hz, q _ H B [] (Same.refl H) (Same.refl B) s (fun _ _ => rfl) (fun x hx => by simp at hx) List.nodup_nil ?_⟩
      show relW _ _ _ _ _ _
      simp [relW, repD]
    · cases e
  · rename_i ds
    cases e
    simp only [relW, repD] at r1
    obtain ⟨⟨p, vs, h1, h2, h3⟩, _⟩ := r1
    refine .inr (.inl ⟨p, vs, h1, sqT_of_same s h2, fun hw => ?_, fun hn p2 np => ?_⟩)
    · refine q _ H B [] (Same.refl H) (Same.refl B) s (fun _ _ => rfl) (fun x hx => by simp at hx) List.nodup_nil ?_
      show relW _ _ _ _ _ _
      simp only [relW, repD]
      refine ⟨⟨p, vs, rfl, h2, ?_⟩, trivial⟩
      have : cutL ds a2 a3 = ds := by
        unfold cutL
        rw [repDs_length h3, hw.1, hw.2]
        simp [← repDs_length h3]
      rw [this]
      exact h3
    · have nB := none_of_sub s np
      have sB : Same B (upd B p2 (.tup (cutV vs a2 a3))) := same_new nB
      refine q _ _ (upd B p2 (.tup (cutV vs a2 a3))) [] (same_new np) sB (fun a u z => ?_) (fun a ha => by rw [upd_ne (fun z => ha (by rw [z]; exact np))]) (fun x hx => by simp at hx) List.nodup_nil ?_
      · by_cases ea : a = p2
        · subst ea
          rw [upd_same] at z ⊢
          exact z
        · rw [upd_ne ea] at z ⊢
          exact s a u z
      · show relW _ _ _ _ _ _
        simp only [relW, repD]
        exact ⟨⟨p2, _, rfl, SqT.of upd_same, repDs_mono sB (repDs_cut h3 _ _)⟩, trivial⟩
  · simp only [Option.map_eq_some_iff] at e
    obtain ⟨ds, e1, rfl⟩ := e
    obtain ⟨l, vs, h1, h2, h3⟩ := wEls_eq s r1 e1
    refine .inr (.inr ⟨l, vs, h1, SqL.of h2, fun p np => ?_⟩)
    have nB := none_of_sub s np
    have sm : Same H (upd H p (.lst (cutV vs a2 a3))) := same_new np
    refine q _ _ B [p] sm (Same.refl B) (s.trans sm) (fun _ _ => rfl) (fun x hx => by simp at hx; subst hx; exact ⟨np, nB⟩) (by simp) ?_
    show relW _ _ _ _ _ _
    simp only [relW]
    exact ⟨p, _, [], rfl, upd_same, relWs_sh (repDs_cut h3 _ _), rfl⟩
theorem se_sl (ha : SE X Wx k1 p1 e m) (hl : SO X Wx p2 lo ml) (hh : SO X Wx p3 hi mh) (hc : k1 = true ∨ (p2 && p3) = true := by decide) : SE X Wx true (p1 && (p2 && p3)) (.Subscript e (.Slice lo hi none p2') pos) (mSl m ml mh) := by
  obtain ⟨ta, pa, sa⟩ := ha
  obtain ⟨tl, pl, sl⟩ := hl
  obtain ⟨th, ph, sh⟩ := hh
  exact ⟨_, pe_slice (SlR.or sl_str (SlR.or sl_tupA sl_list)) pa pl ph, (Sim.pair (rW_good _) sa (Sim.pair (rEqv_good _) sl sh (.inl rfl)) hc).op opp_sl⟩
end
end AM
namespace AM
open PySem L2
abbrev Path := Nat × List Nat
def kids : W → Option (List W)
  | .ol ws => some ws
  | .ot ws => some ws
  | .ob _ _ ws => some ws
  | _ => none
def setKid (w : W) (j : Nat) (x : W) : W := match w with
  | .ol ws => .ol (ws.set j x)
  | .ot ws => .ot (ws.set j x)
  | .ob c fs ws => .ob c fs (ws.set j x)
  | w => w
def getP : W → List Nat → Option W
  | w, [] => some w
  | w, j :: js => match (kids w).bind (·[j]?) with
    | some x => getP x js
    | none => none
def putP : W → List Nat → W → Option W
  | _, [], x => some x
  | w, j :: js, x => match (kids w).bind (·[j]?) with
    | some y => (putP y js x).map fun z => setKid w j z
    | none => none
def getE (env : Env) (path : Path) : Option W := match env[path.1]? with
  | some (some w) => getP w path.2
  | _ => none
def setE (env : Env) (path : Path) (x : W) : Option Env := match env[path.1]? with
  | some (some w) => (putP w path.2 x).map fun u => env.set path.1 (some u)
  | _ => none
def locV (H : Hp) : V → List Nat → V → Prop
  | v, [], u => u = v
  | v, j :: js, u => ∃ a x, v = .ref a ∧ ((∃ vs, H a = some (.lst vs) ∧ vs[j]? = some x) ∨ (∃ vs, H a = some (.tup vs) ∧ vs[j]? = some x) ∨ ∃ C dx fs, H a = some (.ins C dx fs) ∧ fs[j]?.map Prod.snd = some x) ∧ locV H x js u
def locE (H : Hp) (σ : St) (path : Path) (u : V) : Prop := ∃ v, σ[path.1]? = some (some v) ∧ locV H v path.2 u
section
variable {G : GX} {B H H' : Hp} {σ : St} {env : Env}
theorem locV_mono (s : Same H H') : ∀ {js : List Nat} {v u : V}, locV H v js u → locV H' v js u
  | [], _, _, h => h
  | j :: js, v, u, ⟨a, x, h1, h2, h3⟩ => by
    refine ⟨a, x, h1, ?_, locV_mono s h3⟩
    rcases h2 with ⟨vs, e, g⟩ | ⟨vs, e, g⟩ | ⟨C, dx, fs, e, g⟩
    · exact .inl ⟨vs, s _ _ e, g⟩
    · exact .inr (.inl ⟨vs, s _ _ e, g⟩)
    · exact .inr (.inr ⟨C, dx, fs, s _ _ e, g⟩)
theorem locE_mono {path : Path} {u : V} (s : Same H H') (h : locE H σ path u) : locE H' σ path u := by
  obtain ⟨v, h1, h2⟩ := h
  exact ⟨v, h1, locV_mono s h2⟩
theorem zip_get {fs : List Str} {vs : List V} {j : Nat} (h : fs.length = vs.length) : (fs.zip vs)[j]?.map Prod.snd = vs[j]? := by
  rw [← List.getElem?_map]
  congr 1
  exact List.map_snd_zip (by omega)
theorem relW_zip (sub : Same B H) : ∀ {js : List Nat} {w w0 : W} {v v0 : V} {f : List Addr}, relW G B H w v f → getP w js = some w0 → locV H v js v0 →
    ∃ f1 g f2, f = f1 ++ (g ++ f2) ∧ relW G B H w0 v0 g ∧ ∀ (B' H' : Hp) (w' : W) (g' : List Addr), Same B B' → (∀ q ∈ f1, H' q = H q) → (∀ q ∈ f2, H' q = H q) → relW G B' H' w' v0 g' →
      ∃ w1, putP w js w' = some w1 ∧ relW G B' H' w1 v (f1 ++ (g' ++ f2))
  | [], w, w0, v, v0, f, r, e, l => by
    simp only [getP, Option.some.injEq] at e
    subst e
    have l' : v0 = v := l
    subst l'
    exact ⟨[], f, [], by simp, r, fun B' H' w' g' _ _ _ r' => ⟨w', rfl, by simpa using r'⟩⟩
  | j :: js, w, w0, v, v0, f, r, e, l => by
    obtain ⟨a, x, h1, h2, h3⟩ := l
    simp only [getP] at e
    split at e
    · rename_i y hy
      simp only [Option.bind_eq_some_iff] at hy
      obtain ⟨ws, k1, k2⟩ := hy
      cases w with
      | sh d => simp [kids] at k1
      | dk _ _ => simp [kids] at k1
      | dt _ _ => simp [kids] at k1
      | ol ws' =>
        simp only [kids, Option.some.injEq] at k1
        subst k1
        simp only [relW] at r
        obtain ⟨p, vs, g, hv, hp, hr, rfl⟩ := r
        rw [hv] at h1
        cases h1
        obtain ⟨w1, w2, v1, u, v2, f1, g0, f2, rfl, rfl, l1, l2, rfl, r1, r2, r3⟩ := relWs_split hr k2
        have ex : x = u := by
          rcases h2 with ⟨vs', e1, e2⟩ | ⟨vs', e1, e2⟩ | ⟨C, dx, fs, e1, e2⟩
          · rw [hp] at e1
            cases e1
            rw [get_mid l2] at e2
            exact (Option.some.inj e2).symm
          · rw [hp] at e1; cases e1
          · rw [hp] at e1; cases e1
        subst ex
        obtain ⟨a1, a0, a2, rfl, ra, k⟩ := relW_zip sub r2 e h3
        refine ⟨a :: (f1 ++ a1), a0, a2 ++ f2, by simp, ra, fun B' H' w' g' sB q1 q2 r' => ?_⟩
        obtain ⟨z, z1, z2⟩ := k B' H' w' g' sB (fun q hq => q1 q (by simp [hq])) (fun q hq => q2 q (by simp [hq])) r'
        refine ⟨.ol ((w1 ++ y :: w2).set j z), ?_, ?_⟩
        · simp only [putP]
          rw [show ((kids (W.ol (w1 ++ y :: w2))).bind (·[j]?)) = some y by simp only [kids, Option.bind_some]; exact get_mid l1]
          simp only [z1, Option.map_some, setKid]
        · rw [set_mid l1]
          simp only [relW]
          refine ⟨a, _, f1 ++ ((a1 ++ (g' ++ a2)) ++ f2), hv, (q1 a (by simp)).trans hp, relWs_join (relWs_frame sB r1 fun q hq => q1 q (by simp [hq])) z2 (relWs_frame sB r3 fun q hq => q2 q (by simp [hq])), by simp⟩
      | ot ws' =>
        simp only [kids, Option.some.injEq] at k1
        subst k1
        simp only [relW] at r
        obtain ⟨p, vs, hv, hp, hr⟩ := r
        rw [hv] at h1
        cases h1
        obtain ⟨w1, w2, v1, u, v2, f1, g0, f2, rfl, rfl, l1, l2, rfl, r1, r2, r3⟩ := relWs_split hr k2
        have ex : x = u := by
          rcases h2 with ⟨vs', e1, e2⟩ | ⟨vs', e1, e2⟩ | ⟨C, dx, fs, e1, e2⟩
          · rw [sub _ _ hp] at e1; cases e1
          · rw [sub _ _ hp] at e1
            cases e1
            rw [get_mid l2] at e2
            exact (Option.some.inj e2).symm
          · rw [sub _ _ hp] at e1; cases e1
        subst ex
        obtain ⟨a1, a0, a2, rfl, ra, k⟩ := relW_zip sub r2 e h3
        refine ⟨f1 ++ a1, a0, a2 ++ f2, by simp, ra, fun B' H' w' g' sB q1 q2 r' => ?_⟩
        obtain ⟨z, z1, z2⟩ := k B' H' w' g' sB (fun q hq => q1 q (by simp [hq])) (fun q hq => q2 q (by simp [hq])) r'
        refine ⟨.ot ((w1 ++ y :: w2).set j z), ?_, ?_⟩
        · simp only [putP]
          rw [show ((kids (W.ot (w1 ++ y :: w2))).bind (·[j]?)) = some y by simp only [kids, Option.bind_some]; exact get_mid l1]
          simp only [z1, Option.map_some, setKid]
        · rw [set_mid l1]
          simp only [relW]
          refine ⟨a, _, hv, sB _ _ hp, ?_⟩
          have := relWs_join (relWs_frame sB r1 fun q hq => q1 q (by simp [hq])) z2 (relWs_frame sB r3 fun q hq => q2 q (by simp [hq]))
          simpa using this
      | ob c fs ws' =>
        simp only [kids, Option.some.injEq] at k1
        subst k1
        simp only [relW] at r
        obtain ⟨p, dx, C, vs, g, hv, hm, hp, hd, hl, hr, rfl⟩ := r
        rw [hv] at h1
        cases h1
        obtain ⟨w1, w2, v1, u, v2, f1, g0, f2, rfl, rfl, l1, l2, rfl, r1, r2, r3⟩ := relWs_split hr k2
        have ex : x = u := by
          rcases h2 with ⟨vs', e1, e2⟩ | ⟨vs', e1, e2⟩ | ⟨C', dx', fs', e1, e2⟩
          · rw [hp] at e1; cases e1
          · rw [hp] at e1; cases e1
          · rw [hp] at e1
            cases e1
            rw [zip_get hl, get_mid l2] at e2
            exact (Option.some.inj e2).symm
        subst ex
        obtain ⟨a1, a0, a2, rfl, ra, k⟩ := relW_zip sub r2 e h3
        refine ⟨a :: dx :: (f1 ++ a1), a0, a2 ++ f2, by simp, ra, fun B' H' w' g' sB q1 q2 r' => ?_⟩
        obtain ⟨z, z1, z2⟩ := k B' H' w' g' sB (fun q hq => q1 q (by simp [hq])) (fun q hq => q2 q (by simp [hq])) r'
        refine ⟨.ob c fs ((w1 ++ y :: w2).set j z), ?_, ?_⟩
        · simp only [putP]
          rw [show ((kids (W.ob c fs (w1 ++ y :: w2))).bind (·[j]?)) = some y by simp only [kids, Option.bind_some]; exact get_mid l1]
          simp only [z1, Option.map_some, setKid]
        · rw [set_mid l1]
          simp only [relW]
          refine ⟨a, dx, C, _, f1 ++ ((a1 ++ (g' ++ a2)) ++ f2), hv, hm, (q1 a (by simp)).trans hp, (q1 dx (by simp)).trans hd, hl, relWs_join (relWs_frame sB r1 fun q hq => q1 q (by simp [hq])) z2 (relWs_frame sB r3 fun q hq => q2 q (by simp [hq])), by simp⟩
    · cases e
theorem relE_zip (sub : Same B H) {path : Path} {w0 : W} {v0 : V} {fp : List Addr} (r : relE G B H σ env fp) (e : getE env path = some w0) (l : locE H σ path v0) :
    ∃ f1 g f2, fp = f1 ++ (g ++ f2) ∧ relW G B H w0 v0 g ∧ ∀ (B' H' : Hp) (w' : W) (g' : List Addr), Same B B' → (∀ q ∈ f1, H' q = H q) → (∀ q ∈ f2, H' q = H q) → relW G B' H' w' v0 g' →
      ∃ env', setE env path w' = some env' ∧ relE G B' H' σ env' (f1 ++ (g' ++ f2)) := by
  unfold getE at e
  split at e
  · rename_i w hw
    obtain ⟨v, hv, lv⟩ := l
    obtain ⟨e1, e2, s1, o, s2, f1, g, f2, rfl, rfl, l1, l2, rfl, r1, ⟨u, rfl, r2⟩, r3⟩ := relE_split r hw
    rw [get_mid l2] at hv
    have : u = v := Option.some.inj (Option.some.inj hv)
    subst this
    obtain ⟨a1, a0, a2, rfl, ra, k⟩ := relW_zip sub r2 e lv
    refine ⟨f1 ++ a1, a0, a2 ++ f2, by simp, ra, fun B' H' w' g' sB q1 q2 r' => ?_⟩
    obtain ⟨z, z1, z2⟩ := k B' H' w' g' sB (fun q hq => q1 q (by simp [hq])) (fun q hq => q2 q (by simp [hq])) r'
    refine ⟨(e1 ++ some w :: e2).set path.1 (some z), ?_, ?_⟩
    · unfold setE
      rw [get_mid l1]
      simp only [z1, Option.map_some]
    · rw [set_mid l1]
      have := relE_join (relE_frame sB r1 fun q hq => q1 q (by simp [hq])) (show relS G B' H' (some u) (some z) _ from ⟨u, rfl, z2⟩) (relE_frame sB r3 fun q hq => q2 q (by simp [hq]))
      simpa using this
  · cases e
end
def SimL (G : GX) (t : TE) (m : ME Path) : Prop := ∀ (B H : Hp) (σ : St) (env : Env) (fp : List Addr), Ok G B H σ env fp → ∀ Q : VK,
  (match m env with
  | some (.ok path, env') => ∀ v H' B', env' = env → Ok G B' H' σ env fp → Step B H fp B' H' fp → Same H H' → (∀ q, H q ≠ none → B' q = B q) → locE H' σ path v → Q v H'
  | _ => False) → t σ H Q
def SL (X : Cx) (e : Expr) (m : ME Path) : Prop := ∃ t : TE, PE X e t ∧ SimL (gx X) t m
def lIx (ml : ME Path) (mi : ME W) : ME Path := fun env => match ml env with
  | some (.ok path, env1) => match mi env1 with
    | some (.ok w, env2) => match wInt w, (getE env2 path).bind kids with
      | some i, some ws => match getE env2 path with
        | some (.ob _ _ _) => none
        | _ => (ixN ws.length i).bind fun j => if j < ws.length then some (.ok (path.1, path.2 ++ [j]), env2) else none
      | _, _ => none
    | _ => none
  | _ => none
theorem locV_snoc {H : Hp} : ∀ {js : List Nat} {v u x : V} {j : Nat}, locV H v js u → locV H u [j] x → locV H v (js ++ [j]) x
  | [], v, u, x, j, h, k => by
    have : u = v := h
    subst this
    exact k
  | i :: js, v, u, x, j, ⟨a, y, h1, h2, h3⟩, k => ⟨a, y, h1, h2, locV_snoc h3 k⟩
def lVar (i : Nat) : ME Path := fun env => match env[i]? with | some (some _) => some (.ok (i, []), env) | _ => none
section
variable {X : Cx} {Wx : WX} {x : Str} {pos : Pos} {a b : Expr} {ml : ME Path} {mb : ME W} {k : Bool} {G : GX}
theorem simL_var {i : Nat} : SimL G (tVar i) (lVar i) := by
  intro B H σ env fp O Q c
  unfold lVar at c
  cases e : env[i]? with
  | none => rw [e] at c; exact c.elim
  | some w =>
    rw [e] at c
    cases w with
    | none => exact c.elim
    | some w =>
      obtain ⟨e1, e2, s1, o, s2, f1, g, f2, rfl, rfl, l1, l2, rfl, r1, ⟨u, rfl, r2⟩, r3⟩ := relE_split O.rel e
      exact ⟨u, get_mid l2, c u H B rfl O (Step.refl fun _ h => h) (Same.refl H) (fun _ _ => rfl) ⟨u, get_mid l2, rfl⟩⟩
theorem sl_var (i : Nat) (h : PE X (.Name x pos) (tVar i)) : SL X (.Name x pos) (lVar i) := ⟨_, h, simL_var⟩
theorem simL_ix {ta tb : TE} (ha : SimL G ta ml) (hb : Sim G k true Wx (rW G) tb mb) : SimL G (tOp (rIx G.K) ta tb) (lIx ml mb) := by
  intro B H σ env fp O Q c
  refine ha B H σ env fp O _ ?_
  unfold lIx at c
  cases e1 : ml env with
  | none => rw [e1] at c; exact c
  | some r1 =>
    obtain ⟨r1, env1⟩ := r1
    rw [e1] at c
    cases r1 with
    | ex x => exact c
    | ok path =>
      intro v H1 B1 ee O1 S1 s1 b1 L1
      subst ee
      simp only at c
      refine hb B1 H1 σ env1 fp O1 _ ?_
      cases e2 : mb env1 with
      | none => rw [e2] at c; exact c
      | some r2 =>
        obtain ⟨r2, env2⟩ := r2
        rw [e2] at c
        cases r2 with
        | ex x => exact c.elim
        | ok w =>
          intro y H2 B2 f0 fp2 P
          obtain ⟨s2, b2, rfl, rfl⟩ := P.pure rfl
          simp only at c
          cases e3 : wInt w with
          | none => rw [e3] at c; exact c.elim
          | some i =>
            cases e4 : getE env2 path with
            | none => simp [e3, e4] at c
            | some u =>
              cases e5 : kids u with
              | none => simp [e3, e4, e5] at c
              | some ws =>
                have L2 := locE_mono s2 L1
                obtain ⟨f1, g, f2, ef, ru, _⟩ := relE_zip P.ok.sub P.ok.rel e4 L2
                have ry : relW G B2 H2 w y f0 := P.rel
                rw [wInt_eq e3] at ry
                simp only [relW, repD] at ry
                have stp : Step B H fp2 B2 H2 fp2 := Step.trans (S := []) S1 (P.step.mono fun q hq => by simp [hq])
                have fin : ∀ (p : Addr) (z : V) (j : Nat), v = .ref p → ((∃ vs, H2 p = some (.lst vs) ∧ vs[j]? = some z) ∨ (∃ vs, H2 p = some (.tup vs) ∧ vs[j]? = some z)) → ixN ws.length i = some j → j < ws.length → (∀ c fs xs, u ≠ .ob c fs xs) → Q z H2 := by
                  intro p z j hv hz hj hlt hno
                  simp only [e3, e4, e5, Option.bind_some, hj, if_pos hlt] at c
                  have c' : ∀ v' H' B', env2 = env2 → Ok G B' H' σ env2 fp2 → Step B H fp2 B' H' fp2 → Same H H' → (∀ q, H q ≠ none → B' q = B q) → locE H' σ (path.1, path.2 ++ [j]) v' → Q v' H' := by
                    cases u with
                    | ob c1 fs xs => exact absurd rfl (hno c1 fs xs)
                    | sh d => simp [kids] at e5
                    | dk _ _ => simp [kids] at e5
                    | dt _ _ => simp [kids] at e5
                    | ol _ => exact c
                    | ot _ => exact c
                  obtain ⟨v0, q1, q2⟩ := L2
                  refine c' z H2 B2 rfl P.ok stp (fun q o e => s2 q o (s1 q o e)) (fun q h => (b2 q (S1.live q h)).trans (b1 q h)) ⟨v0, q1, locV_snoc q2 ⟨p, z, hv, ?_, rfl⟩⟩
                  rcases hz with hz | hz
                  · exact .inl hz
                  · exact .inr (.inl hz)
                cases ej : ixN ws.length i with
                | none =>
                  cases u <;> simp [e3, e4, e5, ej] at c
                | some j =>
                  by_cases hlt : j < ws.length
                  · have ew : ws[j]? = some ws[j] := List.getElem?_eq_getElem hlt
                    cases u with
                    | sh d => simp [kids] at e5
                    | dk _ _ => simp [kids] at e5
                    | dt _ _ => simp [kids] at e5
                    | ob c1 fs xs => simp [e3, e4, e5] at c
                    | ol xs =>
                      simp only [kids, Option.some.injEq] at e5
                      subst e5
                      simp only [relW] at ru
                      obtain ⟨p, vs, gg, hv, hp, hr, _⟩ := ru
                      obtain ⟨w1, w2, v1, z, v2, g1, g0, g2, hw, rfl, l1, l2, _, _, _, _⟩ := relWs_split hr ew
                      refine .inl ⟨p, _, i, z, hv, ry.1, SqL.of hp, ?_, fin p z j hv (.inl ⟨_, hp, get_mid l2⟩) ej hlt (fun _ _ _ h => nomatch h)⟩
                      unfold atI
                      rw [← relWs_length hr, ej]
                      exact get_mid l2
                    | ot xs =>
                      simp only [kids, Option.some.injEq] at e5
                      subst e5
                      simp only [relW] at ru
                      obtain ⟨p, vs, hv, hp, hr⟩ := ru
                      obtain ⟨w1, w2, v1, z, v2, g1, g0, g2, hw, rfl, l1, l2, _, _, _, _⟩ := relWs_split hr ew
                      have hp2 := P.ok.sub _ _ hp
                      refine .inr (.inl ⟨p, _, i, z, hv, ry.1, SqT.of hp2, ?_, fin p z j hv (.inr ⟨_, hp2, get_mid l2⟩) ej hlt (fun _ _ _ h => nomatch h)⟩)
                      unfold atI
                      rw [← relWs_length hr, ej]
                      exact get_mid l2
                  · cases u <;> simp [e3, e4, e5, ej, hlt] at c
theorem sl_ix (ha : SL X a ml) (hb : SE X Wx k true b mb) (hs : PlainIx b) : SL X (.Subscript a b pos) (lIx ml mb) := by
  obtain ⟨ta, pa, sa⟩ := ha
  obtain ⟨tb, pb, sb⟩ := hb
  exact ⟨_, pe_ix ix_seq pa pb hs, simL_ix sa sb⟩
end
def OpI (G : GX) (r : V → List V → Hp → VK → Prop) (g : W → List W → Option (W × W)) : Prop :=
  ∀ (B H : Hp) (w : W) (v : V) (ga : List Addr) (ws : List W) (vs : List V) (fa : List Addr) (w' c : W), Same B H → relW G B H w v ga → relWs G B H ws vs fa → (ga ++ fa).Nodup → (∀ q ∈ ga ++ fa, B q = none) → g w ws = some (w', c) → ∀ Q : VK,
    (∀ y H' B' g' fr, (∀ a o, H a = some o → a ∉ ga → H' a = some o) → Same B B' → Same B' H' → (∀ q, H q ≠ none → B' q = B q) → (∀ q ∈ g' ++ fr, B' q = none ∧ (q ∈ ga ++ fa ∨ H q = none)) → (g' ++ fr).Nodup → (∀ a, H a ≠ none → H' a ≠ none) → relW G B' H' w' v g' → relW G B' H' c y fr → Q y H') → r v vs H Q
def mIn (g : W → List W → Option (W × W)) (ml : ME Path) (ma : ME (List W)) : ME W := fun env => match ml env with
  | some (.ok path, env1) => match ma env1 with
    | some (.ok ws, env2) => (getE env2 path).bind fun w => (g w ws).bind fun p => (setE env2 path p.1).map fun env3 => (.ok p.2, env3)
    | some (.ex x, env2) => some (.ex x, env2)
    | none => none
  | _ => none
def Root (m : ME Path) : Prop := ∀ env path env', m env = some (.ok path, env') → path.2 = []
theorem root_var {i : Nat} : Root (lVar i) := fun env path env' h => by
  unfold lVar at h
  split at h
  · cases h; rfl
  · cases h
section
variable {G : GX} {Wx : WX} {p : Bool} {tl : TE} {ta : TA} {ml : ME Path} {ma : ME (List W)} {r : V → List V → Hp → VK → Prop} {g : W → List W → Option (W × W)}
theorem Sim.inPlace (hl : SimL G tl ml) (ha : Sim G true p Wx (rWs G) ta ma) (hc : p = true ∨ Root ml) (ho : OpI G r g) : Sim G true false Wx (rW G) (fun σ H Q => tl σ H fun x H1 => ta σ H1 fun xs H2 => r x xs H2 Q) (mIn g ml ma) := by
  intro B H σ env fp O Q c
  refine hl B H σ env fp O _ ?_
  unfold mIn at c
  cases e1 : ml env with
  | none => rw [e1] at c; exact c
  | some r1 =>
    obtain ⟨r1, env1⟩ := r1
    rw [e1] at c
    cases r1 with
    | ex x => exact c.elim
    | ok path =>
      intro v H1 B1 ee O1 S1 s1 b1 L1
      subst ee
      simp only at c
      refine ha B1 H1 σ env1 fp O1 _ ?_
      cases e2 : ma env1 with
      | none => rw [e2] at c; exact c.elim
      | some r2 =>
        obtain ⟨r2, env2⟩ := r2
        rw [e2] at c
        cases r2 with
        | ex x =>
          intro cls d H2 B2 fp2 O2 S2 hx hd
          refine c cls d H2 B2 fp2 O2 (S1.trans (S := []) S2) hx fun dd e => ?_
          obtain ⟨a1, a2, a3⟩ := hd dd e
          refine ⟨a1, a2, ?_⟩
          cases q : H dd with
          | none => rfl
          | some o => exact absurd a3 (S1.live dd (by simp [q]))
        | ok ws =>
          intro vs H2 B2 fa fp2 P
          have L2 : locE H2 σ path v := by
            rcases hc with hc | hc
            · exact locE_mono (P.pure hc).1 L1
            · obtain ⟨v0, q1, q2⟩ := L1
              have := hc _ _ _ e1
              rw [this] at q2
              exact ⟨v0, q1, by rw [this]; exact q2⟩
          simp only at c
          cases e3 : getE env2 path with
          | none => rw [e3] at c; exact c.elim
          | some w =>
            rw [e3, Option.bind_some] at c
            cases e4 : g w ws with
            | none => rw [e4] at c; exact c.elim
            | some pr =>
              obtain ⟨w', z⟩ := pr
              rw [e4, Option.bind_some] at c
              obtain ⟨f1, ga, f2, rfl, rw', back⟩ := relE_zip P.ok.sub P.ok.rel e3 L2
              obtain ⟨ndA, disA⟩ := P.own rfl
              have ndE := P.ok.nd
              simp only [List.nodup_append, List.mem_append] at ndE
              obtain ⟨n1, ⟨n2, n3, n4⟩, n5⟩ := ndE
              have liveE := relE_live P.ok.rel
              refine ho B2 H2 w v ga ws vs fa w' z P.ok.sub rw' P.rel ?_ ?_ e4 Q fun y H3 B3 g' fr k1 k2 k3 k4 k5 k6 k7 k8 k9 => ?_
              · refine List.nodup_append.mpr ⟨n2, ndA, fun a ha b hb e => ?_⟩
                subst e
                exact disA a hb (by simp [ha])
              · intro q hq
                rcases List.mem_append.mp hq with hq | hq
                · exact P.ok.out q (by simp [hq])
                · exact P.out q hq
              · have keepE : ∀ q, q ∈ f1 ∨ q ∈ f2 → H3 q = H2 q := fun q hq => by
                  have hl : H2 q ≠ none := liveE q (by rcases hq with hq | hq <;> simp [hq])
                  cases e : H2 q with
                  | none => exact absurd e hl
                  | some o =>
                    refine k1 q o e fun z => ?_
                    rcases hq with hq | hq
                    · exact n5 q hq q (.inl z) rfl
                    · exact n4 q z q hq rfl
                obtain ⟨env3, e5, rE⟩ := back B3 H3 w' g' k2 (fun q hq => keepE q (.inl hq)) (fun q hq => keepE q (.inr hq)) k8
                rw [e5] at c
                have dis : ∀ q ∈ g' ++ fr, q ∉ f1 ∧ q ∉ f2 := fun q hq => by
                  rcases (k5 q hq).2 with z | z
                  · rcases List.mem_append.mp z with z | z
                    · exact ⟨fun y => n5 q y q (.inl z) rfl, fun y => n4 q z q y rfl⟩
                    · exact ⟨fun y => disA q z (by simp [y]), fun y => disA q z (by simp [y])⟩
                  · exact ⟨fun y => liveE q (by simp [y]) z, fun y => liveE q (by simp [y]) z⟩
                simp only [List.nodup_append] at k6
                obtain ⟨m1, m2, m3⟩ := k6
                have nd3 : (f1 ++ (g' ++ f2)).Nodup := by
                  refine List.nodup_append.mpr ⟨n1, List.nodup_append.mpr ⟨m1, n3, fun a ha b hb e => ?_⟩, fun a ha b hb e => ?_⟩
                  · subst e
                    exact (dis a (by simp [ha])).2 hb
                  · subst e
                    rcases List.mem_append.mp hb with hb | hb
                    · exact (dis a (by simp [hb])).1 ha
                    · exact n5 a ha a (.inr hb) rfl
                have outE : ∀ q ∈ f1 ++ (g' ++ f2), B3 q = none := fun q hq => by
                  simp only [List.mem_append] at hq
                  rcases hq with hq | hq | hq
                  · rw [k4 q (liveE q (by simp [hq]))]
                    exact P.ok.out q (by simp [hq])
                  · exact (k5 q (by simp [hq])).1
                  · rw [k4 q (liveE q (by simp [hq]))]
                    exact P.ok.out q (by simp [hq])
                have S12 : Step B H fp B2 H2 (fa ++ (f1 ++ (ga ++ f2))) := S1.trans (S := []) P.step
                refine c y H3 B3 fr (f1 ++ (g' ++ f2)) ⟨⟨k3, rE, nd3, outE⟩, k9, fun q hq => (k5 q (by simp [hq])).1, ⟨fun q o e n => ?_, fun q o e => k2 q o (S12.bext q o e), fun q h n => ?_, fun q hq => ?_, fun q h => k7 q (S12.live q h)⟩, fun _ => ⟨m2, fun q hq z => ?_⟩, fun z => Bool.noConfusion z⟩
                · refine k1 q o (S12.keep q o e n) fun z => ?_
                  rcases S12.new q (by simp [z]) with y | y
                  · exact n y
                  · rw [e] at y; cases y
                · rw [k4 q (S12.live q h)]
                  exact S12.bold q h n
                · have key : ∀ q, q ∈ ga ++ fa ∨ H2 q = none → q ∈ fp ∨ H q = none := fun q z => by
                    rcases z with z | z
                    · exact S12.new q (by simp only [List.mem_append] at z ⊢; grind)
                    · refine .inr ?_
                      cases e : H q with
                      | none => rfl
                      | some o => exact absurd z (S12.live q (by simp [e]))
                  simp only [List.mem_append] at hq
                  rcases hq with hq | hq | hq | hq
                  · exact key q (k5 q (by simp [hq])).2
                  · exact S12.new q (by simp [hq])
                  · exact key q (k5 q (by simp [hq])).2
                  · exact S12.new q (by simp [hq])
                · simp only [List.mem_append] at z
                  rcases z with z | z | z
                  · exact (dis q (by simp [hq])).1 z
                  · exact m3 q z q hq rfl
                  · exact (dis q (by simp [hq])).2 z
end
end AM
namespace AM
open PySem L2
def isOl : W → Bool
  | .ol _ => true
  | _ => false
def lChk (ck : W → Bool) (ml : ME Path) : ME Path := fun env => match ml env with
  | some (.ok path, env1) => if ((getE env1 path).map ck) = some true then some (.ok path, env1) else none
  | _ => none
theorem root_chk {ck : W → Bool} {ml : ME Path} (h : Root ml) : Root (lChk ck ml) := fun env path env' q => by
  unfold lChk at q
  split at q
  · rename_i e2 pa2 e3 h2
    split at q
    · cases q
      exact h _ _ _ h2
    · cases q
  · cases q
theorem simL_list {G : GX} {tl : TE} {ml : ME Path} (hl : SimL G tl ml) : SimL G (fun σ H Q => tl σ H fun x H1 => tyV G.K "list" x H1 ∧ Q x H1) (lChk isOl ml) := by
  intro B H σ env fp O Q c
  refine hl B H σ env fp O _ ?_
  unfold lChk at c
  cases e : ml env with
  | none => rw [e] at c; exact c.elim
  | some r =>
    obtain ⟨r, e1⟩ := r
    rw [e] at c
    cases r with
    | ex x => exact c.elim
    | ok pa =>
      simp only at c
      by_cases hk : ((getE e1 pa).map isOl) = some true
      · rw [if_pos hk] at c
        intro v H' B' ee O' S' s' b' L'
        subst ee
        refine ⟨?_, c v H' B' rfl O' S' s' b' L'⟩
        simp only [Option.map_eq_some_iff] at hk
        obtain ⟨w, w1, w2⟩ := hk
        obtain ⟨f1, ga, f2, _, rw', _⟩ := relE_zip O'.sub O'.rel w1 L'
        cases w with
        | ol ws =>
          simp only [relW] at rw'
          obtain ⟨q, vs, gg, rfl, hq, _⟩ := rw'
          exact .inl ⟨rfl, vs, SqL.of hq⟩
        | sh _ => cases w2
        | ot _ => cases w2
        | ob _ _ _ => cases w2
        | dk _ _ => cases w2
        | dt _ _ => cases w2
      · rw [if_neg hk] at c
        exact c.elim
section
variable {X : Cx} {Wx : WX} {p : Bool} {o e : Expr} {es : List Expr} {ml : ME Path} {ma : ME (List W)} {name : Str} {id : String} {apos cpos : Pos} {r : V → List V → Hp → VK → Prop} {g : W → List W → Option (W × W)}
theorem se_meth (slot : Slot "list" name id) (hty : typeOf (.builtin id) = pure (.type "method_descriptor")) (hm : MtR X id r) (ho : OpI (gx X) r g) (hl : SL X o ml) (ha : SA X Wx true p (e :: es) ma) (hc : p = true ∨ Root ml)
    (hbase : attributeBase o name X.env (eval o X.env) = eval o X.env := by rfl)
    (hfew : ((backTo cpos (starEach (e :: es) X.env)).all (fun x => !x.1) && (backToKw cpos (keywordEach [] X.env)).all (fun x => x.1.isSome)
      && decide ((e :: es).length + ([] : List Keyword).length + (if ([] : List Keyword).isEmpty then 0 else 1) < 30)) = true := by rfl)
    (hline : (apos.endLine == cpos.line) = true := by rfl) (hs : starEach (e :: es) X.env = (false, eval e X.env) :: starEach es X.env := by rfl) (hplain : (backTo cpos (starEach es X.env)).any (·.1) = false := by rfl) :
    SE X Wx true false (.Call (.Attribute o name apos) (e :: es) [] cpos) (mIn g (lChk isOl ml) ma) := by
  obtain ⟨tl, pl, sl⟩ := hl
  obtain ⟨ta, pa, sa⟩ := ha
  exact ⟨_, pe_bm PySem.F.plainAttrs_list slot hty hm pl pa hbase hfew hline hs hplain, Sim.inPlace (simL_list sl) sa (hc.imp (fun h => h) root_chk) ho⟩
theorem se_meth0 (slot : Slot "list" name id) (hty : typeOf (.builtin id) = pure (.type "method_descriptor")) (hm : MtR X id r) (ho : OpI (gx X) r g) (hl : SL X o ml)
    (hbase : attributeBase o name X.env (eval o X.env) = eval o X.env := by rfl) (hline : (apos.endLine == cpos.line) = true := by rfl) :
    SE X Wx true false (.Call (.Attribute o name apos) [] [] cpos) (mIn g (lChk isOl ml) mNil) := by
  obtain ⟨tl, pl, sl⟩ := hl
  refine ⟨_, pe_bm0 PySem.F.plainAttrs_list slot hty hm pl hbase hline, ?_⟩
  exact Sim.inPlace (p := true) (simL_list sl) sim_nil (.inl rfl) ho
end
theorem opi_list {G : GX} {r : V → List V → Hp → VK → Prop} {g : List W → List W → Option (List W × W)}
    (h : ∀ (B H : Hp) (p : Addr) (ws : List W) (vs : List V) (f : List Addr) (as : List W) (avs : List V) (fa : List Addr) (ws' : List W) (c : W), Same B H → H p = some (.lst vs) → relWs G B H ws vs f → relWs G B H as avs fa → g ws as = some (ws', c) →
      ∃ vs' y f' fr, relWs G B H ws' vs' f' ∧ relW G B H c y fr ∧ (∀ q ∈ f' ++ fr, q ∈ f ++ fa) ∧ ((f ++ fa).Nodup → (f' ++ fr).Nodup) ∧ ∀ Q : VK, Q y (upd H p (.lst vs')) → r (.ref p) avs H Q) :
    OpI G r (fun w as => match w with | .ol ws => (g ws as).map fun p => (.ol p.1, p.2) | _ => none) := by
  intro B H w v ga as avs fa w' c s rw' ra nd out e Q q
  cases w with
  | ol ws =>
    simp only [Option.map_eq_some_iff] at e
    obtain ⟨⟨ws', c'⟩, e1, e2⟩ := e
    cases e2
    simp only [relW] at rw'
    obtain ⟨p, vs, f, rfl, hp, rs, rfl⟩ := rw'
    obtain ⟨vs', y, f', fr, k1, k2, k3, k4, k5⟩ := h B H p ws vs f as avs fa ws' c' s hp rs ra e1
    have ndp : p ∉ f ++ fa := by
      simp only [List.cons_append, List.nodup_cons] at nd
      exact nd.1
    have ndr : (f ++ fa).Nodup := by
      simp only [List.cons_append, List.nodup_cons] at nd
      exact nd.2
    have nep : ∀ x ∈ f' ++ fr, x ≠ p := fun x hx z => ndp (by rw [← z]; exact k3 x hx)
    refine k5 Q (q y _ B (p :: f') fr (fun a o ha hn => by rw [upd_ne (fun z => hn (by simp [z]))]; exact ha) (Same.refl B) (fun a o ha => ?_) (fun _ _ => rfl) (fun x hx => ?_) ?_ (fun a ha => ?_) ?_ ?_)
    · rw [upd_ne (fun z => ?_)]
      · exact s a o ha
      · rw [z, out p (by simp)] at ha
        cases ha
    · simp only [List.cons_append, List.mem_cons] at hx
      rcases hx with rfl | hx
      · exact ⟨out x (by simp), .inl (by simp)⟩
      · have := k3 x hx
        exact ⟨out x (by simp only [List.cons_append, List.mem_cons]; exact .inr this), .inl (by simp only [List.cons_append, List.mem_cons]; exact .inr this)⟩
    · simp only [List.cons_append, List.nodup_cons]
      exact ⟨fun z => nep p z rfl, k4 ndr⟩
    · by_cases z : a = p
      · rw [z, upd_same]; simp
      · rw [upd_ne z]; exact ha
    · simp only [relW]
      exact ⟨p, vs', f', rfl, upd_same, relWs_frame (Same.refl B) k1 fun x hx => upd_ne (nep x (by simp [hx])), rfl⟩
    · exact relW_frame (Same.refl B) k2 fun x hx => upd_ne (nep x (by simp [hx]))
  | sh _ => cases e
  | ot _ => cases e
  | ob _ _ _ => cases e
  | dk _ _ => cases e
  | dt _ _ => cases e
def onL (g : List W → List W → Option (List W × W)) : W → List W → Option (W × W) := fun w as => match w with | .ol ws => (g ws as).map fun p => (.ol p.1, p.2) | _ => none
def gApp (ws as : List W) : Option (List W × W) := match as with
  | [x] => if ws.length < 100000 then some (ws ++ [x], .sh .non) else none
  | _ => none
theorem relW_non {G : GX} {B H : Hp} : relW G B H (.sh .non) .non [] := by simp [relW, repD]
theorem opi_app {G : GX} : OpI G rAppend (onL gApp) := by
  refine opi_list fun B H p ws vs f as avs fa ws' c s hp rs ra e => ?_
  unfold gApp at e
  split at e
  · rename_i x
    split at e
    · rename_i hl
      cases e
      simp only [relWs] at ra
      obtain ⟨y, rr, g1, g2, rfl, ry, ⟨rfl, rfl⟩, rfl⟩ := ra
      refine ⟨vs ++ [y], .non, f ++ g1, [], relWs_append rs (by simp only [relWs]; exact ⟨y, [], g1, [], rfl, ry, ⟨rfl, rfl⟩, by simp⟩), relW_non, by simp, by simp, fun Q q => ⟨p, vs, y, rfl, rfl, hp, ?_, q⟩⟩
      rw [← relWs_length rs]
      exact Nat.lt_of_lt_of_le hl (by decide)
    · cases e
  · cases e
def gPop (ws as : List W) : Option (List W × W) := match as with
  | [] => (ws[ws.length - 1]?).map fun x => (ws.dropLast, x)
  | _ => none
theorem relWs_erase {G : GX} {B H : Hp} {ws : List W} {vs : List V} {f : List Addr} {j : Nat} {w : W} (r : relWs G B H ws vs f) (e : ws[j]? = some w) : ∃ v g fr, vs[j]? = some v ∧ relW G B H w v fr ∧ relWs G B H (ws.eraseIdx j) (vs.eraseIdx j) g ∧ (∀ q ∈ g ++ fr, q ∈ f) ∧ (f.Nodup → (g ++ fr).Nodup) := by
  obtain ⟨w1, w2, v1, v, v2, f1, g, f2, rfl, rfl, l1, l2, rfl, r1, r2, r3⟩ := relWs_split r e
  refine ⟨v, f1 ++ f2, g, get_mid l2, r2, ?_, fun q hq => ?_, fun n => ?_⟩
  · subst l1
    rw [List.eraseIdx_append_of_length_le (Nat.le_refl _), List.eraseIdx_append_of_length_le (by omega), l2]
    simp only [Nat.sub_self, List.eraseIdx_cons_zero]
    exact relWs_append r1 r3
  · simp only [List.mem_append] at hq ⊢
    grind
  · simp only [List.nodup_append, List.mem_append] at n ⊢
    grind
theorem opi_pop {G : GX} : OpI G rPop (onL gPop) := by
  refine opi_list fun B H p ws vs f as avs fa ws' c s hp rs ra e => ?_
  unfold gPop at e
  split at e
  · simp only [Option.map_eq_some_iff] at e
    obtain ⟨x, e1, e2⟩ := e
    cases e2
    simp only [relWs] at ra
    obtain ⟨rfl, rfl⟩ := ra
    obtain ⟨v, g, fr, h1, h2, h3, h4, h5⟩ := relWs_erase rs e1
    have hlen := relWs_length rs
    have hne : ws ≠ [] := fun z => by subst z; simp at e1
    have d1 : ws.eraseIdx (ws.length - 1) = ws.dropLast := by
      have := List.length_pos_iff.mpr hne
      exact List.eraseIdx_eq_dropLast (by omega)
    have d2 : vs.eraseIdx (ws.length - 1) = vs.dropLast := by
      have := List.length_pos_iff.mpr hne
      exact List.eraseIdx_eq_dropLast (by omega)
    rw [d1, d2] at h3
    exact ⟨vs.dropLast, v, g, fr, h3, h2, fun q hq => by simp [h4 q hq], fun n => h5 (by simpa using n), fun Q q => ⟨p, vs, v, rfl, rfl, hp, by rw [← hlen]; exact h1, q⟩⟩
  · cases e
def gClr (ws as : List W) : Option (List W × W) := match as with
  | [] => some ([], .sh .non)
  | _ => none
theorem opi_clr {G : GX} : OpI G rClear (onL gClr) := by
  refine opi_list fun B H p ws vs f as avs fa ws' c s hp rs ra e => ?_
  unfold gClr at e
  split at e
  · cases e
    simp only [relWs] at ra
    obtain ⟨rfl, rfl⟩ := ra
    exact ⟨[], .non, [], [], by simp [relWs], relW_non, by simp, by simp, fun Q q => ⟨p, vs, rfl, rfl, hp, q⟩⟩
  · cases e
end AM
namespace AM
open PySem L2
def mBi (g : List W → Option W) (ma : ME (List W)) : ME W := ma.bind (ME.op g)
section
variable {X : Cx} {Wx : WX} {k p : Bool} {e : Expr} {es : List Expr} {ma : ME (List W)} {g : List W → Option W} {r : List V → Hp → VK → Prop} {x : Str} {id T : String} {pp pos : Pos}
theorem se_bi (hc : CallR X (.builtin id) r) (ho : OpS (rWs (gx X)) (rW (gx X)) r g) (hg : Gl X x) (hm : X.mg x = none) (hv : bootBuiltins x = some (.builtin id)) (ha : SA X Wx k p (e :: es) ma) (hn : x ≠ "__name__" := by decide) (hdb : (x == ("__debug__" : Str)) = false := by decide)
    (he : starEach (e :: es) X.env = (false, eval e X.env) :: starEach es X.env := by rfl) (hpl : (backTo pos (starEach es X.env)).any (·.1) = false := by rfl) : SE X Wx true p (.Call (.Name x pp) (e :: es) [] pos) (mBi g ma) := by
  obtain ⟨ta, pa, sa⟩ := ha
  exact ⟨_, pe_callB hc hg hm hv pa hn hdb he hpl, sa.op ho⟩
theorem se_ty (hc : CallR X (.type T) r) (ho : OpS (rWs (gx X)) (rW (gx X)) r g) (hg : Gl X x) (hm : X.mg x = none) (hv : bootBuiltins x = some (.type T)) (ha : SA X Wx k p (e :: es) ma) (hn : x ≠ "__name__" := by decide) (hdb : (x == ("__debug__" : Str)) = false := by decide)
    (he : starEach (e :: es) X.env = (false, eval e X.env) :: starEach es X.env := by rfl) (hpl : (backTo pos (starEach es X.env)).any (·.1) = false := by rfl) : SE X Wx true p (.Call (.Name x pp) (e :: es) [] pos) (mBi g ma) := by
  obtain ⟨ta, pa, sa⟩ := ha
  exact ⟨_, pe_callTy hc hg hm hv pa hn hdb he hpl, sa.op ho⟩
end
section
variable {G : GX} {X : Cx}
theorem rel1 {B H : Hp} {w : W} {vs : List V} {f : List Addr} (h : rWs G B H [w] vs f) : ∃ v, vs = [v] ∧ relW G B H w v f := by
  have h : relWs _ _ _ _ _ _ := h
  simp only [relWs] at h
  obtain ⟨v, r, g1, g2, rfl, h1, ⟨rfl, rfl⟩, rfl⟩ := h
  exact ⟨v, rfl, by simpa using h1⟩
theorem rel2 {B H : Hp} {w u : W} {vs : List V} {f : List Addr} (h : rWs G B H [w, u] vs f) : ∃ v z f1 f2, vs = [v, z] ∧ relW G B H w v f1 ∧ relW G B H u z f2 ∧ f = f1 ++ f2 := by
  have h : relWs _ _ _ _ _ _ := h
  simp only [relWs] at h
  obtain ⟨v, r, g1, g2, rfl, h1, ⟨v2, r2, g3, g4, rfl, h2, ⟨rfl, rfl⟩, rfl⟩, rfl⟩ := h
  exact ⟨v, v2, g1, g3, rfl, h1, h2, by simp⟩
theorem relI {B H : Hp} {i : Int} {v : V} {f : List Addr} (h : relW G B H (.sh (.int i)) v f) : v = .int i := by simp only [relW, repD] at h; exact h.1
theorem relSt {B H : Hp} {i : Str} {v : V} {f : List Addr} (h : relW G B H (.sh (.str i)) v f) : v = .str i := by simp only [relW, repD] at h; exact h.1
theorem relBl {B H : Hp} {i : Bool} {v : V} {f : List Addr} (h : relW G B H (.sh (.bl i)) v f) : v = .bl i := by simp only [relW, repD] at h; exact h.1
def gLen (as : List W) : Option W := match as with
  | [.sh (.str z)] => if z.length ≤ 100000 then some (.sh (.int z.length)) else none
  | [.sh (.lst ds)] => some (.sh (.int ds.length))
  | [.sh (.tup ds)] => some (.sh (.int ds.length))
  | [.sh (.scr ns)] => some (.sh (.int ns.length))
  | [.ol ws] => some (.sh (.int ws.length))
  | [.ot ws] => some (.sh (.int ws.length))
  | _ => none
theorem ops_len : OpS (rWs G) (rW G) (fun xs H (Q : VK) => ∃ x n, xs = [x] ∧ LenV G.K x H n ∧ Q (.int n) H) gLen := by
  refine ops_flat fun B H a b fp c s ra e => ?_
  unfold gLen at e
  split at e
  · rename_i z
    split at e
    · rename_i hz
      cases e
      obtain ⟨v, rfl, r⟩ := rel1 ra
      exact ⟨_, .int z.length, rfl, by simp [repD], fun Q q => ⟨v, z.length, rfl, by rw [relSt r]; exact ⟨sz_ok hz, rfl⟩, q⟩⟩
    · cases e
  · rename_i ds
    cases e
    obtain ⟨v, rfl, r⟩ := rel1 ra
    simp only [relW, repD] at r
    obtain ⟨⟨a, vs, rfl, h1, h2⟩, _⟩ := r
    exact ⟨_, .int ds.length, rfl, by simp [repD], fun Q q => ⟨_, ds.length, rfl, .inl ⟨vs, SqL.of (s _ _ h1), repDs_length h2⟩, q⟩⟩
  · rename_i ds
    cases e
    obtain ⟨v, rfl, r⟩ := rel1 ra
    simp only [relW, repD] at r
    obtain ⟨⟨a, vs, rfl, h1, h2⟩, _⟩ := r
    exact ⟨_, .int ds.length, rfl, by simp [repD], fun Q q => ⟨_, ds.length, rfl, .inr ⟨vs, sqT_of_same s h1, repDs_length h2⟩, q⟩⟩
  · rename_i ns
    cases e
    obtain ⟨v, rfl, r⟩ := rel1 ra
    simp only [relW, repD] at r
    obtain ⟨⟨a, rfl, h1⟩, _⟩ := r
    exact ⟨_, .int ns.length, rfl, by simp [repD], fun Q q => ⟨_, ns.length, rfl, .inl ⟨_, Same.seq s h1, by simp⟩, q⟩⟩
  · rename_i ws
    cases e
    obtain ⟨v, rfl, r⟩ := rel1 ra
    simp only [relW] at r
    obtain ⟨a, vs, g, rfl, h1, h2, _⟩ := r
    exact ⟨_, .int ws.length, rfl, by simp [repD], fun Q q => ⟨_, ws.length, rfl, .inl ⟨vs, SqL.of h1, relWs_length h2⟩, q⟩⟩
  · rename_i ws
    cases e
    obtain ⟨v, rfl, r⟩ := rel1 ra
    simp only [relW] at r
    obtain ⟨a, vs, rfl, h1, h2⟩ := r
    exact ⟨_, .int ws.length, rfl, by simp [repD], fun Q q => ⟨_, ws.length, rfl, .inr ⟨vs, SqT.of (s _ _ h1), relWs_length h2⟩, q⟩⟩
  · cases e
def dInts : List D → Option (List Int)
  | [] => some []
  | .int i :: ds => (dInts ds).map (i :: ·)
  | _ => none
theorem dInts_eq : ∀ {ds : List D} {ns : List Int}, dInts ds = some ns → ds = ns.map .int
  | [], ns, h => by simp only [dInts] at h; cases h; rfl
  | .int i :: ds, ns, h => by
    simp only [dInts, Option.map_eq_some_iff] at h
    obtain ⟨r, h1, rfl⟩ := h
    rw [dInts_eq h1]
    rfl
  | .non :: _, _, h => by simp [dInts] at h
  | .bl _ :: _, _, h => by simp [dInts] at h
  | .str _ :: _, _, h => by simp [dInts] at h
  | .lst _ :: _, _, h => by simp [dInts] at h
  | .tup _ :: _, _, h => by simp [dInts] at h
  | .exc _ _ :: _, _, h => by simp [dInts] at h
  | .scr _ :: _, _, h => by simp [dInts] at h
  | .fn _ :: _, _, h => by simp [dInts] at h
  | .adr _ :: _, _, h => by simp [dInts] at h
  | .la _ _ :: _, _, h => by simp [dInts] at h
  | .any :: _, _, h => by simp [dInts] at h
theorem repDs_ints {B : Hp} : ∀ {ns : List Int} {vs : List V}, repDs G B (ns.map .int) vs → vs = ns.map V.int
  | [], vs, h => by simpa [repDs] using h
  | n :: ns, vs, h => by
    simp only [List.map_cons, repDs, repD] at h
    obtain ⟨v, r, rfl, rfl, h2⟩ := h
    rw [repDs_ints h2]
    rfl
def wInts (w : W) : Option (List Int) := match w with
  | .sh (.scr ns) => some ns
  | w => (wEls w).bind dInts
theorem wInts_rel {B H : Hp} {w : W} {v : V} {f : List Addr} {ns : List Int} (s : Same B H) (r : relW G B H w v f) (e : wInts w = some ns) : ∃ a, v = .ref a ∧ SqL G.K H a (ns.map V.int) := by
  unfold wInts at e
  split at e
  · cases e
    simp only [relW, repD] at r
    obtain ⟨⟨a, h1, h2⟩, _⟩ := r
    exact ⟨a, h1, Same.seq s h2⟩
  · simp only [Option.bind_eq_some_iff] at e
    obtain ⟨ds, e1, e2⟩ := e
    obtain ⟨a, vs, h1, h2, h3⟩ := wEls_eq s r e1
    rw [dInts_eq e2] at h3
    rw [repDs_ints h3] at h2
    exact ⟨a, h1, SqL.of h2⟩
def minI : List Int → Int
  | [] => 0
  | [a] => a
  | a :: r => min a (minI r)
theorem minI_spec : ∀ {ns : List Int}, ns ≠ [] → minI ns ∈ ns ∧ ∀ y ∈ ns, minI ns ≤ y
  | [], h => absurd rfl h
  | [a], _ => by simp [minI]
  | a :: b :: r, _ => by
    obtain ⟨h1, h2⟩ := minI_spec (ns := b :: r) (by simp)
    have e : minI (a :: b :: r) = min a (minI (b :: r)) := rfl
    rw [e]
    refine ⟨?_, fun y hy => ?_⟩
    · rcases Int.le_total a (minI (b :: r)) with h | h
      · rw [Int.min_eq_left h]; simp
      · rw [Int.min_eq_right h]; exact List.mem_cons_of_mem _ h1
    · rcases List.mem_cons.mp hy with rfl | hy
      · exact Int.min_le_left _ _
      · exact Int.le_trans (Int.min_le_right _ _) (h2 y hy)
def gMin (as : List W) : Option W := match as with
  | [w] => (wInts w).bind fun ns => if ns.length = 0 then none else some (.sh (.int (minI ns)))
  | [a, b] => match wInt a, wInt b with
    | some i, some j => some (.sh (.int (if j < i then j else i)))
    | _, _ => none
  | _ => none
theorem CallR.or {f : Value} {r r' : List V → Hp → VK → Prop} (h : CallR X f r) (h' : CallR X f r') : CallR X f (fun xs H Q => r xs H Q ∨ r' xs H Q) :=
  fun pins s σ H xs us Q I rx q => q.elim (h pins s σ H xs us Q I rx) (h' pins s σ H xs us Q I rx)
theorem ops_min : OpS (rWs G) (rW G) (fun xs H Q => rMin G.K xs H Q ∨ ∃ i j, xs = [.int i, .int j] ∧ Q (.int (if j < i then j else i)) H) gMin := by
  refine ops_flat fun B H a b fp c s ra e => ?_
  unfold gMin at e
  split at e
  · rename_i w
    simp only [Option.bind_eq_some_iff] at e
    obtain ⟨ns, e1, e⟩ := e
    split at e
    · cases e
    · rename_i hl
      cases e
      obtain ⟨v, rfl, r⟩ := rel1 ra
      obtain ⟨p, rfl, h⟩ := wInts_rel s r e1
      obtain ⟨m1, m2⟩ := minI_spec (ns := ns) (fun z => hl (by rw [z]; rfl))
      refine ⟨_, .int (minI ns), rfl, by simp [repD], fun Q q => .inl ⟨p, ns, rfl, h, by omega, fun m hm hle => ?_⟩⟩
      have : m = minI ns := Int.le_antisymm (hle _ m1) (m2 _ hm)
      rw [this]
      exact q
  · rename_i x y
    split at e
    · rename_i i j h1 h2
      cases e
      obtain ⟨v, z, f1, f2, rfl, r1, r2, _⟩ := rel2 ra
      rw [wInt_eq h1] at r1
      rw [wInt_eq h2] at r2
      exact ⟨_, .int (if j < i then j else i), rfl, by simp [repD], fun Q q => .inr ⟨i, j, by rw [relI r1, relI r2], q⟩⟩
    · cases e
  · cases e
def gAbs (as : List W) : Option W := match as with
  | [w] => (wInt w).map fun i => .sh (.int (if i < 0 then -i else i))
  | _ => none
theorem ops_abs : OpS (rWs G) (rW G) (fun xs H (Q : VK) => ∃ i, xs = [.int i] ∧ Q (.int (if i < 0 then -i else i)) H) gAbs := by
  refine ops_flat fun B H a b fp c s ra e => ?_
  unfold gAbs at e
  split at e
  · rename_i w
    simp only [Option.map_eq_some_iff] at e
    obtain ⟨i, e1, rfl⟩ := e
    obtain ⟨v, rfl, r⟩ := rel1 ra
    rw [wInt_eq e1] at r
    exact ⟨_, .int (if i < 0 then -i else i), rfl, by simp [repD], fun Q q => ⟨i, by rw [relI r], q⟩⟩
  · cases e
def gToInt (as : List W) : Option W := match as with
  | [.sh (.int i)] => some (.sh (.int i))
  | [.sh (.bl k)] => some (.sh (.int (if k then 1 else 0)))
  | [.sh (.str a)] => if a.length ≤ 640 then (PySem.intText? a).map fun n => .sh (.int n) else none
  | _ => none
theorem ops_int : OpS (rWs G) (rW G) (fun xs H (Q : VK) => ((∃ i, xs = [.int i] ∧ Q (.int i) H) ∨ ∃ k, xs = [.bl k] ∧ Q (.int (if k then 1 else 0)) H) ∨ ∃ a n, xs = [.str a] ∧ PySem.intText? a = some n ∧ a.length ≤ 640 ∧ Q (.int n) H) gToInt := by
  refine ops_flat fun B H a b fp c s ra e => ?_
  unfold gToInt at e
  split at e
  · rename_i i
    cases e
    obtain ⟨v, rfl, r⟩ := rel1 ra
    exact ⟨_, .int i, rfl, by simp [repD], fun Q q => .inl (.inl ⟨i, by rw [relI r], q⟩)⟩
  · rename_i k
    cases e
    obtain ⟨v, rfl, r⟩ := rel1 ra
    exact ⟨_, .int (if k then 1 else 0), rfl, by simp [repD], fun Q q => .inl (.inr ⟨k, by rw [relBl r], q⟩)⟩
  · rename_i z
    split at e
    · rename_i hz
      simp only [Option.map_eq_some_iff] at e
      obtain ⟨n, e1, rfl⟩ := e
      obtain ⟨v, rfl, r⟩ := rel1 ra
      exact ⟨_, .int n, rfl, by simp [repD], fun Q q => .inr ⟨z, n, by rw [relSt r], e1, hz, q⟩⟩
    · cases e
  · cases e
def gStr (as : List W) : Option W := match as with
  | [w] => (wInt w).bind fun i => if i.natAbs.log2 < 1920 then some (.sh (.str (toString i))) else none
  | _ => none
theorem ops_str : OpS (rWs G) (rW G) (fun xs H (Q : VK) => ∃ i, xs = [.int i] ∧ i.natAbs.log2 < 1920 ∧ Q (.str (toString i)) H) gStr := by
  refine ops_flat fun B H a b fp c s ra e => ?_
  unfold gStr at e
  split at e
  · rename_i w
    simp only [Option.bind_eq_some_iff] at e
    obtain ⟨i, e1, e⟩ := e
    split at e
    · rename_i hz
      cases e
      obtain ⟨v, rfl, r⟩ := rel1 ra
      rw [wInt_eq e1] at r
      exact ⟨_, .str (toString i), rfl, by simp [repD], fun Q q => ⟨i, by rw [relI r], hz, q⟩⟩
    · cases e
  · cases e
def wSeq (w : W) : Option (List D) := match w with
  | .sh (.tup ds) => some ds
  | .sh (.scr ns) => some (ns.map .int)
  | .sh (.la _ ds) => some ds
  | w => wEls w
theorem repDs_of_ints {B : Hp} : ∀ ns : List Int, repDs G B (ns.map .int) (ns.map V.int)
  | [] => by simp [repDs]
  | n :: ns => by
    simp only [List.map_cons, repDs, repD]
    exact ⟨_, _, rfl, rfl, repDs_of_ints ns⟩
theorem wSeq_rel {B H : Hp} {w : W} {v : V} {f : List Addr} {ds : List D} (s : Same B H) (r : relW G B H w v f) (e : wSeq w = some ds) : ∃ a vs, v = .ref a ∧ (SqL G.K H a vs ∨ SqT G.K H a vs) ∧ repDs G B ds vs := by
  unfold wSeq at e
  split at e
  · cases e
    simp only [relW, repD] at r
    obtain ⟨⟨a, vs, h1, h2, h3⟩, _⟩ := r
    exact ⟨a, vs, h1, .inr (sqT_of_same s h2), h3⟩
  · cases e
    simp only [relW, repD] at r
    obtain ⟨⟨a, h1, h2⟩, _⟩ := r
    exact ⟨a, _, h1, .inl (Same.seq s h2), repDs_of_ints _⟩
  · cases e
    simp only [relW, repD] at r
    obtain ⟨⟨vs, h1, h2, h3⟩, _⟩ := r
    exact ⟨_, vs, h1, .inl (SqL.of (s _ _ h2)), h3⟩
  · obtain ⟨a, vs, h1, h2, h3⟩ := wEls_eq s r e
    exact ⟨a, vs, h1, .inl (SqL.of h2), h3⟩
def gList (as : List W) : Option W := match as with
  | [w] => (wSeq w).map fun ds => .ol (ds.map .sh)
  | _ => none
theorem ops_list : OpS (rWs G) (rW G) (fun xs H (Q : VK) => ∃ p ys, xs = [.ref p] ∧ (SqL G.K H p ys ∨ SqT G.K H p ys) ∧ ∀ l, H l = none → Q (.ref l) (upd H l (.lst ys))) gList := by
  refine ops_newL fun B H a b fp c s ra e => ?_
  unfold gList at e
  split at e
  · rename_i w
    simp only [Option.map_eq_some_iff] at e
    obtain ⟨ds, e1, rfl⟩ := e
    obtain ⟨v, rfl, r⟩ := rel1 ra
    obtain ⟨p, vs, rfl, h1, h2⟩ := wSeq_rel s r e1
    exact ⟨ds, vs, rfl, h2, fun Q q => ⟨p, vs, rfl, h1, q⟩⟩
  · cases e
end
def mMs (g : W × List W → Option W) (m : ME W) (ma : ME (List W)) : ME W := ((m.bind (ME.op fun w => (wStr w).map fun s => W.sh (.str s))).bind fun a => ma.bind fun b => ME.pure (a, b)).bind (ME.op g)
section
variable {X : Cx} {Wx : WX} {k p k2 p2 : Bool} {o e : Expr} {es : List Expr} {m : ME W} {ma : ME (List W)} {name : Str} {id : String} {apos cpos : Pos} {r : V → List V → Hp → VK → Prop} {g : W × List W → Option W}
theorem se_ms (slot : Slot "str" name id) (hty : typeOf (.builtin id) = pure (.type "method_descriptor")) (hm : MtR X id r) (ho : OpS (rPair (rW (gx X)) (rWs (gx X))) (rW (gx X)) (fun (xy : V × List V) H Q => r xy.1 xy.2 H Q) g) (hl : SE X Wx k p o m) (ha : SA X Wx k2 p2 (e :: es) ma)
    (hbase : attributeBase o name X.env (eval o X.env) = eval o X.env := by rfl)
    (hfew : ((backTo cpos (starEach (e :: es) X.env)).all (fun x => !x.1) && (backToKw cpos (keywordEach [] X.env)).all (fun x => x.1.isSome)
      && decide ((e :: es).length + ([] : List Keyword).length + (if ([] : List Keyword).isEmpty then 0 else 1) < 30)) = true := by rfl)
    (hline : (apos.endLine == cpos.line) = true := by rfl) (hs : starEach (e :: es) X.env = (false, eval e X.env) :: starEach es X.env := by rfl) (hplain : (backTo cpos (starEach es X.env)).any (·.1) = false := by rfl) :
    SE X Wx true (p && p2) (.Call (.Attribute o name apos) (e :: es) [] cpos) (mMs g m ma) := by
  obtain ⟨tl, pl, sl⟩ := hl
  obtain ⟨ta, pa, sa⟩ := ha
  refine ⟨_, pe_bm PySem.F.plainAttrs_str slot hty hm pl pa hbase hfew hline hs hplain, ?_⟩
  have s1 : Sim (gx X) true p Wx (rW (gx X)) (fun σ H Q => tl σ H fun x H1 => tyV X.K "str" x H1 ∧ Q x H1) (m.bind (ME.op fun w => (wStr w).map fun s => W.sh (.str s))) := by
    refine sl.op (r := fun x H Q => tyV X.K "str" x H ∧ Q x H) (ops_flat fun B H a b fp c s ra e => ?_)
    simp only [Option.map_eq_some_iff] at e
    obtain ⟨z, e1, rfl⟩ := e
    rw [wStr_eq e1] at ra
    have := relSt ra
    subst this
    exact ⟨.str z, .str z, rfl, by simp [repD], fun Q q => ⟨rfl, q⟩⟩
  exact (Sim.pair (rW_good _) s1 sa (.inl rfl)).op ho
def dStrs : List D → Option (List Str)
  | [] => some []
  | .str i :: ds => (dStrs ds).map (i :: ·)
  | _ => none
theorem dStrs_rel {G : GX} {B : Hp} : ∀ {ds : List D} {bs : List Str} {vs : List V}, dStrs ds = some bs → repDs G B ds vs → vs = bs.map V.str
  | [], ns, vs, h, r => by simp only [dStrs] at h; cases h; simpa [repDs] using r
  | .str i :: ds, ns, vs, h, r => by
    simp only [dStrs, Option.map_eq_some_iff] at h
    obtain ⟨q, h1, rfl⟩ := h
    simp only [repDs, repD] at r
    obtain ⟨v, r', rfl, rfl, h2⟩ := r
    rw [dStrs_rel h1 h2]
    rfl
  | .non :: _, _, _, h, _ => by simp [dStrs] at h
  | .int _ :: _, _, _, h, _ => by simp [dStrs] at h
  | .bl _ :: _, _, _, h, _ => by simp [dStrs] at h
  | .lst _ :: _, _, _, h, _ => by simp [dStrs] at h
  | .tup _ :: _, _, _, h, _ => by simp [dStrs] at h
  | .exc _ _ :: _, _, _, h, _ => by simp [dStrs] at h
  | .scr _ :: _, _, _, h, _ => by simp [dStrs] at h
  | .fn _ :: _, _, _, h, _ => by simp [dStrs] at h
  | .adr _ :: _, _, _, h, _ => by simp [dStrs] at h
  | .la _ _ :: _, _, _, h, _ => by simp [dStrs] at h
  | .any :: _, _, _, h, _ => by simp [dStrs] at h
def gJoin : W × List W → Option W := fun p => match p.2 with
  | [w] => match wStr p.1, (wSeq w).bind dStrs with
    | some a, some ys => if (ys.map (·.length)).sum + ys.length * a.length ≤ 100000 then some (.sh (.str (Txt.join a ys))) else none
    | _, _ => none
  | _ => none
theorem ops_join {G : GX} : OpS (rPair (rW G) (rWs G)) (rW G) (fun (xy : V × List V) H (Q : VK) => ∃ a p, ∃ ys : List Str, xy.1 = .str a ∧ xy.2 = [.ref p] ∧ (SqL G.K H p (ys.map V.str) ∨ SqT G.K H p (ys.map V.str)) ∧
    (ys.map (·.length)).sum + ys.length * a.length ≤ 16777216 ∧ Q (.str (Txt.join a ys)) H) gJoin := by
  refine ops_flat fun B H a b fp c s ra e => ?_
  obtain ⟨f1, f2, r1, r2, _⟩ := ra
  obtain ⟨a1, a2⟩ := a
  unfold gJoin at e
  simp only at e r1 r2
  split at e
  · rename_i w
    split at e
    · rename_i z ys h1 h2
      split at e
      · rename_i hz
        cases e
        simp only [Option.bind_eq_some_iff] at h2
        obtain ⟨ds, h2, h3⟩ := h2
        rw [wStr_eq h1] at r1
        obtain ⟨v, ev, r⟩ := rel1 r2
        obtain ⟨p, vs, rfl, h4, h5⟩ := wSeq_rel s r h2
        rw [dStrs_rel h3 h5] at h4
        exact ⟨_, .str (Txt.join z ys), rfl, by simp [repD], fun Q q => ⟨z, p, ys, relSt r1, ev, h4, by omega, q⟩⟩
      · cases e
    · cases e
  · cases e
def gSplit : W × List W → Option W := fun p => match p.2 with
  | [w] => match wStr p.1, wStr w with
    | some a, some b => if (b.length == 0) = false ∧ a.length ≤ 90000 then some (.ol ((Txt.split a b).map fun z => .sh (.str z))) else none
    | _, _ => none
  | _ => none
theorem repDs_of_strs {G : GX} {B : Hp} : ∀ ns : List Str, repDs G B (ns.map .str) (ns.map V.str)
  | [] => by simp [repDs]
  | n :: ns => by
    simp only [List.map_cons, repDs, repD]
    exact ⟨_, _, rfl, rfl, repDs_of_strs ns⟩
theorem ops_split {G : GX} : OpS (rPair (rW G) (rWs G)) (rW G) (fun (xy : V × List V) H (Q : VK) => ∃ a b, xy.1 = .str a ∧ xy.2 = [.str b] ∧ (b.length == 0) = false ∧ a.length + 2 ≤ sizeLine ∧ rNewStrs (Txt.split a b) H Q) gSplit := by
  refine ops_newL fun B H a b fp c s ra e => ?_
  obtain ⟨f1, f2, r1, r2, _⟩ := ra
  obtain ⟨a1, a2⟩ := a
  unfold gSplit at e
  simp only at e r1 r2
  split at e
  · rename_i w
    split at e
    · rename_i z y h1 h2
      split at e
      · rename_i hz
        cases e
        rw [wStr_eq h1] at r1
        obtain ⟨v, ev, r⟩ := rel1 r2
        rw [wStr_eq h2] at r
        refine ⟨(Txt.split z y).map .str, (Txt.split z y).map V.str, by simp, repDs_of_strs _, fun Q q => ⟨z, y, relSt r1, by rw [ev, relSt r], hz.1, ?_, q⟩⟩
        have : (90002 : Nat) ≤ sizeLine := by decide
        omega
      · cases e
    · cases e
  · cases e
def gPart : W × List W → Option W := fun p => match p.2 with
  | [w] => match wStr p.1, wStr w with
    | some a, some b => if (b.length == 0) = false ∧ a.length ≤ 90000 then some (.sh (.tup [.str (Txt.partition a b).1, .str (Txt.partition a b).2.1, .str (Txt.partition a b).2.2])) else none
    | _, _ => none
  | _ => none
theorem ops_part {G : GX} : OpS (rPair (rW G) (rWs G)) (rW G) (fun (xy : V × List V) H (Q : VK) => ∃ a b, xy.1 = .str a ∧ xy.2 = [.str b] ∧ (b.length == 0) = false ∧ a.length ≤ sizeLine ∧
    ∀ p, H p = none → Q (.ref p) (upd H p (.tup [.str (Txt.partition a b).1, .str (Txt.partition a b).2.1, .str (Txt.partition a b).2.2]))) gPart := by
  refine ops_newT fun B H a b fp c s ra e => ?_
  obtain ⟨f1, f2, r1, r2, _⟩ := ra
  obtain ⟨a1, a2⟩ := a
  unfold gPart at e
  simp only at e r1 r2
  split at e
  · rename_i w
    split at e
    · rename_i z y h1 h2
      split at e
      · rename_i hz
        cases e
        rw [wStr_eq h1] at r1
        obtain ⟨v, ev, r⟩ := rel1 r2
        rw [wStr_eq h2] at r
        refine ⟨_, _, rfl, ?_, fun Q q => ⟨z, y, relSt r1, by rw [ev, relSt r], hz.1, sz_ok (by omega), q⟩⟩
        simp only [repDs, repD]
        exact ⟨_, _, rfl, rfl, _, _, rfl, rfl, _, _, rfl, rfl, rfl⟩
      · cases e
    · cases e
  · cases e
end
end AM
namespace AM
open PySem L2
inductive Fl where
  | nx | bk | ct
  | rt (w : W)
abbrev MS := ME Fl
section
variable (G : GX)
structure PostS (pn : Nat → Bool) (B H : Hp) (σ : St) (fp : List Addr) (env' : Env) (σ' : St) (H' B' : Hp) (f0 fp2 : List Addr) : Prop where
  ok : Ok G B' H' σ' env' fp2
  step : Step B H fp B' H' (f0 ++ fp2)
  pin : ∀ i, pn i = true → σ'[i]? = σ[i]?
def ContS (pn : Nat → Bool) (Wx : WX) (B H : Hp) (σ : St) (fp : List Addr) (r : Option (Res Fl × Env)) (D : Ends) : Prop :=
  match r with
  | none => False
  | some (.ok .nx, e) => ∀ σ' H' B' fp2, PostS G pn B H σ fp e σ' H' B' [] fp2 → D.nx σ' H'
  | some (.ok .bk, e) => ∀ σ' H' B' fp2, PostS G pn B H σ fp e σ' H' B' [] fp2 → D.bk σ' H'
  | some (.ok .ct, e) => ∀ σ' H' B' fp2, PostS G pn B H σ fp e σ' H' B' [] fp2 → D.ct σ' H'
  | some (.ok (.rt w), e) => ∀ v σ' H' B' f0 fp2, PostS G pn B H σ fp e σ' H' B' f0 fp2 → relW G B' H' w v f0 → (∀ q ∈ f0, B' q = none) → f0.Nodup → (∀ q ∈ f0, q ∉ fp2) → D.rt v H'
  | some (.ex x, e) => ∀ cls d σ' H' B' fp2, PostS G pn B H σ fp e σ' H' B' [] fp2 → relX G H' x cls d → (∀ dd, d = some dd → B' dd = none ∧ dd ∉ fp2 ∧ H dd = none) → Wx cls d σ' H'
def SimS (pn : Nat → Bool) (Wx : WX) (t : TS) (m : MS) : Prop := ∀ B H σ env fp, Ok G B H σ env fp → ∀ D, ContS G pn Wx B H σ fp (m env) D → t D σ H
end
def SS (X : Cx) (pn : Nat → Bool) (Wx : WX) (st : Stmt) (m : MS) : Prop := ∃ t : TS, PS X st t ∧ SimS (gx X) pn Wx t m
def SSs (X : Cx) (pn : Nat → Bool) (Wx : WX) (sts : List Stmt) (m : MS) : Prop := ∃ t : TS, PSs X sts t ∧ SimS (gx X) pn Wx t m
section
variable {G : GX} {pn : Nat → Bool} {Wx : WX} {B H B1 H1 : Hp} {σ σ1 : St} {fp fp1 : List Addr} {env1 : Env}
theorem ContS.after (P : PostS G pn B H σ fp env1 σ1 H1 B1 [] fp1) {r : Option (Res Fl × Env)} {D : Ends} (c : ContS G pn Wx B H σ fp r D) : ContS G pn Wx B1 H1 σ1 fp1 r D := by
  have tr : ∀ {e : Env} {σ' : St} {H' B' : Hp} {f0 fp2 : List Addr}, PostS G pn B1 H1 σ1 fp1 e σ' H' B' f0 fp2 → PostS G pn B H σ fp e σ' H' B' f0 fp2 := fun Q =>
    ⟨Q.ok, Step.trans (S := []) P.step Q.step, fun i hi => (Q.pin i hi).trans (P.pin i hi)⟩
  unfold ContS at c ⊢
  split at c
  · exact c
  · exact fun σ' H' B' fp2 Q => c σ' H' B' fp2 (tr Q)
  · exact fun σ' H' B' fp2 Q => c σ' H' B' fp2 (tr Q)
  · exact fun σ' H' B' fp2 Q => c σ' H' B' fp2 (tr Q)
  · exact fun v σ' H' B' f0 fp2 Q => c v σ' H' B' f0 fp2 (tr Q)
  · refine fun cls d σ' H' B' fp2 Q hx hd => c cls d σ' H' B' fp2 (tr Q) hx fun dd e => ?_
    obtain ⟨a1, a2, a3⟩ := hd dd e
    refine ⟨a1, a2, ?_⟩
    cases q : H dd with
    | none => rfl
    | some o => exact absurd a3 (P.step.live dd (by simp [q]))
end
def mNx : MS := ME.pure .nx
def mSeq (a b : MS) : MS := fun env => match a env with
  | some (.ok .nx, e) => b e
  | r => r
section
variable {X : Cx} {pn : Nat → Bool} {Wx : WX} {k p : Bool} {st : Stmt} {sts : List Stmt} {a b : MS} {e : Expr} {m : ME W} {pos : Pos} {G : GX} {i : Nat}
theorem simS_nx : SimS G pn Wx tNext mNx := fun B H σ env fp O D c => c σ H B fp ⟨O, Step.refl (by simp), fun _ _ => rfl⟩
theorem sss_nil : SSs X pn Wx [] mNx := ⟨_, pss_nil, simS_nx⟩
theorem simS_seq {t u : TS} (h1 : SimS G pn Wx t a) (h2 : SimS G pn Wx u b) : SimS G pn Wx (tSeq t u) (mSeq a b) := by
  intro B H σ env fp O D c
  refine h1 B H σ env fp O _ ?_
  unfold mSeq at c
  cases e1 : a env with
  | none => rw [e1] at c; exact c
  | some r =>
    obtain ⟨r, env1⟩ := r
    rw [e1] at c
    cases r with
    | ex x => exact c
    | ok f =>
      cases f with
      | nx =>
        intro σ1 H1 B1 fp1 P
        exact h2 B1 H1 σ1 env1 fp1 P.ok D (c.after P)
      | bk => exact c
      | ct => exact c
      | rt w => exact c
theorem sss_cons (h1 : SS X pn Wx st a) (h2 : SSs X pn Wx sts b) : SSs X pn Wx (st :: sts) (mSeq a b) := by
  obtain ⟨t, p1, s1⟩ := h1
  obtain ⟨u, p2, s2⟩ := h2
  exact ⟨_, pss_cons p1 p2, simS_seq s1 s2⟩
theorem sss_one (h1 : SS X pn Wx st a) : SSs X pn Wx [st] a := by
  obtain ⟨t, p1, s1⟩ := h1
  exact ⟨_, pss_one p1, s1⟩
def MS.after (m : ME W) (f : W → MS) : MS := fun env => match m env with
  | none => none
  | some (.ok w, e) => f w e
  | some (.ex x, e) => some (.ex x, e)
def mDrop (m : ME W) : MS := m.bind fun _ => mNx
theorem ContS.ofEx {B H : Hp} {σ : St} {env : Env} {fp : List Addr} {x : XV} {e : Env} {D : Ends} (c : ContS G pn Wx B H σ fp (some (.ex x, e)) D) : ∀ cls d H' B' fp2, Ok G B' H' σ e fp2 → Step B H fp B' H' fp2 → relX G H' x cls d → (∀ dd, d = some dd → B' dd = none ∧ dd ∉ fp2 ∧ H dd = none) → Wx cls d σ H' :=
  fun cls d H' B' fp2 O S hx hd => c cls d σ H' B' fp2 ⟨O, by simpa using S, fun _ _ => rfl⟩ hx hd
theorem ss_expr (he : SE X Wx k p e m) (hs : swapsWith e none pos.line X.env = pure false := by rfl) : SS X pn Wx (.Expr e pos) (mDrop m) := by
  obtain ⟨t, pe, s⟩ := he
  refine ⟨_, ps_expr pe hs, fun B H σ env fp O D c => ?_⟩
  refine s B H σ env fp O _ ?_
  unfold mDrop ME.bind at c
  cases e1 : m env with
  | none => rw [e1] at c; exact c
  | some r =>
    obtain ⟨r, env1⟩ := r
    rw [e1] at c
    cases r with
    | ex x => exact c.ofEx (env := env)
    | ok w => exact fun v H1 B1 f0 fp1 P => c σ H1 B1 fp1 ⟨P.ok, P.step.mono fun q hq => by simp at hq; simp [hq], fun _ _ => rfl⟩
def mRet (m : ME W) : MS := m.bind fun w => ME.pure (.rt w)
theorem ss_ret (he : SE X Wx true p e m) : SS X pn Wx (.Return (some e) pos) (mRet m) := by
  obtain ⟨t, pe, s⟩ := he
  refine ⟨_, ps_ret pe, fun B H σ env fp O D c => ?_⟩
  refine s B H σ env fp O _ ?_
  unfold mRet ME.bind at c
  cases e1 : m env with
  | none => rw [e1] at c; exact c
  | some r =>
    obtain ⟨r, env1⟩ := r
    rw [e1] at c
    cases r with
    | ex x => exact c.ofEx (env := env)
    | ok w => exact fun v H1 B1 f0 fp1 P => c v σ H1 B1 f0 fp1 ⟨P.ok, P.step, fun _ _ => rfl⟩ P.rel P.out (P.own rfl).1 (P.own rfl).2
def mIfS (c : ME Bool) (a b : MS) : MS := c.bind fun c => if c then a else b
theorem ss_if {c : Expr} {n : ME Bool} {sa sb : List Stmt} (hc : STt X Wx p c n) (ha : SSs X pn Wx sa a) (hb : SSs X pn Wx sb b) : SS X pn Wx (.If c sa sb pos) (mIfS n a b) := by
  obtain ⟨t, pc, s⟩ := hc
  obtain ⟨ta, pa, s1⟩ := ha
  obtain ⟨tb, pb, s2⟩ := hb
  refine ⟨_, ps_if pc pa pb, fun B H σ env fp O D c => ?_⟩
  refine s B H σ env fp O _ ?_
  unfold mIfS ME.bind at c
  cases e1 : n env with
  | none => rw [e1] at c; exact c
  | some r =>
    obtain ⟨r, env1⟩ := r
    rw [e1] at c
    cases r with
    | ex x => exact c.ofEx (env := env)
    | ok w =>
      intro v H1 B1 f0 fp1 P
      obtain ⟨rfl, rfl⟩ := P.rel
      have PS1 : PostS (gx X) pn B H σ fp env1 σ H1 B1 [] fp1 := ⟨P.ok, P.step, fun _ _ => rfl⟩
      have c' := ContS.after PS1 c
      cases w with
      | true =>
        show if true = true then _ else _
        rw [if_pos rfl]
        exact s1 B1 H1 σ env1 fp1 P.ok D c'
      | false =>
        show if false = true then _ else _
        rw [if_neg Bool.false_ne_true]
        exact s2 B1 H1 σ env1 fp1 P.ok D c'
end
abbrev MG := W → ME Unit
def SimG (G : GX) (pn : Nat → Bool) (qq : Bool) (g : TG) (m : MG) : Prop := ∀ (B H : Hp) (σ : St) (env : Env) (fp : List Addr) (w : W) (v : V) (f0 : List Addr), Ok G B H σ env fp → relW G B H w v f0 → (∀ q ∈ f0, B q = none) → f0.Nodup → (∀ q ∈ f0, q ∉ fp) →
  ∀ Q : St → Hp → Prop, (match m w env with
  | some (.ok _, e) => ∀ σ' H' B' fp2, Ok G B' H' σ' e fp2 → Step B H (f0 ++ fp) B' H' fp2 → σ'.length = σ.length → (∀ i, pn i = true → σ'[i]? = σ[i]?) → (qq = true → Same H H' ∧ ∀ a, H a ≠ none → B' a = B a) → Q σ' H'
  | _ => False) → g v σ H Q
def SimGs (G : GX) (pn : Nat → Bool) (qq : Bool) (g : TGs) (m : List W → ME Unit) : Prop := ∀ (B H : Hp) (σ : St) (env : Env) (fp : List Addr) (ws : List W) (vs : List V) (f0 : List Addr), Ok G B H σ env fp → relWs G B H ws vs f0 → (∀ q ∈ f0, B q = none) → f0.Nodup → (∀ q ∈ f0, q ∉ fp) →
  ∀ Q : St → Hp → Prop, (match m ws env with
  | some (.ok _, e) => ∀ σ' H' B' fp2, Ok G B' H' σ' e fp2 → Step B H (f0 ++ fp) B' H' fp2 → σ'.length = σ.length → (∀ i, pn i = true → σ'[i]? = σ[i]?) → (qq = true → Same H H' ∧ ∀ a, H a ≠ none → B' a = B a) → Q σ' H'
  | _ => False) → g vs σ H Q
def SG (X : Cx) (pn : Nat → Bool) (qq : Bool) (e : Expr) (m : MG) : Prop := ∃ t : TG, PG X e t ∧ SimG (gx X) pn qq t m
def SGs (X : Cx) (pn : Nat → Bool) (qq : Bool) (es : List Expr) (m : List W → ME Unit) : Prop := ∃ t : TGs, PGs X es t ∧ SimGs (gx X) pn qq t m
def gSet (i : Nat) : MG := fun w env => if i < env.length then some (.ok (), env.set i (some w)) else none
section
variable {X : Cx} {pn : Nat → Bool} {Wx : WX} {k p : Bool} {G : GX} {i : Nat} {x : Str} {pos : Pos} {e : Expr} {es : List Expr} {m : ME W} {mg : MG} {ms : List W → ME Unit} {qq : Bool}
theorem Ok.set {B H : Hp} {σ : St} {env : Env} {fp : List Addr} {w : W} {v : V} {f0 : List Addr} (O : Ok G B H σ env fp) (r : relW G B H w v f0) (out : ∀ q ∈ f0, B q = none) (nd : f0.Nodup) (dis : ∀ q ∈ f0, q ∉ fp) (hi : i < env.length) :
    ∃ fp2, Ok G B H (σ.set i (some v)) (env.set i (some w)) fp2 ∧ ∀ q ∈ fp2, q ∈ f0 ++ fp := by
  have hx := List.getElem?_eq_getElem hi
  generalize env[i] = w0 at hx
  obtain ⟨e1, e2, s1, o, s2, f1, g, f2, rfl, rfl, l1, l2, rfl, r1, r2, r3⟩ := relE_split O.rel hx
  have n := O.nd
  simp only [List.nodup_append, List.mem_append] at n dis
  refine ⟨f1 ++ (f0 ++ f2), ⟨O.sub, ?_, ?_, fun q hq => ?_⟩, fun q hq => ?_⟩
  · rw [set_mid l1, set_mid l2]
    exact relE_join r1 ⟨v, rfl, r⟩ r3
  · simp only [List.nodup_append, List.mem_append]
    grind
  · simp only [List.mem_append] at hq
    rcases hq with hq | hq | hq
    · exact O.out q (by simp [hq])
    · exact out q hq
    · exact O.out q (by simp [hq])
  · simp only [List.mem_append] at hq ⊢
    grind
theorem simG_name (hp : pn i = false) : SimG G pn qq (gName i) (gSet i) := by
  intro B H σ env fp w v f0 O r out nd dis Q c
  unfold gSet at c
  by_cases hi : i < env.length
  · rw [if_pos hi] at c
    obtain ⟨fp2, O2, sub⟩ := O.set r out nd dis hi
    refine c (σ.set i (some v)) H B fp2 O2 (Step.refl sub) (by simp) (fun j hj => ?_) fun _ => ⟨Same.refl H, fun _ _ => rfl⟩
    rw [List.getElem?_set_ne (fun z => by rw [z, hj] at hp; cases hp)]
  · rw [if_neg hi] at c
    exact c.elim
theorem sg_name (hN : X.N.Nodup) (hi : X.N[i]? = some x) (hx : Loc X.env.scope x) (hp : pn i = false) (hf : X.fn x = true ∨ X.env.scope.names.lookup x = some .local := by first | exact .inl rfl | exact .inr rfl | assumption) : SG X pn qq (.Name x pos) (gSet i) :=
  ⟨_, pg_name hN hi hx hf, simG_name hp⟩
def gsNil : List W → ME Unit := fun ws => match ws with
  | [] => ME.pure ()
  | _ => ME.stuck
def gsCons (a : MG) (b : List W → ME Unit) : List W → ME Unit := fun ws => match ws with
  | w :: r => (a w).bind fun _ => b r
  | [] => ME.stuck
theorem sgs_nil : SGs X pn qq [] gsNil := by
  refine ⟨_, pgs_nil, fun B H σ env fp ws vs f0 O r out nd dis Q c => ?_⟩
  cases ws with
  | nil =>
    simp only [relWs] at r
    obtain ⟨rfl, rfl⟩ := r
    exact ⟨rfl, c σ H B fp O (Step.refl (by simp)) rfl (fun _ _ => rfl) fun _ => ⟨Same.refl H, fun _ _ => rfl⟩⟩
  | cons w r => exact c.elim
theorem sgs_cons (h1 : SG X pn qq e mg) (h2 : SGs X pn qq es ms) (hs : (assignEach (e :: es) X.env).map (·.2) = assign e X.env :: (assignEach es X.env).map (·.2) := by rfl) : SGs X pn qq (e :: es) (gsCons mg ms) := by
  obtain ⟨t, p1, s1⟩ := h1
  obtain ⟨u, p2, s2⟩ := h2
  refine ⟨_, pgs_cons p1 p2 hs, fun B H σ env fp ws vs f0 O r out nd dis Q c => ?_⟩
  cases ws with
  | nil => exact c.elim
  | cons w r' =>
    simp only [relWs] at r
    obtain ⟨v, vr, g1, g2, rfl, r1, r2, rfl⟩ := r
    simp only [List.nodup_append] at nd
    refine ⟨v, vr, rfl, s1 B H σ env fp w v g1 O r1 (fun q hq => out q (by simp [hq])) nd.1 (fun q hq => dis q (by simp [hq])) _ ?_⟩
    simp only [gsCons, ME.bind] at c
    cases e1 : mg w env with
    | none => rw [e1] at c; exact c
    | some rr =>
      obtain ⟨rr, env1⟩ := rr
      rw [e1] at c
      cases rr with
      | ex x => exact c
      | ok _ =>
        intro σ1 H1 B1 fp1 O1 S1 ln1 pin1 pu1
        have lv := relWs_live r2
        have dis1 : ∀ q ∈ g2, q ∉ g1 ++ fp := fun q hq z => by
          rcases List.mem_append.mp z with z | z
          · exact nd.2.2 q z q hq rfl
          · exact dis q (by simp [hq]) z
        have keep1 : ∀ q ∈ g2, H1 q = H q := fun q hq => by
          cases e : H q with
          | none => exact absurd e (lv q hq)
          | some o => exact S1.keep q o e (dis1 q hq)
        refine s2 B1 H1 σ1 env1 fp1 r' vr g2 O1 (relWs_frame S1.bext r2 keep1) (fun q hq => ?_) nd.2.1 (fun q hq z => ?_) Q ?_
        · rw [S1.bold q (lv q hq) (dis1 q hq)]
          exact out q (by simp [hq])
        · rcases S1.new q z with y | y
          · exact dis1 q hq y
          · exact lv q hq y
        · simp only at c
          cases e2 : ms r' env1 with
          | none => rw [e2] at c; exact c
          | some r2' =>
            obtain ⟨r2', env2⟩ := r2'
            rw [e2] at c
            cases r2' with
            | ex x => exact c
            | ok _ =>
              intro σ2 H2 B2 fp2 O2 S2 ln2 pin2 pu2
              refine c σ2 H2 B2 fp2 O2 ⟨fun a o h n => S2.keep a o (S1.keep a o h (by simp at n ⊢; grind)) ?_, fun a o h => S2.bext a o (S1.bext a o h), fun a h n => ?_, fun a ha => ?_, fun a h => S2.live a (S1.live a h)⟩ (ln2.trans ln1) (fun i hi => (pin2 i hi).trans (pin1 i hi)) fun hq => ⟨fun a o h => (pu2 hq).1 a o ((pu1 hq).1 a o h), fun a h => ((pu2 hq).2 a (S1.live a h)).trans ((pu1 hq).2 a h)⟩
              · intro z
                rcases List.mem_append.mp z with z | z
                · exact n (by simp [z])
                · rcases S1.new a z with y | y
                  · exact n (by simp at y ⊢; grind)
                  · rw [h] at y; cases y
              · refine (S2.bold a (S1.live a h) fun z => ?_).trans (S1.bold a h (by simp at n ⊢; grind))
                rcases List.mem_append.mp z with z | z
                · exact n (by simp [z])
                · rcases S1.new a z with y | y
                  · exact n (by simp at y ⊢; grind)
                  · exact h y
              · have key : ∀ a, a ∈ fp1 → a ∈ g1 ++ g2 ++ fp ∨ H a = none := fun a z => by
                  rcases S1.new a z with y | y
                  · exact .inl (by simp at y ⊢; grind)
                  · exact .inr y
                rcases S2.new a ha with z | z
                · rcases List.mem_append.mp z with z | z
                  · exact .inl (by simp [z])
                  · exact key a z
                · refine .inr ?_
                  cases q : H a with
                  | none => rfl
                  | some o => exact absurd z (S1.live a (by simp [q]))
def wUn : W → Option (List W)
  | .sh (.tup ds) => some (ds.map .sh)
  | .ot ws => some ws
  | _ => none
def gUn (n : Nat) (ms : List W → ME Unit) : MG := fun w env => match wUn w with
  | some ws => if ws.length = n then ms ws env else none
  | none => none
theorem sg_tup {kk : Nat} {n : Nat} (hc : X.calm = true) (h : SGs X pn qq es ms) (hn : (assignEach es X.env).length = n := by rfl) (hst : (assignEach es X.env).findIdx? (·.1) = none := by rfl) : SG X pn qq (.Tuple es kk pos) (gUn n ms) := by
  obtain ⟨t, p1, s1⟩ := h
  refine ⟨_, pg_tup hc p1 hn hst, fun B H σ env fp w v f0 O r out nd dis Q c => ?_⟩
  unfold gUn at c
  cases e1 : wUn w with
  | none => rw [e1] at c; exact c.elim
  | some ws =>
    rw [e1] at c
    simp only at c
    by_cases hl : ws.length = n
    · rw [if_pos hl] at c
      have key : ∃ a vs, v = .ref a ∧ SqT X.K H a vs ∧ relWs (gx X) B H ws vs f0 := by
        unfold wUn at e1
        split at e1
        · cases e1
          simp only [relW, repD] at r
          obtain ⟨⟨a, vs, h1, h2, h3⟩, rfl⟩ := r
          exact ⟨a, vs, h1, sqT_of_same O.sub h2, relWs_sh h3⟩
        · cases e1
          simp only [relW] at r
          obtain ⟨a, vs, h1, h2, h3⟩ := r
          exact ⟨a, vs, h1, SqT.of (O.sub _ _ h2), h3⟩
        · cases e1
      obtain ⟨a, vs, rfl, h1, h2⟩ := key
      exact ⟨a, vs, rfl, h1, by rw [← relWs_length h2]; exact hl, s1 B H σ env fp ws vs f0 O h2 out nd dis Q c⟩
    · rw [if_neg hl] at c
      exact c.elim
def mAsg (m : ME W) (g : MG) : MS := m.bind fun w => fun env => match g w env with
  | some (.ok _, e) => some (.ok .nx, e)
  | _ => none
theorem simS_asg {te : TE} {g : TG} (h : Sim G true p Wx (rW G) te m) (hg : SimG G pn qq g mg) : SimS G pn Wx (tAsg te g) (mAsg m mg) := by
  intro B H σ env fp O D c
  refine h B H σ env fp O _ ?_
  unfold mAsg ME.bind at c
  cases e1 : m env with
  | none => rw [e1] at c; exact c
  | some r =>
    obtain ⟨r, env1⟩ := r
    rw [e1] at c
    cases r with
    | ex x => exact c.ofEx (env := env)
    | ok w =>
      intro v H1 B1 f0 fp1 P
      obtain ⟨nd, dis⟩ := P.own rfl
      refine hg B1 H1 σ env1 fp1 w v f0 P.ok P.rel P.out nd dis _ ?_
      simp only at c
      cases e2 : mg w env1 with
      | none => rw [e2] at c; exact c
      | some r2 =>
        obtain ⟨r2, env2⟩ := r2
        rw [e2] at c
        cases r2 with
        | ex x => exact c.elim
        | ok _ =>
          intro σ' H' B' fp2 O2 S2 ln pin pu
          refine c σ' H' B' fp2 ⟨O2, ⟨fun a o h n => S2.keep a o (P.step.keep a o h n) fun z => ?_, fun a o h => S2.bext a o (P.step.bext a o h), fun a h n => (S2.bold a (P.step.live a h) fun z => ?_).trans (P.step.bold a h n), fun a ha => ?_, fun a h => S2.live a (P.step.live a h)⟩, pin⟩
          · rcases P.step.new a z with y | y
            · exact n y
            · rw [h] at y; cases y
          · rcases P.step.new a z with y | y
            · exact n y
            · exact h y
          · rcases S2.new a ha with z | z
            · exact P.step.new a z
            · refine .inr ?_
              cases q : H a with
              | none => rfl
              | some o => exact absurd z (P.step.live a (by simp [q]))
theorem ss_asg {tg : Expr} (he : SE X Wx true p e m) (hg : SG X pn qq tg mg) (hs : swapsWithSole [tg] e pos.line X.env = pure false := by rfl) (hw : swappedStores [tg] e X.env = pure none := by rfl)
    (h1 : (assignEach [tg] X.env).map (·.2) = [assign tg X.env] := by rfl) : SS X pn Wx (.Assign [tg] e pos) (mAsg m mg) := by
  obtain ⟨t, pe, s⟩ := he
  obtain ⟨u, pg, sg⟩ := hg
  exact ⟨_, ps_asg pe pg hs hw h1, simS_asg s sg⟩
theorem ss_set {pos' : Pos} (hN : X.N.Nodup) (hi : X.N[i]? = some x) (hx : Loc X.env.scope x) (hp : pn i = false) (he : SE X Wx true p e m) (hs : swapsWith e (some (.Name x pos')) pos.line X.env = pure false := by rfl) (hf : X.fn x = true ∨ X.env.scope.names.lookup x = some .local := by first | exact .inl rfl | exact .inr rfl | assumption) :
    SS X pn Wx (.Assign [.Name x pos'] e pos) (mAsg m (gSet i)) := by
  obtain ⟨t, pe, s⟩ := he
  exact ⟨_, L2.ps_set hN hi hx pe hs hf, simS_asg (qq := true) s (simG_name hp)⟩
end
end AM
namespace AM
open PySem L2
def YD (G : GX) (B1 : Hp) (ds : List D) (i : Nat) (H2 : Hp) (x : V) (H3 : Hp) : Prop :=
  ∃ d, ds[i]? = some d ∧ ((H3 = H2 ∧ repD G B1 d x) ∨ ∃ T xs es, x = .ref T ∧ H2 T = none ∧ H3 = upd H2 T (.tup xs) ∧ d = .tup es ∧ repDs G B1 es xs)
structure PostI (G : GX) (p : Bool) (B H : Hp) (σ : St) (env : Env) (fp : List Addr) (ds : List D) (env' : Env) (J : It) (H1 B1 : Hp) (fp1 : List Addr) : Prop where
  ok : Ok G B1 H1 σ env' fp1
  step : Step B H fp B1 H1 fp1
  pure : p = true → Same H H1 ∧ (∀ q, H q ≠ none → B1 q = B q) ∧ env' = env ∧ fp1 = fp
  walk : ∃ (Gd : Hp → Prop) (Y : Nat → Hp → V → Hp → Prop), Walk J ds.length Gd Y ∧ (∀ H2, Same B1 H2 → Gd H2) ∧ ∀ i H2 x H3, i < ds.length → Gd H2 → Y i H2 x H3 → YD G B1 ds i H2 x H3
def SimI (G : GX) (p : Bool) (Wx : WX) (t : TI) (m : ME (List D)) : Prop := ∀ B H σ env fp, Ok G B H σ env fp → ∀ R : It → Hp → Prop,
  (match m env with
  | none => False
  | some (.ok ds, env') => ∀ J H1 B1 fp1, PostI G p B H σ env fp ds env' J H1 B1 fp1 → R J H1
  | some (.ex x, env') => ∀ cls d H' B' fp2, Ok G B' H' σ env' fp2 → Step B H fp B' H' fp2 → relX G H' x cls d → (∀ dd, d = some dd → B' dd = none ∧ dd ∉ fp2 ∧ H dd = none) → Wx cls d σ H') → t σ H R
def SI (X : Cx) (Wx : WX) (p : Bool) (tg iter : Expr) (m : ME (List D)) : Prop := ∃ t : TI, PI X tg iter t ∧ SimI (gx X) p Wx t m
def mLoop (g : MG) (body : MS) : List D → MS
  | [] => mNx
  | d :: ds => fun env => match g (.sh d) env with
    | some (.ok _, e1) => match body e1 with
      | some (.ok .nx, e2) => mLoop g body ds e2
      | some (.ok .ct, e2) => mLoop g body ds e2
      | some (.ok .bk, e2) => some (.ok .nx, e2)
      | some (.ok (.rt w), e2) => some (.ok (.rt w), e2)
      | some (.ex x, e2) => some (.ex x, e2)
      | none => none
    | _ => none
def mFor (mi : ME (List D)) (g : MG) (body : MS) : MS := mi.bind fun ds => mLoop g body ds
section
variable {G : GX} {pn : Nat → Bool} {Wx : WX} {p : Bool} {wi : TI} {g : TG} {tb : TS} {mi : ME (List D)} {mg : MG} {mb : MS} {qq : Bool}
theorem Ok.newT {B H : Hp} {σ : St} {env : Env} {fp : List Addr} {T : Addr} {xs : List V} (O : Ok G B H σ env fp) (nT : H T = none) : Ok G (upd B T (.tup xs)) (upd H T (.tup xs)) σ env fp := by
  have nB := none_of_sub O.sub nT
  have lv := relE_live O.rel
  have ne : ∀ q ∈ fp, q ≠ T := fun q hq z => lv q hq (by rw [z]; exact nT)
  refine ⟨fun a o h => ?_, relE_frame (same_new nB) O.rel fun q hq => upd_ne (ne q hq), O.nd, fun q hq => by rw [upd_ne (ne q hq)]; exact O.out q hq⟩
  by_cases ea : a = T
  · subst ea
    rw [upd_same] at h ⊢
    exact h
  · rw [upd_ne ea] at h ⊢
    exact O.sub a o h
theorem step_newT {B H : Hp} {fp : List Addr} {T : Addr} {xs : List V} (s : Same B H) (nT : H T = none) : Step B H fp (upd B T (.tup xs)) (upd H T (.tup xs)) fp := by
  have nB := none_of_sub s nT
  exact ⟨fun a o h _ => same_new nT a o h, same_new nB, fun a h _ => upd_ne fun z => h (by rw [z]; exact nT), fun a h => .inl h, fun a h => by
    rw [upd_ne fun z => h (by rw [z]; exact nT)]
    exact h⟩
theorem yd_hand {B B1 H : Hp} {σ : St} {env : Env} {fp : List Addr} {ds : List D} {i : Nat} {x : V} {H3 : Hp} (sB : Same B1 B) (O : Ok G B H σ env fp) (y : YD G B1 ds i H x H3) :
    ∃ d B3, ds[i]? = some d ∧ Ok G B3 H3 σ env fp ∧ Step B H fp B3 H3 fp ∧ repD G B3 d x ∧ Same B B3 ∧ Same H H3 ∧ ∀ q, H q ≠ none → B3 q = B q := by
  obtain ⟨d, hd, ⟨rfl, r⟩ | ⟨T, xs, es, rfl, nT, rfl, rfl, r⟩⟩ := y
  · exact ⟨d, B, hd, O, Step.refl fun _ h => h, repD_mono sB r, Same.refl B, Same.refl _, fun _ _ => rfl⟩
  · have nB := none_of_sub O.sub nT
    refine ⟨_, upd B T (.tup xs), hd, O.newT nT, step_newT O.sub nT, ?_, same_new nB, same_new nT, fun q hq => upd_ne fun z => hq (by rw [z]; exact nT)⟩
    simp only [repD]
    exact ⟨T, xs, rfl, SqT.of upd_same, repDs_mono (fun a o h => same_new nB a o (sB a o h)) r⟩
theorem simS_for (hi : SimI G p Wx wi mi) (hg : SimG G pn qq g mg) (hb : SimS G pn Wx tb mb) : SimS G pn Wx (tFor wi g tb) (mFor mi mg mb) := by
  intro B H σ env fp O D c
  refine hi B H σ env fp O _ ?_
  unfold mFor ME.bind at c
  cases e1 : mi env with
  | none => rw [e1] at c; exact c
  | some r =>
    obtain ⟨r, env1⟩ := r
    rw [e1] at c
    cases r with
    | ex x => exact c.ofEx (env := env)
    | ok ds =>
      intro J H1 B1 fp1 PI
      simp only at c
      obtain ⟨Gd, Y, wk, gd, yd⟩ := PI.walk
      refine for_it wk (fun i σ' H' => ∃ env' B' fp', PostS G pn B H σ fp env' σ' H' B' [] fp' ∧ Same B1 B' ∧ ContS G pn Wx B H σ fp (mLoop mg mb (ds.drop i) env') D) ?_ ?_ ?_ ?_
      · exact ⟨env1, B1, fp1, ⟨PI.ok, PI.step, fun _ _ => rfl⟩, Same.refl B1, c⟩
      · rintro i σ' H' _ ⟨env', B', fp', P, sB, _⟩
        exact gd H' fun a o h => P.ok.sub a o (sB a o h)
      · rintro i x σ' H' H'' hi' ⟨env', B', fp', P, sB, ct⟩ y
        have hG : Gd H' := gd H' fun a o h => P.ok.sub a o (sB a o h)
        obtain ⟨d, B3, hd, O3, S3, r3, sB3, _, _⟩ := yd_hand sB P.ok (yd i H' x H'' hi' hG y)
        have P3 : PostS G pn B H σ fp env' σ' H'' B3 [] fp' := ⟨O3, Step.trans (S := []) P.step S3, P.pin⟩
        have ed : ds.drop i = d :: ds.drop (i + 1) := by
          rw [List.drop_eq_getElem_cons hi']
          congr 1
          rw [List.getElem?_eq_getElem hi'] at hd
          exact Option.some.inj hd
        rw [ed] at ct
        refine hg B3 H'' σ' env' fp' (.sh d) x [] O3 (by simp only [relW]; exact ⟨r3, trivial⟩) (by simp) List.nodup_nil (by simp) _ ?_
        simp only [mLoop] at ct
        cases e2 : mg (.sh d) env' with
        | none => rw [e2] at ct; exact ct
        | some r2 =>
          obtain ⟨r2, env2⟩ := r2
          rw [e2] at ct
          cases r2 with
          | ex x => exact ct.elim
          | ok u =>
            intro σ2 H2 B2 fp2 O2 S2 ln2 pin2 pu2
            have P2 : PostS G pn B H σ fp env2 σ2 H2 B2 [] fp2 := ⟨O2, Step.trans (S := []) P3.step S2, fun j hj => (pin2 j hj).trans (P3.pin j hj)⟩
            have sB2 : Same B1 B2 := fun a o h => S2.bext a o (sB3 a o (sB a o h))
            refine hb B2 H2 σ2 env2 fp2 O2 _ ?_
            simp only at ct
            cases e3 : mb env2 with
            | none => rw [e3] at ct; exact ct
            | some r3 =>
              obtain ⟨r3, env3⟩ := r3
              rw [e3] at ct
              have tr : ∀ {σ' : St} {H' B' : Hp} {f0 fp' : List Addr}, PostS G pn B2 H2 σ2 fp2 env3 σ' H' B' f0 fp' → PostS G pn B H σ fp env3 σ' H' B' f0 fp' := fun Q =>
                ⟨Q.ok, Step.trans (S := []) P2.step Q.step, fun i hi => (Q.pin i hi).trans (P2.pin i hi)⟩
              cases r3 with
              | ex x =>
                intro cls dd σ' H' B' fp' Q hx hd
                refine ct cls dd σ' H' B' fp' (tr Q) hx fun z e => ?_
                obtain ⟨a1, a2, a3⟩ := hd z e
                refine ⟨a1, a2, ?_⟩
                cases q : H z with
                | none => rfl
                | some o => exact absurd a3 (P2.step.live z (by simp [q]))
              | ok f =>
                cases f with
                | nx => exact fun σ' H' B' fp' Q => ⟨env3, B', fp', tr Q, fun a o h => Q.step.bext a o (sB2 a o h), ct⟩
                | ct => exact fun σ' H' B' fp' Q => ⟨env3, B', fp', tr Q, fun a o h => Q.step.bext a o (sB2 a o h), ct⟩
                | bk => exact fun σ' H' B' fp' Q => ct σ' H' B' fp' (tr Q)
                | rt w => exact fun v σ' H' B' f0 fp' Q r o n dj => ct v σ' H' B' f0 fp' (tr Q) r o n dj
      · rintro σ' H' ⟨env', B', fp', P, sB, ct⟩
        rw [List.drop_length] at ct
        exact ct σ' H' B' fp' P
def mWhile (c : ME Bool) (body : MS) : Nat → MS
  | 0 => ME.stuck
  | n + 1 => fun env => match c env with
    | some (.ok true, e1) => match body e1 with
      | some (.ok .nx, e2) => mWhile c body n e2
      | some (.ok .ct, e2) => mWhile c body n e2
      | some (.ok .bk, e2) => some (.ok .nx, e2)
      | some (.ok (.rt w), e2) => some (.ok (.rt w), e2)
      | some (.ex x, e2) => some (.ex x, e2)
      | none => none
    | some (.ok false, e1) => some (.ok .nx, e1)
    | some (.ex x, e1) => some (.ex x, e1)
    | none => none
theorem simS_while {tc : TT} {mc : ME Bool} (n : Nat) (hc : Sim G true p Wx (rEqv Bool) tc mc) (hb : SimS G pn Wx tb mb) : SimS G pn Wx (tWhile tc tb) (mWhile mc mb n) := by
  intro B H σ env fp O D c
  refine ⟨fun m σ' H' => ∃ env' B' fp', PostS G pn B H σ fp env' σ' H' B' [] fp' ∧ ContS G pn Wx B H σ fp (mWhile mc mb m env') D, ⟨n, env, B, fp, ⟨O, Step.refl (by simp), fun _ _ => rfl⟩, c⟩, ?_⟩
  rintro m σ' H' ⟨env', B', fp', P, ct⟩
  cases m with
  | zero => exact ct.elim
  | succ m =>
    have Q0 : Sim G true p Wx (rEqv Bool) tc mc := hc
    refine hc B' H' σ' env' fp' P.ok _ ?_
    simp only [mWhile] at ct
    cases e1 : mc env' with
    | none => rw [e1] at ct; exact ct
    | some r1 =>
      obtain ⟨r1, env1⟩ := r1
      rw [e1] at ct
      cases r1 with
      | ex x =>
        intro cls d H2 B2 fp2 O2 S2 hx hd
        refine ct cls d σ' H2 B2 fp2 ⟨O2, Step.trans (S := []) P.step S2, P.pin⟩ hx fun z e => ?_
        obtain ⟨a1, a2, a3⟩ := hd z e
        refine ⟨a1, a2, ?_⟩
        cases q : H z with
        | none => rfl
        | some o => exact absurd a3 (P.step.live z (by simp [q]))
      | ok b =>
        intro b' H1 B1 f1 fp1 P1
        obtain ⟨rfl, rfl⟩ := P1.rel
        have P2 : PostS G pn B H σ fp env1 σ' H1 B1 [] fp1 := ⟨P1.ok, Step.trans (S := []) P.step P1.step, P.pin⟩
        cases b with
        | false =>
          show if false = true then _ else _
          rw [if_neg Bool.false_ne_true]
          exact ct σ' H1 B1 fp1 P2
        | true =>
          show if true = true then _ else _
          rw [if_pos rfl]
          refine ⟨fun σ3 H3 => ∃ env3 B3 fp3, PostS G pn B H σ fp env3 σ3 H3 B3 [] fp3 ∧ ContS G pn Wx B H σ fp (mWhile mc mb m env3) D, fun σ3 H3 h => ⟨m, Nat.lt_succ_self m, h⟩, ?_⟩
          refine hb B1 H1 σ' env1 fp1 P1.ok _ ?_
          simp only at ct
          cases e3 : mb env1 with
          | none => rw [e3] at ct; exact ct
          | some r3 =>
            obtain ⟨r3, env3⟩ := r3
            rw [e3] at ct
            have tr : ∀ {σ'' : St} {H' B' : Hp} {f0 fp' : List Addr}, PostS G pn B1 H1 σ' fp1 env3 σ'' H' B' f0 fp' → PostS G pn B H σ fp env3 σ'' H' B' f0 fp' := fun Q =>
              ⟨Q.ok, Step.trans (S := []) P2.step Q.step, fun i hi => (Q.pin i hi).trans (P2.pin i hi)⟩
            cases r3 with
            | ex x =>
              intro cls dd σ' H' B' fp' Q hx hd
              refine ct cls dd σ' H' B' fp' (tr Q) hx fun z e => ?_
              obtain ⟨a1, a2, a3⟩ := hd z e
              refine ⟨a1, a2, ?_⟩
              cases q : H z with
              | none => rfl
              | some o => exact absurd a3 (P2.step.live z (by simp [q]))
            | ok f =>
              cases f with
              | nx => exact fun σ' H' B' fp' Q => ⟨env3, B', fp', tr Q, ct⟩
              | ct => exact fun σ' H' B' fp' Q => ⟨env3, B', fp', tr Q, ct⟩
              | bk => exact fun σ' H' B' fp' Q => ct σ' H' B' fp' (tr Q)
              | rt w => exact fun v σ' H' B' f0 fp' Q r o n dj => ct v σ' H' B' f0 fp' (tr Q) r o n dj
end
section
variable {X : Cx} {pn : Nat → Bool} {Wx : WX} {k p : Bool} {pos : Pos} {c tg iter e : Expr} {body : List Stmt} {mi : ME (List D)} {mg : MG} {mb : MS} {qq : Bool} {mc : ME Bool} {m : ME W}
theorem ss_for (hp : PassesOwn (model X.prog X.w) X.A X.env X.xe) (hc : X.calm = true) (hi : SI X Wx p tg iter mi) (hg : SG X pn qq tg mg) (hb : SSs X pn Wx body mb) (hs : ∀ x, foldedSetIterable iter X.env x = pure x := by intro _; rfl) : SS X pn Wx (.For tg iter body [] pos) (mFor mi mg mb) := by
  obtain ⟨t1, p1, s1⟩ := hi
  obtain ⟨t2, p2, s2⟩ := hg
  obtain ⟨t3, p3, s3⟩ := hb
  exact ⟨_, ps_for hp hc p1 p2 p3 hs, simS_for s1 s2 s3⟩
theorem ss_while (n : Nat) (hp : PassesOwn (model X.prog X.w) X.A X.env X.xe) (hc : STt X Wx p c mc) (hb : SSs X pn Wx body mb) : SS X pn Wx (.While c body [] pos) (mWhile mc mb n) := by
  obtain ⟨t1, p1, s1⟩ := hc
  obtain ⟨t3, p3, s3⟩ := hb
  exact ⟨_, ps_while hp p1 p3, simS_while n s1 s3⟩
def mItL (m : ME W) : ME (List D) := m.bind (ME.op wEls)
def mItT (m : ME W) : ME (List D) := m.bind (ME.op wTEls)
theorem repDs_yd {G : GX} {B1 : Hp} {ds : List D} {vs : List V} (r : repDs G B1 ds vs) {i : Nat} {x : V} (h : vs[i]? = some x) : ∃ d, ds[i]? = some d ∧ repD G B1 d x := by
  have hl : i < ds.length := by
    rw [repDs_length r]
    exact (List.getElem?_eq_some_iff.mp h).1
  obtain ⟨v, h1, h2⟩ := repDs_get r (List.getElem?_eq_getElem hl)
  rw [h] at h1
  cases h1
  exact ⟨_, List.getElem?_eq_getElem hl, h2⟩
theorem si_list (h : SE X Wx true p e m) : SI X Wx p tg e (mItL m) := by
  obtain ⟨t, pe, s⟩ := h
  refine ⟨_, pi_list pe, fun B H σ env fp O R c => ?_⟩
  refine s B H σ env fp O _ ?_
  unfold mItL ME.bind at c
  cases e1 : m env with
  | none => rw [e1] at c; exact c
  | some r =>
    obtain ⟨r, env1⟩ := r
    rw [e1] at c
    cases r with
    | ex x => exact c
    | ok w =>
      intro v H1 B1 f0 fp1 P
      simp only [ME.op] at c
      cases e2 : wEls w with
      | none => rw [e2] at c; exact c.elim
      | some ds =>
        rw [e2] at c
        have rw' : relW (gx X) B1 H1 w v f0 := P.rel
        obtain ⟨nd, dis⟩ := P.own rfl
        have be := grd_bext (H := H1) P.out
        obtain ⟨a, vs, rfl, h1, h2⟩ := wEls_eq P.ok.sub rw' e2
        have ha : grd B1 H1 f0 a = some (.lst vs) := by
          unfold wEls at e2
          split at e2
          · cases e2
            simp only [relW, repD] at rw'
            obtain ⟨⟨a', vs', q1, q2, q3⟩, rfl⟩ := rw'
            cases q1
            have := P.ok.sub _ _ q2
            rw [h1] at this
            cases this
            exact be _ _ q2
          · rename_i ws
            simp only [relW] at rw'
            obtain ⟨p', vs', g, q1, q2, q3, rfl⟩ := rw'
            cases q1
            rw [grd_in (by simp)]
            exact h1
          · cases e2
        have O2 : Ok (gx X) (grd B1 H1 f0) H1 σ env1 fp1 := ⟨grd_sub P.ok.sub, relE_frame be P.ok.rel fun _ _ => rfl, P.ok.nd, fun q hq => by
          rw [grd_out fun z => dis q z hq]
          exact P.ok.out q hq⟩
        refine ⟨a, rfl, ⟨vs, SqL.of h1⟩, c _ H1 (grd B1 H1 f0) fp1 ⟨O2, ⟨P.step.keep, fun a o h => be a o (P.step.bext a o h), fun q h n => ?_, fun q hq => P.step.new q (by simp [hq]), P.step.live⟩, fun hp => ?_, _, _, by rw [repDs_length h2]; exact walk_list (xs := vs), fun H2 s2 => SqL.of (s2 _ _ ha), fun i H2 x H3 hi _ y => ?_⟩⟩
        · rw [grd_out fun z => ?_]
          · exact P.step.bold q h n
          · rcases P.step.new q (by simp [z]) with y | y
            · exact n y
            · exact h y
        · obtain ⟨s1, s2, s3, s4⟩ := P.pure hp
          refine ⟨s1, fun q hq => ?_, s3, s4⟩
          rw [grd_out fun z => ?_]
          · exact s2 q hq
          · rcases P.step.new q (by simp [z]) with y | y
            · exact dis q z (by rw [s4]; exact y)
            · exact hq y
        · obtain ⟨d, hd, rd⟩ := repDs_yd h2 y.2
          exact ⟨d, hd, .inl ⟨y.1, repD_mono be rd⟩⟩
theorem si_tup (h : SE X Wx k p e m) : SI X Wx p tg e (mItT m) := by
  obtain ⟨t, pe, s⟩ := h
  refine ⟨_, pi_tup pe, fun B H σ env fp O R c => ?_⟩
  refine s B H σ env fp O _ ?_
  unfold mItT ME.bind at c
  cases e1 : m env with
  | none => rw [e1] at c; exact c
  | some r =>
    obtain ⟨r, env1⟩ := r
    rw [e1] at c
    cases r with
    | ex x => exact c
    | ok w =>
      intro v H1 B1 f0 fp1 P
      simp only [ME.op] at c
      cases e2 : wTEls w with
      | none => rw [e2] at c; exact c.elim
      | some ds =>
        rw [e2] at c
        have rw' : relW (gx X) B1 H1 w v f0 := P.rel
        unfold wTEls at e2
        split at e2
        · cases e2
          simp only [relW, repD] at rw'
          obtain ⟨⟨a, vs, rfl, h1, h2⟩, rfl⟩ := rw'
          refine ⟨a, rfl, ⟨vs, sqT_of_same P.ok.sub h1⟩, c _ H1 B1 fp1 ⟨P.ok, P.step, P.pure, _, _, by rw [repDs_length h2]; exact walk_tup (xs := vs), fun H2 s2 => sqT_of_same s2 h1, fun i H2 x H3 hi _ y => ?_⟩⟩
          obtain ⟨d, hd, rd⟩ := repDs_yd h2 y.2
          exact ⟨d, hd, .inl ⟨y.1, rd⟩⟩
        · cases e2
end
end AM
namespace AM
open PySem L2
def rgL (lo c : Int) (n : Nat) : List D := (List.range n).map fun k => .int (lo + (k : Nat) * c)
def mItR (g : List W → Option (List D)) (ma : ME (List W)) : ME (List D) := ma.bind (ME.op g)
def inR (i : Int) : Bool := decide (-(2 ^ 62) ≤ i) && decide (i < 2 ^ 62)
def gRg1 (as : List W) : Option (List D) := match as with
  | [a] => (wInt a).bind fun j => if inR j = true then some (rgL 0 1 j.toNat) else none
  | _ => none
theorem rgL_get {lo c : Int} {n i : Nat} (h : i < n) : (rgL lo c n)[i]? = some (.int (lo + (i : Nat) * c)) := by
  unfold rgL
  rw [List.getElem?_map, List.getElem?_range h]
  rfl
theorem rgL_len {lo c : Int} {n : Nat} : (rgL lo c n).length = n := by simp [rgL]
theorem relW_int {G : GX} {B H : Hp} {w : W} {v : V} {f : List Addr} {i : Int} (r : relW G B H w v f) (e : wInt w = some i) : v = .int i := by
  rw [wInt_eq e] at r
  exact relI r
section
variable {G : GX} {Wx : WX} {k p : Bool} {ta : TA} {ma : ME (List W)}
theorem simI_num {g : List W → Option (List D)} {R : Hp → List V → (It → Hp → Prop) → Prop} (h : Sim G k p Wx (rWs G) ta ma)
    (hg : ∀ (B H : Hp) (ws : List W) (vs : List V) (f : List Addr) (ds : List D), relWs G B H ws vs f → g ws = some ds → ∃ J, (∃ (Gd : Hp → Prop) (Y : Nat → Hp → V → Hp → Prop), Walk J ds.length Gd Y ∧ (∀ H2, Same B H2 → Gd H2) ∧ ∀ i H2 x H3, i < ds.length → Gd H2 → Y i H2 x H3 → YD G B ds i H2 x H3) ∧ ∀ Q : It → Hp → Prop, Q J H → R H vs Q) :
    SimI G p Wx (fun σ H Q => ta σ H fun vs H1 => R H1 vs Q) (mItR g ma) := by
  intro B H σ env fp O Q c
  refine h B H σ env fp O _ ?_
  unfold mItR ME.bind at c
  cases e1 : ma env with
  | none => rw [e1] at c; exact c
  | some r =>
    obtain ⟨r, env1⟩ := r
    rw [e1] at c
    cases r with
    | ex x => exact c
    | ok ws =>
      intro vs H1 B1 f0 fp1 P
      simp only [ME.op] at c
      cases e2 : g ws with
      | none => rw [e2] at c; exact c.elim
      | some ds =>
        rw [e2] at c
        obtain ⟨J, hw, hQ⟩ := hg B1 H1 ws vs f0 ds P.rel e2
        exact hQ Q (c J H1 B1 fp1 ⟨P.ok, P.step.mono fun q hq => by simp [hq], P.pure, hw⟩)
theorem walk_rgL {B : Hp} {lo : Int} {n : Nat} : ∃ (Gd : Hp → Prop) (Y : Nat → Hp → V → Hp → Prop), Walk (Itr lo n) (rgL lo 1 n).length Gd Y ∧ (∀ H2, Same B H2 → Gd H2) ∧ ∀ i H2 x H3, i < (rgL lo 1 n).length → Gd H2 → Y i H2 x H3 → YD G B (rgL lo 1 n) i H2 x H3 := by
  refine ⟨_, _, by rw [rgL_len]; exact walk_range, fun _ _ => trivial, fun i H2 x H3 hi _ y => ?_⟩
  rw [rgL_len] at hi
  obtain ⟨rfl, rfl⟩ := y
  exact ⟨_, rgL_get hi, .inl ⟨rfl, by simp [repD]⟩⟩
theorem inR_iff {i : Int} (h : inR i = true) : -(2 ^ 62) ≤ i ∧ i < 2 ^ 62 := by
  unfold inR at h
  simpa using h
theorem simI_rg1 (h : Sim G k p Wx (rWs G) ta ma) : SimI G p Wx (iRng1 ta) (mItR gRg1 ma) := by
  refine simI_num (R := fun H vs Q => ∃ j : Int, vs = [.int j] ∧ -(2 ^ 62) ≤ j ∧ j < 2 ^ 62 ∧ Q (Itr 0 j.toNat) H) h fun B H ws vs f ds r e => ?_
  unfold gRg1 at e
  split at e
  · rename_i a
    simp only [Option.bind_eq_some_iff] at e
    obtain ⟨j, e1, e⟩ := e
    split at e
    · rename_i hj
      cases e
      obtain ⟨v, rfl, r1⟩ := rel1 r
      obtain ⟨b1, b2⟩ := inR_iff hj
      exact ⟨_, walk_rgL, fun Q q => ⟨j, by rw [relW_int r1 e1], b1, b2, q⟩⟩
    · cases e
  · cases e
theorem wEls_grd {B H : Hp} {w : W} {v : V} {f : List Addr} {ds : List D} (s : Same B H) (o : ∀ q ∈ f, B q = none) (r : relW G B H w v f) (e : wEls w = some ds) : ∃ a vs, v = .ref a ∧ (∀ g : List Addr, (∀ q ∈ f, q ∈ g) → (∀ q ∈ g, B q = none) → grd B H g a = some (.lst vs)) ∧ repDs G B ds vs := by
  unfold wEls at e
  split at e
  · cases e
    simp only [relW, repD] at r
    obtain ⟨⟨a, vs, h1, h2, h3⟩, rfl⟩ := r
    exact ⟨a, vs, h1, fun g _ hg => grd_bext hg _ _ h2, h3⟩
  · rename_i ws
    simp only [relW] at r
    obtain ⟨p, vs, g, h1, h2, h3, rfl⟩ := r
    rw [shsOf_eq e] at h3
    exact ⟨p, vs, h1, fun g hg _ => (grd_in (hg p (by simp))).trans h2, (relWs_shs h3).1⟩
  · cases e
theorem simI_lst {g : List W → Option (List D)} {R : Hp → List V → (It → Hp → Prop) → Prop} (h : Sim G true p Wx (rWs G) ta ma)
    (hg : ∀ (B H : Hp) (ws : List W) (vs : List V) (f : List Addr) (ds : List D), Same B H → (∀ q ∈ f, B q = none) → relWs G B H ws vs f → g ws = some ds → ∃ J, (∃ (Gd : Hp → Prop) (Y : Nat → Hp → V → Hp → Prop), Walk J ds.length Gd Y ∧ (∀ H2, Same (grd B H f) H2 → Gd H2) ∧ ∀ i H2 x H3, i < ds.length → Gd H2 → Y i H2 x H3 → YD G (grd B H f) ds i H2 x H3) ∧ ∀ Q : It → Hp → Prop, Q J H → R H vs Q) :
    SimI G p Wx (fun σ H Q => ta σ H fun vs H1 => R H1 vs Q) (mItR g ma) := by
  intro B H σ env fp O Q c
  refine h B H σ env fp O _ ?_
  unfold mItR ME.bind at c
  cases e1 : ma env with
  | none => rw [e1] at c; exact c
  | some r =>
    obtain ⟨r, env1⟩ := r
    rw [e1] at c
    cases r with
    | ex x => exact c
    | ok ws =>
      intro vs H1 B1 f0 fp1 P
      simp only [ME.op] at c
      cases e2 : g ws with
      | none => rw [e2] at c; exact c.elim
      | some ds =>
        rw [e2] at c
        obtain ⟨nd, dis⟩ := P.own rfl
        have be := grd_bext (H := H1) P.out
        obtain ⟨J, hw, hQ⟩ := hg B1 H1 ws vs f0 ds P.ok.sub P.out P.rel e2
        have O2 : Ok G (grd B1 H1 f0) H1 σ env1 fp1 := ⟨grd_sub P.ok.sub, relE_frame be P.ok.rel fun _ _ => rfl, P.ok.nd, fun q hq => by
          rw [grd_out fun z => dis q z hq]
          exact P.ok.out q hq⟩
        refine hQ Q (c J H1 (grd B1 H1 f0) fp1 ⟨O2, ⟨P.step.keep, fun a o h => be a o (P.step.bext a o h), fun q h n => ?_, fun q hq => P.step.new q (by simp [hq]), P.step.live⟩, fun hp => ?_, hw⟩)
        · rw [grd_out fun z => ?_]
          · exact P.step.bold q h n
          · rcases P.step.new q (by simp [z]) with y | y
            · exact n y
            · exact h y
        · obtain ⟨s1, s2, s3, s4⟩ := P.pure hp
          refine ⟨s1, fun q hq => ?_, s3, s4⟩
          rw [grd_out fun z => ?_]
          · exact s2 q hq
          · rcases P.step.new q (by simp [z]) with y | y
            · exact dis q z (by rw [s4]; exact y)
            · exact hq y
end
section
variable {X : Cx} {Wx : WX} {k p : Bool} {tg a b c : Expr} {ma : ME (List W)} {pp pos tpos : Pos} {elts : List Expr} {kk : Nat}
theorem si_rg1 (hg : Gl X "range") (hm : X.mg "range" = none) (ha : SA X Wx k p [a] ma) (hs : starEach [a] X.env = [(false, eval a X.env)] := by rfl) : SI X Wx p tg (.Call (.Name "range" pp) [a] [] pos) (mItR gRg1 ma) := by
  obtain ⟨t, pa, s⟩ := ha
  exact ⟨_, pi_range1 hg hm pa hs, simI_rg1 s⟩
end
end AM
namespace AM
open PySem L2
def wipeE (env : Env) : List Nat → Env
  | [] => env
  | v :: vs => (wipeE env vs).set v none
def offs (vs : List Nat) : Nat → Bool := fun i => !vs.contains i
section
variable {G : GX}
theorem relE_none {B H : Hp} {σ : St} {env : Env} {f : List Addr} (v : Nat) (r : relE G B H σ env f) : ∃ f', relE G B H σ (env.set v none) f' ∧ (∀ q ∈ f', q ∈ f) ∧ (f.Nodup → f'.Nodup) := by
  by_cases h : v < env.length
  · have hx := List.getElem?_eq_getElem h
    generalize env[v] = w0 at hx
    obtain ⟨e1, e2, s1, o, s2, f1, g, f2, rfl, rfl, l1, l2, rfl, r1, r2, r3⟩ := relE_split r hx
    refine ⟨f1 ++ ([] ++ f2), ?_, fun q hq => ?_, fun n => ?_⟩
    · rw [set_mid l1]
      exact relE_join r1 rfl r3
    · simp only [List.nil_append, List.mem_append] at hq ⊢
      grind
    · simp only [List.nil_append, List.nodup_append, List.mem_append] at n ⊢
      grind
  · rw [List.set_eq_of_length_le (by omega)]
    exact ⟨f, r, fun _ h => h, fun h => h⟩
theorem relE_wipe {B H : Hp} {σ : St} {env : Env} {f : List Addr} (r : relE G B H σ env f) : ∀ vs : List Nat, ∃ f', relE G B H σ (wipeE env vs) f' ∧ (∀ q ∈ f', q ∈ f) ∧ (f.Nodup → f'.Nodup)
  | [] => ⟨f, r, fun _ h => h, fun h => h⟩
  | v :: vs => by
    obtain ⟨f1, r1, s1, n1⟩ := relE_wipe r vs
    obtain ⟨f2, r2, s2, n2⟩ := relE_none v r1
    exact ⟨f2, r2, fun q hq => s1 q (s2 q hq), fun n => n2 (n1 n)⟩
theorem wipeE_in {env : Env} {i : Nat} : ∀ {vs : List Nat}, i ∈ vs → (wipeE env vs)[i]? = some none ∨ (wipeE env vs)[i]? = none
  | v :: vs, h => by
    by_cases e : v = i
    · subst e
      show ((wipeE env vs).set v none)[v]? = some none ∨ ((wipeE env vs).set v none)[v]? = none
      by_cases hl : v < (wipeE env vs).length
      · left
        rw [List.getElem?_set_self hl]
      · right
        rw [List.getElem?_eq_none_iff, List.length_set]
        omega
    · rcases List.mem_cons.mp h with h | h
      · exact absurd h.symm e
      · show ((wipeE env vs).set v none)[i]? = some none ∨ ((wipeE env vs).set v none)[i]? = none
        rw [List.getElem?_set_ne e]
        exact wipeE_in h
theorem relE_congr {B H : Hp} : ∀ {env : Env} {σ τ : St} {f : List Addr}, relE G B H σ env f → τ.length = σ.length → (∀ (i : Nat) (w : W), (env[i]? : Option (Option W)) = some (some w) → (τ[i]? : Option (Option V)) = σ[i]?) → relE G B H τ env f
  | [], σ, τ, f, h, hl, _ => by
    obtain ⟨rfl, rfl⟩ := h
    exact ⟨List.length_eq_zero_iff.mp (by simpa using hl), rfl⟩
  | w :: env, σ, τ, f, h, hl, k => by
    obtain ⟨o, σ', f1, f2, rfl, h2, h3, rfl⟩ := h
    cases τ with
    | nil => simp at hl
    | cons t τ' =>
      refine ⟨t, τ', f1, f2, rfl, ?_, relE_congr h3 (by simpa using hl) fun i w e => by simpa using k (i + 1) w (by simpa using e), rfl⟩
      cases w with
      | none => exact h2
      | some w =>
        have := k 0 w (by simp)
        simp at this
        subst this
        exact h2
theorem Ok.wipe {B H : Hp} {σ : St} {env : Env} {fp : List Addr} (O : Ok G B H σ env fp) (vs : List Nat) : ∃ fp', Ok G B H (L2.wipe σ vs) (wipeE env vs) fp' ∧ ∀ q ∈ fp', q ∈ fp := by
  obtain ⟨f', r, s, n⟩ := relE_wipe O.rel vs
  refine ⟨f', ⟨O.sub, relE_congr r (wipe_length σ vs) fun i w e => ?_, n O.nd, fun q hq => O.out q (s q hq)⟩, s⟩
  refine wipe_out fun h => ?_
  rcases wipeE_in (env := env) h with z | z <;> rw [e] at z <;> cases z
theorem Ok.unwipe {B H : Hp} {σ τ : St} {env : Env} {fp : List Addr} (O : Ok G B H τ env fp) (vs : List Nat) (h : L2.wipe τ vs = L2.wipe σ vs) : ∃ fp', Ok G B H σ (wipeE env vs) fp' ∧ ∀ q ∈ fp', q ∈ fp := by
  obtain ⟨f', r, s, n⟩ := relE_wipe O.rel vs
  have hl : σ.length = τ.length := by rw [← wipe_length σ vs, ← h, wipe_length]
  refine ⟨f', ⟨O.sub, relE_congr r hl fun i w e => ?_, n O.nd, fun q hq => O.out q (s q hq)⟩, s⟩
  have hi : i ∉ vs := fun h => by
    rcases wipeE_in (env := env) h with z | z <;> rw [e] at z <;> cases z
  rw [← wipe_out (σ := σ) hi, ← h, wipe_out hi]
theorem wipe_eq {σ τ : St} {vs : List Nat} (hl : τ.length = σ.length) (h : ∀ i, i ∉ vs → τ[i]? = σ[i]?) : L2.wipe τ vs = L2.wipe σ vs := by
  have key : ∀ (us : List Nat) (i : Nat), (∀ j, j ∉ vs → τ[j]? = σ[j]?) → i ∉ vs → i ∉ us → (L2.wipe τ us)[i]? = (L2.wipe σ us)[i]? := fun us i k h1 h2 => by rw [wipe_out h2, wipe_out h2, k i h1]
  have inn : ∀ (us : List Nat) (ρ : St) (i : Nat), i ∈ us → i < ρ.length → (L2.wipe ρ us)[i]? = some none := by
    intro us
    induction us with
    | nil => intro ρ i h; simp at h
    | cons u us ih =>
      intro ρ i h hlt
      show ((L2.wipe ρ us).set u none)[i]? = some none
      by_cases e : u = i
      · subst e
        rw [List.getElem?_set_self (by rw [wipe_length]; exact hlt)]
      · rw [List.getElem?_set_ne e]
        rcases List.mem_cons.mp h with h | h
        · exact absurd h.symm e
        · exact ih ρ i h hlt
  refine List.ext_getElem? fun i => ?_
  by_cases hi : i ∈ vs
  · by_cases hlt : i < σ.length
    · rw [inn vs τ i hi (by omega), inn vs σ i hi hlt]
    · rw [List.getElem?_eq_none_iff.mpr (by rw [wipe_length]; omega), List.getElem?_eq_none_iff.mpr (by rw [wipe_length]; omega)]
  · rw [wipe_out hi, wipe_out hi]
    exact h i hi
end
def mCL (g : MG) (c : ME Bool) (e : ME W) (vs : List Nat) : List D → List W → ME (List W)
  | [], acc => ME.pure acc
  | d :: ds, acc => fun env => match g (.sh d) env with
    | some (.ok _, e1) => match c e1 with
      | some (.ok true, e2) => match e e2 with
        | some (.ok w, e3) => if acc.length < 100000 then mCL g c e vs ds (acc ++ [w]) (wipeE e3 vs) else none
        | _ => none
      | some (.ok false, e2) => mCL g c e vs ds acc (wipeE e2 vs)
      | _ => none
    | _ => none
def mCLP (g : MG) (c : ME Bool) (e : ME W) (env0 : Env) : List D → List W → Option (List W)
  | [], acc => some acc
  | d :: ds, acc => match g (.sh d) env0 with
    | some (.ok _, e1) => match c e1 with
      | some (.ok true, e2) => match e e2 with
        | some (.ok w, _) => if acc.length < 100000 then mCLP g c e env0 ds (acc ++ [w]) else none
        | _ => none
      | some (.ok false, _) => mCLP g c e env0 ds acc
      | _ => none
    | _ => none
def mComp (mi : ME (List D)) (g : MG) (c : ME Bool) (e : ME W) (vs : List Nat) : ME W := fun env => match mi env with
  | some (.ok ds, e1) => match mCL g c e vs ds [] (wipeE e1 vs) with
    | some (.ok ws, e2) => some (.ok (.ol ws), e2)
    | _ => none
  | some (.ex x, e1) => some (.ex x, e1)
  | none => none
def mCompP (mi : ME (List D)) (g : MG) (c : ME Bool) (e : ME W) (vs : List Nat) : ME W := fun env => match mi env with
  | some (.ok ds, e1) => (mCLP g c e (wipeE e1 vs) ds []).map fun ws => (.ok (.ol ws), e1)
  | some (.ex x, e1) => some (.ex x, e1)
  | none => none
section
variable {G : GX} {Wx Wx0 : WX} {p : Bool} {wi : TI} {g : TG} {tt : TT} {te : TE} {mi : ME (List D)} {mg : MG} {mc : ME Bool} {me : ME W} {vs : List Nat} {qq : Bool}
theorem not_off {vs : List Nat} {i : Nat} (h : i ∉ vs) : offs vs i = true := by
  unfold offs
  simp [h]
structure Made (G : GX) (B H : Hp) (fp : List Addr) (σ : St) (env : Env) (B' H' : Hp) (fp' : List Addr) (D : Addr) (ws : List W) (acc : List V) (fA : List Addr) : Prop where
  ok : Ok G B' H' σ env fp'
  step : Step B H fp B' H' (D :: fA ++ fp')
  here : H' D = some (.lst acc)
  rel : relWs G B' H' ws acc fA
  nd : (D :: fA).Nodup
  dis : ∀ q ∈ D :: fA, q ∉ fp'
  out : ∀ q ∈ D :: fA, B' q = none
theorem Made.live {B H B' H' : Hp} {fp fp' : List Addr} {σ : St} {env : Env} {D : Addr} {ws : List W} {acc : List V} {fA : List Addr} (M : Made G B H fp σ env B' H' fp' D ws acc fA) : ∀ q ∈ D :: fA, H' q ≠ none := fun q hq => by
  rcases List.mem_cons.mp hq with rfl | hq
  · rw [M.here]; simp
  · exact relWs_live M.rel q hq
theorem Made.beside {B H B1 H1 B2 H2 : Hp} {fp fp1 fp2 : List Addr} {σ σ2 : St} {env env2 : Env} {D : Addr} {ws : List W} {acc : List V} {fA : List Addr} {f0 : List Addr} (M : Made G B H fp σ env B1 H1 fp1 D ws acc fA)
    (S : Step B1 H1 fp1 B2 H2 (f0 ++ fp2)) (O : Ok G B2 H2 σ2 env2 fp2) : Made G B H fp σ2 env2 B2 H2 fp2 D ws acc fA ∧ Step B H fp B2 H2 (D :: fA ++ (f0 ++ fp2)) ∧ ∀ q ∈ f0, q ∉ D :: fA := by
  have lv := M.live
  have nf : ∀ q ∈ D :: fA, q ∉ f0 ++ fp2 := fun q hq z => by
    rcases S.new q z with y | y
    · exact M.dis q hq y
    · exact lv q hq y
  have kp : ∀ q ∈ D :: fA, H2 q = H1 q := fun q hq => by
    cases e : H1 q with
    | none => exact absurd e (lv q hq)
    | some o => exact S.keep q o e (M.dis q hq)
  have S2 : Step B H fp B2 H2 (D :: fA ++ (f0 ++ fp2)) := Step.trans M.step S
  refine ⟨⟨O, S2.mono fun q hq => by simp only [List.mem_append] at hq ⊢; grind, (kp D (by simp)).trans M.here, relWs_frame S.bext M.rel fun q hq => kp q (by simp [hq]), M.nd, fun q hq z => nf q hq (by simp [z]), fun q hq => ?_⟩, S2, fun q hq z => nf q z (by simp [hq])⟩
  rw [S.bold q (lv q hq) (M.dis q hq)]
  exact M.out q hq
theorem Made.thin {B H B1 H1 : Hp} {fp fp1 fp2 : List Addr} {σ σ2 : St} {env env2 : Env} {D : Addr} {ws : List W} {acc : List V} {fA : List Addr} (M : Made G B H fp σ env B1 H1 fp1 D ws acc fA) (O : Ok G B1 H1 σ2 env2 fp2) (h : ∀ q ∈ fp2, q ∈ fp1) : Made G B H fp σ2 env2 B1 H1 fp2 D ws acc fA :=
  ⟨O, M.step.mono fun q hq => by simp only [List.mem_append] at hq ⊢; grind, M.here, M.rel, M.nd, fun q hq z => M.dis q hq (h q z), M.out⟩
theorem Made.more {B H B1 H1 : Hp} {fp fp1 : List Addr} {σ : St} {env : Env} {D : Addr} {ws : List W} {acc : List V} {fA f0 : List Addr} {w : W} {v : V} (M : Made G B H fp σ env B1 H1 fp1 D ws acc fA) (r : relW G B1 H1 w v f0) (nd : f0.Nodup) (dis : ∀ q ∈ f0, q ∉ fp1 ∧ q ∉ D :: fA) (out : ∀ q ∈ f0, B1 q = none)
    (S : Step B H fp B1 H1 (D :: fA ++ (f0 ++ fp1))) : Made G B H fp σ env B1 (upd H1 D (.lst (acc ++ [v]))) fp1 D (ws ++ [w]) (acc ++ [v]) (fA ++ f0) := by
  have nDA : D ∉ fA := (List.nodup_cons.mp M.nd).1
  have nA := (List.nodup_cons.mp M.nd).2
  have nD0 : D ∉ f0 := fun z => (dis D z).2 (by simp)
  have nDfp : D ∉ fp1 := M.dis D (by simp)
  have kA : ∀ q ∈ fA, upd H1 D (.lst (acc ++ [v])) q = H1 q := fun q hq => upd_ne fun z => nDA (by rw [← z]; exact hq)
  have k0 : ∀ q ∈ f0, upd H1 D (.lst (acc ++ [v])) q = H1 q := fun q hq => upd_ne fun z => nD0 (by rw [← z]; exact hq)
  have kE : ∀ q ∈ fp1, upd H1 D (.lst (acc ++ [v])) q = H1 q := fun q hq => upd_ne fun z => nDfp (by rw [← z]; exact hq)
  have BD : B1 D = none := M.out D (by simp)
  refine ⟨⟨fun a o h => ?_, relE_frame (Same.refl B1) M.ok.rel kE, M.ok.nd, M.ok.out⟩, ⟨fun a o h n => ?_, S.bext, S.bold, fun a ha => S.new a (by simp only [List.cons_append, List.mem_cons, List.mem_append] at ha ⊢; grind), fun a h => ?_⟩, upd_same, ?_, ?_, fun q hq => ?_, fun q hq => ?_⟩
  · rw [upd_ne fun z => by rw [z, BD] at h; cases h]
    exact M.ok.sub a o h
  · by_cases ea : a = D
    · subst ea
      rcases S.new a (by simp) with y | y
      · exact absurd y n
      · rw [h] at y; cases y
    · rw [upd_ne ea]
      exact S.keep a o h n
  · by_cases ea : a = D
    · rw [ea, upd_same]; simp
    · rw [upd_ne ea]; exact S.live a h
  · refine relWs_append (relWs_frame (Same.refl B1) M.rel kA) ?_
    simp only [relWs]
    exact ⟨v, [], f0, [], rfl, relW_frame (Same.refl B1) r k0, ⟨rfl, rfl⟩, by simp⟩
  · refine List.nodup_cons.mpr ⟨fun z => ?_, List.nodup_append.mpr ⟨nA, nd, fun a ha b hb e => ?_⟩⟩
    · rcases List.mem_append.mp z with z | z
      · exact nDA z
      · exact nD0 z
    · subst e
      exact (dis a hb).2 (by simp [ha])
  · rcases List.mem_cons.mp hq with rfl | hq
    · exact nDfp
    · rcases List.mem_append.mp hq with hq | hq
      · exact M.dis q (by simp [hq])
      · exact (dis q hq).1
  · rcases List.mem_cons.mp hq with rfl | hq
    · exact BD
    · rcases List.mem_append.mp hq with hq | hq
      · exact M.out q (by simp [hq])
      · exact out q hq
theorem sim_comp (hi : SimI G p Wx wi mi) (hg : SimG G (offs vs) qq g mg) (hc : Sim G true p Wx0 (rEqv Bool) tt mc) (he : Sim G true p Wx0 (rW G) te me) : Sim G true false Wx (rW G) (tLc wi g tt te vs) (mComp mi mg mc me vs) := by
  intro B H σ env fp O Q c
  refine hi B H σ env fp O _ ?_
  unfold mComp at c
  cases e1 : mi env with
  | none => rw [e1] at c; exact c
  | some r =>
    obtain ⟨r, env1⟩ := r
    rw [e1] at c
    cases r with
    | ex x => exact c
    | ok ds =>
      intro J H1 B1 fp1 PI D nD
      simp only at c
      obtain ⟨Gd, Y, wk, gd, yd⟩ := PI.walk
      obtain ⟨fpW, OW, subW⟩ := PI.ok.wipe vs
      obtain ⟨fp0, O0, sub0⟩ := PI.ok.unwipe (σ := σ) vs rfl
      have BD := none_of_sub PI.ok.sub nD
      have ok0 : Ok G B1 (upd H1 D (.lst [])) σ (wipeE env1 vs) fp0 := by
        have lv := relE_live O0.rel
        exact ⟨fun a o h => by rw [upd_ne fun z => by rw [z, BD] at h; cases h]; exact O0.sub a o h, relE_frame (Same.refl B1) O0.rel fun q hq => upd_ne fun z => lv q hq (by rw [z]; exact nD), O0.nd, O0.out⟩
      have M0 : Made G B H fp σ (wipeE env1 vs) B1 (upd H1 D (.lst [])) fp0 D [] [] [] := by
        refine ⟨ok0, ⟨fun a o h n => ?_, PI.step.bext, PI.step.bold, fun a ha => ?_, fun a h => ?_⟩, upd_same, by simp [relWs], by simp, fun q hq z => ?_, fun q hq => ?_⟩
        · have := PI.step.keep a o h n
          rw [upd_ne fun z => by rw [z, nD] at this; cases this]
          exact this
        · simp only [List.append_nil, List.cons_append, List.nil_append, List.mem_cons] at ha
          rcases ha with rfl | ha
          · refine .inr ?_
            cases e : H a with
            | none => rfl
            | some o => exact absurd nD (PI.step.live a (by simp [e]))
          · exact PI.step.new a (sub0 a ha)
        · have := PI.step.live a h
          by_cases ea : a = D
          · rw [ea, upd_same]; simp
          · rw [upd_ne ea]; exact this
        · simp at hq
          subst hq
          exact relE_live O0.rel q z nD
        · simp at hq
          subst hq
          exact BD
      refine lc_it wk (fun i H' => ∃ env' B' fp' ws acc fA, Made G B H fp σ env' B' H' fp' D ws acc fA ∧ Same B1 B' ∧ (∀ v, v ∈ vs → env'[v]? = some none ∨ env'[v]? = none) ∧ (match mCL mg mc me vs (ds.drop i) ws env' with
        | some (.ok ws, e2) => ∀ H' B' fp' acc fA, Made G B H fp σ e2 B' H' fp' D ws acc fA → Q (.ref D) H'
        | _ => False)) ?_ ?_ ?_ ?_
      · refine ⟨_, B1, fp0, [], [], [], M0, Same.refl B1, fun v hv => wipeE_in hv, ?_⟩
        show match mCL mg mc me vs ds [] (wipeE env1 vs) with | some (.ok ws, e2) => _ | _ => False
        cases e2 : mCL mg mc me vs ds [] (wipeE env1 vs) with
        | none => rw [e2] at c; exact c.elim
        | some r2 =>
          obtain ⟨r2, env2⟩ := r2
          rw [e2] at c
          cases r2 with
          | ex x => exact c.elim
          | ok ws =>
            intro H' B' fp' acc fA M
            refine c (.ref D) H' B' (D :: fA) fp' ⟨M.ok, ?_, M.out, M.step, fun _ => ⟨M.nd, M.dis⟩, fun z => Bool.noConfusion z⟩
            show relW _ _ _ _ _ _
            simp only [relW]
            exact ⟨D, acc, fA, rfl, M.here, M.rel, rfl⟩
      · rintro i H' _ ⟨env', B', fp', ws, acc, fA, M, sB, _, _⟩
        exact gd H' fun a o h => M.ok.sub a o (sB a o h)
      · rintro i x H' H'' hi' ⟨env', B', fp', ws, acc, fA, M, sB, wz, ct⟩ y
        have hG : Gd H' := gd H' fun a o h => M.ok.sub a o (sB a o h)
        obtain ⟨d, B3, hd, O3, S3, r3, sB3, _, _⟩ := yd_hand sB M.ok (yd i H' x H'' hi' hG y)
        obtain ⟨M3, _, _⟩ := M.beside (f0 := []) S3 O3
        have ed : ds.drop i = d :: ds.drop (i + 1) := by
          rw [List.drop_eq_getElem_cons hi']
          congr 1
          rw [List.getElem?_eq_getElem hi'] at hd
          exact Option.some.inj hd
        rw [ed] at ct
        have OW3 : Ok G B3 H'' (L2.wipe σ vs) env' fp' := ⟨O3.sub, relE_congr O3.rel (wipe_length σ vs) (fun j w e => wipe_out (fun h => by
          rcases wz j h with z | z <;> rw [e] at z <;> cases z)), O3.nd, O3.out⟩
        refine hg B3 H'' (L2.wipe σ vs) env' fp' (.sh d) x [] OW3 (by simp only [relW]; exact ⟨r3, trivial⟩) (by simp) List.nodup_nil (by simp) _ ?_
        simp only [mCL] at ct
        cases e2 : mg (.sh d) env' with
        | none => rw [e2] at ct; exact ct
        | some r2 =>
          obtain ⟨r2, env2⟩ := r2
          rw [e2] at ct
          cases r2 with
          | ex x => exact ct.elim
          | ok u =>
            intro σ2 H2 B2 fp2 O2 S2 ln2 pin2 pu2
            have hw : L2.wipe σ2 vs = L2.wipe σ vs := by
              rw [← show L2.wipe (L2.wipe σ vs) vs = L2.wipe σ vs from wipe_eq (wipe_length σ vs) fun i hi => wipe_out hi]
              exact wipe_eq ln2 fun j hj => pin2 j (not_off hj)
            obtain ⟨M2, _, _⟩ := M3.beside (f0 := []) S2 O2
            have sB2 : Same B1 B2 := fun a o h => S2.bext a o (sB3 a o (sB a o h))
            refine ⟨hw, hc B2 H2 σ2 env2 fp2 O2 _ ?_⟩
            simp only at ct
            cases e3 : mc env2 with
            | none => rw [e3] at ct; exact ct
            | some r3 =>
              obtain ⟨r3, env3⟩ := r3
              rw [e3] at ct
              cases r3 with
              | ex x => exact ct.elim
              | ok b =>
                intro b' H4 B4 f4 fp4 P4
                obtain ⟨rfl, rfl⟩ := P4.rel
                obtain ⟨M4, _, _⟩ := M2.beside (f0 := []) P4.step P4.ok
                have sB4 : Same B1 B4 := fun a o h => P4.step.bext a o (sB2 a o h)
                have back : ∀ {env5 : Env} {B5 H5 : Hp} {fp5 : List Addr} {ws5 : List W} {acc5 : List V} {fA5 : List Addr}, Made G B H fp σ2 env5 B5 H5 fp5 D ws5 acc5 fA5 → ∃ fp6, Made G B H fp σ (wipeE env5 vs) B5 H5 fp6 D ws5 acc5 fA5 := fun M5 => by
                  obtain ⟨fp6, O6, s6⟩ := M5.ok.unwipe (σ := σ) vs hw
                  exact ⟨fp6, M5.thin O6 s6⟩
                cases b with
                | false =>
                  show if false = true then _ else _
                  rw [if_neg Bool.false_ne_true]
                  obtain ⟨fp6, M6⟩ := back M4
                  exact ⟨_, B4, fp6, ws, acc, fA, M6, sB4, fun v hv => wipeE_in hv, ct⟩
                | true =>
                  show if true = true then _ else _
                  rw [if_pos rfl]
                  refine he B4 H4 σ2 env3 fp4 P4.ok _ ?_
                  simp only at ct
                  cases e4 : me env3 with
                  | none => rw [e4] at ct; exact ct
                  | some r4 =>
                    obtain ⟨r4, env4⟩ := r4
                    rw [e4] at ct
                    cases r4 with
                    | ex x => exact ct.elim
                    | ok w =>
                      simp only at ct
                      intro v H5 B5 f5 fp5 P5
                      obtain ⟨M5, S5, ne5⟩ := M4.beside P5.step P5.ok
                      by_cases hlen : ws.length < 100000
                      · rw [if_pos hlen] at ct
                        obtain ⟨nd5, dis5⟩ := P5.own rfl
                        have M6 := M5.more P5.rel nd5 (fun q hq => ⟨dis5 q hq, ne5 q hq⟩) P5.out S5
                        obtain ⟨fp7, M7⟩ := back M6
                        refine ⟨acc, M5.here, ?_, _, B5, fp7, _, _, _, M7, fun a o h => P5.step.bext a o (sB4 a o h), fun v hv => wipeE_in hv, ct⟩
                        rw [← relWs_length M5.rel]
                        exact Nat.lt_of_lt_of_le hlen (by decide)
                      · rw [if_neg hlen] at ct
                        exact ct.elim
      · rintro H' ⟨env', B', fp', ws, acc, fA, M, sB, _, ct⟩
        rw [List.drop_length] at ct
        exact ct H' B' fp' acc fA M
theorem sim_compP (hi : SimI G p Wx wi mi) (hg : SimG G (offs vs) true g mg) (hc : Sim G true true Wx0 (rEqv Bool) tt mc) (he : Sim G true true Wx0 (rW G) te me) : Sim G true p Wx (rW G) (tLc wi g tt te vs) (mCompP mi mg mc me vs) := by
  intro B H σ env fp O Q c
  refine hi B H σ env fp O _ ?_
  unfold mCompP at c
  cases e1 : mi env with
  | none => rw [e1] at c; exact c
  | some r =>
    obtain ⟨r, env1⟩ := r
    rw [e1] at c
    cases r with
    | ex x => exact c
    | ok ds =>
      intro J H1 B1 fp1 PI D nD
      simp only at c
      obtain ⟨Gd, Y, wk, gd, yd⟩ := PI.walk
      have BD := none_of_sub PI.ok.sub nD
      have lv1 := relE_live PI.ok.rel
      have ok0 : Ok G B1 (upd H1 D (.lst [])) σ env1 fp1 :=
        ⟨fun a o h => by rw [upd_ne fun z => by rw [z, BD] at h; cases h]; exact PI.ok.sub a o h, relE_frame (Same.refl B1) PI.ok.rel fun q hq => upd_ne fun z => lv1 q hq (by rw [z]; exact nD), PI.ok.nd, PI.ok.out⟩
      have M0 : Made G B H fp σ env1 B1 (upd H1 D (.lst [])) fp1 D [] [] [] := by
        refine ⟨ok0, ⟨fun a o h n => ?_, PI.step.bext, PI.step.bold, fun a ha => ?_, fun a h => ?_⟩, upd_same, by simp [relWs], by simp, fun q hq z => ?_, fun q hq => ?_⟩
        · have := PI.step.keep a o h n
          rw [upd_ne fun z => by rw [z, nD] at this; cases this]
          exact this
        · simp only [List.append_nil, List.cons_append, List.nil_append, List.mem_cons] at ha
          rcases ha with rfl | ha
          · refine .inr ?_
            cases e : H a with
            | none => rfl
            | some o => exact absurd nD (PI.step.live a (by simp [e]))
          · exact PI.step.new a ha
        · have := PI.step.live a h
          by_cases ea : a = D
          · rw [ea, upd_same]; simp
          · rw [upd_ne ea]; exact this
        · simp at hq
          subst hq
          exact lv1 q z nD
        · simp at hq
          subst hq
          exact BD
      have s0 : Same H1 (upd H1 D (.lst [])) := same_new nD
      refine lc_it wk (fun i H' => ∃ B' ws acc fA, Made G B H fp σ env1 B' H' fp1 D ws acc fA ∧ Same B1 B' ∧ Same H1 H' ∧ (∀ q, H1 q ≠ none → B' q = B1 q) ∧ (match mCLP mg mc me (wipeE env1 vs) (ds.drop i) ws with
        | some ws => ∀ H' B' acc fA, Made G B H fp σ env1 B' H' fp1 D ws acc fA → Same H1 H' → (∀ q, H1 q ≠ none → B' q = B1 q) → Q (.ref D) H'
        | none => False)) ?_ ?_ ?_ ?_
      · refine ⟨B1, [], [], [], M0, Same.refl B1, s0, fun _ _ => rfl, ?_⟩
        show match mCLP mg mc me (wipeE env1 vs) ds [] with | some ws => _ | none => False
        cases e2 : mCLP mg mc me (wipeE env1 vs) ds [] with
        | none => rw [e2] at c; exact c.elim
        | some ws =>
          rw [e2] at c
          intro H' B' acc fA M sH sB
          refine c (.ref D) H' B' (D :: fA) fp1 ⟨M.ok, ?_, M.out, M.step, fun _ => ⟨M.nd, M.dis⟩, fun hp => ?_⟩
          · show relW _ _ _ _ _ _
            simp only [relW]
            exact ⟨D, acc, fA, rfl, M.here, M.rel, rfl⟩
          · obtain ⟨a1, a2, a3, a4⟩ := PI.pure hp
            exact ⟨fun a o h => sH a o (a1 a o h), fun q h => (sB q (PI.step.live q h)).trans (a2 q h), a3, a4⟩
      · rintro i H' _ ⟨B', ws, acc, fA, M, sB, _, _, _⟩
        exact gd H' fun a o h => M.ok.sub a o (sB a o h)
      · rintro i x H' H'' hi' ⟨B', ws, acc, fA, M, sB, sH, bB, ct⟩ y
        have hG : Gd H' := gd H' fun a o h => M.ok.sub a o (sB a o h)
        obtain ⟨d, B3, hd, O3, S3, r3, sB3, sH3, bB3⟩ := yd_hand sB M.ok (yd i H' x H'' hi' hG y)
        obtain ⟨M3, _, _⟩ := M.beside (f0 := []) S3 O3
        have ed : ds.drop i = d :: ds.drop (i + 1) := by
          rw [List.drop_eq_getElem_cons hi']
          congr 1
          rw [List.getElem?_eq_getElem hi'] at hd
          exact Option.some.inj hd
        rw [ed] at ct
        obtain ⟨fpW, OW3, subW⟩ := O3.wipe vs
        refine hg B3 H'' (L2.wipe σ vs) (wipeE env1 vs) fpW (.sh d) x [] OW3 (by simp only [relW]; exact ⟨r3, trivial⟩) (by simp) List.nodup_nil (by simp) _ ?_
        simp only [mCLP] at ct
        cases e2 : mg (.sh d) (wipeE env1 vs) with
        | none => rw [e2] at ct; exact ct
        | some r2 =>
          obtain ⟨r2, env2⟩ := r2
          rw [e2] at ct
          cases r2 with
          | ex x => exact ct.elim
          | ok u =>
            intro σ2 H2 B2 fp2 O2 S2 ln2 pin2 pu2
            obtain ⟨sH2, bB2⟩ := pu2 rfl
            have hw : L2.wipe σ2 vs = L2.wipe σ vs := by
              rw [← show L2.wipe (L2.wipe σ vs) vs = L2.wipe σ vs from wipe_eq (wipe_length σ vs) fun i hi => wipe_out hi]
              exact wipe_eq ln2 fun j hj => pin2 j (not_off hj)
            have outer : ∀ {B5 H5 : Hp} {f5 fp5 : List Addr}, Step B3 H'' fpW B5 H5 (f5 ++ fp5) → Same B5 H5 → Same H'' H5 → (∀ q, H'' q ≠ none → B5 q = B3 q) → (∀ q ∈ f5, H'' q = none) →
                Made G B H fp σ env1 B5 H5 fp1 D ws acc fA ∧ Step B H fp B5 H5 (D :: fA ++ (f5 ++ fp1)) ∧ ∀ q ∈ f5, q ∉ D :: fA := fun S sb sh bb fr => by
              have lv3 := relE_live M3.ok.rel
              exact M3.beside ⟨fun a o h _ => sh a o h, S.bext, fun a h _ => bb a h, fun a ha => by
                rcases List.mem_append.mp ha with ha | ha
                · exact .inr (fr a ha)
                · exact .inl ha, S.live⟩ ⟨sb, relE_frame S.bext M3.ok.rel fun q hq => same_some sh (lv3 q hq), M3.ok.nd, fun q hq => by
                rw [bb q (lv3 q hq)]
                exact M3.ok.out q hq⟩
            refine ⟨hw, hc B2 H2 σ2 env2 fp2 O2 _ ?_⟩
            simp only at ct
            cases e3 : mc env2 with
            | none => rw [e3] at ct; exact ct
            | some r3 =>
              obtain ⟨r3, env3⟩ := r3
              rw [e3] at ct
              cases r3 with
              | ex x => exact ct.elim
              | ok b =>
                intro b' H4 B4 f4 fp4 P4
                obtain ⟨rfl, rfl⟩ := P4.rel
                obtain ⟨sH4, bB4, rfl, rfl⟩ := P4.pure rfl
                have S4 : Step B3 H'' fpW B4 H4 ([] ++ fp4) := Step.trans (S := []) S2 P4.step
                have sHH4 : Same H'' H4 := fun a o h => sH4 a o (sH2 a o h)
                have bBB4 : ∀ q, H'' q ≠ none → B4 q = B3 q := fun q h => (bB4 q (S2.live q h)).trans (bB2 q h)
                cases b with
                | false =>
                  show if false = true then _ else _
                  rw [if_neg Bool.false_ne_true]
                  obtain ⟨M4, _, _⟩ := outer S4 P4.ok.sub sHH4 bBB4 (by simp)
                  exact ⟨B4, ws, acc, fA, M4, fun a o h => S4.bext a o (sB3 a o (sB a o h)), fun a o h => sHH4 a o (sH3 a o (sH a o h)), fun q h => (bBB4 q (by rw [same_some sH3 (by rw [same_some sH h]; exact h), same_some sH h]; exact h)).trans ((bB3 q (by rw [same_some sH h]; exact h)).trans (bB q h)), ct⟩
                | true =>
                  show if true = true then _ else _
                  rw [if_pos rfl]
                  refine he B4 H4 σ2 env3 fp4 P4.ok _ ?_
                  simp only at ct
                  cases e4 : me env3 with
                  | none => rw [e4] at ct; exact ct
                  | some r4 =>
                    obtain ⟨r4, env4⟩ := r4
                    rw [e4] at ct
                    cases r4 with
                    | ex x => exact ct.elim
                    | ok w =>
                      simp only at ct
                      intro v H5 B5 f5 fp5 P5
                      obtain ⟨sH5, bB5, rfl, rfl⟩ := P5.pure rfl
                      obtain ⟨nd5, dis5⟩ := P5.own rfl
                      have S5 : Step B3 H'' fpW B5 H5 (f5 ++ fp5) := Step.trans (S := []) S4 P5.step
                      have sHH5 : Same H'' H5 := fun a o h => sH5 a o (sHH4 a o h)
                      have bBB5 : ∀ q, H'' q ≠ none → B5 q = B3 q := fun q h => (bB5 q (S4.live q h)).trans (bBB4 q h)
                      have fr5 : ∀ q ∈ f5, H4 q = none := fun q hq => by
                        rcases P5.step.new q (by simp [hq]) with z | z
                        · exact absurd z (dis5 q hq)
                        · exact z
                      have fr : ∀ q ∈ f5, H'' q = none := fun q hq => by
                        cases e : H'' q with
                        | none => rfl
                        | some o => exact absurd (fr5 q hq) (S4.live q (by simp [e]))
                      obtain ⟨M5, S5', ne5⟩ := outer S5 P5.ok.sub sHH5 bBB5 fr
                      by_cases hlen : ws.length < 100000
                      · rw [if_pos hlen] at ct
                        have lvO := relE_live M5.ok.rel
                        have M6 := M5.more P5.rel nd5 (fun q hq => ⟨fun z => relE_live M3.ok.rel q z (fr q hq), ne5 q hq⟩) P5.out S5'
                        refine ⟨acc, M5.here, ?_, B5, _, _, _, M6, fun a o h => S5.bext a o (sB3 a o (sB a o h)), fun a o h => ?_, fun q h => (bBB5 q (by rw [same_some sH3 (by rw [same_some sH h]; exact h), same_some sH h]; exact h)).trans ((bB3 q (by rw [same_some sH h]; exact h)).trans (bB q h)), ct⟩
                        · rw [← relWs_length M5.rel]
                          exact Nat.lt_of_lt_of_le hlen (by decide)
                        · rw [upd_ne fun z => by rw [z, nD] at h; cases h]
                          exact sHH5 a o (sH3 a o (sH a o h))
                      · rw [if_neg hlen] at ct
                        exact ct.elim
      · rintro H' ⟨B', ws, acc, fA, M, sB, sH, bB, ct⟩
        rw [List.drop_length] at ct
        exact ct H' B' acc fA M sH bB
end
end AM
namespace AM
open PySem L2
abbrev MF := List W → Option (Res W × List (Option W))
def ContF (G : GX) (B H : Hp) (vs : List V) (fp : List Addr) (r : Option (Res W × List (Option W))) (Q : VK) (E : XK) : Prop :=
  match r with
  | none => False
  | some (.ok w, outs) => ∀ v H' B' f0 f2, Same B' H' → relW G B' H' w v f0 → relE G B' H' (vs.map some) outs f2 → (f0 ++ f2).Nodup → (∀ q ∈ f0 ++ f2, B' q = none) → Step B H fp B' H' (f0 ++ f2) → Q v H'
  | some (.ex x, outs) => ∀ cls d H' B' f2, Same B' H' → relE G B' H' (vs.map some) outs f2 → f2.Nodup → (∀ q ∈ f2, B' q = none) → Step B H fp B' H' f2 → relX G H' x cls d → (∀ dd, d = some dd → B' dd = none ∧ dd ∉ f2 ∧ H dd = none) → E cls d H'
def spOf (G : GX) (n : Nat) (m : MF) : Sp := fun vs H Q E => vs.length = n ∧ ∃ B ws fp, Same B H ∧ relWs G B H ws vs fp ∧ fp.Nodup ∧ (∀ q ∈ fp, B q = none) ∧ ContF G B H vs fp (m ws) Q E
def ownKind : HO → Bool
  | .lst _ => true
  | .ins _ _ _ => true
  | .own _ => true
  | .dK _ => true
  | .dT _ => true
  | _ => false
section
variable {G : GX} {B H : Hp}
mutual
theorem relW_kind : ∀ {w : W} {v : V} {f : List Addr}, relW G B H w v f → ∀ q ∈ f, ∃ o, H q = some o ∧ ownKind o = true
  | .sh d, v, f, h, q, hq => by
    simp only [relW] at h
    rw [h.2] at hq
    simp at hq
  | .ol ws, v, f, h, q, hq => by
    simp only [relW] at h
    obtain ⟨p, vs, g, h1, h2, h3, rfl⟩ := h
    rcases List.mem_cons.mp hq with rfl | hq
    · exact ⟨_, h2, rfl⟩
    · exact relWs_kind h3 q hq
  | .ot ws, v, f, h, q, hq => by
    simp only [relW] at h
    obtain ⟨p, vs, h1, h2, h3⟩ := h
    exact relWs_kind h3 q hq
  | .ob c fs ws, v, f, h, q, hq => by
    simp only [relW] at h
    obtain ⟨p, dx, C, vs, g, h1, h2, h3, h4, h5, h6, rfl⟩ := h
    rcases List.mem_cons.mp hq with rfl | hq
    · exact ⟨_, h3, rfl⟩
    · rcases List.mem_cons.mp hq with rfl | hq
      · exact ⟨_, h4, rfl⟩
      · exact relWs_kind h6 q hq
  | .dk ks ws, v, f, h, q, hq => by
    simp only [relW] at h
    obtain ⟨p, vs, g, h1, h2, h3, h4, rfl⟩ := h
    rcases List.mem_cons.mp hq with rfl | hq
    · exact ⟨_, h2, rfl⟩
    · exact relWs_kind h4 q hq
  | .dt ks ws, v, f, h, q, hq => by
    simp only [relW] at h
    obtain ⟨p, vs, g, h1, h2, h3, h4, rfl⟩ := h
    rcases List.mem_cons.mp hq with rfl | hq
    · exact ⟨_, h2, rfl⟩
    · exact relWs_kind h4 q hq
theorem relWs_kind : ∀ {ws : List W} {vs : List V} {f : List Addr}, relWs G B H ws vs f → ∀ q ∈ f, ∃ o, H q = some o ∧ ownKind o = true
  | [], _, _, h, q, hq => by
    simp only [relWs] at h
    rw [h.2] at hq
    simp at hq
  | w :: ws, vs, f, h, q, hq => by
    simp only [relWs] at h
    obtain ⟨v, r, g1, g2, h1, h2, h3, rfl⟩ := h
    rcases List.mem_append.mp hq with hq | hq
    · exact relW_kind h2 q hq
    · exact relWs_kind h3 q hq
end
theorem relE_kind : ∀ {env : Env} {σ : St} {f : List Addr}, relE G B H σ env f → ∀ q ∈ f, ∃ o, H q = some o ∧ ownKind o = true
  | [], _, _, h, q, hq => by
    rw [h.2] at hq
    simp at hq
  | w :: env, σ, f, h, q, hq => by
    obtain ⟨o, τ, f1, f2, h1, h2, h3, rfl⟩ := h
    rcases List.mem_append.mp hq with hq | hq
    · cases w with
      | none =>
        rw [show f1 = [] from h2] at hq
        simp at hq
      | some w =>
        obtain ⟨v, _, h2⟩ := h2
        exact relW_kind h2 q hq
    · exact relE_kind h3 q hq
end
mutual
def D.imm : D → Bool
  | .non => true
  | .bl _ => true
  | .int _ => true
  | .str _ => true
  | .lst _ => false
  | .tup ds => D.imms ds
  | .exc _ ds => D.imms ds
  | .scr _ => false
  | .fn _ => true
  | .adr _ => true
  | .la _ _ => false
  | .any => true
  | .obj _ _ _ => false
def D.imms : List D → Bool
  | [] => true
  | d :: ds => D.imm d && D.imms ds
end
mutual
def W.closed : W → Bool
  | .sh d => d.imm
  | .ol ws => W.closeds ws
  | .ot ws => W.closeds ws
  | .ob _ _ ws => W.closeds ws
  | .dk _ ws => W.closeds ws
  | .dt _ ws => W.closeds ws
def W.closeds : List W → Bool
  | [] => true
  | w :: ws => W.closed w && W.closeds ws
end
def outsClosed : List (Option W) → Bool
  | [] => true
  | none :: r => outsClosed r
  | some w :: r => w.closed && outsClosed r
def ung (B : Hp) (F : List Addr) : Hp := fun a => if a ∈ F then none else B a
section
variable {G : GX} {B H : Hp} {F : List Addr}
theorem ung_out {a : Addr} (h : a ∉ F) : ung B F a = B a := if_neg h
theorem ung_in {a : Addr} (h : a ∈ F) : ung B F a = none := if_pos h
theorem ung_sub : Same (ung B F) B := fun a o h => by
  unfold ung at h
  split at h
  · cases h
  · exact h
mutual
theorem repD_ung (hF : ∀ a ∈ F, ∀ o, B a = some o → ownKind o = true) : ∀ {d : D} {v : V}, d.imm = true → repD G B d v → repD G (ung B F) d v
  | .non, _, _, h => by simpa [repD] using h
  | .bl _, _, _, h => by simpa [repD] using h
  | .int _, _, _, h => by simpa [repD] using h
  | .str _, _, _, h => by simpa [repD] using h
  | .lst ds, v, i, h => by simp [D.imm] at i
  | .scr ds, v, i, h => by simp [D.imm] at i
  | .fn c, v, i, h => by
    simp only [repD] at h ⊢
    exact h
  | .adr _, _, _, h => by simpa [repD] using h
  | .la _ _, v, i, h => by simp [D.imm] at i
  | .any, _, _, h => by simpa [repD] using h
  | .tup ds, v, i, h => by
    simp only [repD] at h ⊢
    simp only [D.imm] at i
    obtain ⟨a, vs, h1, h2, h3⟩ := h
    refine ⟨a, vs, h1, ?_, repDs_ung hF i h3⟩
    rcases h2 with (h2 | ⟨o, h2⟩) | h2
    · refine .inl (.inl ?_)
      rw [ung_out fun z => by have := hF a z _ h2; cases this]
      exact h2
    · refine .inl (.inr ⟨o, ?_⟩)
      rw [ung_out fun z => by have := hF a z _ h2; cases this]
      exact h2
    · exact .inr h2
  | .exc c ds, v, i, h => by
    simp only [repD] at h ⊢
    simp only [D.imm] at i
    obtain ⟨a, C, d, h1, h2, h3, h4⟩ := h
    refine ⟨a, C, d, h1, h2, ?_, ?_⟩
    · rw [ung_out fun z => by have := hF a z _ h3; cases this]
      exact h3
    · rcases h4 with h4 | ⟨dd, x, h5, h6, h7⟩
      · exact .inl h4
      · refine .inr ⟨dd, x, h5, ?_, repDs_ung hF i h7⟩
        rw [ung_out fun z => by have := hF dd z _ h6; cases this]
        exact h6
theorem repDs_ung (hF : ∀ a ∈ F, ∀ o, B a = some o → ownKind o = true) : ∀ {ds : List D} {vs : List V}, D.imms ds = true → repDs G B ds vs → repDs G (ung B F) ds vs
  | [], _, _, h => by simpa [repDs] using h
  | d :: ds, vs, i, h => by
    simp only [repDs] at h ⊢
    simp only [D.imms, Bool.and_eq_true] at i
    obtain ⟨v, r, h1, h2, h3⟩ := h
    exact ⟨v, r, h1, repD_ung hF i.1 h2, repDs_ung hF i.2 h3⟩
end
mutual
theorem relW_ung (hF : ∀ a ∈ F, ∀ o, B a = some o → ownKind o = true) : ∀ {w : W} {v : V} {f : List Addr}, w.closed = true → relW G B H w v f → relW G (ung B F) H w v f
  | .sh d, v, f, i, h => by
    simp only [relW] at h ⊢
    simp only [W.closed] at i
    exact ⟨repD_ung hF i h.1, h.2⟩
  | .ol ws, v, f, i, h => by
    simp only [relW] at h ⊢
    simp only [W.closed] at i
    obtain ⟨p, vs, g, h1, h2, h3, h4⟩ := h
    exact ⟨p, vs, g, h1, h2, relWs_ung hF i h3, h4⟩
  | .ot ws, v, f, i, h => by
    simp only [relW] at h ⊢
    simp only [W.closed] at i
    obtain ⟨p, vs, h1, h2, h3⟩ := h
    refine ⟨p, vs, h1, ?_, relWs_ung hF i h3⟩
    rw [ung_out fun z => by have := hF p z _ h2; cases this]
    exact h2
  | .ob c fs ws, v, f, i, h => by
    simp only [relW] at h ⊢
    simp only [W.closed] at i
    obtain ⟨p, dx, C, vs, g, h1, h2, h3, h4, h5, h6, h7⟩ := h
    exact ⟨p, dx, C, vs, g, h1, h2, h3, h4, h5, relWs_ung hF i h6, h7⟩
  | .dk ks ws, v, f, i, h => by
    simp only [relW] at h ⊢
    simp only [W.closed] at i
    obtain ⟨p, vs, g, h1, h2, h3, h4, h5⟩ := h
    exact ⟨p, vs, g, h1, h2, h3, relWs_ung hF i h4, h5⟩
  | .dt ks ws, v, f, i, h => by
    simp only [relW] at h ⊢
    simp only [W.closed] at i
    obtain ⟨p, vs, g, h1, h2, h3, h4, h5⟩ := h
    exact ⟨p, vs, g, h1, h2, h3, relWs_ung hF i h4, h5⟩
theorem relWs_ung (hF : ∀ a ∈ F, ∀ o, B a = some o → ownKind o = true) : ∀ {ws : List W} {vs : List V} {f : List Addr}, W.closeds ws = true → relWs G B H ws vs f → relWs G (ung B F) H ws vs f
  | [], _, _, _, h => by simpa [relWs] using h
  | w :: ws, vs, f, i, h => by
    simp only [relWs] at h ⊢
    simp only [W.closeds, Bool.and_eq_true] at i
    obtain ⟨v, r, g1, g2, h1, h2, h3, h4⟩ := h
    exact ⟨v, r, g1, g2, h1, relW_ung hF i.1 h2, relWs_ung hF i.2 h3, h4⟩
end
theorem relE_ung (hF : ∀ a ∈ F, ∀ o, B a = some o → ownKind o = true) : ∀ {env : Env} {σ : St} {f : List Addr}, outsClosed env = true → relE G B H σ env f → relE G (ung B F) H σ env f
  | [], _, _, _, h => h
  | w :: env, σ, f, i, h => by
    obtain ⟨o, τ, f1, f2, h1, h2, h3, h4⟩ := h
    cases w with
    | none => exact ⟨o, τ, f1, f2, h1, h2, relE_ung hF i h3, h4⟩
    | some w =>
      simp only [outsClosed, Bool.and_eq_true] at i
      obtain ⟨v, h5, h6⟩ := h2
      exact ⟨o, τ, f1, f2, h1, ⟨v, h5, relW_ung hF i.1 h6⟩, relE_ung hF i.2 h3, h4⟩
end
inductive AW where
  | own (w : W)
  | bor (p : Path)
  | io (p : Path)
section
variable (G : GX)
def relA (B H : Hp) (σ : St) : AW → V → List Addr → Prop
  | .own w, v, f => relW G B H w v f
  | .bor p, v, f => locE H σ p v ∧ f = []
  | .io p, v, f => locE H σ p v ∧ f = []
def relAs (B H : Hp) (σ : St) : List AW → List V → List Addr → Prop
  | [], vs, f => vs = [] ∧ f = []
  | a :: as, vs, f => ∃ v r f1 f2, vs = v :: r ∧ relA G B H σ a v f1 ∧ relAs B H σ as r f2 ∧ f = f1 ++ f2
structure PostA (p : Bool) (B H : Hp) (σ : St) (env : Env) (fp : List Addr) (as : List AW) (env' : Env) (vs : List V) (H' B' : Hp) (f0 fp2 : List Addr) : Prop where
  ok : Ok G B' H' σ env' fp2
  rel : relAs G B' H' σ as vs f0
  out : ∀ q ∈ f0, B' q = none
  step : Step B H fp B' H' (f0 ++ fp2)
  own : f0.Nodup ∧ ∀ q ∈ f0, q ∉ fp2
  pure : p = true → Same H H' ∧ (∀ q, H q ≠ none → B' q = B q) ∧ env' = env ∧ fp2 = fp
def SimA (p : Bool) (Wx : WX) (t : TA) (m : ME (List AW)) : Prop := ∀ B H σ env fp, Ok G B H σ env fp → ∀ Q : List V → Hp → Prop,
  (match m env with
  | none => False
  | some (.ok as, env') => ∀ vs H' B' f0 fp2, PostA G p B H σ env fp as env' vs H' B' f0 fp2 → Q vs H'
  | some (.ex x, env') => ∀ cls d H' B' fp2, Ok G B' H' σ env' fp2 → Step B H fp B' H' fp2 → relX G H' x cls d → (∀ dd, d = some dd → B' dd = none ∧ dd ∉ fp2 ∧ H dd = none) → Wx cls d σ H') → t σ H Q
end
def SAw (X : Cx) (Wx : WX) (p : Bool) (es : List Expr) (m : ME (List AW)) : Prop := ∃ t : TA, PA X es t ∧ SimA (gx X) p Wx t m
def wNil : ME (List AW) := ME.pure []
def wOwn (m : ME W) (r : ME (List AW)) : ME (List AW) := m.bind fun w => r.bind fun as => ME.pure (.own w :: as)
def wLoc (mk : Path → AW) (m : ME Path) (r : ME (List AW)) : ME (List AW) := fun env => match m env with
  | some (.ok pa, e) => (r.bind fun as => ME.pure (mk pa :: as)) e
  | _ => none
def wBor := wLoc AW.bor
def wIo := wLoc AW.io
section
variable {G : GX} {Wx : WX} {p p1 p2 : Bool} {t : TE} {u : TA} {m : ME W} {ml : ME Path} {r : ME (List AW)}
theorem relAs_live {B H : Hp} {σ : St} : ∀ {as : List AW} {vs : List V} {f : List Addr}, relAs G B H σ as vs f → ∀ q ∈ f, H q ≠ none
  | [], _, _, h, q, hq => by
    rw [h.2] at hq
    simp at hq
  | a :: as, vs, f, h, q, hq => by
    obtain ⟨v, r, f1, f2, _, h2, h3, rfl⟩ := h
    rcases List.mem_append.mp hq with hq | hq
    · cases a with
      | own w => exact relW_live h2 q hq
      | bor p => rw [h2.2] at hq; simp at hq
      | io p => rw [h2.2] at hq; simp at hq
    · exact relAs_live h3 q hq
theorem simA_nil : SimA G true Wx tNil wNil := fun B H σ env fp O Q c => c [] H B [] fp ⟨O, ⟨rfl, rfl⟩, by simp, Step.refl (by simp), ⟨List.nodup_nil, by simp⟩, fun _ => ⟨Same.refl H, fun _ _ => rfl, rfl, rfl⟩⟩
theorem simA_own (h1 : Sim G true p1 Wx (rW G) t m) (h2 : SimA G p2 Wx u r) : SimA G (p1 && p2) Wx (tCons t u) (wOwn m r) := by
  intro B H σ env fp O Q c
  refine h1 B H σ env fp O _ ?_
  unfold wOwn ME.bind at c
  cases e1 : m env with
  | none => rw [e1] at c; exact c
  | some r1 =>
    obtain ⟨r1, env1⟩ := r1
    rw [e1] at c
    cases r1 with
    | ex x => exact c
    | ok w =>
      intro v H1 B1 f1 fp1 P1
      refine h2 B1 H1 σ env1 fp1 P1.ok _ ?_
      simp only at c
      cases e2 : r env1 with
      | none => rw [e2] at c; exact c
      | some r2 =>
        obtain ⟨r2, env2⟩ := r2
        rw [e2] at c
        cases r2 with
        | ex x =>
          intro cls d H2 B2 fp2 O2 S2 hx hd
          refine c cls d H2 B2 fp2 O2 (P1.step.drop.trans S2) hx fun dd e => ?_
          obtain ⟨a1, a2, a3⟩ := hd dd e
          refine ⟨a1, a2, ?_⟩
          cases q : H dd with
          | none => rfl
          | some o => exact absurd a3 (P1.step.live dd (by simp [q]))
        | ok as =>
          intro vs H2 B2 f2 fp2 P2
          have r1 : relW G B1 H1 w v f1 := P1.rel
          have live1 := relW_live r1
          obtain ⟨n1, d1⟩ := P1.own rfl
          obtain ⟨n2, d2⟩ := P2.own
          have kp : ∀ q ∈ f1, H2 q = H1 q := fun q hq => by
            cases e : H1 q with
            | none => exact absurd e (live1 q hq)
            | some o => exact P2.step.keep q o e (d1 q hq)
          have dis : ∀ q ∈ f1, q ∉ f2 ++ fp2 := fun q hq z => by
            rcases P2.step.new q z with z | z
            · exact d1 q hq z
            · exact live1 q hq z
          refine c (v :: vs) H2 B2 (f1 ++ f2) fp2 ⟨P2.ok, ⟨v, vs, f1, f2, rfl, relW_frame P2.step.bext r1 kp, P2.rel, rfl⟩, fun q hq => ?_, ?_, ⟨?_, fun q hq z => ?_⟩, fun hp => ?_⟩
          · rcases List.mem_append.mp hq with hq | hq
            · rw [P2.step.bold q (live1 q hq) (d1 q hq)]
              exact P1.out q hq
            · exact P2.out q hq
          · rw [List.append_assoc]
            exact P1.step.trans P2.step
          · exact List.nodup_append.mpr ⟨n1, n2, fun a ha b hb e => by subst e; exact dis a ha (by simp [hb])⟩
          · rcases List.mem_append.mp hq with hq | hq
            · exact dis q hq (by simp [z])
            · exact d2 q hq z
          · simp only [Bool.and_eq_true] at hp
            obtain ⟨s1, b1, v1, u1⟩ := P1.pure hp.1
            obtain ⟨s2, b2, v2, u2⟩ := P2.pure hp.2
            exact ⟨fun q o h => s2 q o (s1 q o h), fun q h => (b2 q (P1.step.live q h)).trans (b1 q h), v2.trans v1, u2.trans u1⟩
theorem simA_loc {mk : Path → AW} (hmk : ∀ B H σ pa v, locE H σ pa v → relA G B H σ (mk pa) v []) (h1 : SimL G t ml) (h2 : SimA G p2 Wx u r) (hc : p2 = true ∨ Root ml) : SimA G p2 Wx (tCons t u) (wLoc mk ml r) := by
  intro B H σ env fp O Q c
  refine h1 B H σ env fp O _ ?_
  unfold wLoc at c
  cases e1 : ml env with
  | none => rw [e1] at c; exact c
  | some r1 =>
    obtain ⟨r1, env1⟩ := r1
    rw [e1] at c
    cases r1 with
    | ex x => exact c.elim
    | ok pa =>
      intro v H1 B1 ee O1 S1 s1 b1 L1
      subst ee
      simp only [ME.bind] at c
      refine h2 B1 H1 σ env1 fp O1 _ ?_
      cases e2 : r env1 with
      | none => rw [e2] at c; exact c
      | some r2 =>
        obtain ⟨r2, env2⟩ := r2
        rw [e2] at c
        cases r2 with
        | ex x =>
          intro cls d H2 B2 fp2 O2 S2 hx hd
          refine c cls d H2 B2 fp2 O2 (S1.trans (S := []) S2) hx fun dd e => ?_
          obtain ⟨a1, a2, a3⟩ := hd dd e
          refine ⟨a1, a2, ?_⟩
          cases q : H dd with
          | none => rfl
          | some o => exact absurd a3 (S1.live dd (by simp [q]))
        | ok as =>
          intro vs H2 B2 f2 fp2 P2
          have L2 : locE H2 σ pa v := by
            rcases hc with hc | hc
            · exact locE_mono (P2.pure hc).1 L1
            · obtain ⟨v0, q1, q2⟩ := L1
              have := hc _ _ _ e1
              rw [this] at q2
              exact ⟨v0, q1, by rw [this]; exact q2⟩
          refine c (v :: vs) H2 B2 f2 fp2 ⟨P2.ok, ⟨v, vs, [], f2, rfl, hmk _ _ _ _ _ L2, P2.rel, rfl⟩, P2.out, Step.trans (S := []) S1 P2.step, P2.own, fun hp => ?_⟩
          obtain ⟨s2, b2, v2, u2⟩ := P2.pure hp
          exact ⟨fun q o h => s2 q o (s1 q o h), fun q h => (b2 q (S1.live q h)).trans (b1 q h), v2, u2⟩
end
section
variable {X : Cx} {Wx : WX} {p p1 p2 : Bool} {e : Expr} {es : List Expr} {m : ME W} {ml : ME Path} {r : ME (List AW)}
theorem sw_nil : SAw X Wx true [] wNil := ⟨_, pa_nil, simA_nil⟩
theorem sw_own (h : SE X Wx true p1 e m) (hr : SAw X Wx p2 es r) (hs : starEach (e :: es) X.env = (false, eval e X.env) :: starEach es X.env := by rfl) : SAw X Wx (p1 && p2) (e :: es) (wOwn m r) := by
  obtain ⟨t, pe, s⟩ := h
  obtain ⟨u, pr, sr⟩ := hr
  exact ⟨_, pa_cons pe pr hs, simA_own s sr⟩
theorem sw_bor (h : SL X e ml) (hr : SAw X Wx p2 es r) (hc : p2 = true ∨ Root ml) (hs : starEach (e :: es) X.env = (false, eval e X.env) :: starEach es X.env := by rfl) : SAw X Wx p2 (e :: es) (wBor ml r) := by
  obtain ⟨t, pe, s⟩ := h
  obtain ⟨u, pr, sr⟩ := hr
  exact ⟨_, pa_cons pe pr hs, simA_loc (fun _ _ _ _ _ h => ⟨h, rfl⟩) s sr hc⟩
theorem sw_io (h : SL X e ml) (hr : SAw X Wx p2 es r) (hc : p2 = true ∨ Root ml) (hs : starEach (e :: es) X.env = (false, eval e X.env) :: starEach es X.env := by rfl) : SAw X Wx p2 (e :: es) (wIo ml r) := by
  obtain ⟨t, pe, s⟩ := h
  obtain ⟨u, pr, sr⟩ := hr
  exact ⟨_, pa_cons pe pr hs, simA_loc (fun _ _ _ _ _ h => ⟨h, rfl⟩) s sr hc⟩
end
def ioOf : List AW → Option (Nat × Path)
  | [] => none
  | .io p :: _ => some (0, p)
  | _ :: as => (ioOf as).map fun q => (q.1 + 1, q.2)
def ioCount : List AW → Nat
  | [] => 0
  | .io _ :: as => ioCount as + 1
  | _ :: as => ioCount as
def hasBor : List AW → Bool
  | [] => false
  | .bor _ :: _ => true
  | _ :: as => hasBor as
def argWs (env : Env) (wio : Option W) : List AW → Option (List W)
  | [] => some []
  | .own w :: as => (argWs env wio as).map (w :: ·)
  | .bor p :: as => match (getE env p).bind W.toD, argWs env wio as with
    | some d, some ws => some (.sh d :: ws)
    | _, _ => none
  | .io _ :: as => match wio, argWs env wio as with
    | some w, some ws => some (w :: ws)
    | _, _ => none
def resClosed : Res W → Bool
  | .ok w => w.closed
  | .ex _ => true
def callK0 (mf : MF) (as : List AW) : ME W := fun env => match ioOf as with
  | some _ => none
  | none => match argWs env none as with
    | none => none
    | some ws => match mf ws with
      | none => none
      | some (r, _) => if hasBor as && !resClosed r then none else some (r, env)
def callK1 (mf : MF) (as : List AW) (i : Nat) (p : Path) : ME W := fun env => match getE env p with
  | none => none
  | some w => match argWs (env.set p.1 none) (some w) as with
    | none => none
    | some ws => match mf ws with
      | none => none
      | some (r, outs) => if hasBor as && !(resClosed r && outsClosed outs) then none else match outs[i]? with
        | some (some w') => (setE env p w').map fun e => (r, e)
        | _ => none
section
variable {G : GX}
theorem no_io : ∀ {as : List AW}, ioCount as = 0 → ioOf as = none
  | [], _ => rfl
  | .own w :: as, h => by simp only [ioCount] at h; simp [ioOf, no_io h]
  | .bor w :: as, h => by simp only [ioCount] at h; simp [ioOf, no_io h]
  | .io w :: as, h => by simp [ioCount] at h
theorem argWs_no {env : Env} : ∀ {as : List AW}, ioOf as = none → ∀ o : Option W, argWs env o as = argWs env none as
  | [], _, _ => rfl
  | .own w :: as, h, o => by
    simp only [argWs]
    rw [argWs_no (by simpa [ioOf] using h) o]
  | .bor w :: as, h, o => by
    simp only [argWs]
    rw [argWs_no (by simpa [ioOf] using h) o]
  | .io w :: as, h, o => by simp [ioOf] at h
theorem argWs_rel {B H B2 : Hp} {σ : St} {env : Env} {fp : List Addr} {wio : Option W} {vio : V} {gio : List Addr} (sub : Same B H) (rE : relE G B H σ env fp) (sB : Same B B2)
    (hio : ∀ w, wio = some w → relW G B2 H w vio gio) : ∀ {as : List AW} {vs : List V} {f : List Addr} {ws : List W}, (hasBor as = true → ∀ q ∈ fp, B2 q = H q) → relAs G B H σ as vs f → argWs env wio as = some ws → (∀ i p, ioOf as = some (i, p) → ioCount as = 1 ∧ vs[i]? = some vio) → (ioOf as = none → gio = []) →
      ∃ fa, relWs G B2 H ws vs fa ∧ (∀ q, q ∈ fa ↔ q ∈ f ∨ q ∈ gio) ∧ (f.Nodup → gio.Nodup → (∀ q ∈ f, q ∉ gio) → fa.Nodup)
  | [], vs, f, ws, _, r, e, _, hn => by
    obtain ⟨rfl, rfl⟩ := r
    simp only [argWs, Option.some.injEq] at e
    subst e
    exact ⟨[], by simp [relWs], by simp [hn rfl], by simp⟩
  | .own w :: as, vs, f, ws, hF, r, e, hi, hn => by
    obtain ⟨v, rr, f1, f2, rfl, r1, r2, rfl⟩ := r
    simp only [argWs, Option.map_eq_some_iff] at e
    obtain ⟨ws', e1, rfl⟩ := e
    obtain ⟨fa, k1, k2, k3⟩ := argWs_rel (as := as) sub rE sB hio (fun h => hF h) r2 e1 (fun i p h => by
      have := hi (i + 1) p (by simp [ioOf, h])
      exact ⟨by simpa [ioCount] using this.1, by simpa using this.2⟩) (fun h => hn (by simp [ioOf, h]))
    refine ⟨f1 ++ fa, ?_, fun q => ?_, fun n1 n2 n3 => ?_⟩
    · simp only [relWs]
      exact ⟨v, rr, f1, fa, rfl, relW_frame sB r1 (fun _ _ => rfl), k1, rfl⟩
    · simp only [List.mem_append, k2]
      grind
    · simp only [List.nodup_append, List.mem_append] at n1 n3 ⊢
      refine ⟨n1.1, k3 n1.2.1 n2 fun q hq => n3 q (.inr hq), fun a ha b hb => ?_⟩
      rcases (k2 b).mp hb with z | z
      · exact n1.2.2 a ha b z
      · intro e
        subst e
        exact n3 a (.inl ha) z
  | .bor p :: as, vs, f, ws, hF, r, e, hi, hn => by
    obtain ⟨v, rr, f1, f2, rfl, r1, r2, rfl⟩ := r
    obtain ⟨r1, rfl⟩ := r1
    simp only [argWs] at e
    split at e
    · rename_i d ws' h1 h2
      cases e
      simp only [Option.bind_eq_some_iff] at h1
      obtain ⟨w, h3, h4⟩ := h1
      obtain ⟨a1, g, a2, rfl, rw', _⟩ := relE_zip sub rE h3 r1
      obtain ⟨fa, k1, k2, k3⟩ := argWs_rel (as := as) sub rE sB hio (fun _ => hF rfl) r2 h2 (fun i p h => by
        have := hi (i + 1) p (by simp [ioOf, h])
        exact ⟨by simpa [ioCount] using this.1, by simpa using this.2⟩) (fun h => hn (by simp [ioOf, h]))
      refine ⟨fa, ?_, fun q => by simp [k2], fun n1 n2 n3 => k3 (by simpa using n1) n2 (by simpa using n3)⟩
      simp only [relWs]
      exact ⟨v, rr, [], fa, rfl, by simp only [relW]; exact ⟨relW_toD sB rw' h4 fun q hq => hF rfl q (by simp [hq]), trivial⟩, k1, rfl⟩
    · cases e
  | .io p :: as, vs, f, ws, hF, r, e, hi, hn => by
    obtain ⟨v, rr, f1, f2, rfl, r1, r2, rfl⟩ := r
    obtain ⟨r1, rfl⟩ := r1
    simp only [argWs] at e
    cases wio with
    | none => simp at e
    | some w =>
      cases h2 : argWs env (some w) as with
      | none => rw [h2] at e; simp at e
      | some ws' =>
        rw [h2] at e
        simp only [Option.some.injEq] at e
        subst e
        have hi0 := hi 0 p rfl
        have hv : v = vio := by simpa using hi0.2
        subst hv
        have hc : ioCount as = 0 := by simpa [ioCount] using hi0.1
        have hno := no_io hc
        have h2' : argWs env none as = some ws' := by rw [← argWs_no hno (some w)]; exact h2
        obtain ⟨fa, k1, k2, k3⟩ := argWs_rel (as := as) (wio := none) (vio := .non) (gio := []) sub rE sB (fun _ h => by cases h) (fun h => hF h) r2 h2' (fun i p h => by rw [hno] at h; cases h) (fun _ => rfl)
        refine ⟨gio ++ fa, ?_, fun q => ?_, fun n1 n2 n3 => ?_⟩
        · simp only [relWs]
          exact ⟨v, rr, gio, fa, rfl, hio w rfl, k1, rfl⟩
        · simp only [List.mem_append, k2]
          grind
        · simp only [List.nil_append] at n1 n3 ⊢
          refine List.nodup_append.mpr ⟨n2, k3 n1 List.nodup_nil (by simp), fun a ha b hb e => ?_⟩
          subst e
          rcases (k2 a).mp hb with z | z
          · exact n3 a z ha
          · simp at z
end
end AM
namespace AM
open PySem L2
section
variable {G : GX} {Wx : WX} {p : Bool} {ta : TA} {ma : ME (List AW)} {mf : MF} {n : Nat}
theorem relE_zip2 {B H : Hp} {σ : St} {env : Env} (sub : Same B H) {path : Path} {w0 : W} {v0 : V} {fp : List Addr} (r : relE G B H σ env fp) (e : getE env path = some w0) (l : locE H σ path v0) :
    ∃ f1 g f2 F, fp = f1 ++ (g ++ f2) ∧ relW G B H w0 v0 g ∧ relE G B H σ (env.set path.1 none) F ∧ (∀ q ∈ F, q ∈ f1 ∨ q ∈ f2) ∧ ∀ (B' H' : Hp) (w' : W) (g' : List Addr), Same B B' → (∀ q ∈ f1, H' q = H q) → (∀ q ∈ f2, H' q = H q) → relW G B' H' w' v0 g' →
      ∃ env', setE env path w' = some env' ∧ relE G B' H' σ env' (f1 ++ (g' ++ f2)) := by
  unfold getE at e
  split at e
  · rename_i w hw
    obtain ⟨v, hv, lv⟩ := l
    obtain ⟨e1, e2, s1, o, s2, f1, g, f2, rfl, rfl, l1, l2, rfl, r1, ⟨u, rfl, r2⟩, r3⟩ := relE_split r hw
    rw [get_mid l2] at hv
    have : u = v := Option.some.inj (Option.some.inj hv)
    subst this
    obtain ⟨a1, a0, a2, rfl, ra, k⟩ := relW_zip sub r2 e lv
    refine ⟨f1 ++ a1, a0, a2 ++ f2, f1 ++ ([] ++ f2), by simp, ra, ?_, ?_, fun B' H' w' g' sB q1 q2 r' => ?_⟩
    · rw [set_mid l1]
      exact relE_join r1 rfl r3
    · intro q hq
      simp only [List.nil_append, List.mem_append] at hq ⊢
      grind
    · obtain ⟨z, z1, z2⟩ := k B' H' w' g' sB (fun q hq => q1 q (by simp [hq])) (fun q hq => q2 q (by simp [hq])) r'
      refine ⟨(e1 ++ some w :: e2).set path.1 (some z), ?_, ?_⟩
      · unfold setE
        rw [get_mid l1]
        simp only [z1, Option.map_some]
      · rw [set_mid l1]
        have := relE_join (relE_frame sB r1 fun q hq => q1 q (by simp [hq])) (show relS G B' H' (some u) (some z) _ from ⟨u, rfl, z2⟩) (relE_frame sB r3 fun q hq => q2 q (by simp [hq]))
        simpa using this
  · cases e
theorem none_back {H H' : Hp} (h : ∀ a, H a ≠ none → H' a ≠ none) {a : Addr} (n : H' a = none) : H a = none := by
  cases e : H a with
  | none => rfl
  | some o => exact absurd n (h a (by simp [e]))
def lend (b : Bool) (B H : Hp) (F : List Addr) : Hp := if b then grd B H F else B
def unlend (b : Bool) (B : Hp) (F : List Addr) : Hp := if b then ung B F else B
theorem lend_ext {b : Bool} {B H : Hp} {F : List Addr} (h : ∀ q ∈ F, B q = none) : Same B (lend b B H F) := by
  cases b
  · exact Same.refl B
  · exact grd_bext h
theorem lend_sub {b : Bool} {B H : Hp} {F : List Addr} (h : Same B H) : Same (lend b B H F) H := by
  cases b
  · exact h
  · exact grd_sub h
theorem lend_out {b : Bool} {B H : Hp} {F : List Addr} {a : Addr} (h : a ∉ F) : lend b B H F a = B a := by
  cases b
  · rfl
  · exact grd_out h
theorem unlend_out {b : Bool} {B : Hp} {F : List Addr} {a : Addr} (h : a ∉ F) : unlend b B F a = B a := by
  cases b
  · rfl
  · exact ung_out h
theorem unlend_sub {b : Bool} {B : Hp} {F : List Addr} : Same (unlend b B F) B := by
  cases b
  · exact Same.refl B
  · exact ung_sub
structure Left (b : Bool) (B H : Hp) (F f0 g : List Addr) (B' H' : Hp) (S : List Addr) : Prop where
  bext : Same B (unlend b B' F)
  sub : Same (unlend b B' F) H'
  keep : ∀ q, H q ≠ none → q ∉ f0 → q ∉ g → H' q = H q
  bold : ∀ q, H q ≠ none → q ∉ f0 → q ∉ g → q ∉ F → unlend b B' F q = B q
  lent : ∀ q ∈ F, unlend b B' F q = none
  kind : b = true → ∀ a ∈ F, ∀ o, B' a = some o → ownKind o = true
theorem left_of {b : Bool} {B H B' H' : Hp} {F f0 g fa S : List Addr} (s : Same B H) (oF : ∀ q ∈ F, B q = none) (lF : ∀ q ∈ F, ∃ o, H q = some o ∧ ownKind o = true) (d0 : ∀ q ∈ F, q ∉ f0 ∧ q ∉ g) (hfa : ∀ q, q ∈ fa ↔ q ∈ f0 ∨ q ∈ g) (s' : Same B' H') (st : Step (lend b B H F) H fa B' H' S)
    : Left b B H F f0 g B' H' S := by
  have nf : ∀ q ∈ F, q ∉ fa := fun q hq z => ((hfa q).mp z).elim (d0 q hq).1 (d0 q hq).2
  have lv : ∀ q ∈ F, H q ≠ none := fun q hq => by
    obtain ⟨o, h, _⟩ := lF q hq
    simp [h]
  refine ⟨fun a o h => ?_, fun a o h => s' a o (unlend_sub a o h), fun q h n1 n2 => ?_, fun q h n1 n2 n3 => ?_, fun q hq => ?_, fun hb a ha o h => ?_⟩
  · have hF : a ∉ F := fun z => by rw [oF a z] at h; cases h
    rw [unlend_out hF]
    exact st.bext a o (by rw [lend_out hF]; exact h)
  · cases e : H q with
    | none => exact absurd e h
    | some o => exact st.keep q o e fun z => ((hfa q).mp z).elim n1 n2
  · rw [unlend_out n3, st.bold q h fun z => ((hfa q).mp z).elim n1 n2, lend_out n3]
  · cases b with
    | true => exact ung_in hq
    | false =>
      show B' q = none
      rw [st.bold q (lv q hq) (nf q hq)]
      exact oF q hq
  · subst hb
    rw [st.bold a (lv a ha) (nf a ha)] at h
    obtain ⟨o', h1, h2⟩ := lF a ha
    have : lend true B H F a = H a := grd_in ha
    rw [this, h1] at h
    cases h
    exact h2
theorem relW_back {b : Bool} {B' H' : Hp} {F : List Addr} {w : W} {v : V} {f : List Addr} (hk : b = true → ∀ a ∈ F, ∀ o, B' a = some o → ownKind o = true) (hc : b = true → w.closed = true) (r : relW G B' H' w v f) : relW G (unlend b B' F) H' w v f := by
  cases b with
  | false => exact r
  | true => exact relW_ung (hk rfl) (hc rfl) r
theorem relE_back {b : Bool} {B' H' : Hp} {F : List Addr} {env : Env} {σ : St} {f : List Addr} (hk : b = true → ∀ a ∈ F, ∀ o, B' a = some o → ownKind o = true) (hc : b = true → outsClosed env = true) (r : relE G B' H' σ env f) : relE G (unlend b B' F) H' σ env f := by
  cases b with
  | false => exact r
  | true => exact relE_ung (hk rfl) (hc rfl) r
theorem bor_hF {B H : Hp} {F : List Addr} {as : List AW} : hasBor as = true → ∀ q ∈ F, lend (hasBor as) B H F q = H q := fun h q hq => by
  rw [h]
  exact grd_in hq
theorem sim_call0 (hn : ∀ ws r, mf ws = some r → ws.length = n) (ha : SimA G p Wx ta ma) : Sim G true p Wx (rW G) (fun σ H Q => ta σ H fun vs H1 => spOf G n mf vs H1 Q (WE Wx σ)) (ma.bind fun as => callK0 mf as) := by
  intro B H σ env fp O Q c
  refine ha B H σ env fp O _ ?_
  unfold ME.bind at c
  cases e1 : ma env with
  | none => rw [e1] at c; exact c
  | some r1 =>
    obtain ⟨r1, env1⟩ := r1
    rw [e1] at c
    cases r1 with
    | ex x => exact c
    | ok as =>
      intro vs H1 B1 f0 fp1 P
      simp only [callK0] at c
      cases hno : ioOf as with
      | some q => rw [hno] at c; exact c.elim
      | none =>
        rw [hno] at c
        simp only at c
        cases e2 : argWs env1 none as with
        | none => rw [e2] at c; exact c.elim
        | some ws =>
          rw [e2] at c
          simp only at c
          cases e3 : mf ws with
          | none => rw [e3] at c; exact c.elim
          | some ro =>
            obtain ⟨r, outs⟩ := ro
            rw [e3] at c
            simp only at c
            obtain ⟨nd0, dis0⟩ := P.own
            have liveE := relE_live P.ok.rel
            have live0 := relAs_live P.rel
            have oE := P.ok.out
            obtain ⟨fa, ra, hfa, nda⟩ := argWs_rel (B2 := lend (hasBor as) B1 H1 fp1) (vio := .non) (gio := []) P.ok.sub P.ok.rel (lend_ext oE) (fun _ h => by cases h) bor_hF P.rel e2 (fun i p h => by rw [hno] at h; cases h) fun _ => rfl
            have hfa0 : ∀ q, q ∈ fa ↔ q ∈ f0 ∨ q ∈ ([] : List Addr) := hfa
            have clr : hasBor as = true → resClosed r = true := fun hb => by
              rw [hb] at c
              cases e : resClosed r with
              | true => rfl
              | false => rw [e] at c; exact c.elim
            have c : Cont G true p (rW G) Wx B H σ env fp (some (r, env1)) Q := by
              split at c
              · exact c.elim
              · exact c
            refine ⟨by rw [← relWs_length ra]; exact hn ws _ e3, lend (hasBor as) B1 H1 fp1, ws, fa, lend_sub P.ok.sub, ra, nda nd0 List.nodup_nil (by simp), fun q hq => ?_, ?_⟩
            · have hq0 : q ∈ f0 := by simpa using (hfa q).mp hq
              rw [lend_out (dis0 q hq0)]
              exact P.out q hq0
            · rw [e3]
              have key : ∀ {H' B' : Hp} {S : List Addr}, Same B' H' → Step (lend (hasBor as) B1 H1 fp1) H1 fa B' H' S → Left (hasBor as) B1 H1 fp1 f0 [] B' H' S ∧ Ok G (unlend (hasBor as) B' fp1) H' σ env1 fp1 ∧ Step B H fp (unlend (hasBor as) B' fp1) H' (S ++ fp1) := fun {H' B' S} s' st => by
                have L := left_of P.ok.sub oE (relE_kind P.ok.rel) (fun q hq => ⟨fun z => dis0 q z hq, by simp⟩) hfa0 s' st
                have kE : ∀ q ∈ fp1, H' q = H1 q := fun q hq => L.keep q (liveE q hq) (fun z => dis0 q z hq) (by simp)
                refine ⟨L, ⟨L.sub, relE_frame L.bext P.ok.rel kE, P.ok.nd, L.lent⟩, ⟨fun a o h nf => ?_, fun a o h => L.bext a o (P.step.bext a o h), fun a h nf => ?_, fun a ha => ?_, fun a h => st.live a (P.step.live a h)⟩⟩
                · have h1 := P.step.keep a o h nf
                  have n0 : a ∉ f0 := fun z => by
                    rcases P.step.new a (by simp [z]) with y | y
                    · exact nf y
                    · rw [h] at y; cases y
                  rw [L.keep a (by simp [h1]) n0 (by simp)]
                  exact h1
                · have n0 : a ∉ f0 ++ fp1 := fun z => by
                    rcases P.step.new a z with y | y
                    · exact nf y
                    · exact h y
                  simp only [List.mem_append, not_or] at n0
                  rw [L.bold a (P.step.live a h) n0.1 (by simp) n0.2]
                  exact P.step.bold a h nf
                · rcases List.mem_append.mp ha with ha | ha
                  · rcases st.new a ha with z | z
                    · exact P.step.new a (by have := (hfa a).mp z; simp at this; simp [this])
                    · exact .inr (none_back P.step.live z)
                  · exact P.step.new a (by simp [ha])
              cases r with
              | ok w =>
                intro v H' B' fr f2 s' rw' ro nd out st
                obtain ⟨L, O3, S3⟩ := key s' (st.mono (T := fr) fun q hq => by simp [hq])
                refine c v H' (unlend (hasBor as) B' fp1) fr fp1 ⟨O3, relW_back L.kind (fun hb => clr hb) rw', fun q hq => ?_, S3, fun _ => ⟨(List.nodup_append.mp nd).1, fun q hq z => ?_⟩, fun hp => ?_⟩
                · have := out q (by simp [hq])
                  cases e : unlend (hasBor as) B' fp1 q with
                  | none => rfl
                  | some o => rw [unlend_sub q o e] at this; cases this
                · rcases st.new q (by simp [hq]) with y | y
                  · exact dis0 q (by simpa using (hfa q).mp y) z
                  · exact liveE q z y
                · obtain ⟨a1, a2, a3, a4⟩ := P.pure hp
                  have nf0 : ∀ q, H q ≠ none → q ∉ f0 := fun q h z => by
                    rcases P.step.new q (by simp [z]) with y | y
                    · exact dis0 q z (by rw [a4]; exact y)
                    · exact h y
                  refine ⟨fun q o h => ?_, fun q h => ?_, a3, a4⟩
                  · have h1 := a1 q o h
                    rw [L.keep q (by simp [h1]) (nf0 q (by simp [h])) (by simp)]
                    exact h1
                  · by_cases hq : q ∈ fp1
                    · rw [L.lent q hq]
                      exact (O.out q (by rw [← a4]; exact hq)).symm
                    · rw [L.bold q (P.step.live q h) (nf0 q h) (by simp) hq]
                      exact a2 q h
              | ex x =>
                intro cls d H' B' f2 s' ro nd out st hx hd
                obtain ⟨L, O3, S3⟩ := key s' (st.mono (T := []) fun q hq => by simp at hq)
                refine c cls d H' (unlend (hasBor as) B' fp1) fp1 O3 S3 hx fun dd e => ?_
                obtain ⟨b1, b2, b3⟩ := hd dd e
                refine ⟨?_, fun z => liveE dd z b3, none_back P.step.live b3⟩
                cases e : unlend (hasBor as) B' fp1 dd with
                | none => rfl
                | some o => rw [unlend_sub dd o e] at b1; cases b1
theorem ioOf_at {B H : Hp} {σ : St} : ∀ {as : List AW} {vs : List V} {f : List Addr} {i : Nat} {pa : Path}, relAs G B H σ as vs f → ioOf as = some (i, pa) → ∃ v, vs[i]? = some v ∧ locE H σ pa v
  | [], _, _, _, _, _, e => by cases e
  | .own w :: as, vs, f, i, pa, r, e => by
    obtain ⟨v, rr, f1, f2, rfl, r1, r2, rfl⟩ := r
    simp only [ioOf, Option.map_eq_some_iff] at e
    obtain ⟨⟨j, q⟩, e1, e2⟩ := e
    cases e2
    obtain ⟨v', h1, h2⟩ := ioOf_at r2 e1
    exact ⟨v', by simpa using h1, h2⟩
  | .bor w :: as, vs, f, i, pa, r, e => by
    obtain ⟨v, rr, f1, f2, rfl, r1, r2, rfl⟩ := r
    simp only [ioOf, Option.map_eq_some_iff] at e
    obtain ⟨⟨j, q⟩, e1, e2⟩ := e
    cases e2
    obtain ⟨v', h1, h2⟩ := ioOf_at r2 e1
    exact ⟨v', by simpa using h1, h2⟩
  | .io w :: as, vs, f, i, pa, r, e => by
    obtain ⟨v, rr, f1, f2, rfl, r1, r2, rfl⟩ := r
    simp only [ioOf, Option.some.injEq, Prod.mk.injEq] at e
    obtain ⟨rfl, rfl⟩ := e
    exact ⟨v, rfl, r1.1⟩
theorem sim_call1 (hn : ∀ ws r, mf ws = some r → ws.length = n) (ha : SimA G p Wx ta ma) : Sim G true false Wx (rW G) (fun σ H Q => ta σ H fun vs H1 => spOf G n mf vs H1 Q (WE Wx σ)) (ma.bind fun as => match ioOf as with
    | none => ME.stuck
    | some (i, pa) => if ioCount as = 1 then callK1 mf as i pa else ME.stuck) := by
  intro B H σ env fp O Q c
  refine ha B H σ env fp O _ ?_
  unfold ME.bind at c
  cases e1 : ma env with
  | none => rw [e1] at c; exact c
  | some r1 =>
    obtain ⟨r1, env1⟩ := r1
    rw [e1] at c
    cases r1 with
    | ex x => exact c
    | ok as =>
      intro vs H1 B1 f0 fp1 P
      simp only at c
      cases hio : ioOf as with
      | none => rw [hio] at c; exact c.elim
      | some q =>
        obtain ⟨i, pa⟩ := q
        rw [hio] at c
        simp only at c
        by_cases hcount : ioCount as = 1
        · rw [if_pos hcount] at c
          obtain ⟨vio, hvio, lio⟩ := ioOf_at P.rel hio
          simp only [callK1] at c
          cases eg : getE env1 pa with
          | none => rw [eg] at c; exact c.elim
          | some wio =>
            rw [eg] at c
            simp only at c
            cases e2 : argWs (env1.set pa.1 none) (some wio) as with
            | none => rw [e2] at c; exact c.elim
            | some ws =>
              rw [e2] at c
              simp only at c
              cases e3 : mf ws with
              | none => rw [e3] at c; exact c.elim
              | some ro =>
                obtain ⟨r, outs⟩ := ro
                rw [e3] at c
                simp only at c
                obtain ⟨g1, g, g2, F, rfl, rg, rF, subF, back⟩ := relE_zip2 P.ok.sub P.ok.rel eg lio
                obtain ⟨nd0, dis0⟩ := P.own
                have ndE := P.ok.nd
                simp only [List.nodup_append, List.mem_append] at ndE
                obtain ⟨n1, ⟨n2, n3, n4⟩, n5⟩ := ndE
                have liveE := relE_live P.ok.rel
                have live0 := relAs_live P.rel
                have oE := P.ok.out
                have Fsub : ∀ q ∈ F, q ∈ g1 ++ (g ++ g2) := fun q hq => by
                  rcases subF q hq with z | z <;> simp [z]
                have Fg : ∀ q ∈ F, q ∉ g := fun q hq z => by
                  rcases subF q hq with y | y
                  · exact n5 q y q (.inl z) rfl
                  · exact n4 q z q y rfl
                have oF : ∀ q ∈ F, B1 q = none := fun q hq => oE q (Fsub q hq)
                have dF : ∀ q ∈ F, q ∉ f0 ∧ q ∉ g := fun q hq => ⟨fun z => dis0 q z (Fsub q hq), Fg q hq⟩
                obtain ⟨fa, ra, hfa, nda⟩ := argWs_rel (B2 := lend (hasBor as) B1 H1 F) (vio := vio) (gio := g) P.ok.sub rF (lend_ext oF) (fun w h => by cases h; exact relW_frame (lend_ext oF) rg fun _ _ => rfl) bor_hF P.rel e2 (fun j p h => by
                  rw [hio] at h
                  cases h
                  exact ⟨hcount, hvio⟩) fun h => by rw [hio] at h; cases h
                have clr : hasBor as = true → resClosed r = true ∧ outsClosed outs = true := fun hb => by
                  rw [hb] at c
                  cases e : (resClosed r && outsClosed outs) with
                  | true => simpa using e
                  | false => rw [e] at c; exact c.elim
                have c : Cont G true false (rW G) Wx B H σ env fp (match outs[i]? with
                    | some (some w') => (setE env1 pa w').map fun e => (r, e)
                    | _ => none) Q := by
                  split at c
                  · exact c.elim
                  · exact c
                refine ⟨by rw [← relWs_length ra]; exact hn ws _ e3, lend (hasBor as) B1 H1 F, ws, fa, lend_sub P.ok.sub, ra, nda nd0 n2 (fun q hq z => dis0 q hq (by simp [z])), fun q hq => ?_, ?_⟩
                · rcases (hfa q).mp hq with z | z
                  · rw [lend_out fun y => (dF q y).1 z]
                    exact P.out q z
                  · rw [lend_out fun y => (dF q y).2 z]
                    exact oE q (by simp [z])
                · rw [e3]
                  cases eo : outs[i]? with
                  | none => rw [eo] at c; exact c.elim
                  | some o =>
                    cases o with
                    | none => rw [eo] at c; exact c.elim
                    | some w' =>
                      rw [eo] at c
                      simp only at c
                      have key : ∀ {H' B' : Hp} {S f2 : List Addr}, Same B' H' → Step (lend (hasBor as) B1 H1 F) H1 fa B' H' (S ++ f2) → relE G B' H' (vs.map some) outs f2 → (S ++ f2).Nodup → (∀ q ∈ S ++ f2, B' q = none) →
                          Left (hasBor as) B1 H1 F f0 g B' H' (S ++ f2) ∧ ∃ env3 fp3, setE env1 pa w' = some env3 ∧ Ok G (unlend (hasBor as) B' F) H' σ env3 fp3 ∧ Step B H fp (unlend (hasBor as) B' F) H' (S ++ fp3) ∧ (∀ q ∈ S, q ∉ fp3) ∧ ∀ q ∈ fp3, q ∈ f2 ∨ H1 q ≠ none := fun {H' B' S f2} s' st ro nd out => by
                        have L := left_of P.ok.sub oF (fun q hq => relE_kind P.ok.rel q (Fsub q hq)) dF hfa s' st
                        have ro' := relE_back L.kind (fun hb => (clr hb).2) ro
                        obtain ⟨o1, o2, s1, oo, s2, h1, g', h2, eouts, evs, l1, l2, rfl, _, ⟨vv, ev, rv⟩, _⟩ := relE_split ro' eo
                        have evv : vv = vio := by
                          have hx : (vs.map some)[i]? = some oo := by rw [evs]; exact get_mid l2
                          rw [List.getElem?_map, hvio, ev] at hx
                          exact (Option.some.inj (Option.some.inj hx)).symm
                        subst evv
                        have kE : ∀ q, q ∈ g1 ∨ q ∈ g2 → H' q = H1 q := fun q hq => L.keep q (liveE q (by rcases hq with z | z <;> simp [z])) (fun z => dis0 q z (by rcases hq with y | y <;> simp [y])) (fun z => by
                          rcases hq with y | y
                          · exact n5 q y q (.inl z) rfl
                          · exact n4 q z q y rfl)
                        obtain ⟨env3, e5, rE⟩ := back (unlend (hasBor as) B' F) H' w' g' L.bext (fun q hq => kE q (.inl hq)) (fun q hq => kE q (.inr hq)) rv
                        have outB : ∀ q ∈ S ++ (h1 ++ (g' ++ h2)), unlend (hasBor as) B' F q = none := fun q hq => by
                          have := out q hq
                          cases e : unlend (hasBor as) B' F q with
                          | none => rfl
                          | some o => rw [unlend_sub q o e] at this; cases this
                        simp only [List.nodup_append, List.mem_append] at nd
                        obtain ⟨m1, ⟨m2, ⟨m3, m4, m5⟩, m6⟩, m7⟩ := nd
                        have fresh : ∀ q, q ∈ S ∨ q ∈ h1 ∨ q ∈ g' ∨ q ∈ h2 → q ∉ g1 ∧ q ∉ g2 := fun q hq => by
                          rcases st.new q (by simp only [List.mem_append]; grind) with y | y
                          · rcases (hfa q).mp y with z | z
                            · exact ⟨fun y => dis0 q z (by simp [y]), fun y => dis0 q z (by simp [y])⟩
                            · exact ⟨fun y => n5 q y q (.inl z) rfl, fun y => n4 q z q y rfl⟩
                          · exact ⟨fun z => liveE q (by simp [z]) y, fun z => liveE q (by simp [z]) y⟩
                        have newS : ∀ q, q ∈ S ∨ q ∈ h1 ∨ q ∈ g' ∨ q ∈ h2 → q ∈ fp ∨ H q = none := fun q hq => by
                          rcases st.new q (by simp only [List.mem_append]; grind) with y | y
                          · rcases (hfa q).mp y with z | z
                            · exact P.step.new q (by simp [z])
                            · exact P.step.new q (by simp [z])
                          · exact .inr (none_back P.step.live y)
                        refine ⟨L, env3, g1 ++ (g' ++ g2), e5, ⟨L.sub, rE, ?_, fun q hq => ?_⟩, ⟨fun a o h nf => ?_, fun a o h => L.bext a o (P.step.bext a o h), fun a h nf => ?_, fun a ha => ?_, fun a h => st.live a (P.step.live a h)⟩, fun q hq z => ?_, fun q hq => ?_⟩
                        · refine List.nodup_append.mpr ⟨n1, List.nodup_append.mpr ⟨m3, n3, fun a ha b hb e => ?_⟩, fun a ha b hb e => ?_⟩
                          · subst e
                            exact (fresh a (.inr (.inr (.inl ha)))).2 hb
                          · subst e
                            rcases List.mem_append.mp hb with hb | hb
                            · exact (fresh a (.inr (.inr (.inl hb)))).1 ha
                            · exact n5 a ha a (.inr hb) rfl
                        · simp only [List.mem_append] at hq
                          have old : ∀ q, q ∈ g1 ∨ q ∈ g2 → unlend (hasBor as) B' F q = none := fun q hq => by
                            have lq : q ∈ g1 ++ (g ++ g2) := by rcases hq with z | z <;> simp [z]
                            by_cases hF : q ∈ F
                            · exact L.lent q hF
                            · rw [L.bold q (liveE q lq) (fun z => dis0 q z lq) (fun z => by
                                rcases hq with y | y
                                · exact n5 q y q (.inl z) rfl
                                · exact n4 q z q y rfl) hF]
                              exact oE q lq
                          rcases hq with hq | hq | hq
                          · exact old q (.inl hq)
                          · exact outB q (by simp [hq])
                          · exact old q (.inr hq)
                        · have h1 := P.step.keep a o h nf
                          have na : a ∉ f0 ++ (g1 ++ (g ++ g2)) := fun z => by
                            rcases P.step.new a z with y | y
                            · exact nf y
                            · rw [h] at y; cases y
                          simp only [List.mem_append, not_or] at na
                          rw [L.keep a (by simp [h1]) na.1 na.2.2.1]
                          exact h1
                        · have na : a ∉ f0 ++ (g1 ++ (g ++ g2)) := fun z => by
                            rcases P.step.new a z with y | y
                            · exact nf y
                            · exact h y
                          have nF : a ∉ F := fun z => na (List.mem_append_right _ (Fsub a z))
                          simp only [List.mem_append, not_or] at na
                          rw [L.bold a (P.step.live a h) na.1 na.2.2.1 nF]
                          exact P.step.bold a h nf
                        · simp only [List.mem_append] at ha
                          rcases ha with ha | ha | ha | ha
                          · exact newS a (.inl ha)
                          · exact P.step.new a (by simp [ha])
                          · exact newS a (.inr (.inr (.inl ha)))
                          · exact P.step.new a (by simp [ha])
                        · simp only [List.mem_append] at z
                          have fr := fresh q (.inl hq)
                          rcases z with z | z | z
                          · exact fr.1 z
                          · exact m7 q hq q (.inr (.inl z)) rfl
                          · exact fr.2 z
                        · simp only [List.mem_append] at hq
                          rcases hq with hq | hq | hq
                          · exact .inr (liveE q (by simp [hq]))
                          · exact .inl (by simp [hq])
                          · exact .inr (liveE q (by simp [hq]))
                      cases r with
                      | ok w =>
                        intro v H' B' fr f2 s' rw' ro nd out st
                        obtain ⟨L, env3, fp3, e5, O3, S3, dis3, _⟩ := key s' st ro nd out
                        rw [e5] at c
                        refine c v H' (unlend (hasBor as) B' F) fr fp3 ⟨O3, relW_back L.kind (fun hb => (clr hb).1) rw', fun q hq => ?_, S3, fun _ => ⟨(List.nodup_append.mp nd).1, dis3⟩, fun hp => Bool.noConfusion hp⟩
                        have := out q (by simp [hq])
                        cases e : unlend (hasBor as) B' F q with
                        | none => rfl
                        | some o => rw [unlend_sub q o e] at this; cases this
                      | ex x =>
                        intro cls d H' B' f2 s' ro nd out st hx hd
                        obtain ⟨L, env3, fp3, e5, O3, S3, dis3, sub3⟩ := key (S := []) s' (by simpa using st) ro (by simpa using nd) (by simpa using out)
                        rw [e5] at c
                        refine c cls d H' (unlend (hasBor as) B' F) fp3 O3 (by simpa using S3) hx fun dd e => ?_
                        obtain ⟨b1, b2, b3⟩ := hd dd e
                        refine ⟨?_, fun z => ?_, none_back P.step.live b3⟩
                        · cases e : unlend (hasBor as) B' F dd with
                          | none => rfl
                          | some o => rw [unlend_sub dd o e] at b1; cases b1
                        · rcases sub3 dd z with y | y
                          · exact b2 y
                          · exact y b3
        · rw [if_neg hcount] at c
          exact c.elim
end
end AM
namespace AM
open PySem L2 PyProof.Rows
def pinOf (n : Nat) (nio : List Nat) : Nat → Bool := fun i => decide (i < n) && !(nio.contains i)
def fnM (n total : Nat) (nio : List Nat) (body : MS) : MF := fun ws => if ws.length = n then
    match body (ws.map some ++ List.replicate (total - n) none) with
    | some (.ok (.rt w), e) => if e.length = total then some (.ok w, (wipeE e nio).take n) else none
    | some (.ok .nx, e) => if e.length = total then some (.ok (.sh .non), (wipeE e nio).take n) else none
    | some (.ex x, e) => if e.length = total then some (.ex x, (wipeE e nio).take n) else none
    | _ => none
  else none
theorem fnM_len {n total : Nat} {nio : List Nat} {body : MS} : ∀ ws r, fnM n total nio body ws = some r → ws.length = n := fun ws r h => by
  unfold fnM at h
  split at h
  · assumption
  · cases h
section
variable {G : GX} {B H : Hp}
theorem relE_start : ∀ {ws : List W} {vs : List V} {fp : List Addr} (m : Nat), relWs G B H ws vs fp → relE G B H (vs.map some ++ List.replicate m none) (ws.map some ++ List.replicate m none) fp
  | [], vs, fp, m, h => by
    simp only [relWs] at h
    obtain ⟨rfl, rfl⟩ := h
    simp only [List.map_nil, List.nil_append]
    induction m with
    | zero => exact ⟨rfl, rfl⟩
    | succ m ih =>
      rw [List.replicate_succ]
      exact ⟨none, _, [], [], rfl, rfl, ih, rfl⟩
  | w :: ws, vs, fp, m, h => by
    simp only [relWs] at h
    obtain ⟨v, r, g1, g2, rfl, h1, h2, rfl⟩ := h
    exact ⟨some v, _, g1, g2, rfl, ⟨v, rfl, h1⟩, relE_start m h2, rfl⟩
theorem relE_take : ∀ {env : Env} {σ : L2.St} {f : List Addr} (n : Nat), relE G B H σ env f → ∃ f', relE G B H (σ.take n) (env.take n) f' ∧ (∀ q ∈ f', q ∈ f) ∧ (f.Nodup → f'.Nodup)
  | env, σ, f, 0, _ => ⟨[], by simp [relE], by simp, fun _ => List.nodup_nil⟩
  | [], σ, f, n + 1, h => by
    obtain ⟨rfl, rfl⟩ := h
    exact ⟨[], by simp [relE], by simp, fun _ => List.nodup_nil⟩
  | w :: env, σ, f, n + 1, h => by
    obtain ⟨o, τ, f1, f2, rfl, h2, h3, rfl⟩ := h
    obtain ⟨f', h4, h5, h6⟩ := relE_take n h3
    refine ⟨f1 ++ f', ⟨o, τ.take n, f1, f', by simp, h2, h4, rfl⟩, fun q hq => ?_, fun hn => ?_⟩
    · simp only [List.mem_append] at hq ⊢
      exact hq.imp id (h5 q)
    · simp only [List.nodup_append] at hn ⊢
      exact ⟨hn.1, h6 hn.2.1, fun a ha b hb => hn.2.2 a ha b (h5 b hb)⟩
theorem outs_rel {σ : L2.St} {env : Env} {f : List Addr} {vs : List V} {n : Nat} {nio : List Nat} (r : relE G B H σ env f) (hl : vs.length = n) (hs : n ≤ σ.length) (pin : ∀ i, pinOf n nio i = true → σ[i]? = (vs.map some)[i]?) :
    ∃ f', relE G B H (vs.map some) ((wipeE env nio).take n) f' ∧ (∀ q ∈ f', q ∈ f) ∧ (f.Nodup → f'.Nodup) := by
  obtain ⟨f1, r1, s1, n1⟩ := relE_wipe r nio
  obtain ⟨f2, r2, s2, n2⟩ := relE_take n r1
  refine ⟨f2, relE_congr r2 (by simp [hl]; omega) fun i w e => ?_, fun q hq => s1 q (s2 q hq), fun h => n2 (n1 h)⟩
  have hi : i < n := by
    have := (List.getElem?_eq_some_iff.mp e).1
    rw [List.length_take] at this
    omega
  rw [List.getElem?_take_of_lt hi] at e ⊢
  have hni : i ∉ nio := fun h => by
    rcases wipeE_in (env := env) h with z | z <;> rw [e] at z <;> cases z
  exact (pin i (by simp [pinOf, hi, hni])).symm
end
section
variable {P : Program} {w : World} {K : PySem.W.Frag} {mg : Str → Option Value} {base : Heap}
theorem okC {CX : CXT} {x qual : Str} {st : Stmt} {f : Addr} {fd : FuncData} {N ps : List Str} {k : Nat} {sp : Sp} (F : Fun K x qual st f fd) (S : FnScope N ps (defScope st)) (len : ∀ vs H Q E, sp vs H Q E → vs.length = ps.length)
    (hbody : ∀ (cdv : Value) (A : Around) (outer : List PySem.Env) (s : Shared) (H : Hp) (vs : List V) (Q : VK) (E : XK), Room k (A.deeper (envOfC qual (defScope st) s.heap.objs.size f cdv)) → sp vs H Q E →
      ∃ t, PSs (cxOf CX P w K mg base N qual (defScope st) f cdv A outer s H E) (defBody st) t ∧ t { nx := fun _ H' => Q .non H', rt := Q } (start N vs) H) : FnOk P w K mg base CX (k + 1) f fd ps sp := by
  obtain ⟨oc, od, kV, doc, pm, an, cdv, ct, osl, rfl, lk, hcd⟩ := F.ex
  exact fn_of lk hcd S len fun A outer s H vs Q E hr hsp => hbody cdv A outer s H vs Q E hr hsp
theorem fn_ok {x qual : Str} {st : Stmt} {f : Addr} {fd : FuncData} {N ps : List Str} {k n : Nat} {nio : List Nat} {body : MS} {CX : CXT} (F : Fun K x qual st f fd) (S : FnScope N ps (defScope st)) (hn : ps.length = n) (hN : n ≤ N.length)
    (hbody : ∀ (cdv : Value) (A : Around) (outer : List PySem.Env) (s : Shared) (H : Hp) (E : XK), Room k (A.deeper (envOfC qual (defScope st) s.heap.objs.size f cdv)) →
      SSs (cxOf CX P w K mg base N qual (defScope st) f cdv A outer s H E) (pinOf n nio) (fun cls d _ H' => E cls d H') (defBody st) body) :
    FnOk P w K mg base CX (k + 1) f fd ps (spOf ⟨K, mg⟩ n (fnM n N.length nio body)) := by
  refine okC F S (fun vs H Q E h => h.1.trans hn.symm) fun cdv A outer s H vs Q E hr h => ?_
  obtain ⟨t, pt, sim⟩ := hbody cdv A outer s H E hr
  refine ⟨t, pt, ?_⟩
  obtain ⟨hl, B, ws, fp, sub, rw', nd, out, c⟩ := h
  have hlw : ws.length = n := by rw [relWs_length rw', hl]
  unfold fnM at c
  rw [if_pos hlw] at c
  have rE : relE ⟨K, mg⟩ B H (start N vs) (ws.map some ++ List.replicate (N.length - n) none) fp := by
    unfold L2.start
    rw [hl]
    exact relE_start _ rw'
  refine sim B H (start N vs) _ fp ⟨sub, rE, nd, out⟩ _ ?_
  have hst : (start N vs).length = N.length := by
    unfold L2.start
    simp [hl]
    omega
  have pin0 : ∀ i, pinOf n nio i = true → (start N vs)[i]? = (vs.map some)[i]? := fun i hi => by
    have : i < n := by
      simp [pinOf] at hi
      exact hi.1
    unfold L2.start
    rw [List.getElem?_append_left (by simp [hl]; exact this)]
  cases e : body (ws.map some ++ List.replicate (N.length - n) none) with
  | none => rw [e] at c; exact c
  | some r =>
    obtain ⟨r, env'⟩ := r
    rw [e] at c
    have outs : ∀ {σ' : L2.St} {H' B' : Hp} {f0 fp2 : List Addr}, PostS ⟨K, mg⟩ (pinOf n nio) B H (start N vs) fp env' σ' H' B' f0 fp2 → env'.length = N.length → ∃ f', relE ⟨K, mg⟩ B' H' (vs.map some) ((wipeE env' nio).take n) f' ∧ (∀ q ∈ f', q ∈ fp2) ∧ (fp2.Nodup → f'.Nodup) := fun Pq hlen =>
      outs_rel Pq.ok.rel hl (by rw [relE_length Pq.ok.rel]; omega) fun i hi => (Pq.pin i hi).trans (pin0 i hi)
    have fin : ∀ {σ' : L2.St} {H' B' : Hp} {f0 fp2 : List Addr} {w : W} {v : V}, PostS ⟨K, mg⟩ (pinOf n nio) B H (start N vs) fp env' σ' H' B' f0 fp2 → env'.length = N.length → relW ⟨K, mg⟩ B' H' w v f0 → (∀ q ∈ f0, B' q = none) → f0.Nodup → (∀ q ∈ f0, q ∉ fp2) →
        (∀ v H' B' f0 f2, Same B' H' → relW ⟨K, mg⟩ B' H' w v f0 → relE ⟨K, mg⟩ B' H' (vs.map some) ((wipeE env' nio).take n) f2 → (f0 ++ f2).Nodup → (∀ q ∈ f0 ++ f2, B' q = none) → Step B H fp B' H' (f0 ++ f2) → Q v H') → Q v H' := fun {σ' H' B' f0 fp2 w v} Pq hlen rv ov nv dv c => by
      obtain ⟨f', r1, s1, n1⟩ := outs Pq hlen
      refine c v H' B' f0 f' Pq.ok.sub rv r1 (List.nodup_append.mpr ⟨nv, n1 Pq.ok.nd, fun a ha b hb e => ?_⟩) (fun q hq => ?_) (Pq.step.mono fun q hq => ?_)
      · subst e
        exact dv a ha (s1 a hb)
      · rcases List.mem_append.mp hq with hq | hq
        · exact ov q hq
        · exact Pq.ok.out q (s1 q hq)
      · simp only [List.mem_append] at hq ⊢
        exact hq.imp id (s1 q)
    cases r with
    | ex x =>
      simp only at c
      by_cases hlen : env'.length = N.length
      · rw [if_pos hlen] at c
        intro cls d σ' H' B' fp2 Pq hx hd
        obtain ⟨f', r1, s1, n1⟩ := outs Pq hlen
        refine c cls d H' B' f' Pq.ok.sub r1 (n1 Pq.ok.nd) (fun q hq => Pq.ok.out q (s1 q hq)) (Pq.step.mono fun q hq => by simpa using s1 q hq) hx fun dd e => ?_
        obtain ⟨a1, a2, a3⟩ := hd dd e
        exact ⟨a1, fun z => a2 (s1 dd z), a3⟩
      · rw [if_neg hlen] at c
        exact c.elim
    | ok fl =>
      cases fl with
      | nx =>
        simp only at c
        by_cases hlen : env'.length = N.length
        · rw [if_pos hlen] at c
          intro σ' H' B' fp2 Pq
          exact fin (v := .non) Pq hlen (by simp [relW, repD]) (by simp) List.nodup_nil (by simp) c
        · rw [if_neg hlen] at c
          exact c.elim
      | bk => exact c.elim
      | ct => exact c.elim
      | rt w =>
        simp only at c
        by_cases hlen : env'.length = N.length
        · rw [if_pos hlen] at c
          intro v σ' H' B' f0 fp2 Pq rv ov nv dv
          exact fin Pq hlen rv ov nv dv c
        · rw [if_neg hlen] at c
          exact c.elim
structure Df (P : Program) (w : World) (K : PySem.W.Frag) (mg : Str → Option Value) (base : Heap) (x : Str) (n : Nat) (mf : MF) (j : Nat) : Prop where
  ex : ∃ (f : Addr) (fd : FuncData) (ps : List Str), FnOk P w K mg base (L2.CX P w) j f fd ps (spOf ⟨K, mg⟩ n mf) ∧ mg x = some (.ref f) ∧ PySem.W.keepIn K (.ref f) = true ∧ Binds K fd ps []
  len : ∀ ws r, mf ws = some r → ws.length = n
end
section
variable {X : Cx} {Wx : WX} {p : Bool} {x : Str} {n j k : Nat} {mf : MF} {e : Expr} {es : List Expr} {ma : ME (List AW)} {pp pos : Pos}
theorem se_call0 (tk : Takes X Wx) (D : Df X.prog X.w X.K X.mg X.base x n mf j) (hr : Room j X.A) (hg : Gl X x) (ha : SAw X Wx p (e :: es) ma) (hdb : (x == ("__debug__" : Str)) = false := by decide)
    (he : starEach (e :: es) X.env = (false, eval e X.env) :: starEach es X.env := by rfl) (hpl : (backTo pos (starEach es X.env)).any (·.1) = false := by rfl) : SE X Wx true p (.Call (.Name x pp) (e :: es) [] pos) (ma.bind fun as => callK0 mf as) := by
  obtain ⟨f, fd, ps, F, hm, hk, hb⟩ := D.ex
  obtain ⟨ta, pa, sa⟩ := ha
  exact ⟨_, pe_callS F hr hg hm hk hb (fun σ => passAt tk σ) pa hdb he hpl, sim_call0 D.len sa⟩
theorem se_call1 (tk : Takes X Wx) (D : Df X.prog X.w X.K X.mg X.base x n mf j) (hr : Room j X.A) (hg : Gl X x) (ha : SAw X Wx p (e :: es) ma) (hdb : (x == ("__debug__" : Str)) = false := by decide)
    (he : starEach (e :: es) X.env = (false, eval e X.env) :: starEach es X.env := by rfl) (hpl : (backTo pos (starEach es X.env)).any (·.1) = false := by rfl) : SE X Wx true false (.Call (.Name x pp) (e :: es) [] pos) (ma.bind fun as => match ioOf as with
    | none => ME.stuck
    | some (i, pa) => if ioCount as = 1 then callK1 mf as i pa else ME.stuck) := by
  obtain ⟨f, fd, ps, F, hm, hk, hb⟩ := D.ex
  obtain ⟨ta, pa, sa⟩ := ha
  exact ⟨_, pe_callS F hr hg hm hk hb (fun σ => passAt tk σ) pa hdb he hpl, sim_call1 D.len sa⟩
end
end AM
namespace AM
open PySem L2 PyProof.Rows
theorem PE.weak {X : Cx} {e : Expr} {t t' : TE} (h : PE X e t) (k : ∀ σ H Q, t' σ H Q → t σ H Q) : PE X e t' := ⟨fun pins s σ H Q I q => h.run pins s σ H Q I (k σ H Q q)⟩
theorem PTs.weak {X : Cx} {es : List Expr} {t t' : TT} (h : PTs X es t) (k : ∀ σ H Q, t' σ H Q → t σ H Q) : PTs X es t' := ⟨fun pins s σ H Q I q => h.run pins s σ H Q I (k σ H Q q)⟩
theorem PG.weak {X : Cx} {e : Expr} {t t' : TG} (h : PG X e t) (k : ∀ v σ H Q, t' v σ H Q → t v σ H Q) : PG X e t' := ⟨fun pins s σ H v u Q I r q => h.run pins s σ H v u Q I r (k v σ H Q q)⟩
structure BF where
  s : Shared
  H : Hp
  C : Addr
  cl : List (Str × Addr)
  fp : List Addr
abbrev BF.cx (b : BF) (X : Cx) (scope : Scope) : Cx := X.blk b.s b.H scope (compEnvC scope b.cl b.C X.env) b.fp
abbrev W0 : WX := fun _ _ _ _ => False
def STts (X : Cx) (Wx : WX) (p : Bool) (es : List Expr) (m : ME Bool) : Prop := ∃ t : TT, PTs X es t ∧ Sim (gx X) true p Wx (rEqv Bool) t m
section
variable {X : Cx} {Wx : WX} {k p q : Bool} {e elt tg iter c : Expr} {ifs : List Expr} {m me : ME W} {n mc : ME Bool} {mg : MG} {mi : ME (List D)} {vs : List Nat} {scope : Scope}
theorem sts_nil : STts X Wx true [] (ME.pure true) := ⟨_, pts_nil, sim_pureB⟩
theorem sts_one (h : STt X Wx p c n) : STts X Wx p [c] n := by
  obtain ⟨t, p1, s⟩ := h
  exact ⟨t, pts_one p1, s⟩
theorem uni_e (h : ∀ b : BF, SE (b.cx X scope) W0 k p e m) : ∃ t : TE, (∀ b : BF, PE (b.cx X scope) e t) ∧ Sim (gx X) k p W0 (rW (gx X)) t m := by
  refine ⟨fun σ H Q => ∀ (b : BF) (t : TE), PE (b.cx X scope) e t → Sim (gx X) k p W0 (rW (gx X)) t m → t σ H Q, fun b => ?_, fun B H σ env fp O Q c b t _ s => s B H σ env fp O Q c⟩
  obtain ⟨t, h1, h2⟩ := h b
  exact PE.weak h1 fun σ H Q q => q b t h1 h2
theorem uni_t (h : ∀ b : BF, STts (b.cx X scope) W0 p ifs n) : ∃ t : TT, (∀ b : BF, PTs (b.cx X scope) ifs t) ∧ Sim (gx X) true p W0 (rEqv Bool) t n := by
  refine ⟨fun σ H Q => ∀ (b : BF) (t : TT), PTs (b.cx X scope) ifs t → Sim (gx X) true p W0 (rEqv Bool) t n → t σ H Q, fun b => ?_, fun B H σ env fp O Q c b t _ s => s B H σ env fp O Q c⟩
  obtain ⟨t, h1, h2⟩ := h b
  exact PTs.weak h1 fun σ H Q q => q b t h1 h2
theorem uni_g {pn : Nat → Bool} (h : ∀ b : BF, SG (b.cx X scope) pn q tg mg) : ∃ t : TG, (∀ b : BF, PG (b.cx X scope) tg t) ∧ SimG (gx X) pn q t mg := by
  refine ⟨fun v σ H Q => ∀ (b : BF) (t : TG), PG (b.cx X scope) tg t → SimG (gx X) pn q t mg → t v σ H Q, fun b => ?_, fun B H σ env fp w v f0 O r o nd d Q c b t _ s => s B H σ env fp w v f0 O r o nd d Q c⟩
  obtain ⟨t, h1, h2⟩ := h b
  exact PG.weak h1 fun v σ H Q q => q b t h1 h2
variable {own : List (Str × Nat)} {pos spos py : Pos} {i : Nat} {y : Str} {pn : Nat → Bool}
theorem se_lc (hc : X.calm = true) (hN : X.N.Nodup) (hi : SI X Wx p tg iter mi) (ok : BlkOk X.N X.env.scope scope own) (hg : ∀ b : BF, SG (b.cx X scope) (offs (own.map (·.2))) q tg mg) (ht : ∀ b : BF, STts (b.cx X scope) W0 p ifs mc) (he : ∀ b : BF, SE (b.cx X scope) W0 true p elt me) (hs : ∀ x, foldedSetIterable iter X.env x = pure x := by intro _; rfl) :
    SE X Wx true false (.ListComp elt [⟨tg, iter, ifs, 0⟩] scope pos) (mComp mi mg mc me (own.map (·.2))) := by
  obtain ⟨ti, pi, si⟩ := hi
  obtain ⟨t1, p1, s1⟩ := uni_g hg
  obtain ⟨t2, p2, s2⟩ := uni_t ht
  obtain ⟨t3, p3, s3⟩ := uni_e he
  exact ⟨_, pe_lc hc hN pi ok (fun s H C cl fp => p1 ⟨s, H, C, cl, fp⟩) (fun s H C cl fp => p2 ⟨s, H, C, cl, fp⟩) (fun s H C cl fp => p3 ⟨s, H, C, cl, fp⟩) hs, sim_comp si s1 s2 s3⟩
theorem se_lcP (hc : X.calm = true) (hN : X.N.Nodup) (hi : SI X Wx p tg iter mi) (ok : BlkOk X.N X.env.scope scope own) (hg : ∀ b : BF, SG (b.cx X scope) (offs (own.map (·.2))) true tg mg) (ht : ∀ b : BF, STts (b.cx X scope) W0 true ifs mc) (he : ∀ b : BF, SE (b.cx X scope) W0 true true elt me) (hs : ∀ x, foldedSetIterable iter X.env x = pure x := by intro _; rfl) :
    SE X Wx true p (.ListComp elt [⟨tg, iter, ifs, 0⟩] scope pos) (mCompP mi mg mc me (own.map (·.2))) := by
  obtain ⟨ti, pi, si⟩ := hi
  obtain ⟨t1, p1, s1⟩ := uni_g hg
  obtain ⟨t2, p2, s2⟩ := uni_t ht
  obtain ⟨t3, p3, s3⟩ := uni_e he
  exact ⟨_, pe_lc hc hN pi ok (fun s H C cl fp => p1 ⟨s, H, C, cl, fp⟩) (fun s H C cl fp => p2 ⟨s, H, C, cl, fp⟩) (fun s H C cl fp => p3 ⟨s, H, C, cl, fp⟩) hs, sim_compP si s1 s2 s3⟩
end
theorem relWs_set {G : GX} {B H : Hp} {ws : List W} {vs : List V} {f f0 : List Addr} {j : Nat} {w : W} {v : V} (r : relWs G B H ws vs f) (hj : j < ws.length) (r0 : relW G B H w v f0) : ∃ g', relWs G B H (ws.set j w) (vs.set j v) g' ∧ (∀ q ∈ g', q ∈ f ∨ q ∈ f0) ∧ (f.Nodup → f0.Nodup → (∀ q ∈ f0, q ∉ f) → g'.Nodup) := by
  have hx := List.getElem?_eq_getElem hj
  generalize ws[j] = w0 at hx
  obtain ⟨w1, w2, v1, u, v2, f1, g, f2, rfl, rfl, l1, l2, rfl, r1, r2, r3⟩ := relWs_split r hx
  refine ⟨f1 ++ (f0 ++ f2), ?_, fun q hq => ?_, fun n1 n2 n3 => ?_⟩
  · rw [set_mid l1, set_mid l2]
    exact relWs_join r1 r0 r3
  · simp only [List.mem_append] at hq ⊢
    grind
  · simp only [List.nodup_append, List.mem_append] at n1 n3 ⊢
    grind
def gSetI (ml : ME Path) (mi : ME W) : MG := fun w env => match ml env with
  | some (.ok path, env1) => match mi env1 with
    | some (.ok iw, env2) => match wInt iw, getE env2 path with
      | some i, some (.ol ws) => match ixN ws.length i with
        | some j => if j < ws.length then (setE env2 path (.ol (ws.set j w))).map fun e => (.ok (), e) else none
        | none => none
      | _, _ => none
    | _ => none
  | _ => none
section
variable {X : Cx} {Wx : WX} {k : Bool} {pn : Nat → Bool} {o ix : Expr} {ml : ME Path} {mi : ME W} {pos : Pos}
theorem sg_ix (hl : SL X o ml) (hi : SE X Wx k true ix mi) (ha : ∀ v, assign (.Subscript o ix pos) X.env v = (do
      let ov ← holding [v] (eval o X.env)
      let iv ← holding [v, ov] (eval ix X.env)
      standAt pos
      holding [v, ov, iv] (setItem ov iv v)
      release [v, ov, iv] []) := by intro _; rfl) : SG X pn false (.Subscript o ix pos) (gSetI ml mi) := by
  obtain ⟨tl, pl, sl⟩ := hl
  obtain ⟨ti, pi, si⟩ := hi
  refine ⟨_, pg_sub pl pi set_list ha, fun B H σ env fp w v f0 O r out nd dis Q c => ?_⟩
  refine sl B H σ env fp O _ ?_
  unfold gSetI at c
  cases e1 : ml env with
  | none => rw [e1] at c; exact c
  | some r1 =>
    obtain ⟨r1, env1⟩ := r1
    rw [e1] at c
    cases r1 with
    | ex x => exact c.elim
    | ok path =>
      intro v1 H1 B1 ee O1 S1 s1 b1 L1
      subst ee
      simp only at c
      refine si B1 H1 σ env1 fp O1 _ ?_
      cases e2 : mi env1 with
      | none => rw [e2] at c; exact c
      | some r2 =>
        obtain ⟨r2, env2⟩ := r2
        rw [e2] at c
        cases r2 with
        | ex x => exact c.elim
        | ok iw =>
          intro y H2 B2 f2 fp2 P
          obtain ⟨s2, b2, rfl, rfl⟩ := P.pure rfl
          simp only at c
          cases e3 : wInt iw with
          | none => rw [e3] at c; exact c.elim
          | some i =>
            cases e4 : getE env2 path with
            | none => rw [e3, e4] at c; exact c.elim
            | some u =>
              cases u with
              | ol ws =>
                rw [e3, e4] at c
                simp only at c
                cases e5 : ixN ws.length i with
                | none => rw [e5] at c; exact c.elim
                | some j =>
                  rw [e5] at c
                  simp only at c
                  by_cases hj : j < ws.length
                  · rw [if_pos hj] at c
                    have L2 := locE_mono s2 L1
                    obtain ⟨g1, g, g2, rfl, rg, back⟩ := relE_zip P.ok.sub P.ok.rel e4 L2
                    simp only [relW] at rg
                    obtain ⟨pa, vs, gk, rfl, hp, rk, rfl⟩ := rg
                    have s12 : Same H H2 := fun a o h => s2 a o (s1 a o h)
                    have lv0 := relW_live r
                    have b12 : ∀ q, H q ≠ none → B2 q = B q := fun q h => (b2 q (S1.live q h)).trans (b1 q h)
                    have r2 : relW (gx X) B2 H2 w v f0 := relW_frame (fun a o h => P.step.bext a o (S1.bext a o h)) r fun q hq => same_some s12 (lv0 q hq)
                    have yi : y = .int i := relW_int P.rel e3
                    obtain ⟨g', rk', sub', nd'⟩ := relWs_set rk hj r2
                    have ndE := P.ok.nd
                    simp only [List.nodup_append, List.mem_append, List.nodup_cons, List.mem_cons, List.cons_append] at ndE dis
                    have liveE := relE_live P.ok.rel
                    have npa0 : pa ∉ f0 := fun z => dis pa z (by simp)
                    have npk : pa ∉ gk := by grind
                    have npg' : pa ∉ g' := fun z => (sub' pa z).elim npk npa0
                    refine ⟨pa, vs, i, j, rfl, yi, hp, by rw [← relWs_length rk]; exact e5, ?_⟩
                    have kp : ∀ q, q ≠ pa → upd H2 pa (.lst (vs.set j v)) q = H2 q := fun q h => upd_ne h
                    have Bpa : B2 pa = none := P.ok.out pa (by simp)
                    have rnew : relW (gx X) B2 (upd H2 pa (.lst (vs.set j v))) (.ol (ws.set j w)) (.ref pa) (pa :: g') := by
                      simp only [relW]
                      exact ⟨pa, _, g', rfl, upd_same, relWs_frame (Same.refl B2) rk' fun q hq => kp q fun z => npg' (by rw [← z]; exact hq), rfl⟩
                    obtain ⟨env3, e6, rE⟩ := back B2 (upd H2 pa (.lst (vs.set j v))) (.ol (ws.set j w)) (pa :: g') (Same.refl B2) (fun q hq => kp q (by grind)) (fun q hq => kp q (by grind)) rnew
                    rw [e6] at c
                    refine c σ (upd H2 pa (.lst (vs.set j v))) B2 (g1 ++ (pa :: g' ++ g2)) ⟨fun a o h => ?_, rE, ?_, fun q hq => ?_⟩ ⟨fun a o h n => ?_, fun a o h => P.step.bext a o (S1.bext a o h), fun a h n => b12 a h, fun a ha => ?_, fun a h => ?_⟩ rfl (fun _ _ => rfl) fun z => Bool.noConfusion z
                    · rw [kp a fun z => by rw [z, Bpa] at h; cases h]
                      exact P.ok.sub a o h
                    · have ndg := nd' (by grind) nd (fun q hq z => dis q hq (by simp [z]))
                      simp only [List.nodup_append, List.mem_append, List.nodup_cons, List.mem_cons, List.cons_append]
                      grind
                    · simp only [List.mem_append, List.mem_cons, List.cons_append] at hq
                      rcases hq with hq | rfl | hq | hq
                      · exact P.ok.out q (by simp [hq])
                      · exact Bpa
                      · rcases sub' q hq with z | z
                        · exact P.ok.out q (by simp [z])
                        · rw [b12 q (lv0 q z)]
                          exact out q z
                      · exact P.ok.out q (by simp [hq])
                    · rw [kp a fun z => n (by rw [z]; simp)]
                      exact s12 a o h
                    · simp only [List.mem_append, List.mem_cons, List.cons_append] at ha ⊢
                      rcases ha with ha | rfl | ha | ha
                      · simp [ha]
                      · simp
                      · rcases sub' a ha with z | z <;> simp [z]
                      · simp [ha]
                    · by_cases z : a = pa
                      · rw [z, upd_same]; simp
                      · rw [kp a z]; rw [same_some s12 h]; exact h
                  · rw [if_neg hj] at c
                    exact c.elim
              | sh _ => rw [e3, e4] at c; exact c.elim
              | ot _ => rw [e3, e4] at c; exact c.elim
              | ob _ _ _ => rw [e3, e4] at c; exact c.elim
              | dk _ _ => rw [e3, e4] at c; exact c.elim
              | dt _ _ => rw [e3, e4] at c; exact c.elim
end
def wTyp : W → Option String
  | .sh .non => some "NoneType"
  | .sh (.bl _) => some "bool"
  | .sh (.int _) => some "int"
  | .sh (.str _) => some "str"
  | .sh (.lst _) => some "list"
  | .sh (.la _ _) => some "list"
  | .sh (.tup _) => some "tuple"
  | .ol _ => some "list"
  | .ot _ => some "tuple"
  | _ => none
def isT (t T : String) : Bool := t == T || (t == "bool" && T == "int")
def tyNames : List String := ["NoneType", "bool", "int", "str", "list", "tuple"]
def gIs (T : String) : W → Option W := fun w => (wTyp w).map fun t => .sh (.bl (isT t T))
theorem kit_int : ∀ t ∈ tyNames, kitB t "int" = some (isT t "int") := by decide +kernel
theorem kit_bool : ∀ t ∈ tyNames, kitB t "bool" = some (isT t "bool") := by decide +kernel
theorem kit_str : ∀ t ∈ tyNames, kitB t "str" = some (isT t "str") := by decide +kernel
theorem kit_list : ∀ t ∈ tyNames, kitB t "list" = some (isT t "list") := by decide +kernel
theorem kit_tuple : ∀ t ∈ tyNames, kitB t "tuple" = some (isT t "tuple") := by decide +kernel
theorem wTyp_rel {G : GX} {B H : Hp} {w : W} {v : V} {f : List Addr} {t : String} (s : Same B H) (r : relW G B H w v f) (e : wTyp w = some t) : TyX G.K H v (.type t) ∧ t ∈ tyNames := by
  unfold wTyp at e
  split at e
  · cases e; simp only [relW, repD] at r; obtain ⟨rfl, _⟩ := r; exact ⟨.base .non, by decide⟩
  · cases e; simp only [relW, repD] at r; obtain ⟨rfl, _⟩ := r; exact ⟨.base (.bl _), by decide⟩
  · cases e; simp only [relW, repD] at r; obtain ⟨rfl, _⟩ := r; exact ⟨.base (.int _), by decide⟩
  · cases e; simp only [relW, repD] at r; obtain ⟨rfl, _⟩ := r; exact ⟨.base (.str _), by decide⟩
  · cases e; simp only [relW, repD] at r; obtain ⟨⟨a, vs, rfl, h, _⟩, _⟩ := r; exact ⟨.base (.lst (s _ _ h)), by decide⟩
  · cases e; simp only [relW, repD] at r; obtain ⟨⟨vs, rfl, h, _⟩, _⟩ := r; exact ⟨.base (.lst (s _ _ h)), by decide⟩
  · cases e
    simp only [relW, repD] at r
    obtain ⟨⟨a, vs, rfl, h, _⟩, _⟩ := r
    refine ⟨?_, by decide⟩
    rcases sqT_of_same s h with (h | ⟨o, h⟩) | ⟨o, its, n, h1, h2, _⟩
    · exact .base (.tup h)
    · exact .fTuple h
    · exact .kTuple h1 h2
  · cases e; simp only [relW] at r; obtain ⟨p, vs, g, rfl, h, _⟩ := r; exact ⟨.base (.lst h), by decide⟩
  · cases e; simp only [relW] at r; obtain ⟨p, vs, rfl, h, _⟩ := r; exact ⟨.base (.tup (s _ _ h)), by decide⟩
  · cases e
section
variable {X : Cx} {Wx : WX} {k p : Bool} {a : Expr} {m : ME W} {x : Str} {T : String} {pp px pos : Pos}
theorem se_isi (hT : ∀ t ∈ tyNames, kitB t T = some (isT t T)) (hg : Gl X "isinstance") (hm : X.mg "isinstance" = none) (hgT : Gl X x) (hmT : X.mg x = none) (hvT : bootBuiltins x = some (.type T)) (ha : SE X Wx k p a m) (hnT : x ≠ "__name__" := by decide) (hdT : (x == ("__debug__" : Str)) = false := by decide)
    (hs : starEach [a, .Name x px] X.env = (false, eval a X.env) :: starEach [.Name x px] X.env := by rfl) (hs2 : starEach [.Name x px] X.env = (false, eval (.Name x px) X.env) :: starEach [] X.env := by rfl) (hpl : (backTo pos (starEach [.Name x px] X.env)).any (·.1) = false := by rfl) : SE X Wx true p (.Call (.Name "isinstance" pp) [a, .Name x px] [] pos) (mOp1 (gIs T) m) := by
  obtain ⟨t, pa, s⟩ := ha
  have pT : PE X (.Name x px) (tC (.ty T)) := pe_bltn hgT hmT hvT rfl hnT hdT
  refine ⟨_, pe_callB call_isi hg hm (by decide +kernel) (pa_cons pa (pa_cons pT pa_nil hs2) hs) (he := hs) (hpl := hpl), ?_⟩
  refine s.op (r := fun v H Q => rIsi X.K [v, .ty T] H Q) (ops_flat fun B H w v f c sb ra e => ?_)
  unfold gIs at e
  simp only [Option.map_eq_some_iff] at e
  obtain ⟨t, e1, rfl⟩ := e
  obtain ⟨h1, h2⟩ := wTyp_rel sb ra e1
  exact ⟨.bl _, .bl (isT t T), rfl, by simp [repD], fun Q q => ⟨v, .ty T, .type t, .type T, isT t T, rfl, .ty T, h1, kit_ty (hT t h2), q⟩⟩
end
end AM
namespace AM
open PySem L2 PyProof.Rows
structure ExC (K : PySem.W.Frag) (mg : Str → Option Value) (c : Str) : Prop where
  ex : ∃ C : Addr, mg c = some (.ref C) ∧ PySem.W.excIn K C [.type "ValueError", .type "Exception", .type "BaseException", .type "object"] "ValueError.__new__" = true ∧ PySem.W.keepIn K (.ref C) = true ∧
    PySem.W.subIn K (.ref C) (.type "BaseException") = some true ∧ PySem.W.typeIn K (.ref C) = some (.type "type")
def mRaise (c : Str) : MS := fun env => some (.ex ⟨c, []⟩, env)
section
variable {X : Cx} {Wx : WX} {pn : Nat → Bool} {c m : Str} {j : Nat} {p p2 pos pos2 : Pos}
theorem ss_raise (hc : X.calm = true) (tk : Takes X Wx) (E : ExC X.K X.mg c) (hg : Gl X c) (hdb : (c == ("__debug__" : Str)) = false := by decide) : SS X pn Wx (.Raise (some (.Call (.Name c p) [.Constant (.str m) j p2] [] pos)) none pos2) (mRaise c) := by
  obtain ⟨C, hm, hx, hk, hs, ht⟩ := E.ex
  refine ⟨_, L2.ps_raise hc tk (pmk_own PySem.F.excBase_ValueError hx hm hk (raises_own hs ht) hg hdb), fun B H σ env fp O D c => ?_⟩
  exact c (.ref C) none σ H B fp ⟨O, Step.refl (by simp), fun _ _ => rfl⟩ ⟨C, rfl, hm, .inl ⟨rfl, rfl⟩⟩ (fun _ h => by cases h)
end
end AM
namespace AM
open PySem L2
def mFz (m : ME W) : ME W := m.bind (ME.op fun w => w.toD.map W.sh)
section
variable {G : GX} {k p : Bool} {Wx : WX}
theorem Sim.fz {t : TE} {m : ME W} (h : Sim G true p Wx (rW G) t m) : Sim G true p Wx (rW G) t (mFz m) := by
  intro B H σ env fp O Q c
  refine h B H σ env fp O _ ?_
  unfold mFz ME.bind at c
  cases e1 : m env with
  | none => rw [e1] at c; exact c
  | some r =>
    obtain ⟨r, env1⟩ := r
    rw [e1] at c
    cases r with
    | ex x => exact c
    | ok w =>
      intro v H1 B1 f0 fp1 P
      simp only [ME.op] at c
      cases e2 : w.toD with
      | none => rw [e2] at c; exact c.elim
      | some d =>
        rw [e2] at c
        obtain ⟨nd, dis⟩ := P.own rfl
        have be := grd_bext (H := H1) P.out
        have rv : relW G B1 H1 w v f0 := P.rel
        have rd : repD G (grd B1 H1 f0) d v := relW_toD be rv e2 fun q hq => grd_in hq
        refine c v H1 (grd B1 H1 f0) [] fp1 ⟨⟨grd_sub P.ok.sub, relE_frame be P.ok.rel fun _ _ => rfl, P.ok.nd, fun q hq => ?_⟩, ?_, fun q hq => by simp at hq, ⟨P.step.keep, fun a o h => be a o (P.step.bext a o h), fun a h n => ?_, fun a ha => P.step.new a ?_, P.step.live⟩, fun _ => ⟨List.nodup_nil, fun q hq => by simp at hq⟩, fun hp => ?_⟩
        · rw [grd_out fun z => dis q z hq]
          exact P.ok.out q hq
        · show relW G _ _ _ _ _
          simp only [relW]
          exact ⟨rd, trivial⟩
        · rw [grd_out fun z => ?_]
          · exact P.step.bold a h n
          · rcases P.step.new a (by simp [z]) with y | y
            · exact n y
            · exact h y
        · simp only [List.nil_append] at ha
          simp [ha]
        · obtain ⟨s1, s2, s3, s4⟩ := P.pure hp
          refine ⟨s1, fun q hq => ?_, s3, s4⟩
          rw [grd_out fun z => ?_]
          · exact s2 q hq
          · rcases P.step.new q (by simp [z]) with y | y
            · exact dis q z (by rw [s4]; exact y)
            · exact hq y
end
section
variable {X : Cx} {Wx : WX} {k p k1 p1 k2 p2 : Bool} {e a b : Expr} {m ma mb : ME W} {pos p4 p5 p6 pp : Pos} {j : Nat}
theorem se_fz (h : SE X Wx true p e m) : SE X Wx true p e (mFz m) := by
  obtain ⟨t, pe, s⟩ := h
  exact ⟨t, pe, s.fz⟩
end
end AM
namespace AM
open PySem L2
section
variable {X : Cx} {Wx : WX} {pn : Nat → Bool} {p k : Bool} {e a b c3 : Expr} {ma : ME (List W)} {pos : Pos}
theorem SimI.weak {G : GX} {t : TI} {m : ME (List D)} (h : SimI G p Wx t m) : SimI G false Wx t m := by
  intro B H σ env fp O R c
  refine h B H σ env fp O R ?_
  cases e : m env with
  | none => rw [e] at c; exact c
  | some r =>
    obtain ⟨r, env1⟩ := r
    rw [e] at c
    cases r with
    | ex x => exact c
    | ok ds => exact fun J H1 B1 fp1 P => c J H1 B1 fp1 ⟨P.ok, P.step, fun z => (Bool.false_ne_true z).elim, P.walk⟩
theorem sts_p {es : List Expr} {n : ME Bool} (h : STts X Wx p es n) : STts X Wx false es n := by
  obtain ⟨t, h1, h2⟩ := h
  cases p
  · exact ⟨t, h1, h2⟩
  · exact ⟨t, h1, h2.unpure false⟩
theorem se_p2 {m : ME W} (h : SE X Wx k p e m) : SE X Wx k false e m := by
  cases p
  · exact h
  · exact se_p h
theorem ss_lcPZ {i : Nat} {y : Str} {py spos : Pos} {elt tg iter : Expr} {ifs : List Expr} {scope : Scope} {own : List (Str × Nat)} {mi : ME (List D)} {mg : MG} {mc : ME Bool} {me : ME W} (hp : pn i = false) (hc : X.calm = true) (hN : X.N.Nodup) (hy : X.N[i]? = some y) (hyl : X.env.scope.names.lookup y = some .local)
    (hsw : swapsWith (.ListComp elt [⟨tg, iter, ifs, 0⟩] scope pos) (some (.Name y py)) spos.line X.env = pure true) (hi : SI X Wx p tg iter mi) (ok : BlkOk X.N X.env.scope scope own) (hg : ∀ b : BF, SG (b.cx X scope) (offs (own.map (·.2))) true tg mg) (ht : ∀ b : BF, STts (b.cx X scope) W0 true ifs mc) (he : ∀ b : BF, SE (b.cx X scope) W0 true true elt me) (hs : ∀ x, foldedSetIterable iter X.env x = pure x := by intro _; rfl) :
    SS X pn Wx (.Assign [.Name y py] (.ListComp elt [⟨tg, iter, ifs, 0⟩] scope pos) spos) (mAsg (mFz (mCompP mi mg mc me (own.map (·.2)))) (gSet i)) := by
  obtain ⟨ti, pi, si⟩ := hi
  obtain ⟨t1, p1, s1⟩ := uni_g hg
  obtain ⟨t2, p2, s2⟩ := uni_t ht
  obtain ⟨t3, p3, s3⟩ := uni_e he
  exact ⟨_, ps_setLc hc hN hy hyl hsw pi ok (fun s H C cl fp => p1 ⟨s, H, C, cl, fp⟩) (fun s H C cl fp => p2 ⟨s, H, C, cl, fp⟩) (fun s H C cl fp => p3 ⟨s, H, C, cl, fp⟩) hs, simS_asg (sim_compP si s1 s2 s3).fz (simG_name (qq := true) hp)⟩
end
end AM
namespace AM
open PySem L2
def mK0 (mf : MF) (ma : ME (List AW)) : ME W := ma.bind fun as => callK0 mf as
def mK1 (mf : MF) (ma : ME (List AW)) : ME W := ma.bind fun as => match ioOf as with
    | none => ME.stuck
    | some (i, pa) => if ioCount as = 1 then callK1 mf as i pa else ME.stuck
theorem r65 {k : Nat} {A : Around} (r : Room k A) : A.units + 65 < cLine := by have := r.un; omega
def spL (K : PySem.W.Frag) (mf : Nat → MF) : Sp := fun vs H Q _ => ∃ (a : Addr) (ns : List Int) (fu : Nat) (outs : List (Option W)), vs = [.ref a] ∧ SqL K H a (ns.map V.int) ∧ mf fu [.sh (.scr ns)] = some (.ok (.sh (.bl true)), outs) ∧ ∀ H', Q (.bl true) H'
theorem spL_mk {K : PySem.W.Frag} {mf : Nat → MF} {H : Hp} {a : Addr} {ns : List Int} {E : XK} (hS : SqL K H a (ns.map V.int)) (h : ∃ fu outs, mf fu [.sh (.scr ns)] = some (.ok (.sh (.bl true)), outs)) : spL K mf [.ref a] H (fun v _ => v = .bl true) E := by
  obtain ⟨fu, outs, e⟩ := h
  exact ⟨a, ns, fu, outs, rfl, hS, e, fun _ => rfl⟩
theorem noCX {P : Program} {w : World} {H : Hp} {s : Shared} {e : Value} {s' : Shared} (h : L2.CX P w [] H s (fun _ _ _ => False) e s') : False := by
  obtain ⟨_, _, _, _, _, _, _, _, _, _, _, _, z⟩ := h
  exact z
theorem exc_mk {K : PySem.W.Frag} {mg : Str → Option Value} {c : Str} {C : Addr} (h1 : mg c = some (.ref C)) (h2 : PySem.W.excIn K C [.type "ValueError", .type "Exception", .type "BaseException", .type "object"] "ValueError.__new__" = true) (h3 : PySem.W.keepIn K (.ref C) = true)
    (h4 : PySem.W.subIn K (.ref C) (.type "BaseException") = some true) (h5 : PySem.W.typeIn K (.ref C) = some (.type "type")) : ExC K mg c := ⟨⟨C, h1, h2, h3, h4, h5⟩⟩
end AM
namespace AM
open PySem L2 PyProof.Rows
end AM
namespace AM
open PySem L2 PyProof.Rows
section
variable {G : GX} {B H : Hp} {σ : L2.St} {env : Env} {f f' g : List Addr} {w : W} {v : V} {i : Nat}
theorem relE_out (r : relE G B H σ env f) (e : env[i]? = some (some w)) : ∃ v g f', σ[i]? = some (some v) ∧ relW G B H w v g ∧ relE G B H σ (env.set i none) f' ∧ (f.Nodup → (g ++ f').Nodup) ∧ ∀ q ∈ g ++ f', q ∈ f := by
  obtain ⟨e1, e2, s1, o, s2, f1, g, f2, rfl, rfl, l1, l2, rfl, r1, ⟨v, rfl, r2⟩, r3⟩ := relE_split r e
  refine ⟨v, g, f1 ++ ([] ++ f2), get_mid l2, r2, ?_, fun n => ?_, fun q hq => ?_⟩
  · rw [set_mid l1]
    exact relE_join r1 (show relS G B H (some v) none [] from rfl) r3
  · simp only [List.nodup_append, List.mem_append, List.nil_append] at n ⊢
    grind
  · simp only [List.mem_append, List.nil_append] at hq ⊢
    grind
theorem relE_in (r : relE G B H σ env f') (e : env[i]? = some none) (hv : σ[i]? = some (some v)) (rw' : relW G B H w v g) : ∃ f, relE G B H σ (env.set i (some w)) f ∧ ((g ++ f').Nodup → f.Nodup) ∧ ∀ q ∈ f, q ∈ g ++ f' := by
  obtain ⟨e1, e2, s1, o, s2, f1, g0, f2, rfl, rfl, l1, l2, rfl, r1, r2, r3⟩ := relE_split r e
  rw [get_mid l2] at hv
  cases hv
  have z : g0 = [] := r2
  subst z
  refine ⟨f1 ++ (g ++ f2), ?_, fun n => ?_, fun q hq => ?_⟩
  · rw [set_mid l1]
    exact relE_join r1 ⟨v, rfl, rw'⟩ r3
  · simp only [List.nodup_append, List.mem_append, List.nil_append] at n ⊢
    grind
  · simp only [List.mem_append, List.nil_append] at hq ⊢
    grind
end
end AM
namespace AM
open PySem L2 PyProof.Rows
section
variable {G : GX} {B H : Hp} {σ : L2.St} {env : Env} {fp : List Addr} {w : W} {d : D} {i : Nat} {pn : Nat → Bool} {Wx : WX} {t : TS} {m : MS}
theorem Ok.frz (O : Ok G B H σ env fp) (e : env[i]? = some (some w)) (ed : w.toD = some d) : ∃ B' fp', Ok G B' H σ (env.set i (some (.sh d))) fp' ∧ Step B H fp B' H fp' := by
  obtain ⟨v, g, f', hv, rv, rr, nd, inn⟩ := relE_out O.rel e
  have out : ∀ q ∈ g, B q = none := fun q hq => O.out q (inn q (by simp [hq]))
  have n := nd O.nd
  have be := grd_bext (H := H) out
  have rsh : relW G (grd B H g) H (.sh d) v [] := by
    simp only [relW]
    exact ⟨relW_toD be rv ed fun q hq => grd_in hq, trivial⟩
  have hi : i < env.length := (List.getElem?_eq_some_iff.mp e).1
  obtain ⟨fe, re, ne, ie⟩ := relE_in (relE_frame be rr fun _ _ => rfl) (by simp [hi]) hv rsh
  rw [List.set_set] at re
  have sub : ∀ q ∈ fe, q ∈ f' := fun q hq => by simpa using ie q hq
  refine ⟨grd B H g, fe, ⟨grd_sub O.sub, re, ne (by simpa using (List.nodup_append.mp n).2.1), fun q hq => ?_⟩, ⟨fun _ _ h _ => h, be, fun a _ na => grd_out fun z => na (inn a (by simp [z])), fun q hq => .inl (inn q (by simp [sub q hq])), fun _ h => h⟩⟩
  rw [grd_out fun z => (List.nodup_append.mp n).2.2 q z q (sub q hq) rfl]
  exact O.out q (inn q (by simp [sub q hq]))
end
end AM
namespace AM
open PySem L2 PyProof.Rows
end AM
namespace AM
open PySem L2 PyProof.Rows
def mNoX (m : ME W) : ME W := fun env => match m env with
  | some (.ok w, e) => some (.ok w, e)
  | _ => none
theorem passes0 {X : Cx} : Passes (L2.CX X.prog X.w) X (WE W0 []) := fun pins σ H s e s' I c => passAt takes0 σ pins H s e s' I c
end AM
namespace AM
open PySem L2 PyProof.Rows
end AM
namespace AM
open PySem L2 PyProof.Rows
theorem se_gintE {X : Cx} {Wx : WX} {x : Str} {i : Int} {pos : Pos} (hg : Gl X x) (h : ∃ u, X.mg x = some u ∧ RelV (.int i) u) (hd : (x == ("__debug__" : Str)) = false := by decide) : SE X Wx true true (.Name x pos) (mC (.int i)) := by
  obtain ⟨u, hm, r⟩ := h
  exact se_gint hg hm r hd
theorem se_gstrE {X : Cx} {Wx : WX} {x : Str} {i : Str} {pos : Pos} (hg : Gl X x) (h : ∃ u, X.mg x = some u ∧ RelV (.str i) u) (hd : (x == ("__debug__" : Str)) = false := by decide) : SE X Wx true true (.Name x pos) (mC (.str i)) := by
  obtain ⟨u, hm, r⟩ := h
  exact se_gstr hg hm r hd
theorem sim_nox {G : GX} {Wx : WX} {k p : Bool} {t : TE} {m : ME W} (h : Sim G k p W0 (rW G) t m) : Sim G k p Wx (rW G) t (mNoX m) := by
  intro B H σ env fp O Q c
  refine h B H σ env fp O Q ?_
  unfold mNoX at c
  cases e : m env with
  | none => rw [e] at c; exact c
  | some r =>
    obtain ⟨r, e2⟩ := r
    rw [e] at c
    cases r with
    | ok w => exact c
    | ex x => exact c.elim
theorem se_callN {X : Cx} {Wx : WX} {x : Str} {n j : Nat} {mf : MF} {pp pos : Pos} (D : Df X.prog X.w X.K X.mg X.base x n mf j) (hr : Room j X.A) (hg : Gl X x) (hdb : (x == ("__debug__" : Str)) = false := by decide) :
    SE X Wx true true (.Call (.Name x pp) [] [] pos) (mNoX (mK0 mf wNil)) := by
  obtain ⟨f, fd, ps, F, hm, hk, hb⟩ := D.ex
  have h : Sim (gx X) true true W0 (rW (gx X)) (tCall (spOf (gx X) n mf) [] (WE W0 []) tNil) (mK0 mf wNil) := by
    have e : (tCall (spOf (gx X) n mf) [] (WE W0 []) tNil) = (fun σ H Q => tNil σ H fun vs H1 => spOf (gx X) n mf vs H1 Q (WE W0 σ)) := by
      funext σ H Q
      unfold tCall
      simp only [List.append_nil]
    rw [e]
    exact sim_call0 D.len simA_nil
  exact ⟨_, pe_call0 F hr hg hm hk hb .nil passes0 hdb, sim_nox h⟩
section
variable {P : Program} {w : World} {K : PySem.W.Frag} {mg : Str → Option Value} {base : Heap}
theorem fn_none {x qual : Str} {st : Stmt} {f : Addr} {fd : FuncData} {N ps : List Str} {k n : Nat} (F : Fun K x qual st f fd) (S : FnScope N ps (defScope st)) (hn : ps.length = n) :
    FnOk P w K mg base (L2.CX P w) (k + 1) f fd ps (spOf ⟨K, mg⟩ n (fun _ => none)) := by
  refine F.okX S (fun vs H Q E h => h.1.trans hn.symm) fun cdv A outer s H vs Q E hr h => ?_
  obtain ⟨_, _, _, _, _, _, _, _, c⟩ := h
  exact c.elim
end
end AM
namespace AM
open PySem L2
end AM
namespace AM
open PySem L2
end AM
namespace AM
open PySem L2
end AM
namespace AM
open PySem L2
def gNotInC : W × W → Option W := fun p => match p.1, p.2 with
  | .sh (.str x), .sh (.str z) => match x.cps.toList with
    | [c] => some (.sh (.bl (!decide (c ∈ z.cps.toList))))
    | _ => none
  | _, _ => none
section
variable {X : Cx} {b : Expr}
theorem str_one {x : Str} {c : Nat} (h : x.cps.toList = [c]) : x = ⟨#[c]⟩ := by
  obtain ⟨a⟩ := x
  congr 1
  exact Array.toList_inj.mp h
theorem cr_notInC (hm : behindInMarks .NotIn b = false) : CR X .NotIn b gNotInC := by
  refine ⟨_, op_notIn_sign, ops_flat fun B H a b fp c s ra e => ?_, hm⟩
  obtain ⟨f1, f2, r1, r2, _⟩ := ra
  obtain ⟨a1, a2⟩ := a
  unfold gNotInC at e
  simp only at e r1 r2
  split at e
  · rename_i x z
    split at e
    · rename_i c hc
      cases e
      have r1 : relW _ _ _ _ _ _ := r1
      have r2 : relW _ _ _ _ _ _ := r2
      simp only [relW, repD] at r1 r2
      exact ⟨.bl _, .bl (!decide (c ∈ z.cps.toList)), rfl, by simp [repD], fun Q q => ⟨c, z, by rw [r1.1, str_one hc], r2.1, q⟩⟩
    · cases e
  · cases e
end
def signs (z : Str) : List D := z.cps.toList.map fun c => D.str ⟨#[c]⟩
def wSigns : W → Option (List D)
  | .sh (.str z) => some (signs z)
  | _ => none
def mItS (m : ME W) : ME (List D) := m.bind (ME.op wSigns)
section
variable {X : Cx} {Wx : WX} {k p : Bool} {tg e : Expr} {m : ME W}
theorem si_txt (h : SE X Wx k p e m) : SI X Wx p tg e (mItS m) := by
  obtain ⟨t, pe, s⟩ := h
  refine ⟨_, pi_str pe, fun B H σ env fp O R c => ?_⟩
  refine s B H σ env fp O _ ?_
  unfold mItS ME.bind at c
  cases e1 : m env with
  | none => rw [e1] at c; exact c
  | some r =>
    obtain ⟨r, env1⟩ := r
    rw [e1] at c
    cases r with
    | ex x => exact c
    | ok w =>
      intro v H1 B1 f0 fp1 P
      simp only [ME.op] at c
      cases e2 : wSigns w with
      | none => rw [e2] at c; exact c.elim
      | some ds =>
        rw [e2] at c
        have rw' : relW (gx X) B1 H1 w v f0 := P.rel
        unfold wSigns at e2
        split at e2
        · rename_i z
          cases e2
          simp only [relW, repD] at rw'
          obtain ⟨rfl, rfl⟩ := rw'
          have hl : (signs z).length = z.cps.size := by simp [signs]
          refine ⟨z, rfl, c _ H1 B1 fp1 ⟨P.ok, P.step, P.pure, _, _, by rw [hl]; exact walk_str, fun _ _ => trivial, fun i H2 x H3 hi _ y => ?_⟩⟩
          obtain ⟨y1, c, hc, rfl⟩ := y
          refine ⟨.str ⟨#[c]⟩, ?_, .inl ⟨y1, by simp [repD]⟩⟩
          unfold signs
          rw [List.getElem?_map, Array.getElem?_toList, hc]
          rfl
        · cases e2
end
end AM
namespace AM
open PySem L2 PyProof.Rows
end AM
namespace AM
open PySem L2 PyProof.Rows
end AM
namespace AM
open PySem L2 PyProof.Rows
end AM
namespace AM
open PySem L2 PyProof.Rows
section
variable {G : GX} {B H B1 H1 : Hp} {σ : L2.St} {env : Env} {fp T : List Addr} {q : Addr} {o : HO}
theorem Ok.lay (O : Ok G B H σ env fp) (n : H q = none) : Ok G B (upd H q o) σ env fp := by
  have live := relE_live O.rel
  refine ⟨fun x u e => ?_, relE_frame (fun _ _ h => h) O.rel fun x hx => upd_ne fun z => live x hx (by rw [z]; exact n), O.nd, O.out⟩
  have := O.sub x u e
  rw [upd_ne fun z => by rw [z, n] at this; cases this]
  exact this
theorem Step.lay (S : Step B H fp B1 H1 T) (n : H1 q = none) : Step B H fp B1 (upd H1 q o) T := by
  refine ⟨fun x u e z => ?_, S.bext, S.bold, S.new, fun x h => ?_⟩
  · have := S.keep x u e z
    rw [upd_ne fun z => by rw [z, n] at this; cases this]
    exact this
  · have := S.live x h
    rw [upd_ne fun z => this (by rw [z]; exact n)]
    exact this
end
end AM
namespace AM
open PySem L2 PyProof.Rows
end AM
namespace AM
open PySem L2 PyProof.Rows
end AM
namespace AM
open PySem L2 PyProof.Rows
end AM
namespace AM
open PySem L2 PyProof.Rows
end AM
namespace AM
open PySem L2 PyProof.Rows
def mAt (r it : Nat) (body : MS) (js : List Nat) : ME Unit := fun env => match (env.set it none)[r]? with
  | some (some w0) => match getP w0 js with
    | some w => match body (((env.set it none).set r none).set it (some w)) with
      | some (.ok .nx, e) => match e[it]? with
        | some (some w') => (putP w0 js w').map fun w1 => (.ok (), (e.set it none).set r (some w1))
        | _ => none
      | _ => none
    | none => none
  | _ => none
def mLoopB (r it : Nat) (body : MS) : List (List Nat) → MS
  | [] => mNx
  | js :: l => fun env => match mAt r it body js env with
    | some (.ok _, e) => mLoopB r it body l e
    | _ => none
def mForB (r it : Nat) (mi : Env → Option (List (List Nat))) (body : MS) : MS := fun env => match mi env with
  | some l => if it < env.length then mLoopB r it body l env else none
  | none => none
def ZipR (G : GX) (B H : Hp) (w0 : W) (v0 : V) (gR : List Addr) (js : List Nat) (w : W) (v : V) (Kp : List Addr) : Prop :=
  ∃ a1 g a2, gR = a1 ++ (g ++ a2) ∧ relW G B H w v g ∧ (∀ q ∈ Kp, q ∈ a1 ∨ q ∈ a2) ∧ ∀ (B' H' : Hp) (w' : W) (g' : List Addr), Same B B' → (∀ q ∈ a1, H' q = H q) → (∀ q ∈ a2, H' q = H q) → relW G B' H' w' v g' →
    ∃ w1, putP w0 js w' = some w1 ∧ relW G B' H' w1 v0 (a1 ++ (g' ++ a2))
section
variable {G : GX} {B H : Hp} {σ : L2.St} {env : Env} {fp : List Addr} {pn pnb : Nat → Bool} {Wx : WX} {tb : TS} {mb : MS} {r it : Nat} {v v0 : V} {js : List Nat} {Kp : List Addr} {Sh : W → Prop}
theorem at_step (hb : SimS G pnb Wx tb mb) (hne : it ≠ r) (hpr : pnb r = true) (hpi : pnb it = true) (hpn : ∀ i, pn i = true → pnb i = true ∧ i ≠ it)
    (O : Ok G B H σ env fp) (hv0 : σ[r]? = some (some v0)) (hit : it < env.length)
    (hs0 : ∀ w0, env[r]? = some (some w0) → Sh w0) (hs1 : ∀ w0 w' w1, Sh w0 → putP w0 js w' = some w1 → Sh w1)
    (hz : ∀ w0 gR w, Sh w0 → (∀ q ∈ gR, B q = none) → gR.Nodup → relW G B H w0 v0 gR → getP w0 js = some w → ZipR G B H w0 v0 gR js w v Kp)
    {env' : Env} {u : Unit} (e : mAt r it mb js env = some (.ok u, env')) (D : Ends)
    (k : ∀ σ' H' B' fp', Ok G B' H' σ' env' fp' → Step B H fp B' H' fp' → (∀ i, pn i = true → σ'[i]? = σ[i]?) → σ'[r]? = some (some v0) → it < env'.length → (∀ q ∈ Kp, H' q = H q ∧ B' q = B q) → (∀ w0, env'[r]? = some (some w0) → Sh w0) → D.nx σ' H') : tb D (σ.set it (some v)) H := by
  unfold mAt at e
  split at e
  · rename_i w0 e0
    have hS0 : Sh w0 := hs0 w0 (by rwa [List.getElem?_set_ne hne] at e0)
    split at e
    · rename_i w ew
      obtain ⟨fa, ra, sa, na⟩ := relE_none it O.rel
      have ndA := na O.nd
      have hlen := relE_length O.rel
      have rb : relE G B H (σ.set it (some v)) (env.set it none) fa := relE_congr ra (by simp) fun i w' h => by
        have : i ≠ it := fun z => by subst z; rw [List.getElem?_set_self hit] at h; cases h
        rw [List.getElem?_set_ne (Ne.symm this)]
      have hv0' : (σ.set it (some v))[r]? = some (some v0) := by rw [List.getElem?_set_ne hne]; exact hv0
      obtain ⟨vr, gR, f', hvr, rR, rF, ndR, inR⟩ := relE_out rb e0
      rw [hv0'] at hvr
      cases hvr
      have ndR := ndR ndA
      have inFp : ∀ q ∈ gR ++ f', q ∈ fp := fun q hq => sa q (inR q hq)
      obtain ⟨a1, g, a2, rfl, rw', hK, back⟩   := hz w0 gR w hS0 (fun q hq => O.out q (inFp q (by simp [hq]))) (List.nodup_append.mp ndR).1 rR ew
      have hi2 : ((env.set it none).set r none)[it]? = some none := by
        rw [List.getElem?_set_ne (Ne.symm hne), List.getElem?_set_self hit]
      obtain ⟨fb, rBody, ndb, inb⟩ := relE_in rF hi2 (by rw [List.getElem?_set_self (by omega)]) rw'
      simp only [List.nodup_append, List.mem_append] at ndR
      obtain ⟨⟨n1, ⟨n2, n3, n4⟩, n5⟩, n6, n7⟩ := ndR
      have Ob : Ok G B H (σ.set it (some v)) (((env.set it none).set r none).set it (some w)) fb := by
        refine ⟨O.sub, rBody, ndb (List.nodup_append.mpr ⟨n2, n6, fun a ha b hb z => ?_⟩), fun q hq => O.out q (inFp q ?_)⟩
        · exact n7 a (.inr (.inl ha)) b hb z
        · have := inb q hq
          simp only [List.mem_append] at this ⊢
          grind
      refine hb B H _ _ fb Ob D ?_
      split at e
      · rename_i e1 eb
        rw [eb]
        split at e
        · rename_i w' ew'
          cases ep : putP w0 js w' with
          | none => rw [ep] at e; cases e
          | some w1 =>
          rw [ep] at e
          simp only [Option.map_some, Option.some.injEq, Prod.mk.injEq, Res.ok.injEq] at e
          obtain ⟨-, rfl⟩ := e
          intro σ' H' B' fb' P
          have pit := P.pin it hpi
          have pr := P.pin r hpr
          rw [List.getElem?_set_self (by omega)] at pit
          rw [hv0'] at pr
          obtain ⟨v', g', f'', hv', rw2, rF2, ndE, inE⟩ := relE_out P.ok.rel ew'
          rw [pit] at hv'
          cases hv'
          have ndE := ndE P.ok.nd
          have liveR := relW_live rR
          have aside : ∀ q, q ∈ a1 ∨ q ∈ a2 → q ∉ fb := fun q hq z => by
            have := inb q z
            simp only [List.mem_append] at this
            rcases this with y | y
            · rcases hq with hq | hq
              · exact n5 q hq q (.inl y) rfl
              · exact n4 q y q hq rfl
            · rcases hq with hq | hq
              · exact n7 q (.inl hq) q y rfl
              · exact n7 q (.inr (.inr hq)) q y rfl
          have lv : ∀ q, q ∈ a1 ∨ q ∈ a2 → H q ≠ none := fun q hq => liveR q (by simp only [List.mem_append]; grind)
          have keepA : ∀ q, q ∈ a1 ∨ q ∈ a2 → H' q = H q := fun q hq => by
            cases z : H q with
            | none => exact absurd z (lv q hq)
            | some o => exact P.step.keep q o z (aside q hq)
          have boldA : ∀ q, q ∈ a1 ∨ q ∈ a2 → B' q = B q := fun q hq => P.step.bold q (lv q hq) (aside q hq)
          obtain ⟨w1', ep', rw1⟩ := back B' H' w' g' P.step.bext (fun q hq => keepA q (.inl hq)) (fun q hq => keepA q (.inr hq)) rw2
          rw [ep] at ep'
          cases ep'
          have newE : ∀ q, q ∈ g' ++ f'' → q ∉ a1 ∧ q ∉ a2 := fun q hq => by
            rcases P.step.new q (by simpa using inE q hq) with y | y
            · exact ⟨fun z => aside q (.inl z) y, fun z => aside q (.inr z) y⟩
            · exact ⟨fun z => lv q (.inl z) y, fun z => lv q (.inr z) y⟩
          obtain ⟨fc, rc, sc, nc⟩ := relE_none r rF2
          have hrl : r < (e1.set it none).length := by
            have h1 := relE_length rF2
            have h2 : r < σ'.length := by
              have := List.getElem?_eq_some_iff.mp pr
              exact this.1
            omega
          obtain ⟨fd, rd, nd4, ind⟩ := relE_in rc (by rw [List.getElem?_set_self hrl]) pr rw1
          rw [List.set_set] at rd
          have ind' : ∀ q ∈ fd, q ∈ a1 ∨ q ∈ a2 ∨ q ∈ g' ++ f'' := fun q hq => by
            have := ind q hq
            simp only [List.mem_append] at this ⊢
            rcases this with (y | y | y) | y
            · exact .inl y
            · exact .inr (.inr (.inl y))
            · exact .inr (.inl y)
            · exact .inr (.inr (.inr (sc q y)))
          have ndE' := ndE
          simp only [List.nodup_append] at ndE'
          have inFa : ∀ q, q ∈ a1 ∨ q ∈ a2 → q ∈ fp := fun q hq => inFp q (by simp only [List.mem_append]; grind)
          have fbFp : ∀ q ∈ fb, q ∈ fp := fun q hq => inFp q (by have := inb q hq; simp only [List.mem_append] at this ⊢; grind)
          refine k σ' H' B' fd ⟨P.ok.sub, rd, nd4 ?_, fun q hq => ?_⟩ ⟨fun q o h n => P.step.keep q o h fun z => n (fbFp q z), P.step.bext, fun q h n => P.step.bold q h fun z => n (fbFp q z), fun q hq => ?_, P.step.live⟩ (fun i hi => ?_) pr ?_ (fun q hq => ⟨keepA q (hK q hq), boldA q (hK q hq)⟩) fun w0' h0 => ?_
          · refine List.nodup_append.mpr ⟨List.nodup_append.mpr ⟨n1, List.nodup_append.mpr ⟨ndE'.1, n3, fun a ha b hb z => ?_⟩, fun a ha b hb z => ?_⟩, nc ndE'.2.1, fun a ha b hb z => ?_⟩
            · subst z
              exact (newE a (by simp [ha])).2 hb
            · subst z
              rcases List.mem_append.mp hb with hb | hb
              · exact (newE a (by simp [hb])).1 ha
              · exact n5 a ha a (.inr hb) rfl
            · subst z
              have hb2 := sc a hb
              simp only [List.mem_append] at ha
              rcases ha with ha | ha | ha
              · exact (newE a (by simp [hb2])).1 ha
              · exact ndE'.2.2 a ha a hb2 rfl
              · exact (newE a (by simp [hb2])).2 ha
          · rcases ind' q hq with y | y | y
            · rw [boldA q (.inl y)]; exact O.out q (inFa q (.inl y))
            · rw [boldA q (.inr y)]; exact O.out q (inFa q (.inr y))
            · exact P.ok.out q (inE q y)
          · rcases ind' q hq with y | y | y
            · exact .inl (inFa q (.inl y))
            · exact .inl (inFa q (.inr y))
            · rcases P.step.new q (by simpa using inE q y) with z | z
              · exact .inl (fbFp q z)
              · exact .inr z
          · obtain ⟨h1, h2⟩ := hpn i hi
            rw [P.pin i h1, List.getElem?_set_ne (Ne.symm h2)]
          · have h1 := relE_length rF2
            have h2 : it < σ'.length := (List.getElem?_eq_some_iff.mp pit).1
            simp only [List.length_set] at h1 ⊢
            omega
          · rw [List.getElem?_set_self hrl] at h0
            cases h0
            exact hs1 _ _ _ hS0 ep
        · cases e
      · cases e
    · cases e
  · cases e
end
section
variable {G : GX} {B H : Hp}
def ShL (jj : List Nat) (w0 : W) : Prop := ∀ j ∈ jj, ∃ xs, (kids w0).bind (·[j]?) = some (.ol xs)
end
section
variable {X : Cx} {pn : Nat → Bool} {Wx : WX} {pos pos' pq p1 p2 p3 p4 : Pos} {c f f2 x y : Str} {fs0 : List Str} {r it j j2 : Nat} {body : List Stmt} {mb : MS}
def pnB (r it : Nat) (pn : Nat → Bool) : Nat → Bool := fun i => i == r || i == it || pn i
end
end AM
namespace AM
open PySem L2 PyProof.Rows
end AM
namespace AM
open PySem L2 PyProof.Rows
def wordY (s : Str) : Bool := decide (s = ("rows" : Str)) || decide (s = ("any" : Str)) || decide (s = ("sum" : Str))
theorem wordY_cases {s : Str} (h : wordY s = true) : s = ("rows" : Str) ∨ s = ("any" : Str) ∨ s = ("sum" : Str) := by
  unfold wordY at h
  simp only [Bool.or_eq_true, decide_eq_true_eq] at h
  rcases h with (h | h) | h
  · exact .inl h
  · exact .inr (.inl h)
  · exact .inr (.inr h)
theorem word_all {s : Str} (h : wordY s = true) : PyData.strOk (PyData.shown (.str s)) = true ∧ PyData.leavesShort 1921 (.str s) = true ∧ PyData.hasDict (.str s) = false ∧ (PyData.shown (.str s)).length ≤ 7 * PyData.weight (.str s) + 5 := by
  rcases wordY_cases h with rfl | rfl | rfl
  · exact ⟨by decide +kernel, by decide +kernel, by decide +kernel, by decide +kernel⟩
  · exact ⟨by decide +kernel, by decide +kernel, by decide +kernel, by decide +kernel⟩
  · exact ⟨by decide +kernel, by decide +kernel, by decide +kernel, by decide +kernel⟩
mutual
def plY : PyData → Bool
  | .none => true
  | .bool _ => true
  | .int _ => true
  | .str s => wordY s
  | .list xs => plYs xs
  | .tuple xs => plYs xs
  | .dict _ => false
def plYs : List PyData → Bool
  | [] => true
  | x :: xs => plY x && plYs xs
end
def okY (d : PyData) : Bool := plY d && d.showable && decide (d.depth ≤ 50) && decide (d.weight ≤ 1000000)
theorem strOk_app {x y : Str} (hx : PyData.strOk x = true) (hy : PyData.strOk y = true) : PyData.strOk (x ++ y) = true := by
  unfold PyData.strOk at *
  show ((x.cps ++ y.cps).all _) = true
  rw [Array.all_append, hx, hy]
  rfl
theorem strOk_of (s : String) : PyData.strOk (Str.ofString s) = true := by
  rw [Str.ofString_eq_toList]
  unfold PyData.strOk
  simp only [← Array.all_toList, List.all_map, List.all_eq_true, Function.comp_def, decide_eq_true_eq]
  intro c _
  have := c.valid
  rcases this with h | ⟨_, h⟩
  · exact Nat.lt_trans h (by decide)
  · exact h
theorem strOk_from : ∀ (ts : List Str) (k : Nat) (acc : Str), PyData.strOk acc = true → (∀ t ∈ ts, PyData.strOk t = true) → PyData.strOk (textFrom k acc ts) = true
  | [], _, _, h, _ => h
  | t :: ts, k, acc, h, hs => by
    show PyData.strOk (textFrom (k + 1) (acc ++ (if k > 0 then ", " else "" : String) ++ t) ts) = true
    exact strOk_from ts (k + 1) _ (strOk_app (strOk_app h (by split <;> exact strOk_of _)) (hs t (by simp))) fun u hu => hs u (by simp [hu])
theorem strOk_join : ∀ ts : List Str, (∀ t ∈ ts, PyData.strOk t = true) → PyData.strOk (Str.join ", " ts) = true
  | [], _ => by decide +kernel
  | [x], h => h x (by simp)
  | x :: y :: r, h => by
    show PyData.strOk (x ++ ", " ++ Str.join ", " (y :: r)) = true
    exact strOk_app (strOk_app (h x (by simp)) (strOk_of ", ")) (strOk_join (y :: r) fun u hu => h u (by simp [hu]))
mutual
theorem shown_ok : ∀ d : PyData, plY d = true → PyData.strOk d.shown = true
  | .none, _ => strOk_of "None"
  | .bool b, _ => by
    simp only [PyData.shown]
    split <;> exact strOk_of _
  | .int i, _ => strOk_of (toString i)
  | .str s, h => (word_all (by simpa [plY] using h)).1
  | .dict _, h => by simp [plY] at h
  | .list xs, h => by
    simp only [PyData.shown, listText]
    exact strOk_app (strOk_from _ _ _ (strOk_of "[") (showns_ok xs (by simpa [plY] using h))) (strOk_of "]")
  | .tuple xs, h => by
    simp only [PyData.shown, tupleText]
    refine strOk_app (strOk_app (strOk_of "(") (strOk_join _ (showns_ok xs (by simpa [plY] using h)))) ?_
    split <;> exact strOk_of _
theorem showns_ok : ∀ xs : List PyData, plYs xs = true → ∀ t ∈ PyData.shownAll xs, PyData.strOk t = true
  | [], _, t, ht => by simp [PyData.shownAll] at ht
  | x :: xs, h, t, ht => by
    simp only [plYs, Bool.and_eq_true] at h
    simp only [PyData.shownAll, List.mem_cons] at ht
    rcases ht with rfl | ht
    · exact shown_ok x h.1
    · exact showns_ok xs h.2 t ht
end
mutual
theorem leaves_ok : ∀ d : PyData, plY d = true → d.showable = true → d.leavesShort 1921 = true ∧ d.hasDict = false
  | .none, _, _ => by simp [PyData.leavesShort, PyData.hasDict]
  | .bool b, _, _ => by simp [PyData.leavesShort, PyData.hasDict]
  | .int i, _, h => by
    simp only [PyData.showable, decide_eq_true_eq] at h
    refine ⟨?_, by simp [PyData.hasDict]⟩
    simp only [PyData.leavesShort, decide_eq_true_eq]
    exact int_text_len_1921 h
  | .str s, h, _ => ⟨(word_all (by simpa [plY] using h)).2.1, (word_all (by simpa [plY] using h)).2.2.1⟩
  | .dict _, h, _ => by simp [plY] at h
  | .list xs, h, k => by
    simp only [PyData.leavesShort, PyData.hasDict]
    exact leaves_oks xs (by simpa [plY] using h) (by simpa [PyData.showable] using k)
  | .tuple xs, h, k => by
    simp only [PyData.leavesShort, PyData.hasDict]
    exact leaves_oks xs (by simpa [plY] using h) (by simpa [PyData.showable] using k)
theorem leaves_oks : ∀ xs : List PyData, plYs xs = true → PyData.showableAll xs = true → PyData.leavesShortAll 1921 xs = true ∧ PyData.hasDictAll xs = false
  | [], _, _ => by simp [PyData.leavesShortAll, PyData.hasDictAll]
  | x :: xs, h, k => by
    simp only [plYs, Bool.and_eq_true] at h
    simp only [PyData.showableAll, Bool.and_eq_true] at k
    obtain ⟨a, b⟩ := leaves_ok x h.1 k.1
    obtain ⟨c, d⟩ := leaves_oks xs h.2 k.2
    simp [PyData.leavesShortAll, PyData.hasDictAll, a, b, c, d]
end
mutual
theorem lenY : ∀ d : PyData, plY d = true → d.showable = true → d.shown.length ≤ 7 * d.weight + 5
  | .none, _, _ => by
    have e : (PyData.shown .none).length = 4 := rfl
    omega
  | .bool b, _, _ => by
    have e : (PyData.shown (.bool b)).length ≤ 5 := by cases b <;> decide
    omega
  | .int i, _, _ => by
    have e : (PyData.shown (.int i)).length = (toString i).length := by
      show (Str.ofString (toString i)).length = _
      exact PySem.ofString_length _
    have e2 := int_text_length_le (a := i) (k := i.natAbs.log2 + 1) (by omega) (by omega)
    rw [e]
    simp only [PyData.weight]
    by_cases c : i = 0
    · subst c
      have : (toString (0 : Int)).length = 1 := by decide
      omega
    · rw [if_neg (by simpa using c)]
      omega
  | .str s, h, _ => (word_all (by simpa [plY] using h)).2.2.2
  | .dict _, h, _ => by simp [plY] at h
  | .list xs, h, k => by
    have h1 := lenYs xs (by simpa [plY] using h) (by simpa [PyData.showable] using k)
    have h2 := listText_len_le (PyData.shownAll xs)
    have h3 := PyData.shownAll_length xs
    simp only [PyData.shown, PyData.weight]
    omega
  | .tuple xs, h, k => by
    have h1 := lenYs xs (by simpa [plY] using h) (by simpa [PyData.showable] using k)
    have h2 := tupleText_len_le (PyData.shownAll xs)
    have h3 := PyData.shownAll_length xs
    simp only [PyData.shown, PyData.weight]
    omega
theorem lenYs : ∀ xs : List PyData, plYs xs = true → PyData.showableAll xs = true → ((PyData.shownAll xs).map (·.length)).sum + 2 * xs.length ≤ 7 * PyData.weightAll xs
  | [], _, _ => by simp only [PyData.shownAll, PyData.weightAll, List.map_nil, List.sum_nil, List.length_nil]; omega
  | x :: xs, h, k => by
    simp only [plYs, Bool.and_eq_true] at h
    simp only [PyData.showableAll, Bool.and_eq_true] at k
    have h1 := lenY x h.1 k.1
    have h2 := lenYs xs h.2 k.2
    simp only [PyData.shownAll, PyData.weightAll, List.map_cons, List.sum_cons, List.length_cons]
    omega
end
theorem okY_fits {d : PyData} (h : okY d = true) : d.showable = true ∧ d.hasDict = false ∧ d.depth ≤ 50 ∧ d.shown.length ≤ sizeLine ∧ PyData.strOk d.shown = true := by
  unfold okY at h
  simp only [Bool.and_eq_true, decide_eq_true_eq] at h
  obtain ⟨⟨⟨h1, h2⟩, h3⟩, h4⟩ := h
  obtain ⟨a, b⟩ := leaves_ok d h1 h2
  have := lenY d h1 h2
  refine ⟨h2, b, h3, ?_, shown_ok d h1⟩
  rw [sizeLine_eq]
  omega
def gStrY (as : List W) : Option W := match as with
  | [w] => match wPd w with
    | some (.list xs) => if okY (.list xs) then some (.sh (.str (PyData.shown (.list xs)))) else none
    | some (.tuple xs) => if okY (.tuple xs) then some (.sh (.str (PyData.shown (.tuple xs)))) else none
    | _ => none
  | _ => none
def rStrY (K : PySem.W.Frag) : List V → Hp → VK → Prop := fun vs H Q => ∃ (a : Addr) (d : PyData), vs = [V.ref a] ∧ Dp K H (V.ref a) d ∧ okY d = true ∧ Q (.str d.shown) H
section
variable {X : Cx}
theorem cr_strY (hg : X.A.guards = some []) (hu : X.A.units + 64 < cLine) : CallR X (.type "str") (rStrY X.K) := by
  intro pins s σ H vs us Q I r h
  obtain ⟨a, d, rfl, dp, ok, q⟩ := h
  rw [Vals.ref1 r]
  obtain ⟨as, rd⟩ := Dp.reads I d (V.ref a) (Value.ref a) dp rfl
  obtain ⟨h1, h2, h3, h4, _⟩ := okY_fits ok
  exact str_of_reads rd h1 (PyData.noDict_hsm h2) hg (by omega) (fun _ _ e => e) (fun h' u tk hk => ⟨.str d.shown, H, I.kept hk, ⟨_, rfl⟩, q⟩) h4
theorem ops_strY {G : GX} : OpS (rWs G) (rW G) (rStrY G.K) gStrY := by
  refine ops_flat fun B H a b fp c s ra e => ?_
  unfold gStrY at e
  split at e
  · rename_i w
    obtain ⟨v, rfl, r⟩ := rel1 ra
    split at e
    · rename_i xs ew
      split at e
      · rename_i ok
        cases e
        obtain ⟨dp, _⟩ := relW_pd s r ew
        obtain ⟨a, rfl⟩ : ∃ a, v = .ref a := by cases dp; exact ⟨_, rfl⟩
        exact ⟨_, .str (PyData.shown (.list xs)), rfl, by simp [repD], fun Q q => ⟨a, _, rfl, dp, ok, q⟩⟩
      · cases e
    · rename_i xs ew
      split at e
      · rename_i ok
        cases e
        obtain ⟨dp, _⟩ := relW_pd s r ew
        obtain ⟨a, rfl⟩ : ∃ a, v = .ref a := by cases dp; exact ⟨_, rfl⟩
        exact ⟨_, .str (PyData.shown (.tuple xs)), rfl, by simp [repD], fun Q q => ⟨a, _, rfl, dp, ok, q⟩⟩
      · cases e
    · cases e
  · cases e
end
end AM
namespace AM
open PySem PySem.Spec L2 PyProof.Rows
def RunAt (P : Program) (w : World) (K : PySem.W.Frag) (mg : Str → Option Value) (base : Heap) (CX : CXT) (A : Around) (f : Addr) (fd : FuncData) (ps : List Str) (sp : Sp) : Prop :=
  ∀ (outer : List PySem.Env) (s : Shared) (H : Hp) (args : Args) (us : List Value) (vs : List V) (Q : VK) (E : XK), Env0 P w K mg base A outer s H → BindsTo s fd args (ps.zip us) → Vals vs us → vs.length = ps.length → sp vs H Q E →
    codeAny (model P w) A (.call (.ref f) args) (L2.CR CX outer P w H s Q E) s
section
variable {P : Program} {w : World} {K : PySem.W.Frag} {mg : Str → Option Value} {base : Heap}
theorem run_at {x qual : Str} {st : Stmt} {f : Addr} {fd : FuncData} {N ps : List Str} {k : Nat} {sp : Sp} {A : Around} (F : Fun K x qual st f fd) (S : FnScope N ps (defScope st)) (hA : Room (k + 1) A)
    (body : ∀ (cdv : Value) (outer : List PySem.Env) (s : Shared) (H : Hp) (vs : List V) (Q : VK) (E : XK), Room k (A.deeper (envOfC qual (defScope st) s.heap.objs.size f cdv)) → sp vs H Q E →
      ∃ t, PSs (cxOf (L2.CX P w) P w K mg base N qual (defScope st) f cdv A outer s H E) (defBody st) t ∧ t { nx := fun _ H' => Q .non H', rt := Q } (start N vs) H) : RunAt P w K mg base (L2.CX P w) A f fd ps sp := by
  obtain ⟨_, _, _, _, _, _, cd, _, _, rfl, here, code⟩ := F.ex
  intro outer s H args us vs Q E env bind vals len promise
  have kept : ∀ b o, base.get? b = some o → s.heap.get? b = some o := fun b o e => (env.bs b o e).1
  have K_in : K.In s.heap := env.mod.kin.keeps kept
  refine codeAny_call_function hA.depth (K_in _ _ here) rfl S.co S.gen rfl (PySem.W.codeRec_of K_in code) (bind _ _ _ _ ?_)
  refine wpAny_newFunctionEnv_cells S.kind ?names fun e same s1 started => ?go
  case names =>
    rintro ⟨name, value⟩ mem
    rcases S.par name (List.of_mem_zip mem).1 with z | z
    · exact .inl z
    · exact .inr ⟨z, PySem.W.cellsFrom_some _ _ _ (.inl z)⟩
  case go =>
    subst same
    refine ⟨(env.mod.nolimit.keeps kept).keeps started.toInCall.keep, codeAny_func ?_⟩
    obtain ⟨t, reads, runs⟩ := body cd outer s H vs Q E (hA.deeper _) promise
    have I0 := inv_start (CX := L2.CX P w) (E := E) S hA.hd env len vals started
    refine wpAny_mono (reads.run [] s1 (start N vs) H _ I0 runs) ?_ fun _ _ z => z
    intro flow s' told
    have finish : ∀ {v : V} {H' : Hp} {σ' : L2.St} {u : Value}, Inv (cxOf (L2.CX P w) P w K mg base N qual (defScope st) f cd A outer s H E) [] σ' H' s' → RelV v u → Q v H' → L2.CE outer P w H s Q u s' := by
      intro v H' σ' u J r q
      exact ⟨v, H', J.os, J.bare, J.base, J.hok, r, q⟩
    match flow, told with
    | .ret u, ⟨v, σ', H', J, r, q⟩ => exact finish J r q
    | .next, ⟨σ', H', J, q⟩ => exact finish (v := .non) (u := .none) J rfl q
    | .brk, ⟨_, _, _, z⟩ => exact False.elim z
    | .cont, ⟨_, _, _, z⟩ => exact False.elim z
end
theorem ask_law {P : Program} {w : World} {K : PySem.W.Frag} {mg mb : Str → Option Value} {CX : CXT} {fa a : Addr} {fd : FuncData} {x : Str} {sp : Sp} {s : Shared} {vs : List Value} {ns : List Int}
    (inK : K.In s.heap) (glob : s.heap.Ns mainGlobals mg) (blt : s.heap.Ns builtinsNs mb) (boot : ∀ x : Str, x ≠ "__name__" → mb x = bootBuiltins x) (free : s.heap.NoLimit) (gens : s.gens = #[])
    (script : s.heap.get? a = some { cls := .type "list", data := .seq vs.toArray }) (numsA : IntsAre vs ns) (short : ns.length ≤ sizeLine)
    (F : ∀ base : Heap, K.In base → base.Ns mainGlobals mg → RunAt P w K mg base CX callerA fa fd [x] sp) (binds : ∀ (s : Shared) (u : Value), BindsTo s fd ⟨[u], []⟩ [(x, u)])
    (good : ∀ H : Hp, Only H → SqL K H a (ns.map V.int) → sp [.ref a] H (fun v _ => v = .bl true) fun _ _ _ => False) (noX : ∀ H e s', CX [] H s (fun _ _ _ => False) e s' → False) :
    codeAny (model P w) callerA (.call (.ref fa) ⟨[.ref a], []⟩) (fun r s' => r = .ok (.ret (.bool true)) ∧ OldK s.heap s'.heap ∧ s'.os = s.os ∧ AllBare s'.gens) s := by
  have vals := vals_ints numsA
  have number := numsA.length
  have ask : ∀ H : Hp, Only H → SqL K H a (ns.map V.int) → HOk P w H s.heap → (∀ b, b ≠ a → H b = none) → (K.lookup a ≠ none → H a = none) →
      codeAny (model P w) callerA (.call (.ref fa) ⟨[.ref a], []⟩) (fun r s' => r = .ok (.ret (.bool true)) ∧ OldK s.heap s'.heap ∧ s'.os = s.os ∧ AllBare s'.gens) s := by
    intro H only sq hok off tracked
    have dictFree : ∀ {b : Addr} {o : Obj} {es : Array DictEntry} {ep : Nat}, s.heap.get? b = some o → o.data = .dict es ep → H b = none := by
      intro b o es ep e d
      by_cases hb : b = a
      · subst hb
        rw [script] at e
        cases e
        cases (show Data.seq vs.toArray _ = Data.dict es ep from d)
      · exact off b hb
    have nsUp : ∀ {b : Addr} {m : Str → Option Value}, s.heap.Ns b m → (hidT s.heap H).Ns b m := by
      rintro b m ⟨o, es, ep, e, d, rest⟩
      exact ⟨o, es, ep, hidT_get e (dictFree e d), d, rest⟩
    have kin : K.In (hidT s.heap H) := by
      intro b o e
      refine hidT_get (inK b o e) ?_
      by_cases hb : b = a
      · subst hb
        exact tracked (by rw [e]; simp)
      · exact off b hb
    have limit : (hidT s.heap H).NoLimit := by
      obtain ⟨m, h1, h2⟩ := free
      exact ⟨m, nsUp h1, h2⟩
    have env : Env0 P w K mg (hidT s.heap H) callerA [] s H := {
      frames := rfl
      mod := ⟨kin, nsUp glob, ⟨mb, nsUp blt, boot⟩, limit⟩
      bs := fun _ _ e => of_hidT e
      bsz := Nat.le_of_eq (hidT_size _ _)
      funs := trivial
      frf := fun b hb => nomatch hb
      hok := hok
      bare := .of_eq gens }
    have answered := F _ kin (nsUp glob) [] s H ⟨[.ref a], []⟩ [.ref a] [.ref a] _ _ env (binds s (.ref a)) (.cons rfl .nil) rfl (good H only sq)
    refine codeAny_mono answered fun r s' told => ?_
    match r, told with
    | .error e, z => exact (noX H e s' z).elim
    | .ok (.ret u), ⟨v, H', os, bare, un, hok', rel, (isT : v = .bl true)⟩ =>
      subst isT
      obtain rfl : u = Value.bool true := rel
      refine ⟨rfl, OldK.of_keep fun b o e => ?_, os, bare⟩
      rcases only b with free | ⟨ob, xs, frz⟩
      · exact un.keep b o e free (fun z => nomatch z) (by simp)
      · obtain ⟨now, _⟩ := hok b _ frz
        obtain ⟨later, _⟩ := hok' b _ (un.frzs b ob _ frz)
        rw [e] at now
        cases now
        exact later
    | .ok .next, z => exact False.elim z
    | .ok .brk, z => exact False.elim z
    | .ok .cont, z => exact False.elim z
  cases known : K.lookup a with
  | some o =>
    have same := inK a o known
    rw [script] at same
    cases same
    refine ask (fun _ => none) (fun _ => .inl rfl) (.inr ⟨_, vs.toArray, _, known, rfl, rfl, rfl, ?_, by simpa using vals⟩) (fun b u z => by cases (show (none : Option HO) = some u from z)) (fun _ _ => rfl) fun _ => rfl
    rw [List.size_toArray, number]
    exact short
  | none =>
    let H : Hp := fun b => if b = a then some (.frz { cls := .type "list", data := .seq vs.toArray } (.lst (ns.map V.int))) else none
    have at_a : H a = some (.frz { cls := .type "list", data := .seq vs.toArray } (.lst (ns.map V.int))) := if_pos rfl
    have off : ∀ b, b ≠ a → H b = none := fun b hb => if_neg hb
    refine ask H (fun b => ?_) (.inl (.inr ⟨_, at_a⟩)) (fun b u z => ?_) off fun z => absurd known z
    · by_cases hb : b = a
      · subst hb
        exact .inr ⟨_, _, at_a⟩
      · exact .inl (off b hb)
    · by_cases hb : b = a
      · subst hb
        rw [at_a] at z
        cases z
        exact ⟨script, by rw [List.length_map]; exact short, vs, _, vals, script⟩
      · rw [off b hb] at z
        cases z
theorem walk_at {l : PySem.W.OpenLaw} {n : Nat} {q : Program} {loose : List Str} {XP : (Str → Option Value) → Heap → Prop} {YP : World → Heap → Prop} {d : DefRec} {K : Params → PySem.W.Frag} {CX : World → CXT} {sp : World → Sp} {x : Str}
    (most : l.most = some n) (few : n ≤ sizeLine) (plain : d.params.defaults = [])
    (inK : ∀ (w : World) (h : Heap), YP w h → (K w.params).In h)
    (F : ∀ (w : World) (mg : Str → Option Value) (fa : Addr) (h : Heap), (K w.params).In h → h.Ns mainGlobals mg → mg d.name = some (.ref fa) →
      ∃ fd : FuncData, (∀ (s : Shared) (u : Value), BindsTo s fd ⟨[u], []⟩ [(x, u)]) ∧
        ∀ base : Heap, (K w.params).In base → base.Ns mainGlobals mg → RunAt l.prog w (K w.params) mg base (CX w) callerA fa fd [x] (sp w))
    (good : ∀ (w : World) (H : Hp) (a : Addr) (ns : List Int), ns.length ≤ n → Only H → SqL (K w.params) H a (ns.map V.int) → sp w [.ref a] H (fun v _ => v = .bl true) fun _ _ _ => False)
    (noX : ∀ (w : World) (H : Hp) (s : Shared) (e : Value) (s' : Shared), CX w [] H s (fun _ _ _ => False) e s' → False) :
    PySem.W.WalkO q loose XP YP l.row.toRowW d [] (fun f vs => PySem.call f vs) := by
  refine Att.attach_call most plain fun w s₀ s mg mb fa o pm cd doc a vs ns G Y ho hd hcd name script numsA len gens => ?_
  have KX := inK w _ Y
  obtain ⟨fd, binds, runs⟩ := F w mg fa _ KX G.T.g name
  exact ask_law KX G.T.g G.T.b G.T.builtins G.T.nolimit gens script numsA (Nat.le_trans len few) runs binds (fun H only sq => good w H a ns len only sq) fun H e s' => noX w H s e s'
theorem body_runs {K : PySem.W.Frag} {mg : Str → Option Value} {N ps : List Str} {scope : Scope} {n : Nat} {nio : List Nat} {body : MS} {t : TS} {vs : List V} {H : Hp} {Q : VK} {E : XK} (S : FnScope N ps scope) (hn : ps.length = n) (hN : n ≤ N.length)
    (sim : SimS ⟨K, mg⟩ (pinOf n nio) (fun cls d _ H' => E cls d H') t body) (h : spOf ⟨K, mg⟩ n (fnM n N.length nio body) vs H Q E) : t { nx := fun _ H' => Q .non H', rt := Q } (start N vs) H := by
  obtain ⟨hl, B, ws, fp, sub, rw', nd, out, c⟩ := h
  have hlw : ws.length = n := by rw [relWs_length rw', hl]
  unfold fnM at c
  rw [if_pos hlw] at c
  have rE : relE ⟨K, mg⟩ B H (start N vs) (ws.map some ++ List.replicate (N.length - n) none) fp := by
    unfold L2.start
    rw [hl]
    exact relE_start _ rw'
  refine sim B H (start N vs) _ fp ⟨sub, rE, nd, out⟩ _ ?_
  have hst : (start N vs).length = N.length := by
    unfold L2.start
    simp [hl]
    omega
  have pin0 : ∀ i, pinOf n nio i = true → (start N vs)[i]? = (vs.map some)[i]? := fun i hi => by
    have : i < n := by
      simp [pinOf] at hi
      exact hi.1
    unfold L2.start
    rw [List.getElem?_append_left (by simp [hl]; exact this)]
  cases e : body (ws.map some ++ List.replicate (N.length - n) none) with
  | none => rw [e] at c; exact c
  | some r =>
    obtain ⟨r, env'⟩ := r
    rw [e] at c
    have outs : ∀ {σ' : L2.St} {H' B' : Hp} {f0 fp2 : List Addr}, PostS ⟨K, mg⟩ (pinOf n nio) B H (start N vs) fp env' σ' H' B' f0 fp2 → env'.length = N.length → ∃ f', relE ⟨K, mg⟩ B' H' (vs.map some) ((wipeE env' nio).take n) f' ∧ (∀ q ∈ f', q ∈ fp2) ∧ (fp2.Nodup → f'.Nodup) := fun Pq hlen =>
      outs_rel Pq.ok.rel hl (by rw [relE_length Pq.ok.rel]; omega) fun i hi => (Pq.pin i hi).trans (pin0 i hi)
    have fin : ∀ {σ' : L2.St} {H' B' : Hp} {f0 fp2 : List Addr} {w : W} {v : V}, PostS ⟨K, mg⟩ (pinOf n nio) B H (start N vs) fp env' σ' H' B' f0 fp2 → env'.length = N.length → relW ⟨K, mg⟩ B' H' w v f0 → (∀ q ∈ f0, B' q = none) → f0.Nodup → (∀ q ∈ f0, q ∉ fp2) →
        (∀ v H' B' f0 f2, Same B' H' → relW ⟨K, mg⟩ B' H' w v f0 → relE ⟨K, mg⟩ B' H' (vs.map some) ((wipeE env' nio).take n) f2 → (f0 ++ f2).Nodup → (∀ q ∈ f0 ++ f2, B' q = none) → Step B H fp B' H' (f0 ++ f2) → Q v H') → Q v H' := fun {σ' H' B' f0 fp2 w v} Pq hlen rv ov nv dv c => by
      obtain ⟨f', r1, s1, n1⟩ := outs Pq hlen
      refine c v H' B' f0 f' Pq.ok.sub rv r1 (List.nodup_append.mpr ⟨nv, n1 Pq.ok.nd, fun a ha b hb e => ?_⟩) (fun q hq => ?_) (Pq.step.mono fun q hq => ?_)
      · subst e
        exact dv a ha (s1 a hb)
      · rcases List.mem_append.mp hq with hq | hq
        · exact ov q hq
        · exact Pq.ok.out q (s1 q hq)
      · simp only [List.mem_append] at hq ⊢
        exact hq.imp id (s1 q)
    cases r with
    | ex x =>
      simp only at c
      by_cases hlen : env'.length = N.length
      · rw [if_pos hlen] at c
        intro cls d σ' H' B' fp2 Pq hx hd
        obtain ⟨f', r1, s1, n1⟩ := outs Pq hlen
        refine c cls d H' B' f' Pq.ok.sub r1 (n1 Pq.ok.nd) (fun q hq => Pq.ok.out q (s1 q hq)) (Pq.step.mono fun q hq => by simpa using s1 q hq) hx fun dd e => ?_
        obtain ⟨a1, a2, a3⟩ := hd dd e
        exact ⟨a1, fun z => a2 (s1 dd z), a3⟩
      · rw [if_neg hlen] at c
        exact c.elim
    | ok fl =>
      cases fl with
      | nx =>
        simp only at c
        by_cases hlen : env'.length = N.length
        · rw [if_pos hlen] at c
          intro σ' H' B' fp2 Pq
          exact fin (v := .non) Pq hlen (by simp [relW, repD]) (by simp) List.nodup_nil (by simp) c
        · rw [if_neg hlen] at c
          exact c.elim
      | bk => exact c.elim
      | ct => exact c.elim
      | rt w =>
        simp only at c
        by_cases hlen : env'.length = N.length
        · rw [if_pos hlen] at c
          intro v σ' H' B' f0 fp2 Pq rv ov nv dv
          exact fin Pq hlen rv ov nv dv c
        · rw [if_neg hlen] at c
          exact c.elim
theorem fn_law {P : Program} {w : World} {K : PySem.W.Frag} {mg : Str → Option Value} {base : Heap} {x qual : Str} {st : Stmt} {f : Addr} {fd : FuncData} {N ps : List Str} {k n : Nat} {nio : List Nat} {body : MS} {A : Around} (F : Fun K x qual st f fd) (S : FnScope N ps (defScope st)) (hn : ps.length = n) (hN : n ≤ N.length) (hA : Room (k + 1) A) (hG : A.guards = some [])
    (hbody : ∀ (cdv : Value) (outer : List PySem.Env) (s : Shared) (H : Hp) (E : XK), Room k (A.deeper (envOfC qual (defScope st) s.heap.objs.size f cdv)) → (A.deeper (envOfC qual (defScope st) s.heap.objs.size f cdv)).guards = some [] →
      SSs (cxOf (L2.CX P w) P w K mg base N qual (defScope st) f cdv A outer s H E) (pinOf n nio) (fun cls d _ H' => E cls d H') (defBody st) body) :
    RunAt P w K mg base (L2.CX P w) A f fd ps (spOf ⟨K, mg⟩ n (fnM n N.length nio body)) :=
  run_at F S hA fun cdv outer s H vs Q E hr h => by
    obtain ⟨t, pt, sim⟩ := hbody cdv outer s H E hr hG
    exact ⟨t, pt, body_runs S hn hN sim h⟩
theorem RunAt.law {P : Program} {w : World} {K : PySem.W.Frag} {mg : Str → Option Value} {base : Heap} {CX : CXT} {A : Around} {f : Addr} {fd : FuncData} {x : Str} {mf : Nat → MF} (F : ∀ fu, RunAt P w K mg base CX A f fd [x] (spOf ⟨K, mg⟩ 1 (mf fu))) : RunAt P w K mg base CX A f fd [x] (spL K mf) := by
  intro outer s H args us vs Q E e0 hb hv hl hs
  obtain ⟨a, ns, fu, outs, rfl, hsq, e, q⟩ := hs
  refine F fu outer s H args us _ Q E e0 hb hv hl ⟨rfl, H, [.sh (.scr ns)], [], Same.refl H, ?_, List.nodup_nil, by simp, ?_⟩
  · simp only [relWs, relW, repD]
    exact ⟨_, [], [], [], rfl, ⟨⟨a, rfl, hsq⟩, rfl⟩, ⟨rfl, rfl⟩, rfl⟩
  · rw [e]
    intro v H' B' f0 f2 s r _ _ _ _
    simp only [relW, repD] at r
    rw [r.1]
    exact q H'
end AM
namespace AM
open PySem PySem.Spec L2 PyProof.Rows
end AM
namespace AM
open PySem PySem.Spec L2 PyProof.Rows
end AM
namespace AM
open PySem PySem.Spec L2 PyProof.Rows
structure PostIC (G : GX) (r : Nat) (B H : Hp) (σ : L2.St) (env : Env) (fp : List Addr) (jss : List (List Nat)) (J : It) (H1 B1 : Hp) : Prop where
  ok : Ok G B1 H1 σ env fp
  step : Step B H fp B1 H1 fp
  walk : ∃ (us : List V) (v0 : V) (Kp : List Addr) (Gd : Hp → Prop) (Sh : W → Prop), Walk J jss.length Gd (YAt us) ∧ us.length = jss.length ∧ σ[r]? = some (some v0) ∧ (∀ q ∈ Kp, H1 q ≠ none) ∧
    (∀ H' B', Same B1 B' → Same B' H' → (∀ q ∈ Kp, H' q = H1 q ∧ B' q = B1 q) → Gd H') ∧
    (∀ w0, env[r]? = some (some w0) → Sh w0) ∧ (∀ w0 w' w1 js, js ∈ jss → Sh w0 → putP w0 js w' = some w1 → Sh w1) ∧
    ∀ (B' H' : Hp) (w0 : W) (gR : List Addr) (i : Nat) (js : List Nat) (w : W), Sh w0 → Same B1 B' → Same B' H' → (∀ q ∈ gR, B' q = none) → gR.Nodup → (∀ q ∈ Kp, H' q = H1 q ∧ B' q = B1 q) → relW G B' H' w0 v0 gR → jss[i]? = some js → getP w0 js = some w → ∃ v : V, us[i]? = some v ∧ ZipR G B' H' w0 v0 gR js w v Kp
def SimIC (G : GX) (r : Nat) (t : TI) (m : Env → Option (List (List Nat))) : Prop := ∀ B H σ env fp, Ok G B H σ env fp → ∀ R : It → Hp → Prop,
  (match m env with
  | none => False
  | some jss => ∀ J H1 B1, PostIC G r B H σ env fp jss J H1 B1 → R J H1) → t σ H R
section
variable {G : GX} {B H : Hp} {σ : L2.St} {env : Env} {fp : List Addr} {pn pnb : Nat → Bool} {Wx : WX} {tb : TS} {mb : MS} {r it : Nat} {v v0 : V} {js : List Nat} {Kp : List Addr} {Sh : W → Prop}
theorem simS_forC {wi : TI} {mi : Env → Option (List (List Nat))} (hi : SimIC G r wi mi) (hb : SimS G pnb Wx tb mb) (hne : it ≠ r) (hpr : pnb r = true) (hpi : pnb it = true) (hpn : ∀ i, pn i = true → pnb i = true ∧ i ≠ it) :
    SimS G pn Wx (tFor wi (gName it) tb) (mForB r it mi mb) := by
  intro B H σ env fp O D c
  refine hi B H σ env fp O _ ?_
  unfold mForB at c
  cases e1 : mi env with
  | none => rw [e1] at c; exact c
  | some jss =>
    rw [e1] at c
    intro J H1 B1 PI
    simp only at c
    by_cases hlen : it < env.length
    case neg => rw [if_neg hlen] at c; exact c.elim
    rw [if_pos hlen] at c
    obtain ⟨us, v0, Kp, Gd, Sh, wk, hus, hv0, liveK, gd, sh0, sh1, zz⟩ := PI.walk
    have P0 : PostS G pn B H σ fp env σ H1 B1 [] fp := ⟨PI.ok, PI.step, fun _ _ => rfl⟩
    refine for_it wk (fun i σ' H' => ∃ env' B' fp', PostS G pn B H σ fp env' σ' H' B' [] fp' ∧ Same B1 B' ∧ σ'[r]? = some (some v0) ∧ (∀ q ∈ Kp, H' q = H1 q ∧ B' q = B1 q) ∧ it < env'.length ∧ (∀ w0, env'[r]? = some (some w0) → Sh w0) ∧ ContS G pn Wx B H σ fp (mLoopB r it mb (jss.drop i) env') D) ?_ ?_ ?_ ?_
    · exact ⟨env, B1, fp, P0, Same.refl B1, hv0, fun _ _ => ⟨rfl, rfl⟩, hlen, sh0, c⟩
    · rintro i σ' H' _ ⟨env', B', fp', P, sB, _, hk, _, _, _⟩
      exact gd H' B' sB P.ok.sub hk
    · rintro i x σ' H' H'' hi' ⟨env', B', fp', P, sB, hr, hk, hit, hsh, ct⟩ ⟨rfl, hx⟩
      have hd := List.getElem?_eq_getElem hi'
      generalize jss[i] = js at hd
      have ed : jss.drop i = js :: jss.drop (i + 1) := by
        rw [List.drop_eq_getElem_cons hi']
        congr 1
        rw [List.getElem?_eq_getElem hi'] at hd
        exact Option.some.inj hd
      rw [ed] at ct
      simp only [mLoopB] at ct
      cases e2 : mAt r it mb js env' with
      | none => rw [e2] at ct; exact ct.elim
      | some r2 =>
        obtain ⟨r2, env2⟩ := r2
        rw [e2] at ct
        cases r2 with
        | ex x => exact ct.elim
        | ok u =>
          simp only at ct
          show tb _ (σ'.set it (some x)) H''
          refine at_step (pn := pn) (Kp := Kp) (Sh := Sh) hb hne hpr hpi hpn P.ok hr hit hsh (fun w0 w' w1 => sh1 w0 w' w1 js (List.mem_of_getElem? hd)) (fun w0 gR w s0 o n rr ew => ?_) e2 _ fun σ2 H2 B2 fp2 O2 S2 pin2 hr2 hit2 hk2 hsh2 => ?_
          · obtain ⟨v, hv, z⟩ := zz B' H'' w0 gR i js w s0 sB P.ok.sub o n hk rr hd ew
            rw [hx] at hv
            cases hv
            exact z
          · exact ⟨env2, B2, fp2, ⟨O2, Step.trans (S := []) P.step S2, fun j hj => (pin2 j hj).trans (P.pin j hj)⟩, fun a o h => S2.bext a o (sB a o h), hr2, fun q hq => ⟨(hk2 q hq).1.trans (hk q hq).1, (hk2 q hq).2.trans (hk q hq).2⟩, hit2, hsh2, ct⟩
    · rintro σ' H' ⟨env', B', fp', P, sB, hr, hk, _, _, ct⟩
      rw [List.drop_length] at ct
      exact ct σ' H' B' fp' P
theorem zipT {ws : List W} {w : W} {p : Addr} {vs : List V} {gR : List Addr} {k : Nat} (hp : B p = some (.tup vs)) (r : relWs G B H ws vs gR) (e : ws[k]? = some w) : ∃ v : V, vs[k]? = some v ∧ ZipR G B H (.ot ws) (.ref p) gR [k] w v [] := by
  obtain ⟨w1, w2, v1, u, v2, f1, g, f2, rfl, rfl, l1, l2, rfl, r1, r2, r3⟩ := relWs_split r e
  refine ⟨u, get_mid l2, f1, g, f2, rfl, r2, fun q hq => (by cases hq), fun B' H' w' g' sB q1 q2 r' => ⟨.ot ((w1 ++ w :: w2).set k w'), ?_, ?_⟩⟩
  · simp only [putP]
    rw [show ((kids (W.ot (w1 ++ w :: w2))).bind (·[k]?)) = some w by simp only [kids, Option.bind_some]; exact get_mid l1]
    simp only [Option.map_some, setKid]
  · rw [set_mid l1]
    simp only [relW]
    exact ⟨p, _, rfl, sB _ _ hp, relWs_join (relWs_frame sB r1 fun q hq => q1 q hq) r' (relWs_frame sB r3 fun q hq => q2 q hq)⟩
end
end AM
namespace AM
open PySem PySem.Spec L2 PyProof.Rows
def mLoopO (g : MG) (body : MS) : List W → MS
  | [] => mNx
  | w :: ws => fun env => match g w env with
    | some (.ok _, e1) => match body e1 with
      | some (.ok .nx, e2) => mLoopO g body ws e2
      | some (.ok .ct, e2) => mLoopO g body ws e2
      | some (.ok .bk, e2) => some (.ok .nx, e2)
      | some (.ok (.rt w), e2) => some (.ok (.rt w), e2)
      | some (.ex x, e2) => some (.ex x, e2)
      | none => none
    | _ => none
def wOl : W → Option (List W)
  | .ol ws => some ws
  | _ => none
def mForO (m : ME W) (g : MG) (body : MS) : MS := m.bind fun w env => match wOl w with
  | some ws => mLoopO g body ws env
  | none => none
section
variable {G : GX} {pn : Nat → Bool} {Wx : WX} {p : Bool} {te : TE} {g : TG} {tb : TS} {me : ME W} {mg : MG} {mb : MS} {qq : Bool}
theorem simS_forO (he : Sim G true p Wx (rW G) te me) (hg : SimG G pn qq g mg) (hb : SimS G pn Wx tb mb) : SimS G pn Wx (tFor (iList G.K te) g tb) (mForO me mg mb) := by
  intro B H σ env fp O D c
  unfold tFor iList
  refine he B H σ env fp O _ ?_
  unfold mForO ME.bind at c
  cases e1 : me env with
  | none => rw [e1] at c; exact c
  | some r =>
    obtain ⟨r, env1⟩ := r
    rw [e1] at c
    cases r with
    | ex x => exact c.ofEx (env := env)
    | ok w =>
      intro v H1 B1 f0 fp1 P
      simp only at c
      cases ew : wOl w with
      | none => rw [ew] at c; exact c.elim
      | some ws =>
      rw [ew] at c
      simp only at c
      have ew : w = .ol ws := by
        unfold wOl at ew
        split at ew
        · cases ew; rfl
        · cases ew
      subst ew
      obtain ⟨nd, dis⟩ := P.own rfl
      have out := P.out
      have new := P.step.new
      have rel := P.rel
      simp only [rW, relW] at rel
      obtain ⟨q, us, g0, rfl, hq, hr, rfl⟩ := rel
      have hlen := relWs_length hr
      simp only [List.nodup_cons] at nd
      have stR : Step B H fp B1 H1 fp1 := ⟨P.step.keep, P.step.bext, P.step.bold, fun a h => P.step.new a (by simp [h]), P.step.live⟩
      refine ⟨q, rfl, ⟨us, SqL.of hq⟩, ?_⟩
      refine for_it (walk_list (xs := us)) (fun i σ' H' => ∃ env' B' fp' gs, PostS G pn B H σ fp env' σ' H' B' [] fp' ∧ H' q = some (.lst us) ∧ q ∉ fp' ∧ B' q = none ∧ (q ∈ fp ∨ H q = none) ∧ q ∉ gs ∧ relWs G B' H' (ws.drop i) (us.drop i) gs ∧ gs.Nodup ∧ (∀ a ∈ gs, B' a = none ∧ a ∉ fp' ∧ (a ∈ fp ∨ H a = none)) ∧ ContS G pn Wx B H σ fp (mLoopO mg mb (ws.drop i) env') D) ?_ ?_ ?_ ?_
      · exact ⟨env1, B1, fp1, g0, ⟨P.ok, stR, fun _ _ => rfl⟩, hq, dis q (by simp), out q (by simp), new q (by simp), nd.1, hr, nd.2, fun a ha => ⟨out a (by simp [ha]), dis a (by simp [ha]), new a (by simp [ha])⟩, c⟩
      · rintro i σ' H' _ ⟨env', B', fp', gs, P', h1, _⟩
        exact SqL.of h1
      · rintro i x σ' H' H'' hi' ⟨env', B', fp', gs, P', h1, h2, h3, h4, h5, h6, h7, h8, ct⟩ ⟨rfl, hx⟩
        have hwi : i < ws.length := by omega
        have ed : ws.drop i = ws[i] :: ws.drop (i + 1) := List.drop_eq_getElem_cons hwi
        have eu : us.drop i = x :: us.drop (i + 1) := by
          rw [List.drop_eq_getElem_cons hi']
          congr 1
          rw [List.getElem?_eq_getElem hi'] at hx
          exact Option.some.inj hx
        generalize ws[i] = w at ed
        rw [ed] at ct h6
        rw [eu] at h6
        simp only [relWs] at h6
        obtain ⟨v, r', g1, g2, e, r1, r2, rfl⟩ := h6
        cases e
        simp only [List.nodup_append] at h7
        refine hg B' H'' σ' env' fp' w x g1 P'.ok r1 (fun a ha => (h8 a (by simp [ha])).1) h7.1 (fun a ha => (h8 a (by simp [ha])).2.1) _ ?_
        simp only [mLoopO] at ct
        cases e2 : mg w env' with
        | none => rw [e2] at ct; exact ct
        | some r2' =>
          obtain ⟨r2', env2⟩ := r2'
          rw [e2] at ct
          cases r2' with
          | ex x => exact ct.elim
          | ok u =>
            intro σ2 H2 B2 fp2 O2 S2 ln2 pin2 pu2
            have old : ∀ a, a ∈ g1 ++ fp' → a ∈ fp ∨ H a = none := fun a ha => by
              rcases List.mem_append.mp ha with z | z
              · exact (h8 a (by simp [z])).2.2
              · exact P'.step.new a (by simpa using z)
            have st2 : Step B H fp B2 H2 fp2 := by
              refine ⟨fun a o h n => S2.keep a o (P'.step.keep a o h n) fun z => ?_, fun a o h => S2.bext a o (P'.step.bext a o h), fun a h n => (S2.bold a (P'.step.live a h) fun z => ?_).trans (P'.step.bold a h n), fun a ha => ?_, fun a h => S2.live a (P'.step.live a h)⟩
              · rcases old a z with y | y
                · exact n y
                · rw [h] at y; cases y
              · rcases old a z with y | y
                · exact n y
                · exact h y
              · rcases S2.new a ha with z | z
                · exact old a z
                · refine .inr ?_
                  cases y : H a with
                  | none => rfl
                  | some o => exact absurd z (P'.step.live a (by simp [y]))
            have P2 : PostS G pn B H σ fp env2 σ2 H2 B2 [] fp2 := ⟨O2, st2, fun j hj => (pin2 j hj).trans (P'.pin j hj)⟩
            have lv := relWs_live r2
            have aside : ∀ a, a = q ∨ a ∈ g2 → H'' a ≠ none ∧ a ∉ g1 ++ fp' := fun a ha => by
              rcases ha with rfl | ha
              · refine ⟨by rw [h1]; simp, fun z => ?_⟩
                rcases List.mem_append.mp z with z | z
                · exact h5 (by simp [z])
                · exact h2 z
              · refine ⟨lv a ha, fun z => ?_⟩
                rcases List.mem_append.mp z with z | z
                · exact h7.2.2 a z a ha rfl
                · exact (h8 a (by simp [ha])).2.1 z
            refine hb B2 H2 σ2 env2 fp2 O2 _ ?_
            simp only at ct
            cases e3 : mb env2 with
            | none => rw [e3] at ct; exact ct
            | some r3 =>
              obtain ⟨r3, env3⟩ := r3
              rw [e3] at ct
              have tr : ∀ {σ' : L2.St} {H' B' : Hp} {f0 fp' : List Addr}, PostS G pn B2 H2 σ2 fp2 env3 σ' H' B' f0 fp' → PostS G pn B H σ fp env3 σ' H' B' f0 fp' := fun Q =>
                ⟨Q.ok, Step.trans (S := []) P2.step Q.step, fun i hi => (Q.pin i hi).trans (P2.pin i hi)⟩
              have again : ∀ {σ3 : L2.St} {H3 B3 : Hp} {fp3 : List Addr}, PostS G pn B2 H2 σ2 fp2 env3 σ3 H3 B3 [] fp3 → ContS G pn Wx B H σ fp (mLoopO mg mb (ws.drop (i + 1)) env3) D →
                  ∃ env' B' fp' gs, PostS G pn B H σ fp env' σ3 H3 B' [] fp' ∧ H3 q = some (.lst us) ∧ q ∉ fp' ∧ B' q = none ∧ (q ∈ fp ∨ H q = none) ∧ q ∉ gs ∧ relWs G B' H3 (ws.drop (i + 1)) (us.drop (i + 1)) gs ∧ gs.Nodup ∧ (∀ a ∈ gs, B' a = none ∧ a ∉ fp' ∧ (a ∈ fp ∨ H a = none)) ∧ ContS G pn Wx B H σ fp (mLoopO mg mb (ws.drop (i + 1)) env') D := fun {σ3 H3 B3 fp3} Q ct => by
                have n2 : ∀ a, a = q ∨ a ∈ g2 → a ∉ fp2 := fun a ha z => by
                  obtain ⟨y1, y2⟩ := aside a ha
                  rcases S2.new a z with y | y
                  · exact y2 y
                  · exact y1 y
                have stay : ∀ a, a = q ∨ a ∈ g2 → H3 a = H'' a ∧ B3 a = B' a ∧ a ∉ fp3 := fun a ha => by
                  obtain ⟨y1, y2⟩ := aside a ha
                  have y3 := n2 a ha
                  have y4 := S2.live a y1
                  refine ⟨?_, (Q.step.bold a y4 y3).trans (S2.bold a y1 y2), fun z => ?_⟩
                  · cases e : H'' a with
                    | none => exact absurd e y1
                    | some o => exact Q.step.keep a o (S2.keep a o e y2) y3
                  · rcases Q.step.new a (by simpa using z) with y | y
                    · exact y3 y
                    · exact y4 y
                have sq := stay q (.inl rfl)
                refine ⟨env3, B3, fp3, g2, tr Q, sq.1.trans h1, sq.2.2, sq.2.1.trans h3, h4, fun z => h5 (by simp [z]), relWs_frame (fun a o h => Q.step.bext a o (S2.bext a o h)) r2 (fun a ha => (stay a (.inr ha)).1), h7.2.1, fun a ha => ?_, ct⟩
                have := stay a (.inr ha)
                have hh := h8 a (by simp [ha])
                exact ⟨this.2.1.trans hh.1, this.2.2, hh.2.2⟩
              cases r3 with
              | ex x =>
                intro cls dd σ' H' B' fp' Q hx hd
                refine ct cls dd σ' H' B' fp' (tr Q) hx fun z e => ?_
                obtain ⟨a1, a2, a3⟩ := hd z e
                refine ⟨a1, a2, ?_⟩
                cases y : H z with
                | none => rfl
                | some o => exact absurd a3 (P2.step.live z (by simp [y]))
              | ok f =>
                cases f with
                | nx => exact fun σ' H' B' fp' Q => again Q ct
                | ct => exact fun σ' H' B' fp' Q => again Q ct
                | bk => exact fun σ' H' B' fp' Q => ct σ' H' B' fp' (tr Q)
                | rt w => exact fun v σ' H' B' f0 fp' Q r o n dj => ct v σ' H' B' f0 fp' (tr Q) r o n dj
      · rintro σ' H' ⟨env', B', fp', gs, P', h1, h2, h3, h4, h5, h6, h7, h8, ct⟩
        rw [← hlen, List.drop_length] at ct
        exact ct σ' H' B' fp' P'
end
section
variable {X : Cx} {pn : Nat → Bool} {Wx : WX} {p : Bool} {tg iter : Expr} {m : ME W} {mg : MG} {mb : MS} {qq : Bool} {body : List Stmt} {pos : Pos}
theorem ss_forO (hp : PassesOwn (model X.prog X.w) X.A X.env X.xe) (hc : X.calm = true) (hi : SE X Wx true p iter m) (hg : SG X pn qq tg mg) (hb : SSs X pn Wx body mb) (hs : ∀ x, foldedSetIterable iter X.env x = pure x := by intro _; rfl) : SS X pn Wx (.For tg iter body [] pos) (mForO m mg mb) := by
  obtain ⟨t1, p1, s1⟩ := hi
  obtain ⟨t2, p2, s2⟩ := hg
  obtain ⟨t3, p3, s3⟩ := hb
  exact ⟨_, ps_for hp hc (pi_list p1) p2 p3 hs, simS_forO (G := gx X) s1 s2 s3⟩
end
end AM
namespace AM
open PySem PySem.Spec L2 PyProof.Rows
end AM
namespace AM
open PySem PySem.Spec L2 PyProof.Rows
section
variable {X : Cx} {pn : Nat → Bool} {Wx : WX} {p : Bool} {o key value : Expr} {ml : ME Path} {mk : ME W} {iv : Nat} {pos pos' : Pos}
theorem u1 {a b : Nat} (h : a + 64 < b) : a + 1 < b := by omega
end
end AM
namespace AM
open PySem PySem.Spec L2 PyProof.Rows
end AM
namespace AM
open PySem PySem.Spec L2 PyProof.Rows
end AM
namespace AM
open PySem PySem.Spec L2 PyProof.Rows
end AM
namespace AM
open PySem PySem.Spec L2 PyProof.Rows
end AM
namespace AM
open PySem L2
end AM
namespace AM
open PySem L2
end AM
namespace AM
open PySem PySem.Spec L2 PyProof.Rows
abbrev T3 := Int × Int × Int
def d3 (t : T3) : D := .tup [.int t.1, .int t.2.1, .int t.2.2]
end AM
namespace AM
open PySem PySem.Spec L2 PyProof.Rows
end AM
namespace AM
open PySem PySem.Spec L2 PyProof.Rows
end AM
namespace AM
open PySem PySem.Spec L2 PyProof.Rows
end AM
namespace AM
open PySem PySem.Spec L2 PyProof.Rows
end AM
namespace AM
open PySem PySem.Spec L2 PyProof.Rows
end AM
namespace AM
open PySem PySem.Spec L2 PyProof.Rows
def bLst (r : Nat) (env : Env) : Option (List (List Nat)) := match env[r]? with
  | some (some (.ol ws)) => some ((List.range ws.length).map fun k => [k])
  | _ => none
section
variable {G : GX} {B H : Hp} {r : Nat}
theorem zipL {ws : List W} {w : W} {p : Addr} {vs : List V} {gR : List Addr} {k : Nat} (hp : H p = some (.lst vs)) (rr : relW G B H (.ol ws) (.ref p) gR) (e : ws[k]? = some w) : ∃ v : V, vs[k]? = some v ∧ ZipR G B H (.ol ws) (.ref p) gR [k] w v [p] := by
  simp only [relW] at rr
  obtain ⟨p', vs', gg, h1, h2, h3, rfl⟩ := rr
  cases h1
  rw [hp] at h2
  cases h2
  obtain ⟨w1, w2, v1, u, v2, f1, g, f2, rfl, rfl, l1, l2, rfl, r1, r2, r3⟩ := relWs_split h3 e
  refine ⟨u, get_mid l2, p :: f1, g, f2, by simp, r2, fun q hq => .inl (by simp at hq; simp [hq]), fun B' H' w' g' sB q1 q2 r' => ⟨.ol ((w1 ++ w :: w2).set k w'), ?_, ?_⟩⟩
  · simp only [putP]
    rw [show ((kids (W.ol (w1 ++ w :: w2))).bind (·[k]?)) = some w by simp only [kids, Option.bind_some]; exact get_mid l1]
    simp only [Option.map_some, setKid]
  · rw [set_mid l1]
    simp only [relW]
    exact ⟨p, _, _, rfl, (q1 p (by simp)).trans hp, relWs_join (relWs_frame sB r1 fun q hq => q1 q (by simp [hq])) r' (relWs_frame sB r3 fun q hq => q2 q hq), by simp⟩
theorem simIC_lst : SimIC G r (iList G.K (tVar r)) (bLst r) := by
  intro B H σ env fp O R cc
  unfold iList tVar
  cases em : bLst r env with
  | none => rw [em] at cc; exact cc.elim
  | some jss =>
    rw [em] at cc
    simp only at cc
    unfold bLst at em
    split at em
    · rename_i ws he
      cases em
      obtain ⟨v, g, f', hv, rv, _, _, inn⟩ := relE_out O.rel he
      simp only [relW] at rv
      obtain ⟨p, vs, gg, rfl, hp, hr, rfl⟩ := rv
      refine ⟨_, hv, p, rfl, ⟨vs, SqL.of hp⟩, cc _ H B ⟨O, Step.refl (fun _ h => h), vs, .ref p, [p], fun H' => SqL G.K H' p vs, fun w0 => ∃ ws', w0 = .ol ws', ?_, ?_, hv, fun q hq => (by simp at hq; subst hq; simp [hp]), fun H' B' sB sH hk => SqL.of ((hk p (by simp)).1.trans hp), fun w0 h => ?_, fun w0 w' w1 js hj hs ep => ?_, fun B' H' w0 gR i js w hs sB sH o n hk rr hi eg => ?_⟩⟩
      · rw [List.length_map, List.length_range, relWs_length hr]
        exact walk_list (xs := vs)
      · rw [List.length_map, List.length_range, relWs_length hr]
      · rw [he] at h
        cases h
        exact ⟨_, rfl⟩
      · obtain ⟨ws', rfl⟩ := hs
        rw [List.mem_map] at hj
        obtain ⟨k, _, rfl⟩ := hj
        simp only [putP] at ep
        split at ep
        · simp only [Option.map_some, setKid, Option.some.injEq] at ep
          exact ⟨_, ep.symm⟩
        · cases ep
      · obtain ⟨ws', rfl⟩ := hs
        rw [List.getElem?_map, Option.map_eq_some_iff] at hi
        obtain ⟨k, hk1, rfl⟩ := hi
        obtain ⟨h3, h4⟩ := List.getElem?_eq_some_iff.mp hk1
        rw [List.getElem_range] at h4
        subst h4
        simp only [getP, kids, Option.bind_some] at eg
        split at eg
        · rename_i x hx
          cases eg
          exact zipL ((hk p (by simp)).1.trans hp) rr hx
        · cases eg
    · cases em
end
section
variable {X : Cx} {pn : Nat → Bool} {Wx : WX} {pos pq p1 : Pos} {x y : Str} {r it : Nat} {body : List Stmt} {mb : MS}
theorem ss_forLst (hp : PassesOwn (model X.prog X.w) X.A X.env X.xe) (hc : X.calm = true) (hN : X.N.Nodup) (hi : X.N[it]? = some x) (hx : Loc X.env.scope x) (hv : PE X (.Name y p1) (tVar r)) (hb : SSs X (pnB r it pn) Wx body mb) (hne : (it == r) = false) (hpn : pn it = false)
    (hf : X.fn x = true ∨ X.env.scope.names.lookup x = some .local := by first | exact .inl rfl | exact .inr rfl | assumption) :
    SS X pn Wx (.For (.Name x pq) (.Name y p1) body [] pos) (mForB r it (bLst r) mb) := by
  obtain ⟨t3, p3, s3⟩ := hb
  exact ⟨_, ps_for hp hc (pi_list hv) (pg_name hN hi hx hf) p3 (by intro _; rfl), simS_forC (G := gx X) simIC_lst s3 (by simpa using hne) (by simp [pnB]) (by simp [pnB]) fun i h => ⟨by simp [pnB, h], fun z => by rw [z, hpn] at h; cases h⟩⟩
end
end AM
namespace AM
open PySem PySem.Spec L2 PyProof.Rows
end AM
namespace AM
open PySem PySem.Spec L2 PyProof.Rows
end AM
namespace AM
open PySem PySem.Spec L2 PyProof.Rows
end AM
namespace AM
open PySem PySem.Spec L2 PyProof.Rows
end AM
namespace AM
open PySem PySem.Spec L2 PyProof.Rows
structure DfG (P : Program) (w : World) (K : PySem.W.Frag) (mg : Str → Option Value) (base : Heap) (x : Str) (n : Nat) (mf : MF) (j : Nat) : Prop where
  ex : ∃ (f : Addr) (fd : FuncData) (ps : List Str), ps.length = n ∧ (∀ A : Around, Room j A → A.guards = some [] → RunAt P w K mg base (L2.CX P w) A f fd ps (spOf ⟨K, mg⟩ n mf)) ∧ mg x = some (.ref f) ∧ PySem.W.keepIn K (.ref f) = true ∧ Binds K fd ps []
  len : ∀ ws r, mf ws = some r → ws.length = n
section
variable {X : Cx} {CX : CXT} {j n : Nat} {mf : MF} {f : Addr} {fd : FuncData} {ps : List Str} {sp : Sp} {E : L2.St → XK} {x : Str} {p pos : Pos} {e : Expr} {es : List Expr} {t : TA}
theorem pe_callG (R : RunAt X.prog X.w X.K X.mg X.base CX X.A f fd ps sp) (hl : ∀ vs H Q E, sp vs H Q E → vs.length = ps.length) (hg : Gl X x) (hm : X.mg x = some (.ref f)) (hk : PySem.W.keepIn X.K (.ref f) = true) (hb : Binds X.K fd ps []) (hx : ∀ σ, PassesAt CX X σ (E σ))
    (ha : PA X (e :: es) t) (hdb : (x == ("__debug__" : Str)) = false := by decide) (he : starEach (e :: es) X.env = (false, eval e X.env) :: starEach es X.env := by rfl) (hpl : (backTo pos (starEach es X.env)).any (·.1) = false := by rfl) :
    PE X (.Call (.Name x p) (e :: es) [] pos) (tCallS sp E t) := by
  refine ⟨fun pins s σ H Q I h => wpAny_Call_Name_kw (ld_glob I hg hm (PySem.W.callWith_K (h₀ := X.base) I.ok.mod.kin hk (thn (ha.run pos pins s σ H _ I h) fun us s1 ⟨vs, H1, I1, r, q⟩ => ⟨I1.kIn, ?_⟩) he hpl) hdb)⟩
  have q : sp vs H1 Q (E σ) := q
  have lv := hl _ _ _ _ q
  have lu : us.length = ps.length := r.length.symm.trans lv
  have b := hb s1 us I1.kIn (by simpa using lu)
  simp only [List.append_nil] at b
  refine wpAny_call (codeAny_mono (R X.stack s1 H1 ⟨us, []⟩ us vs Q (E σ) I1.env0 b r lv q) fun res s' hq => ?_)
  match res, hq with
  | .error z, hq => exact hx σ pins H1 s1 z s' I1 hq
  | .ok (.ret u), hq => exact I1.after hq
  | .ok .next, hq => exact hq.elim
  | .ok .brk, hq => exact hq.elim
  | .ok .cont, hq => exact hq.elim
end
section
variable {X : Cx} {Wx : WX} {p : Bool} {x : Str} {n j k : Nat} {mf : MF} {e : Expr} {es : List Expr} {ma : ME (List AW)} {pp pos : Pos}
theorem se_callG0 (hG : X.A.guards = some []) (tk : Takes X Wx) (D : DfG X.prog X.w X.K X.mg X.base x n mf j) (hr : Room j X.A) (hg : Gl X x) (ha : SAw X Wx p (e :: es) ma) (hdb : (x == ("__debug__" : Str)) = false := by decide)
    (he : starEach (e :: es) X.env = (false, eval e X.env) :: starEach es X.env := by rfl) (hpl : (backTo pos (starEach es X.env)).any (·.1) = false := by rfl) : SE X Wx true p (.Call (.Name x pp) (e :: es) [] pos) (ma.bind fun as => callK0 mf as) := by
  obtain ⟨f, fd, ps, hl, F, hm, hk, hb⟩ := D.ex
  obtain ⟨ta, pa, sa⟩ := ha
  exact ⟨_, pe_callG (F X.A hr hG) (fun vs H Q E h => h.1.trans hl.symm) hg hm hk hb (fun σ => passAt tk σ) pa hdb he hpl, sim_call0 D.len sa⟩
theorem se_callG1 (hG : X.A.guards = some []) (tk : Takes X Wx) (D : DfG X.prog X.w X.K X.mg X.base x n mf j) (hr : Room j X.A) (hg : Gl X x) (ha : SAw X Wx p (e :: es) ma) (hdb : (x == ("__debug__" : Str)) = false := by decide)
    (he : starEach (e :: es) X.env = (false, eval e X.env) :: starEach es X.env := by rfl) (hpl : (backTo pos (starEach es X.env)).any (·.1) = false := by rfl) : SE X Wx true false (.Call (.Name x pp) (e :: es) [] pos) (ma.bind fun as => match ioOf as with
    | none => ME.stuck
    | some (i, pa) => if ioCount as = 1 then callK1 mf as i pa else ME.stuck) := by
  obtain ⟨f, fd, ps, hl, F, hm, hk, hb⟩ := D.ex
  obtain ⟨ta, pa, sa⟩ := ha
  exact ⟨_, pe_callG (F X.A hr hG) (fun vs H Q E h => h.1.trans hl.symm) hg hm hk hb (fun σ => passAt tk σ) pa hdb he hpl, sim_call1 D.len sa⟩
end
end AM
namespace AM
open PySem PySem.Spec L2 PyProof.Rows
def gIs2 (T U : String) : W → Option W := fun w => (wTyp w).map fun t => .sh (.bl (isT t T || isT t U))
def rIs2 (K : PySem.W.Frag) (T U : String) : V → Hp → VK → Prop := fun v H Q => 2 ≤ sizeLine ∧ ∀ p, H p = none → rIsiT K [v, .ref p] (upd H p (.tup [.ty T, .ty U])) Q
theorem ops_is2 {G : GX} {T U : String} (hT : ∀ t ∈ tyNames, kitB t T = some (isT t T)) (hU : ∀ t ∈ tyNames, kitB t U = some (isT t U)) : OpS (rW G) (rW G) (rIs2 G.K T U) (gIs2 T U) := by
  intro B H w v f c s ra o e Q q
  unfold gIs2 at e
  simp only [Option.map_eq_some_iff] at e
  obtain ⟨t, e1, rfl⟩ := e
  refine ⟨by decide, fun p np => ?_⟩
  have nB : B p = none := none_of_sub s np
  have sm : Same H (upd H p (.tup [.ty T, .ty U])) := fun a o e => by rw [upd_ne (ne_of_none e np)]; exact e
  have s2 : Same B (upd H p (.tup [.ty T, .ty U])) := fun a o e => sm a o (s a o e)
  have ra : relW G B H w v f := ra
  have ra' : relW G B (upd H p (.tup [.ty T, .ty U])) w v f := relW_frame (Same.refl B) ra fun q hq => by
    cases z : H q with
    | none => exact absurd z (relW_live ra q hq)
    | some o => exact sm q o z
  obtain ⟨h1, h2⟩ := wTyp_rel s2 ra' e1
  refine ⟨v, p, [.ty T, .ty U], .type t, [.type T, .type U], isT t T || isT t U, rfl, upd_same, .cons (.ty T) (.cons (.ty U) .nil), h1, ?_, ?_⟩
  · refine kitAny_cons (kit_ty (hT t h2)) (fun b => ?_) (fun b => by rw [b]; rfl)
    refine kitAny_cons (kit_ty (hU t h2)) (fun c => ?_) (fun c => by rw [c]; simp)
    rw [b, c]
    rfl
  · refine q (.bl (isT t T || isT t U)) _ B [] sm (Same.refl B) s2 (fun _ _ => rfl) (fun q hq => by simp at hq) List.nodup_nil ?_
    show relW G B _ _ _ _
    simp only [relW, repD]
    exact ⟨trivial, trivial⟩
section
variable {X : Cx} {Wx : WX} {k p : Bool} {a : Expr} {m : ME W} {x y : Str} {T U : String} {pp px py pt pos : Pos} {nt : Nat}
theorem se_isi2 (hT : ∀ t ∈ tyNames, kitB t T = some (isT t T)) (hU : ∀ t ∈ tyNames, kitB t U = some (isT t U)) (hg : Gl X "isinstance") (hm : X.mg "isinstance" = none) (hgT : Gl X x) (hmT : X.mg x = none) (hvT : bootBuiltins x = some (.type T)) (hgU : Gl X y) (hmU : X.mg y = none) (hvU : bootBuiltins y = some (.type U)) (ha : SE X Wx k p a m)
    (hnT : x ≠ "__name__" := by decide) (hdT : (x == ("__debug__" : Str)) = false := by decide) (hnU : y ≠ "__name__" := by decide) (hdU : (y == ("__debug__" : Str)) = false := by decide)
    (hs : starEach [a, .Tuple [.Name x px, .Name y py] nt pt] X.env = (false, eval a X.env) :: starEach [.Tuple [.Name x px, .Name y py] nt pt] X.env := by rfl)
    (hs2 : starEach [.Tuple [.Name x px, .Name y py] nt pt] X.env = (false, eval (.Tuple [.Name x px, .Name y py] nt pt) X.env) :: starEach [] X.env := by rfl)
    (hs3 : starEach [.Name x px, .Name y py] X.env = (false, eval (.Name x px) X.env) :: starEach [.Name y py] X.env := by rfl) (hs4 : starEach [.Name y py] X.env = (false, eval (.Name y py) X.env) :: starEach [] X.env := by rfl)
    (hpl : (backTo pos (starEach [.Tuple [.Name x px, .Name y py] nt pt] X.env)).any (·.1) = false := by rfl) : SE X Wx true p (.Call (.Name "isinstance" pp) [a, .Tuple [.Name x px, .Name y py] nt pt] [] pos) (mOp1 (gIs2 T U) m) := by
  obtain ⟨t, pa, s⟩ := ha
  have pT : PE X (.Name x px) (tC (.ty T)) := pe_bltn hgT hmT hvT rfl hnT hdT
  have pU : PE X (.Name y py) (tC (.ty U)) := pe_bltn hgU hmU hvU rfl hnU hdU
  refine ⟨_, pe_callB call_isiT hg hm (by decide +kernel) (pa_cons pa (pa_cons (pe_tup (pa_cons pT (pa_cons pU pa_nil hs4) hs3)) pa_nil hs2) hs) (he := hs) (hpl := hpl), ?_⟩
  exact s.op (r := rIs2 X.K T U) (ops_is2 hT hU)
end
end AM
namespace AM
open PySem PySem.Spec L2 PyProof.Rows
end AM
namespace AM
open PySem L2 PyProof.Rows
end AM
namespace AM
open PySem L2 PyProof.Rows
end AM
namespace AM
open PySem PySem.Spec L2 PyProof.Rows
end AM
namespace AM
open PySem PySem.Spec L2 PyProof PyProof.Rows
end AM
namespace AM
open PySem L2 PyProof.Rows
end AM
set_option maxHeartbeats 2000000
namespace AM
open PySem PySem.Spec L2 PyProof.Rows
abbrev blkX (X : Cx) (s : Shared) (H : Hp) (scope : Scope) (cenv : PySem.Env) (fp : List Addr) (xe : Value → Shared → Prop) : Cx := { X.blk s H scope cenv fp with xe := xe }
theorem funFrames_sub {h B B2 : Heap} (hs : ∀ b, B.get? b = none → B2.get? b = none) : ∀ {l : List PySem.Env}, h.FunFrames B l → h.FunFrames B2 l
  | [], _ => trivial
  | _ :: _, ⟨hk, ⟨L, o, hf, hb, ho, hd⟩, hr⟩ => ⟨hk, ⟨L, o, hf, hs _ hb, ho, hd⟩, funFrames_sub hs hr⟩
section
variable {X : Cx} {Wx : WX} {pins pinsb : List (Addr × Obj)} {σ σb : L2.St} {H3 Hb : Hp} {s3 sb s' : Shared} {scope : Scope} {ce : PySem.Env} {fp : List Addr} {xe : Value → Shared → Prop} {E : XK} {e : Value}
theorem comp_fails (hs : X.stack = X.env :: X.outer) (hf : X.env.frame = some X.env.locals) (tk : Takes X Wx) (I3 : Inv X pins σ H3 s3) (f3 : ∀ b ∈ fp, FpOk X pins H3 b) (cL : ce.locals = s3.heap.objs.size) (cF : ce.frame = X.env.frame)
    (Ib : Inv (blkX X s3 H3 scope ce fp xe) pinsb σb Hb sb) (c : L2.CX X.prog X.w X.stack Hb sb E e s') (hE : ∀ cls d H', E cls d H' → Wx cls d σ H') :
    notedBy (model X.prog X.w) X.A ce (CompFails (model X.prog X.w) X.A X.xe ce) e s' := by
  obtain ⟨a, B, H', cls, d, rfl, fl, hok, ub, na, os, ag, hE'⟩ := c
  have ok := I3.ok
  have hfr : X.A.frames = some (X.env :: X.outer) := by rw [ok.frames, hs]
  obtain ⟨G, g1, g2⟩ := restrict s'.heap fun b => (B.get? b).isSome || decide (b ∈ frs X.stack)
  have st : B.StaysIn s'.heap := fl.1
  have gB : ∀ b o, B.get? b = some o → G.get? b = some o := fun b o e => by
    rw [g1 b (by simp [e])]
    exact st b o e
  have gF : ∀ b, b ∈ frs X.stack → G.get? b = s'.heap.get? b := fun b hb => g1 b (by simp [hb])
  have og : ∀ b o, G.get? b = some o → s'.heap.get? b = some o ∧ ((B.get? b).isSome = true ∨ b ∈ frs X.stack) := fun b o e => by
    cases q : ((B.get? b).isSome || decide (b ∈ frs X.stack)) with
    | false => rw [g2 b q] at e; cases e
    | true =>
      rw [g1 b q] at e
      exact ⟨e, by simpa [Bool.or_eq_true] using q⟩
  have J : Inv (blkX X s3 H3 scope ce fp xe) pinsb σb H' { sb with heap := G, gens := s'.gens, drawn := s'.drawn, toks := s'.toks } := by
    refine Ib.call (ch := []) ⟨fun b o e n hb _ => gB b o (ub.keep b o e n hb), fun b o e n hb _ => ?_, fun b o e n _ => ub.free b o e n, fun b o e _ => ?_, ub.tups, ub.frzs, ub.tbls⟩ (hok.kept gB) ag (fun _ z => nomatch z)
    · obtain ⟨sl, q⟩ := ub.slot b o e hb
      exact ⟨sl, by rw [gF b hb]; exact q⟩
    · by_cases hb : b ∈ frs X.stack
      · obtain ⟨sl, q⟩ := ub.slot b o e hb
        exact ⟨_, by rw [gF b hb]; exact q⟩
      · obtain ⟨o', q⟩ := ub.there b o e hb
        exact ⟨o', gB b o' q⟩
  have I7 : Inv X pins σ H' { sb with heap := G, gens := s'.gens, drawn := s'.drawn, toks := s'.toks } := I3.call' (ch := fp) J.os J.base J.hok J.bare fun b hb => ⟨(f3 b hb).2.2.2.1, (f3 b hb).2.1, (f3 b hb).2.2.2.2.1, (f3 b hb).2.2.2.2.2⟩
  have nC : H' ce.locals = none := J.free
  obtain ⟨m, hnG, _⟩ := J.loc
  have hnG : G.Ns ce.locals m := hnG
  have fC : FpOk X pins H' ce.locals := I3.fpOk (by rw [cL]; exact Nat.le_refl _) nC
  obtain ⟨f0, f1, f2, f3', f4, f5⟩ := fC
  obtain ⟨G2, h1, h2⟩ := restrict G fun b => decide (b ≠ ce.locals)
  obtain ⟨B2, b1, b2⟩ := restrict B fun b => decide (b ≠ ce.locals)
  have subG : ∀ b o, G2.get? b = some o → G.get? b = some o ∧ b ≠ ce.locals := fun b o e => by
    by_cases z : b = ce.locals
    · rw [h2 b (by simp [z])] at e; cases e
    · rw [h1 b (by simp [z])] at e; exact ⟨e, z⟩
  have subB : ∀ b o, B2.get? b = some o → B.get? b = some o ∧ b ≠ ce.locals := fun b o e => by
    by_cases z : b = ce.locals
    · rw [b2 b (by simp [z])] at e; cases e
    · rw [b1 b (by simp [z])] at e; exact ⟨e, z⟩
  have noneB : ∀ b, B.get? b = none → B2.get? b = none := fun b e => by
    cases q : B2.get? b with
    | none => rfl
    | some o => rw [(subB b o q).1] at e; cases e
  have I8 : Inv X pins σ H' { sb with heap := G2, gens := s'.gens, drawn := s'.drawn, toks := s'.toks } := I7.turned (t' := s'.toks) (fun b o hb e => by rw [h1 b (by simp [hb])]; exact e) f0 f1 f3' f4 f5
  have hn' : s'.heap.Ns ce.locals m := hnG.keeps fun b o e => (og b o e).1
  have fl2 : HandSPX.FlyingZ B2 X.stack a (Zc cls d) s'.heap := by
    obtain ⟨k1, k2, k3, oe, vs, T, oT, ts, q1, q2, q3, q4, q5, q6, q7, q8, q9⟩ := fl
    exact ⟨fun b o e => k1 b o (subB b o e).1, noneB a k2, funFrames_sub noneB k3, oe, vs, T, oT, ts, q1, q2, q3, q4, noneB T q5, q6, q7, q8, q9⟩
  rw [hs] at fl2
  show wpAny (model X.prog X.w) X.A (noteFrame (.ref a) ce) _ _ s'
  rw [noteFrame_env _ cF]
  refine HandSPX.looks_onZ Zc.steady hfr hf fl2 fun h1' hh up1 => ?_
  refine ⟨m, up1.ns hn', fun hh2 m2 hn2 sb2 => ?_⟩
  obtain ⟨c1, c2, c3, oe, vs, T, oT, ts, q1, q2, q3, q4, q5, q6, q7, q8, q9⟩ := hh
  have dictC := up1.ns hn'
  obtain ⟨oC, es, ep, hoC, hdC, _⟩ := dictC
  have aC : a ≠ ce.locals := fun z => by rw [z, hoC] at q1; cases q1; rw [hdC] at q3; cases q3
  have TC : T ≠ ce.locals := fun z => by rw [z, hoC] at q7; cases q7; rw [hdC] at q8; cases q8
  have e1 : hh2.get? a = some oe := (sb2.2 a aC).trans q1
  have st2 : B2.StaysIn hh2 := fun b o e => (sb2.2 b (subB b o e).2).trans (c1 b o e)
  have fr2 : hh2.FunFrames B2 (X.env :: X.outer) := Heap.FunFrames.sameBut sb2 hn2 c3
  have tr2 : HandSPX.TracedZ hh2 B2 a (Zc cls d) (rawInt X.env.locals) := ⟨oe, vs, T, oT, ts, e1, q2, q3, q4, q5, q6, (sb2.2 T TC).trans q7, q8, q9⟩
  unfold PySem.passOn
  refine wpAny_bind (wpAny_field (s := { s' with heap := hh2 }) e1 q3 q4 ?_)
  rw [if_neg (show ¬ ((Value.ref T == Value.none) = true) from by simp), cF, hf]
  refine wpAny_bind (HandSPX.setFlight_anyZ (s := { s' with heap := hh2 }) (fr := some X.env.locals) st2 fr2 tr2 fun h3 k1 k2 k3 k4 => wpAny_throw (tk _ _ ?_))
  refine ⟨a, B2, _, pins, σ, H', cls, d, rfl, I8, fun b o e hb => ?_, fun b o e hnf => ?_, .inr (.inr ?_), na, os, ag, hE _ _ _ hE'⟩
  · have e' : G2.get? b = some o := e
    obtain ⟨z1, z2⟩ := subG b o e'
    obtain ⟨y1, y2⟩ := og b o z1
    rcases y2 with y | y
    · obtain ⟨o', w⟩ := Option.isSome_iff_exists.mp y
      have := st b o' w
      rw [y1] at this; cases this
      rw [b1 b (by simp [z2])]; exact w
    · exact absurd y hb
  · have e' : G2.get? b = some o := e
    obtain ⟨z1, z2⟩ := subG b o e'
    obtain ⟨y1, _⟩ := og b o z1
    obtain ⟨sl, w1⟩ := up1 b o y1 hnf
    have w2 : hh2.get? b = some { o with slots := sl } := (sb2.2 b z2).trans w1
    obtain ⟨sl2, w3⟩ := k4 b _ w2 hnf
    exact ⟨sl2, w3⟩
  · rw [hs]
    exact ⟨k1, noneB a fl.2.1, k2, k3⟩
end
section
variable {X : Cx} {Wx : WX} {pins : List (Addr × Obj)} {σ : L2.St} {H : Hp} {s : Shared}
theorem lc_coreX {Q : VK} {elt tg iter : Expr} {ifs : List Expr} {scope : Scope} {own : List (Str × Nat)} {pos pos' : Pos} {wi : TI} {g : TG} {tt : TT} {te : TE} {use : Option (Value → Sem Unit)} {Qf : Value → Shared → Prop}
    (hst : X.stack = X.env :: X.outer) (hfr : X.env.frame = some X.env.locals) (tk : Takes X Wx)
    (hc : X.calm = true) (hN : X.N.Nodup) (I : Inv X pins σ H s) (hi : PI X tg iter wi) (ok : BlkOk X.N X.env.scope scope own)
    (hg : ∀ (s : Shared) (H : Hp) (C : Addr) (cl : List (Str × Addr)) (fp : List Addr) (xe : Value → Shared → Prop), PG (blkX X s H scope (compEnvC scope cl C X.env) fp xe) tg g)
    (ht : ∀ (s : Shared) (H : Hp) (C : Addr) (cl : List (Str × Addr)) (fp : List Addr) (xe : Value → Shared → Prop), PTs (blkX X s H scope (compEnvC scope cl C X.env) fp xe) ifs tt)
    (he : ∀ (s : Shared) (H : Hp) (C : Addr) (cl : List (Str × Addr)) (fp : List Addr) (xe : Value → Shared → Prop), (∀ σ', PassesAt (L2.CX X.prog X.w) (blkX X s H scope (compEnvC scope cl C X.env) fp xe) σ' (fun cls d H' => Wx cls d σ H')) → PE (blkX X s H scope (compEnvC scope cl C X.env) fp xe) elt te)
    (hs : ∀ x, foldedSetIterable iter X.env x = pure x)
    (h : tLc wi g tt te (own.map (·.2)) σ H Q)
    (hRR : ∀ D (ce : PySem.Env) s' m H', Inv X pins σ H' s' → Q (.ref D) H' → s'.heap.Ns ce.locals m → FpOk X pins H' ce.locals → compEnds (model X.prog X.w) X.A X.xe use Qf (.ref D) ce (.ok .next) s') :
    wpAny (model X.prog X.w) X.A (comprehension (.ListComp elt [⟨tg, iter, ifs, 0⟩] scope pos) scope X.env pos' (newList []) false (eval iter X.env) use) Qf X.xe s := by
  have hfree : ∀ y ∈ scope.names, y.2 = .free → ∃ c, X.env.cells.lookup y.1 = some c := fun y hy e => by
    rcases ok.free y hy e with k | k
    · exact I.ok.has _ (.inl k)
    · exact I.ok.has _ (.inr k)
  refine comprehension_at (use := use) rfl hs (closure_ok hfree) ok.kind (fun y hy e => by rw [ok.uniq y hy, e])
    (thn (hi.run pins s σ H _ I h) fun xv s1 hx => thn hx fun itv s2 h2 => ?_)
  obtain ⟨it, fp, tn, J, H2, e, I2, T, st2, f2, q⟩ := h2
  subst e
  refine wpAny_newObj_type (newEnv_comp ?_) (by show 0 ≤ sizeLine; decide)
  generalize hD : s2.heap.objs.size = D
  have hDn : H2 D = none := I2.hok.fresh (Nat.le_of_eq hD)
  obtain ⟨W, ⟨m0, w0⟩, turn⟩ := q D hDn
  generalize hs3 : ({ s2 with heap := s2.heap.push { cls := .type "list", data := .seq ([] : List Value).toArray } } : Shared) = s3
  have I3 : Inv X pins σ (upd H2 D (.lst [])) s3 := by
    rw [← hs3]
    refine I2.laid (t' := s2.toks) (fun b o e => Heap.get?_push_of_some _ e) (Nat.le_of_eq hD) ⟨Nat.zero_le _, [], 0, .nil, ?_⟩
    rw [← hD]
    exact Heap.get?_push_size _ rfl
  have h3 : s3.heap = s2.heap.push { cls := .type "list", data := .seq ([] : List Value).toArray } := by rw [← hs3]
  have sz : ∀ b ∈ fp, b < s2.heap.objs.size := fun b hb => by
    obtain ⟨o, e, _⟩ := T.obj _ _ st2 b hb
    exact Heap.lt_size e
  have f3 : ∀ b ∈ fp, FpOk X pins (upd H2 D (.lst [])) b ∧ b < s3.heap.objs.size := fun b hb => by
    have hlt := sz b hb
    refine ⟨⟨?_, (f2 b hb).2⟩, by rw [h3, Heap.size_push]; exact Nat.lt_succ_of_lt hlt⟩
    rw [upd_ne (by rw [← hD]; exact Nat.ne_of_lt hlt)]
    exact (f2 b hb).1
  have st3 : tn 0 s3.heap := T.keep _ _ _ st2 fun b _ o e => by rw [h3]; exact Heap.get?_push_of_some _ e
  have I4 := block_start I3 ok hN f3
  have pg := hg s3 (upd H2 D (.lst [])) s3.heap.objs.size (cellsFrom (s3.heap.objs.size + 1) scope.names (cloFrom X.env.cells scope.names [])) fp
  have pt := ht s3 (upd H2 D (.lst [])) s3.heap.objs.size (cellsFrom (s3.heap.objs.size + 1) scope.names (cloFrom X.env.cells scope.names [])) fp
  have pe := he s3 (upd H2 D (.lst [])) s3.heap.objs.size (cellsFrom (s3.heap.objs.size + 1) scope.names (cloFrom X.env.cells scope.names [])) fp
  show codeAny _ _ (.compStart (.ListComp elt [⟨tg, iter, ifs, 0⟩] scope pos) 0 (.ref it) (.ref D) (compEnvC scope (cellsFrom (s3.heap.objs.size + 1) scope.names (cloFrom X.env.cells scope.names [])) s3.heap.objs.size X.env)) (compEnds (model X.prog X.w) X.A X.xe use Qf (.ref D) (compEnvC scope (cellsFrom (s3.heap.objs.size + 1) scope.names (cloFrom X.env.cells scope.names [])) s3.heap.objs.size X.env)) { s3 with heap := pushCells (s3.heap.push { cls := .type "dict", data := .dict #[] }) scope.names }
  have nfp : ∀ b ∈ fp, (upd H2 D (.lst [])) b = none := fun b hb => (f3 b hb).1.1
  generalize hce : compEnvC scope (cellsFrom (s3.heap.objs.size + 1) scope.names (cloFrom X.env.cells scope.names [])) s3.heap.objs.size X.env = ce at I4 pg pt pe ⊢
  have cL : ce.locals = s3.heap.objs.size := by subst hce; rfl
  have cF : ce.frame = X.env.frame := by subst hce; rfl
  generalize hH3 : upd H2 D (.lst []) = H3 at I3 I4 pg pt pe w0 nfp f3
  generalize hs4 : ({ s3 with heap := pushCells (s3.heap.push { cls := .type "dict", data := .dict #[] }) scope.names } : Shared) = s4 at I4 ⊢
  have st4 : tn 0 s4.heap := T.keep _ _ _ st3 fun b _ o e => by rw [← hs4]; exact pushCells_keeps _ _ _ _ (Heap.get?_push_of_some _ e)
  generalize hxe : (notedBy (model X.prog X.w) X.A ce (CompFails (model X.prog X.w) X.A X.xe ce)) = xe
  have pg := pg xe
  have pt := pt xe
  have pe := pe xe fun σ' pinsb Hb sb e s' Ib c => by
    rw [← hxe]
    exact comp_fails hst hfr tk I3 (fun b hb => (f3 b hb).1) cL cF Ib c fun _ _ _ z => z
  have I4 : Inv (blkX X s3 H3 scope ce fp xe) [] (wipe σ (own.map (·.2))) H3 s4 := I4.wish xe
  have stat : ∀ {σ' : L2.St} {H' : Hp} {s' : Shared}, Inv (blkX X s3 H3 scope ce fp xe) [] σ' H' s' → (∀ b ∈ fp, H' b = none) → ∀ b ∈ fp, FpOk (blkX X s3 H3 scope ce fp xe) [] H' b := fun {σ' H' s'} I' hn b hb =>
    ⟨hn b hb, (I'.ok.exf b hb).1, I'.ok.exfs b hb, .inl hb, fun x c e => (I'.ok.exf b hb).2 x c e, fun p hp => absurd (show p ∈ ([] : List (Addr × Obj)) ++ [] from hp) (by simp)⟩
  have loop0 : codeAny (model X.prog X.w) X.A (.compLoop (.ListComp elt [⟨tg, iter, ifs, 0⟩] scope pos) 0 (.ref it) (.ref D) ce) (fun r s' => match r with
      | .ok f => compEnds (model X.prog X.w) X.A X.xe use Qf (.ref D) ce (.ok .next) s'
      | .error e => CompFails (model X.prog X.w) X.A X.xe ce e s') s4 := by
    refine compLoop_any (fun n s' => ∃ i H', Inv (blkX X s3 H3 scope ce fp xe) [] (wipe σ (own.map (·.2))) H' s' ∧ tn i s'.heap ∧ (∀ b ∈ fp, H' b = none) ∧ W i n H') ?_ m0 ⟨0, H3, I4, st4, nfp, w0⟩
    rintro n s5 ⟨i, H5, I5, st5, n5, w5⟩
    have hxe2 : (notedBy (model X.prog X.w) X.A ce fun e s' => CompFails (model X.prog X.w) X.A X.xe ce e s') = xe := hxe
    dsimp only
    rw [hxe2]
    rcases turn i n H5 w5 with ⟨stop, qq⟩ | ⟨go, Nx, hNx, step⟩
    · have td := T.done (blkX X s3 H3 scope ce fp xe) rfl rfl rfl hc i [] s5 _ H5 (fun _ _ => False) I5 (stat I5 n5) st5 stop
      refine thnF td fun r s6 ⟨hr, I6⟩ => ?_
      subst hr
      have I7 : Inv X pins σ H5 s6 := I3.call' (ch := fp) I6.os I6.base I6.hok I6.bare fun b hb => ⟨(f3 b hb).1.2.2.2.1, (f3 b hb).1.2.1, (f3 b hb).1.2.2.2.2.1, (f3 b hb).1.2.2.2.2.2⟩
      have nC : H5 ce.locals = none := I6.free
      obtain ⟨m, hn, _⟩ := I6.loc
      have hn : s6.heap.Ns ce.locals m := hn
      exact hRR D ce s6 m H5 I7 qq hn (I3.fpOk (by rw [cL]; exact Nat.le_refl _) nC)
    · have ti := T.item (blkX X s3 H3 scope ce fp xe) rfl rfl rfl hc i [] s5 _ H5 (fun _ _ => False) I5 (stat I5 n5) st5 go
      refine thnF ti fun r s6 ⟨u, hr, h6⟩ => ?_
      subst hr
      refine thnF h6 fun _ s7 ⟨x, H7, I7, r7, y7, st7, n7⟩ => ?_
      have I7' := I7.pinned (stat I7 n7) (T.obj _ _ st7)
      refine wpAny_mono (pg.run _ s7 _ H7 x u _ I7' r7 (step x H7 y7)) (fun _ s8 ⟨σ8, H8, I8, hw8, q8⟩ => ?_) fun _ _ z => z
      refine wpAny_mono (pt.run _ s8 σ8 H8 _ I8 q8) (fun b s9 ⟨H9, I9, q9⟩ => ?_) fun _ _ z => z
      have fin : ∀ {s' : Shared} {H' : Hp}, Inv (blkX X s3 H3 scope ce fp xe) ([] ++ pinsAt fp s7.heap) σ8 H' s' → Nx H' → ∃ m, m < n ∧ ∃ i H', Inv (blkX X s3 H3 scope ce fp xe) [] (wipe σ (own.map (·.2))) H' s' ∧ tn i s'.heap ∧ (∀ b ∈ fp, H' b = none) ∧ W i m H' := fun {s' H'} I' nx => by
        obtain ⟨m', hm, w'⟩ := hNx H' nx
        have pin' : ∀ b ∈ fp, ∀ o, s7.heap.get? b = some o → s'.heap.get? b = some o ∧ H' b = none := fun b hb o e =>
          let z := I'.pin (b, o) (List.mem_append_right _ (List.mem_append_right _ (mem_pinsAt hb e)))
          ⟨z.1, z.2.1⟩
        have hl : (wipe σ (own.map (·.2))).length = σ8.length := by rw [← hw8, wipe_length]
        refine ⟨m', hm, i + 1, H', (I'.unpinned (pins := [])).weak hl (fun j v e => ?_), T.keep _ _ _ st7 fun b hb o e => (pin' b hb o e).1, fun b hb => ?_, w'⟩
        · rw [← hw8] at e
          exact (wipe_some e).1
        · obtain ⟨o, e, _⟩ := T.obj _ _ st7 b hb
          exact (pin' b hb o e).2
      cases b with
      | false =>
        simp only [Bool.false_eq_true, if_false] at q9 ⊢
        exact fin I9 q9
      | true =>
        simp only [if_true] at q9 ⊢
        refine wpAny_mono (pe.run _ s9 σ8 H9 _ I9 q9) (fun z s10 ⟨yv, H10, I10, r10, acc, hD10, hz10, nx⟩ => ?_) fun _ _ z => z
        exact app_ok (X := blkX X s3 H3 scope ce fp xe) I10 hD10 hz10 r10 fun s11 I11 => fin I11 nx
  have loop : codeAny (model X.prog X.w) X.A (.compLoop (.ListComp elt [⟨tg, iter, ifs, 0⟩] scope pos) 0 (.ref it) (.ref D) ce) (compEnds (model X.prog X.w) X.A X.xe use Qf (.ref D) ce) s4 := codeAny_mono loop0 fun r s' hr => by
    cases r with
    | ok f => cases use <;> exact hr
    | error e => cases use <;> exact hr
  exact codeAny_compStart_list loop (T.self X.A 0 _ _ _ st4 loop)
end
section
variable {G : GX} {Wx Wx0 : WX} {p : Bool} {wi : TI} {g : TG} {tt : TT} {te : TE} {mi : ME (List D)} {mg : MG} {mc : ME Bool} {me : ME W} {vs : List Nat} {qq : Bool}
def mCLX (g : MG) (c : ME Bool) (e : ME W) (env0 : Env) : List D → List W → Option (List W ⊕ (XV × Env))
  | [], acc => some (.inl acc)
  | d :: ds, acc => match g (.sh d) env0 with
    | some (.ok _, e1) => match c e1 with
      | some (.ok true, e2) => match e e2 with
        | some (.ok w, _) => if acc.length < 100000 then mCLX g c e env0 ds (acc ++ [w]) else none
        | some (.ex x, e3) => some (.inr (x, e3))
        | none => none
      | some (.ok false, _) => mCLX g c e env0 ds acc
      | _ => none
    | _ => none
def mCompX (mi : ME (List D)) (g : MG) (c : ME Bool) (e : ME W) (vs : List Nat) : ME W := fun env => match mi env with
  | some (.ok ds, e1) => match mCLX g c e (wipeE e1 vs) ds [] with
    | some (.inl ws) => some (.ok (.ol ws), e1)
    | some (.inr (x, e3)) => some (.ex x, wipeE e3 vs)
    | none => none
  | some (.ex x, e1) => some (.ex x, e1)
  | none => none
theorem sim_compX {B H : Hp} {σ : L2.St} {env : Env} {fp : List Addr} (O : Ok G B H σ env fp) {Q : V → Hp → Prop} (hi : SimI G p Wx wi mi) (hg : SimG G (offs vs) true g mg) (hc : Sim G true true Wx0 (rEqv Bool) tt mc) (he : Sim G true true (fun cls d _ H' => Wx cls d σ H') (rW G) te me)
    (c : Cont G true p (rW G) Wx B H σ env fp (mCompX mi mg mc me vs env) Q) : tLc wi g tt te vs σ H Q := by
  refine hi B H σ env fp O _ ?_
  unfold mCompX at c
  cases e1 : mi env with
  | none => rw [e1] at c; exact c
  | some r =>
    obtain ⟨r, env1⟩ := r
    rw [e1] at c
    cases r with
    | ex x => exact c
    | ok ds =>
      intro J H1 B1 fp1 PI D nD
      simp only at c
      obtain ⟨Gd, Y, wk, gd, yd⟩ := PI.walk
      have BD := none_of_sub PI.ok.sub nD
      have lv1 := relE_live PI.ok.rel
      have ok0 : Ok G B1 (upd H1 D (.lst [])) σ env1 fp1 :=
        ⟨fun a o h => by rw [upd_ne fun z => by rw [z, BD] at h; cases h]; exact PI.ok.sub a o h, relE_frame (Same.refl B1) PI.ok.rel fun q hq => upd_ne fun z => lv1 q hq (by rw [z]; exact nD), PI.ok.nd, PI.ok.out⟩
      have M0 : Made G B H fp σ env1 B1 (upd H1 D (.lst [])) fp1 D [] [] [] := by
        refine ⟨ok0, ⟨fun a o h n => ?_, PI.step.bext, PI.step.bold, fun a ha => ?_, fun a h => ?_⟩, upd_same, by simp [relWs], by simp, fun q hq z => ?_, fun q hq => ?_⟩
        · have := PI.step.keep a o h n
          rw [upd_ne fun z => by rw [z, nD] at this; cases this]
          exact this
        · simp only [List.append_nil, List.cons_append, List.nil_append, List.mem_cons] at ha
          rcases ha with rfl | ha
          · refine .inr ?_
            cases e : H a with
            | none => rfl
            | some o => exact absurd nD (PI.step.live a (by simp [e]))
          · exact PI.step.new a ha
        · have := PI.step.live a h
          by_cases ea : a = D
          · rw [ea, upd_same]; simp
          · rw [upd_ne ea]; exact this
        · simp at hq
          subst hq
          exact lv1 q z nD
        · simp at hq
          subst hq
          exact BD
      have s0 : Same H1 (upd H1 D (.lst [])) := same_new nD
      refine lc_it wk (fun i H' => ∃ B' ws acc fA, Made G B H fp σ env1 B' H' fp1 D ws acc fA ∧ Same B1 B' ∧ Same H1 H' ∧ (∀ q, H1 q ≠ none → B' q = B1 q) ∧ (match mCLX mg mc me (wipeE env1 vs) (ds.drop i) ws with
        | some (.inl ws) => ∀ H' B' acc fA, Made G B H fp σ env1 B' H' fp1 D ws acc fA → Same H1 H' → (∀ q, H1 q ≠ none → B' q = B1 q) → Q (.ref D) H'
        | some (.inr (x, e3)) => ∀ cls d H' B' fp2, Ok G B' H' σ (wipeE e3 vs) fp2 → Step B H fp B' H' fp2 → relX G H' x cls d → (∀ dd, d = some dd → B' dd = none ∧ dd ∉ fp2 ∧ H dd = none) → Wx cls d σ H'
        | none => False)) ?_ ?_ ?_ ?_
      · refine ⟨B1, [], [], [], M0, Same.refl B1, s0, fun _ _ => rfl, ?_⟩
        show match mCLX mg mc me (wipeE env1 vs) ds [] with | some (.inl ws) => _ | some (.inr (x, e3)) => _ | none => False
        rcases e2 : mCLX mg mc me (wipeE env1 vs) ds [] with _ | ⟨ws | ⟨x, e3⟩⟩
        · rw [e2] at c; exact c.elim
        rotate_left
        · rw [e2] at c; exact c
        · rw [e2] at c
          intro H' B' acc fA M sH sB
          refine c (.ref D) H' B' (D :: fA) fp1 ⟨M.ok, ?_, M.out, M.step, fun _ => ⟨M.nd, M.dis⟩, fun hp => ?_⟩
          · show relW _ _ _ _ _ _
            simp only [relW]
            exact ⟨D, acc, fA, rfl, M.here, M.rel, rfl⟩
          · obtain ⟨a1, a2, a3, a4⟩ := PI.pure hp
            exact ⟨fun a o h => sH a o (a1 a o h), fun q h => (sB q (PI.step.live q h)).trans (a2 q h), a3, a4⟩
      · rintro i H' _ ⟨B', ws, acc, fA, M, sB, _, _, _⟩
        exact gd H' fun a o h => M.ok.sub a o (sB a o h)
      · rintro i x H' H'' hi' ⟨B', ws, acc, fA, M, sB, sH, bB, ct⟩ y
        have hG : Gd H' := gd H' fun a o h => M.ok.sub a o (sB a o h)
        obtain ⟨d, B3, hd, O3, S3, r3, sB3, sH3, bB3⟩ := yd_hand sB M.ok (yd i H' x H'' hi' hG y)
        obtain ⟨M3, _, _⟩ := M.beside (f0 := []) S3 O3
        have ed : ds.drop i = d :: ds.drop (i + 1) := by
          rw [List.drop_eq_getElem_cons hi']
          congr 1
          rw [List.getElem?_eq_getElem hi'] at hd
          exact Option.some.inj hd
        rw [ed] at ct
        obtain ⟨fpW, OW3, subW⟩ := O3.wipe vs
        refine hg B3 H'' (L2.wipe σ vs) (wipeE env1 vs) fpW (.sh d) x [] OW3 (by simp only [relW]; exact ⟨r3, trivial⟩) (by simp) List.nodup_nil (by simp) _ ?_
        simp only [mCLX] at ct
        cases e2 : mg (.sh d) (wipeE env1 vs) with
        | none => rw [e2] at ct; exact ct
        | some r2 =>
          obtain ⟨r2, env2⟩ := r2
          rw [e2] at ct
          cases r2 with
          | ex x => exact ct.elim
          | ok u =>
            intro σ2 H2 B2 fp2 O2 S2 ln2 pin2 pu2
            obtain ⟨sH2, bB2⟩ := pu2 rfl
            have hw : L2.wipe σ2 vs = L2.wipe σ vs := by
              rw [← show L2.wipe (L2.wipe σ vs) vs = L2.wipe σ vs from wipe_eq (wipe_length σ vs) fun i hi => wipe_out hi]
              exact wipe_eq ln2 fun j hj => pin2 j (not_off hj)
            have outer : ∀ {B5 H5 : Hp} {f5 fp5 : List Addr}, Step B3 H'' fpW B5 H5 (f5 ++ fp5) → Same B5 H5 → Same H'' H5 → (∀ q, H'' q ≠ none → B5 q = B3 q) → (∀ q ∈ f5, H'' q = none) →
                Made G B H fp σ env1 B5 H5 fp1 D ws acc fA ∧ Step B H fp B5 H5 (D :: fA ++ (f5 ++ fp1)) ∧ ∀ q ∈ f5, q ∉ D :: fA := fun S sb sh bb fr => by
              have lv3 := relE_live M3.ok.rel
              exact M3.beside ⟨fun a o h _ => sh a o h, S.bext, fun a h _ => bb a h, fun a ha => by
                rcases List.mem_append.mp ha with ha | ha
                · exact .inr (fr a ha)
                · exact .inl ha, S.live⟩ ⟨sb, relE_frame S.bext M3.ok.rel fun q hq => same_some sh (lv3 q hq), M3.ok.nd, fun q hq => by
                rw [bb q (lv3 q hq)]
                exact M3.ok.out q hq⟩
            refine ⟨hw, hc B2 H2 σ2 env2 fp2 O2 _ ?_⟩
            simp only at ct
            cases e3 : mc env2 with
            | none => rw [e3] at ct; exact ct
            | some r3 =>
              obtain ⟨r3, env3⟩ := r3
              rw [e3] at ct
              cases r3 with
              | ex x => exact ct.elim
              | ok b =>
                intro b' H4 B4 f4 fp4 P4
                obtain ⟨rfl, rfl⟩ := P4.rel
                obtain ⟨sH4, bB4, rfl, rfl⟩ := P4.pure rfl
                have S4 : Step B3 H'' fpW B4 H4 ([] ++ fp4) := Step.trans (S := []) S2 P4.step
                have sHH4 : Same H'' H4 := fun a o h => sH4 a o (sH2 a o h)
                have bBB4 : ∀ q, H'' q ≠ none → B4 q = B3 q := fun q h => (bB4 q (S2.live q h)).trans (bB2 q h)
                cases b with
                | false =>
                  show if false = true then _ else _
                  rw [if_neg Bool.false_ne_true]
                  obtain ⟨M4, _, _⟩ := outer S4 P4.ok.sub sHH4 bBB4 (by simp)
                  exact ⟨B4, ws, acc, fA, M4, fun a o h => S4.bext a o (sB3 a o (sB a o h)), fun a o h => sHH4 a o (sH3 a o (sH a o h)), fun q h => (bBB4 q (by rw [same_some sH3 (by rw [same_some sH h]; exact h), same_some sH h]; exact h)).trans ((bB3 q (by rw [same_some sH h]; exact h)).trans (bB q h)), ct⟩
                | true =>
                  show if true = true then _ else _
                  rw [if_pos rfl]
                  refine he B4 H4 σ2 env3 fp4 P4.ok _ ?_
                  simp only at ct
                  cases e4 : me env3 with
                  | none => rw [e4] at ct; exact ct
                  | some r4 =>
                    obtain ⟨r4, env4⟩ := r4
                    rw [e4] at ct
                    cases r4 with
                    | ex x =>
                      intro cls d H5 B5 fp5 O5 S5 rx hd
                      obtain ⟨fp6, O6, s6⟩ := O5.unwipe (σ := σ) vs hw
                      have S5' : Step B3 H'' fpW B5 H5 fp5 := Step.trans (S := []) S4 (by simpa using S5)
                      have S5'' : Step B3 H'' fp1 B5 H5 fp5 := ⟨fun a o h n => S5'.keep a o h fun z => n (subW a z), S5'.bext, fun a h n => S5'.bold a h fun z => n (subW a z), fun a ha => (S5'.new a ha).imp (subW a) id, S5'.live⟩
                      have S6 : Step B H fp B5 H5 (D :: fA ++ fp5) := Step.trans M3.step S5''
                      refine ct cls d H5 B5 fp6 O6 (S6.mono fun q hq => by simp [s6 q hq]) rx fun dd e => ?_
                      obtain ⟨a1, a2, a3⟩ := hd dd e
                      refine ⟨a1, fun z => a2 (s6 dd z), ?_⟩
                      cases q : H dd with
                      | none => rfl
                      | some o =>
                        exact absurd a3 (S4.live dd (M3.step.live dd (by simp [q])))
                    | ok w =>
                      simp only at ct
                      intro v H5 B5 f5 fp5 P5
                      obtain ⟨sH5, bB5, rfl, rfl⟩ := P5.pure rfl
                      obtain ⟨nd5, dis5⟩ := P5.own rfl
                      have S5 : Step B3 H'' fpW B5 H5 (f5 ++ fp5) := Step.trans (S := []) S4 P5.step
                      have sHH5 : Same H'' H5 := fun a o h => sH5 a o (sHH4 a o h)
                      have bBB5 : ∀ q, H'' q ≠ none → B5 q = B3 q := fun q h => (bB5 q (S4.live q h)).trans (bBB4 q h)
                      have fr5 : ∀ q ∈ f5, H4 q = none := fun q hq => by
                        rcases P5.step.new q (by simp [hq]) with z | z
                        · exact absurd z (dis5 q hq)
                        · exact z
                      have fr : ∀ q ∈ f5, H'' q = none := fun q hq => by
                        cases e : H'' q with
                        | none => rfl
                        | some o => exact absurd (fr5 q hq) (S4.live q (by simp [e]))
                      obtain ⟨M5, S5', ne5⟩ := outer S5 P5.ok.sub sHH5 bBB5 fr
                      by_cases hlen : ws.length < 100000
                      · rw [if_pos hlen] at ct
                        have lvO := relE_live M5.ok.rel
                        have M6 := M5.more P5.rel nd5 (fun q hq => ⟨fun z => relE_live M3.ok.rel q z (fr q hq), ne5 q hq⟩) P5.out S5'
                        refine ⟨acc, M5.here, ?_, B5, _, _, _, M6, fun a o h => S5.bext a o (sB3 a o (sB a o h)), fun a o h => ?_, fun q h => (bBB5 q (by rw [same_some sH3 (by rw [same_some sH h]; exact h), same_some sH h]; exact h)).trans ((bB3 q (by rw [same_some sH h]; exact h)).trans (bB q h)), ct⟩
                        · rw [← relWs_length M5.rel]
                          exact Nat.lt_of_lt_of_le hlen (by decide)
                        · rw [upd_ne fun z => by rw [z, nD] at h; cases h]
                          exact sHH5 a o (sH3 a o (sH a o h))
                      · rw [if_neg hlen] at ct
                        exact ct.elim
      · rintro H' ⟨B', ws, acc, fA, M, sB, sH, bB, ct⟩
        rw [List.drop_length] at ct
        exact ct H' B' acc fA M sH bB
end
section
variable {X : Cx} {Wx : WX} {elt tg iter : Expr} {ifs : List Expr} {scope : Scope} {own : List (Str × Nat)} {pos spos py : Pos} {wi : TI} {g : TG} {tt : TT} {te : L2.St → TE} {i : Nat} {y : Str}
abbrev BF.cxx (b : BF) (X : Cx) (scope : Scope) (xe : Value → Shared → Prop) : Cx := blkX X b.s b.H scope (compEnvC scope b.cl b.C X.env) b.fp xe
theorem pe_lcX (hst : X.stack = X.env :: X.outer) (hfr : X.env.frame = some X.env.locals) (tk : Takes X Wx) (hc : X.calm = true) (hN : X.N.Nodup) (hi : PI X tg iter wi) (ok : BlkOk X.N X.env.scope scope own)
    (hg : ∀ (b : BF) xe, PG (b.cxx X scope xe) tg g) (ht : ∀ (b : BF) xe, PTs (b.cxx X scope xe) ifs tt) (he : ∀ σ (b : BF) xe, (∀ σ', PassesAt (L2.CX X.prog X.w) (b.cxx X scope xe) σ' (fun cls d H' => Wx cls d σ H')) → PE (b.cxx X scope xe) elt (te σ)) (hs : ∀ x, foldedSetIterable iter X.env x = pure x) :
    PE X (.ListComp elt [⟨tg, iter, ifs, 0⟩] scope pos) (fun σ H Q => tLc wi g tt (te σ) (own.map (·.2)) σ H Q) := by
  refine ⟨fun pins s σ H Q I h => ?_⟩
  rw [eval_ListComp]
  refine lc_coreX hst hfr tk hc hN I hi ok (fun s H C cl fp xe => hg ⟨s, H, C, cl, fp⟩ xe) (fun s H C cl fp xe => ht ⟨s, H, C, cl, fp⟩ xe) (fun s H C cl fp xe hp => he σ ⟨s, H, C, cl, fp⟩ xe hp) hs h fun D ce s' m H' I' q hn f => ⟨m, hn, fun h'' sb => ?_⟩
  obtain ⟨f0, f1, f2, f3, f4, f5⟩ := f
  exact ⟨.ref D, H', I'.turned (t' := s'.toks) (fun b o hb e => (sb.2 b hb).trans e) f0 f1 f3 f4 f5, rfl, q⟩
theorem ps_setLcX (hst : X.stack = X.env :: X.outer) (hfr : X.env.frame = some X.env.locals) (tk : Takes X Wx) (hc : X.calm = true) (hN : X.N.Nodup) (hy : X.N[i]? = some y) (hyl : X.env.scope.names.lookup y = some .local)
    (hsw : swapsWith (.ListComp elt [⟨tg, iter, ifs, 0⟩] scope pos) (some (.Name y py)) spos.line X.env = pure true) (hi : PI X tg iter wi) (ok : BlkOk X.N X.env.scope scope own)
    (hg : ∀ (b : BF) xe, PG (b.cxx X scope xe) tg g) (ht : ∀ (b : BF) xe, PTs (b.cxx X scope xe) ifs tt) (he : ∀ σ (b : BF) xe, (∀ σ', PassesAt (L2.CX X.prog X.w) (b.cxx X scope xe) σ' (fun cls d H' => Wx cls d σ H')) → PE (b.cxx X scope xe) elt (te σ)) (hs : ∀ x, foldedSetIterable iter X.env x = pure x) :
    PS X (.Assign [.Name y py] (.ListComp elt [⟨tg, iter, ifs, 0⟩] scope pos) spos) (tAsg (fun σ H Q => tLc wi g tt (te σ) (own.map (·.2)) σ H Q) (gName i)) := by
  refine ⟨fun pins s σ H D I h => ?_⟩
  rw [exec_Assign_Name_used _ _ _ _ hsw]
  refine wpAny_bind (wpAny_standAt (wpAny_bind ?_))
  show wpAny _ X.A (do let _ ← comprehension (.ListComp elt [⟨tg, iter, ifs, 0⟩] scope pos) scope X.env (firstIterPos [⟨tg, iter, ifs, 0⟩] pos) (newList []) false (eval iter X.env) (some (assign (.Name y py) X.env))) _ _ s
  have h : tLc wi g tt (te σ) (own.map (·.2)) σ H (fun x H1 => gName i x σ H1 D.nx) := h
  refine wpAny_bind (thn (lc_coreX (Qf := fun _ s' => SP X pins D .next s') hst hfr tk hc hN I hi ok (fun s H C cl fp xe => hg ⟨s, H, C, cl, fp⟩ xe) (fun s H C cl fp xe => ht ⟨s, H, C, cl, fp⟩ xe) (fun s H C cl fp xe hp => he σ ⟨s, H, C, cl, fp⟩ xe hp) hs h fun L ce s' m H' I' q hn f => ?_) fun _ s' hq => wpAny_pure (wpAny_pure hq))
  show wpAny _ _ (assign (.Name y py) X.env (.ref L)) _ _ _
  refine wpAny_assign_Name (store_ok2 (v := V.ref L) I' hN hy (.inl hyl) rfl (fun s2 I2 ⟨a, sb, ha⟩ => ?_) (.inr hyl))
  obtain ⟨f0, f1, f2, f3, f4, f5⟩ := f
  have haC : ce.locals ≠ a := by
    rcases ha with z | z
    · rw [z]; exact f1
    · exact fun e => f4 y a z e.symm
  refine ⟨m, hn.sameBut sb haC, fun h3 sb3 => ?_⟩
  exact ⟨_, H', I2.turned (t' := s2.toks) (fun b o hb e => (sb3.2 b hb).trans e) f0 f1 f3 f4 f5, q⟩
end
section
variable {X : Cx} {Wx : WX} {k p q : Bool} {e elt tg iter c : Expr} {ifs : List Expr} {m me : ME W} {n mc : ME Bool} {mg : MG} {mi : ME (List D)} {scope : Scope} {own : List (Str × Nat)} {pos spos py : Pos} {i : Nat} {y : Str} {pn : Nat → Bool}
theorem uni_tX (h : ∀ (b : BF) xe, STts (b.cxx X scope xe) W0 p ifs n) : ∃ t : TT, (∀ (b : BF) xe, PTs (b.cxx X scope xe) ifs t) ∧ Sim (gx X) true p W0 (rEqv Bool) t n := by
  refine ⟨fun σ H Q => ∀ (b : BF) xe (t : TT), PTs (b.cxx X scope xe) ifs t → Sim (gx X) true p W0 (rEqv Bool) t n → t σ H Q, fun b xe => ?_, fun B H σ env fp O Q c b xe t _ s => s B H σ env fp O Q c⟩
  obtain ⟨t, h1, h2⟩ := h b xe
  exact PTs.weak h1 fun σ H Q q => q b xe t h1 h2
theorem uni_gX {pn : Nat → Bool} (h : ∀ (b : BF) xe, SG (b.cxx X scope xe) pn q tg mg) : ∃ t : TG, (∀ (b : BF) xe, PG (b.cxx X scope xe) tg t) ∧ SimG (gx X) pn q t mg := by
  refine ⟨fun v σ H Q => ∀ (b : BF) xe (t : TG), PG (b.cxx X scope xe) tg t → SimG (gx X) pn q t mg → t v σ H Q, fun b xe => ?_, fun B H σ env fp w v f0 O r o nd d Q c b xe t _ s => s B H σ env fp w v f0 O r o nd d Q c⟩
  obtain ⟨t, h1, h2⟩ := h b xe
  exact PG.weak h1 fun v σ H Q q => q b xe t h1 h2
abbrev PB (X : Cx) (scope : Scope) (b : BF) (xe : Value → Shared → Prop) (Wb : WX) : Prop := ∀ σ', PassesAt (L2.CX X.prog X.w) (b.cxx X scope xe) σ' (WE Wb σ')
theorem uni_eX {Wb : L2.St → WX} (hw : ∀ σ cls d σ' H', Wb σ cls d σ' H' = Wx cls d σ H') (h : ∀ (b : BF) xe Wb', PB X scope b xe Wb' → SE (b.cxx X scope xe) Wb' k p e m) :
    ∃ te : L2.St → TE, (∀ σ (b : BF) xe, (∀ σ', PassesAt (L2.CX X.prog X.w) (b.cxx X scope xe) σ' (fun cls d H' => Wx cls d σ H')) → PE (b.cxx X scope xe) e (te σ)) ∧ ∀ σ, Sim (gx X) k p (fun cls d _ H' => Wx cls d σ H') (rW (gx X)) (te σ) m := by
  refine ⟨fun σ σ2 H Q => ∀ (b : BF) xe (t : TE), PE (b.cxx X scope xe) e t → Sim (gx X) k p (fun cls d _ H' => Wx cls d σ H') (rW (gx X)) t m → t σ2 H Q, fun σ b xe hp => ?_, fun σ B H σ2 env fp O Q c b xe t _ s => s B H σ2 env fp O Q c⟩
  obtain ⟨t, h1, h2⟩ := h b xe (fun cls d _ H' => Wx cls d σ H') fun σ' => hp σ'
  exact PE.weak h1 fun σ2 H Q q => q b xe t h1 h2
theorem se_lcX (hst : X.stack = X.env :: X.outer) (hfr : X.env.frame = some X.env.locals) (tk : Takes X Wx) (hc : X.calm = true) (hN : X.N.Nodup) (hi : SI X Wx p tg iter mi) (ok : BlkOk X.N X.env.scope scope own) (hg : ∀ (b : BF) xe, SG (b.cxx X scope xe) (offs (own.map (·.2))) true tg mg) (ht : ∀ (b : BF) xe, STts (b.cxx X scope xe) W0 true ifs mc)
    (he : ∀ (b : BF) xe Wb, PB X scope b xe Wb → SE (b.cxx X scope xe) Wb true true elt me) (hs : ∀ x, foldedSetIterable iter X.env x = pure x := by intro _; rfl) :
    SE X Wx true p (.ListComp elt [⟨tg, iter, ifs, 0⟩] scope pos) (mCompX mi mg mc me (own.map (·.2))) := by
  obtain ⟨ti, pi, si⟩ := hi
  obtain ⟨t1, p1, s1⟩ := uni_gX hg
  obtain ⟨t2, p2, s2⟩ := uni_tX ht
  obtain ⟨t3, p3, s3⟩ := uni_eX (Wb := fun σ cls d _ H' => Wx cls d σ H') (fun _ _ _ _ _ => rfl) he
  exact ⟨_, pe_lcX hst hfr tk hc hN pi ok p1 p2 p3 hs, fun B H σ env fp O Q c => sim_compX O si s1 s2 (s3 σ) c⟩
theorem ss_lcX (hp : pn i = false) (hst : X.stack = X.env :: X.outer) (hfr : X.env.frame = some X.env.locals) (tk : Takes X Wx) (hc : X.calm = true) (hN : X.N.Nodup) (hy : X.N[i]? = some y) (hyl : X.env.scope.names.lookup y = some .local)
    (hsw : swapsWith (.ListComp elt [⟨tg, iter, ifs, 0⟩] scope pos) (some (.Name y py)) spos.line X.env = pure true) (hi : SI X Wx p tg iter mi) (ok : BlkOk X.N X.env.scope scope own) (hg : ∀ (b : BF) xe, SG (b.cxx X scope xe) (offs (own.map (·.2))) true tg mg) (ht : ∀ (b : BF) xe, STts (b.cxx X scope xe) W0 true ifs mc)
    (he : ∀ (b : BF) xe Wb, PB X scope b xe Wb → SE (b.cxx X scope xe) Wb true true elt me) (hs : ∀ x, foldedSetIterable iter X.env x = pure x := by intro _; rfl) :
    SS X pn Wx (.Assign [.Name y py] (.ListComp elt [⟨tg, iter, ifs, 0⟩] scope pos) spos) (mAsg (mCompX mi mg mc me (own.map (·.2))) (gSet i)) := by
  obtain ⟨ti, pi, si⟩ := hi
  obtain ⟨t1, p1, s1⟩ := uni_gX hg
  obtain ⟨t2, p2, s2⟩ := uni_tX ht
  obtain ⟨t3, p3, s3⟩ := uni_eX (Wb := fun σ cls d _ H' => Wx cls d σ H') (fun _ _ _ _ _ => rfl) he
  exact ⟨_, ps_setLcX hst hfr tk hc hN hy hyl hsw pi ok p1 p2 p3 hs, simS_asg (fun B H σ env fp O Q c => sim_compX O si s1 s2 (s3 σ) c) (simG_name (qq := true) hp)⟩
end
section
variable {X : Cx} {Wx : WX} {p : Bool} {x : Str} {n j k : Nat} {mf : MF} {e : Expr} {es : List Expr} {ma : ME (List AW)} {pp pos : Pos}
theorem se_callP (hpa : ∀ σ, PassesAt (L2.CX X.prog X.w) X σ (WE Wx σ)) (D : Df X.prog X.w X.K X.mg X.base x n mf j) (hr : Room j X.A) (hg : Gl X x) (ha : SAw X Wx p (e :: es) ma) (hdb : (x == ("__debug__" : Str)) = false := by decide)
    (he : starEach (e :: es) X.env = (false, eval e X.env) :: starEach es X.env := by rfl) (hpl : (backTo pos (starEach es X.env)).any (·.1) = false := by rfl) : SE X Wx true p (.Call (.Name x pp) (e :: es) [] pos) (ma.bind fun as => callK0 mf as) := by
  obtain ⟨f, fd, ps, F, hm, hk, hb⟩ := D.ex
  obtain ⟨ta, pa, sa⟩ := ha
  exact ⟨_, pe_callS F hr hg hm hk hb hpa pa hdb he hpl, sim_call0 D.len sa⟩
end
end AM
set_option maxHeartbeats 2000000
namespace AM
open PySem PySem.Spec L2 PyProof.Rows
section
variable {X : Cx} {Wx : WX} {pn : Nat → Bool} {S c mm : Str} {cs : List Str} {body : List Stmt} {j j2 : Nat} {np p1 p2 p3 p4 p5 pos pos' : Pos} {m : MS}
theorem PSs.weak {X : Cx} {b : List Stmt} {t t' : TS} (h : PSs X b t) (k : ∀ D σ H, t' D σ H → t D σ H) : PSs X b t' := ⟨fun pins s σ H D I q => h.run pins s σ H D I (k D σ H q)⟩
end
end AM
set_option maxHeartbeats 2000000
namespace L2
open PySem PySem.Spec PyProof.Rows
end L2
namespace AM
open PySem PySem.Spec L2 PyProof.Rows
end AM
set_option maxHeartbeats 2000000
namespace AM
open PySem PySem.Spec L2 PyProof.Rows
end AM
set_option maxHeartbeats 2000000
namespace AM
open PySem PySem.Spec L2 PyProof.Rows
def str1 : Option W → Option W
  | some (.sh d) => some (.sh d)
  | _ => none
def strip (env : Env) : Env := env.map str1
section
variable {G : GX}
theorem strip_length (env : Env) : (strip env).length = env.length := by simp [strip]
theorem relE_strip {B H : Hp} : ∀ {env : Env} {σ : L2.St} {f : List Addr}, relE G B H σ env f → relE G B H σ (strip env) []
  | [], σ, f, h => by
    simp only [relE] at h
    simp only [strip, List.map_nil, relE]
    exact ⟨h.1, trivial⟩
  | w :: e, σ, f, h => by
    simp only [relE] at h
    obtain ⟨o, τ, f1, f2, rfl, h1, h2, rfl⟩ := h
    have ih := relE_strip h2
    have no : relE G B H (o :: τ) (none :: strip e) [] := by
      simp only [relE]
      exact ⟨o, τ, [], [], rfl, by simp [relS], ih, rfl⟩
    cases w with
    | none => exact no
    | some w =>
      cases w with
      | sh d =>
        show relE G B H (o :: τ) (some (.sh d) :: strip e) []
        simp only [relE]
        simp only [relS] at h1
        obtain ⟨v, rfl, r⟩ := h1
        have r0 := r
        simp only [relW] at r0
        obtain ⟨_, rfl⟩ := r0
        exact ⟨_, τ, [], [], rfl, ⟨v, rfl, r⟩, ih, rfl⟩
      | ol _ => exact no
      | ot _ => exact no
      | ob _ _ _ => exact no
      | dk _ _ => exact no
      | dt _ _ => exact no
variable {pn : Nat → Bool} {Wx : WX} {t : TS} {m : MS}
end
end AM
set_option maxHeartbeats 2000000
namespace AM
open PySem PySem.Spec L2 PyProof.Rows
def hid (env : Env) (r : Nat) (xs : List W) (j : Nat) (a : Addr) : Env := env.set r (some (.ol (xs.set j (.sh (.adr a)))))
def Frm (ma : ME (List W)) (env : Env) (r : Nat) (xs : List W) (j : Nat) (ws : List W) (zs : List W) (e1 : Env) : Prop :=
  (∀ a, ma (hid env r xs j a) = some (.ok ws, hid e1 r zs j a)) ∧ r < e1.length ∧ j < zs.length
theorem Frm.uniq {ma : ME (List W)} {env : Env} {r : Nat} {xs : List W} {j : Nat} {ws ws' zs zs' : List W} {e1 e1' : Env} (h : Frm ma env r xs j ws zs e1) (h' : Frm ma env r xs j ws' zs' e1') (wj : W) :
    ws = ws' ∧ e1.set r (some (.ol (zs.set j wj))) = e1'.set r (some (.ol (zs'.set j wj))) := by
  have a := h.1 0
  rw [h'.1 0] at a
  simp only [Option.some.injEq, Prod.mk.injEq, Res.ok.injEq] at a
  obtain ⟨q1, q2⟩ := a
  refine ⟨q1.symm, ?_⟩
  unfold hid at q2
  have q3 : (e1'.set r (some (.ol (zs'.set j (.sh (.adr 0))))))[r]? = (e1.set r (some (.ol (zs.set j (.sh (.adr 0))))))[r]? := by rw [q2]
  rw [List.getElem?_set_self h'.2.1, List.getElem?_set_self h.2.1] at q3
  simp only [Option.some.injEq, W.ol.injEq] at q3
  have q4 : zs'.set j wj = zs.set j wj := by
    have := congrArg (fun l => l.set j wj) q3
    simpa [List.set_set] using this
  have q5 := congrArg (fun l => l.set r (some (W.ol (zs.set j wj)))) q2
  simp only [List.set_set] at q5
  rw [q4, q5]
end AM
set_option maxHeartbeats 2000000
namespace AM
open PySem L2
end AM
namespace AM
open PySem PySem.Spec L2 PyProof.Rows
end AM
namespace AM
open PySem PySem.Spec L2 PyProof.Rows
end AM
namespace AM
open PySem PySem.Spec L2 PyProof.Rows
def gCatO : W × W → Option W := fun p => match p.1, p.2 with
  | .ol xs, .ol ys => if xs.length + ys.length ≤ 100000 then some (.ol (xs ++ ys)) else none
  | _, _ => none
theorem opg_catO {G : GX} : OpG (rWW G) (rW G) (fun xy => rCat xy.1 xy.2) gCatO := by
  intro B H a b f c s ra o nd e Q q
  obtain ⟨f1, f2, r1, r2, rfl⟩ := ra
  obtain ⟨a1, a2⟩ := a
  obtain ⟨b1, b2⟩ := b
  unfold gCatO at e
  simp only at e r1 r2
  have r1 : relW G B H a1 b1 f1 := r1
  have r2 : relW G B H a2 b2 f2 := r2
  split at e
  · rename_i xs ys
    split at e
    · rename_i hl
      cases e
      simp only [relW] at r1 r2
      obtain ⟨p1, vs1, g1, rfl, h1, w1, rfl⟩ := r1
      obtain ⟨p2, vs2, g2, rfl, h2, w2, rfl⟩ := r2
      refine ⟨p1, p2, vs1, vs2, rfl, rfl, h1, h2, by rw [← relWs_length w1, ← relWs_length w2]; exact sz_ok hl, fun p np => ?_⟩
      have nB := none_of_sub s np
      have sm : Same H (upd H p (.lst (vs1 ++ vs2))) := same_new np
      have ra := relWs_append w1 w2
      have lv := relWs_live ra
      have sub : ∀ x ∈ g1 ++ g2, x ∈ (p1 :: g1) ++ (p2 :: g2) := fun x hx => by
        rcases List.mem_append.mp hx with h | h
        · simp [h]
        · simp [h]
      have nd2 : (g1 ++ g2).Nodup := by
        simp only [List.nodup_append, List.nodup_cons, List.mem_cons] at nd ⊢
        exact ⟨nd.1.2, nd.2.1.2, fun x hx y hy => nd.2.2 x (.inr hx) y (.inr hy)⟩
      refine q _ _ B (p :: (g1 ++ g2)) sm (Same.refl B) (s.trans sm) (fun _ _ => rfl) (fun x hx => ?_) (List.nodup_cons.mpr ⟨fun z => lv p z np, nd2⟩) ?_
      · rcases List.mem_cons.mp hx with rfl | hx
        · exact ⟨nB, .inr np⟩
        · exact ⟨o x (sub x hx), .inl (sub x hx)⟩
      · show relW _ _ _ _ _ _
        simp only [relW]
        exact ⟨p, vs1 ++ vs2, g1 ++ g2, rfl, upd_same, relWs_frame (Same.refl B) ra fun x hx => by rw [upd_ne (fun z => lv x hx (by rw [z]; exact np))], rfl⟩
    · cases e
  · cases e
section
variable {X : Cx} {Wx : WX} {p p1 p2 : Bool} {a b e : Expr} {es : List Expr} {ma mb : ME W} {mas : ME (List W)} {pos pp : Pos} {x : Str} {T : String}
theorem se_catO (ha : SE X Wx true p1 a ma) (hb : SE X Wx true p2 b mb) : SE X Wx true (p1 && p2) (.BinOp a .Add b pos) (mOp2 gCatO ma mb) := by
  obtain ⟨ta, pa, sa⟩ := ha
  obtain ⟨tb, pb, sb⟩ := hb
  exact ⟨_, pe_op op_cat pa pb, (Sim.pair (rW_good _) sa sb (.inl rfl)).opG opg_catO⟩
end
end AM
namespace AM
open PySem PySem.Spec L2 PyProof.Rows
end AM
namespace AM
open PySem PySem.Spec L2 PyProof.Rows
section
variable {G : GX}
def PlF (G : GX) (B1 : Hp) (σ : L2.St) (p : Nat × List Nat) (u : V) : Prop := ∃ v0, σ[p.1]? = some (some v0) ∧ ∀ (B' H' : Hp) (w0 : W) (gR : List Addr) (w : W), Same B1 B' → Same B' H' → relW G B' H' w0 v0 gR → getP w0 p.2 = some w → ZipR G B' H' w0 v0 gR p.2 w u []
theorem PlF.mono {B1 B2 : Hp} {σ : L2.St} {p : Nat × List Nat} {u : V} (h : PlF G B1 σ p u) (s : Same B1 B2) : PlF G B2 σ p u := by
  obtain ⟨v0, h1, h2⟩ := h
  exact ⟨v0, h1, fun B' H' w0 gR w s1 s2 => h2 B' H' w0 gR w (fun a o e => s1 a o (s a o e)) s2⟩
theorem root_ot {B H : Hp} {w0 : W} {p : Addr} {vs : List V} {gR : List Addr} (s : Same B H) (r : relW G B H w0 (.ref p) gR) (hp : B p = some (.tup vs)) {ws : List W} (k : kids w0 = some ws) : w0 = .ot ws ∧ relWs G B H ws vs gR := by
  have hH := s _ _ hp
  cases w0 with
  | sh d => simp [kids] at k
  | dk _ _ => simp [kids] at k
  | dt _ _ => simp [kids] at k
  | ol xs =>
    simp only [relW] at r
    obtain ⟨p', vs', g, h1, h2, _⟩ := r
    cases h1
    rw [hH] at h2
    cases h2
  | ot xs =>
    simp only [kids, Option.some.injEq] at k
    subst k
    simp only [relW] at r
    obtain ⟨p', vs', h1, h2, h3⟩ := r
    cases h1
    rw [hp] at h2
    cases h2
    exact ⟨rfl, h3⟩
  | ob c fs xs =>
    simp only [relW] at r
    obtain ⟨p', dx', C', vs', g, h1, h2, h3, _⟩ := r
    cases h1
    rw [hH] at h3
    cases h3
variable {pn pnb : Nat → Bool} {Wx : WX} {tb : TS} {mb : MS} {it : Nat}
end
end AM
set_option maxHeartbeats 2000000
namespace AM
open PySem PySem.Spec L2 PyProof.Rows
end AM
set_option maxHeartbeats 2000000
namespace AM
open PySem PySem.Spec L2 PyProof.Rows
end AM
set_option maxHeartbeats 2000000
namespace AM
open PySem PySem.Spec L2 PyProof.Rows
end AM
set_option maxHeartbeats 2000000
namespace AM
open PySem PySem.Spec L2 PyProof.Rows
end AM
set_option maxHeartbeats 2000000
namespace AM
open PySem PySem.Spec L2 PyProof.Rows
end AM
set_option maxHeartbeats 2000000
namespace AM
open PySem PySem.Spec L2 PyProof.Rows
end AM
set_option maxHeartbeats 2000000
namespace AM
open PySem PySem.Spec L2 PyProof.Rows
section
variable {G : GX} {B H : Hp}
theorem ZipR.mono {w0 w : W} {v0 v : V} {gR K1 K2 : List Addr} {js : List Nat} (h : ZipR G B H w0 v0 gR js w v K1) (k : ∀ q ∈ K2, q ∈ K1) : ZipR G B H w0 v0 gR js w v K2 := by
  obtain ⟨a1, g, a2, e, r, h1, b⟩ := h
  exact ⟨a1, g, a2, e, r, fun q hq => h1 q (k q hq), b⟩
variable {pn pnb : Nat → Bool} {Wx : WX} {tb : TS} {mb : MS} {r s1 s2 it : Nat}
end
end AM
set_option maxHeartbeats 2000000
namespace AM
open PySem PySem.Spec L2 PyProof.Rows
end AM
set_option maxHeartbeats 2000000
namespace AM
open PySem PySem.Spec L2 PyProof.Rows
mutual
def laW : W → List Addr → Option (D × List Addr)
  | .sh d, as => some (d, as)
  | .ol ws, a :: as => (laWs ws as).map fun p => (.la a p.1, p.2)
  | .ot ws, as => (laWs ws as).map fun p => (.tup p.1, p.2)
  | _, _ => none
def laWs : List W → List Addr → Option (List D × List Addr)
  | [], as => some ([], as)
  | w :: ws, as => (laW w as).bind fun p => (laWs ws p.2).map fun q => (p.1 :: q.1, q.2)
end
mutual
def plW : W → Bool
  | .sh _ => true
  | .ol ws => plWs ws
  | .ot ws => plWs ws
  | _ => false
def plWs : List W → Bool
  | [] => true
  | w :: ws => plW w && plWs ws
end
mutual
def nL : W → Nat
  | .ol ws => 1 + nLs ws
  | .ot ws => nLs ws
  | _ => 0
def nLs : List W → Nat
  | [] => 0
  | w :: ws => nL w + nLs ws
end
section
variable {G : GX} {B H B' : Hp}
mutual
theorem la_rep (eB : Same B B') : ∀ {w : W} {v : V} {g rest : List Addr} {r : D × List Addr}, relW G B H w v g → laW w (g ++ rest) = some r → (∀ q ∈ g, B' q = H q) → r.2 = rest ∧ repD G B' r.1 v
  | .sh d, v, g, rest, r, h, e, k => by
    simp only [relW] at h
    obtain ⟨h1, rfl⟩ := h
    simp only [laW, List.nil_append, Option.some.injEq] at e
    subst e
    exact ⟨rfl, repD_mono eB h1⟩
  | .ol ws, v, g, rest, r, h, e, k => by
    simp only [relW] at h
    obtain ⟨p, vs, g', rfl, h2, h3, rfl⟩ := h
    simp only [List.cons_append, laW, Option.map_eq_some_iff] at e
    obtain ⟨r', e1, rfl⟩ := e
    obtain ⟨q1, q2⟩ := las_rep eB h3 e1 fun q hq => k q (by simp [hq])
    refine ⟨q1, ?_⟩
    simp only [repD]
    exact ⟨vs, trivial, (k p (by simp)).trans h2, q2⟩
  | .ot ws, v, g, rest, r, h, e, k => by
    simp only [relW] at h
    obtain ⟨p, vs, rfl, h2, h3⟩ := h
    simp only [laW, Option.map_eq_some_iff] at e
    obtain ⟨r', e1, rfl⟩ := e
    obtain ⟨q1, q2⟩ := las_rep eB h3 e1 k
    refine ⟨q1, ?_⟩
    simp only [repD]
    exact ⟨p, vs, rfl, SqT.of (eB _ _ h2), q2⟩
  | .ob _ _ _, _, _, _, _, _, e, _ => by simp [laW] at e
  | .dk _ _, _, _, _, _, _, e, _ => by simp [laW] at e
  | .dt _ _, _, _, _, _, _, e, _ => by simp [laW] at e
theorem las_rep (eB : Same B B') : ∀ {ws : List W} {vs : List V} {g rest : List Addr} {r : List D × List Addr}, relWs G B H ws vs g → laWs ws (g ++ rest) = some r → (∀ q ∈ g, B' q = H q) → r.2 = rest ∧ repDs G B' r.1 vs
  | [], vs, g, rest, r, h, e, k => by
    simp only [relWs] at h
    obtain ⟨rfl, rfl⟩ := h
    simp only [laWs, List.nil_append, Option.some.injEq] at e
    subst e
    refine ⟨rfl, ?_⟩
    simp only [repDs]
  | w :: ws, vs, g, rest, r, h, e, k => by
    simp only [relWs] at h
    obtain ⟨v, r0, g1, g2, rfl, h2, h3, rfl⟩ := h
    simp only [laWs, Option.bind_eq_some_iff, Option.map_eq_some_iff] at e
    obtain ⟨p, e1, q, e2, rfl⟩ := e
    rw [List.append_assoc] at e1
    obtain ⟨q1, q2⟩ := la_rep eB h2 e1 fun q hq => k q (by simp [hq])
    rw [q1] at e2
    obtain ⟨q3, q4⟩ := las_rep eB h3 e2 fun q hq => k q (by simp [hq])
    refine ⟨q3, ?_⟩
    simp only [repDs]
    exact ⟨v, r0, rfl, q2, q4⟩
end
mutual
theorem nL_len : ∀ {w : W} {v : V} {g : List Addr}, plW w = true → relW G B H w v g → g.length = nL w
  | .sh d, v, g, p, h => by
    simp only [relW] at h
    simp [h.2, nL]
  | .ol ws, v, g, p, h => by
    simp only [relW] at h
    obtain ⟨q, vs, g', rfl, h2, h3, rfl⟩ := h
    simp only [nL, List.length_cons, nLs_len (by simpa only [plW] using p) h3]
    omega
  | .ot ws, v, g, p, h => by
    simp only [relW] at h
    obtain ⟨q, vs, rfl, h2, h3⟩ := h
    simp only [nL, nLs_len (by simpa only [plW] using p) h3]
  | .ob _ _ _, _, _, p, _ => by simp [plW] at p
  | .dk _ _, _, _, p, _ => by simp [plW] at p
  | .dt _ _, _, _, p, _ => by simp [plW] at p
theorem nLs_len : ∀ {ws : List W} {vs : List V} {g : List Addr}, plWs ws = true → relWs G B H ws vs g → g.length = nLs ws
  | [], vs, g, p, h => by
    simp only [relWs] at h
    simp [h.2, nLs]
  | w :: ws, vs, g, p, h => by
    simp only [plWs, Bool.and_eq_true] at p
    simp only [relWs] at h
    obtain ⟨v, r0, g1, g2, rfl, h2, h3, rfl⟩ := h
    simp only [nLs, List.length_append, nL_len p.1 h2, nLs_len p.2 h3]
end
end
def DisOk (r : Nat) (mc : ME W) (env : Env) (w : W) (ns : List Nat) : Prop :=
  plW w = true ∧ ∀ as : List Addr, as.length = nL w → as.Nodup → ∃ (d : D) (rs : List (Addr × List D)) (e' : Env), laW w as = some (d, []) ∧ mc ((strip env).set r (some (.sh d))) = some (.ok (.ol (rs.map fun q => .sh (.la q.1 q.2))), e') ∧
    rs.map (fun q => q.2.length) = ns ∧ (rs.map Prod.fst).Nodup ∧ (∀ q ∈ rs, q.1 ∈ as) ∧ ∀ q ∈ rs, ∀ d ∈ q.2, wNon (.sh d) = false
theorem DisOk.uniq {r : Nat} {mc : ME W} {env : Env} {w : W} {ns ms : List Nat} (h : DisOk r mc env w ns) (k : DisOk r mc env w ms) : ns = ms := by
  obtain ⟨d, rs, e', h1, h2, h3, _⟩ := h.2 (List.range (nL w)) (by simp) List.nodup_range
  obtain ⟨d2, rs2, e2', k1, k2, k3, _⟩ := k.2 (List.range (nL w)) (by simp) List.nodup_range
  rw [h1] at k1
  cases k1
  rw [h2] at k2
  simp only [Option.some.injEq, Prod.mk.injEq, Res.ok.injEq, W.ol.injEq] at k2
  have e : ∀ (a b : List (Addr × List D)), (a.map fun q => W.sh (.la q.1 q.2)) = (b.map fun q => W.sh (.la q.1 q.2)) → a = b := by
    intro a
    induction a with
    | nil =>
      intro b h
      cases b with
      | nil => rfl
      | cons y b => simp at h
    | cons x a ih =>
      intro b h
      cases b with
      | nil => simp at h
      | cons y b =>
        simp only [List.map_cons, List.cons.injEq, W.sh.injEq, D.la.injEq] at h
        rw [ih b h.2]
        congr 1
        exact Prod.ext h.1.1 h.1.2
  rw [← h3, ← k3, e _ _ k2.1]
abbrev anyL (n : Nat) : W := .ol (List.replicate n (.sh .any))
open Classical in
noncomputable def mDis (r : Nat) (mc : ME W) : ME W := fun env => match env[r]? with
  | some (some w) => if h : ∃ ns, DisOk r mc env w ns then some (.ok (.ol ((Classical.choose h).map anyL)), env.set r none) else none
  | _ => none
theorem mDis_ok {r : Nat} {mc : ME W} {env : Env} {w : W} {ns : List Nat} (e : env[r]? = some (some w)) (h : DisOk r mc env w ns) : mDis r mc env = some (.ok (.ol (ns.map anyL)), env.set r none) := by
  unfold mDis
  rw [e]
  have hx : ∃ ns, DisOk r mc env w ns := ⟨ns, h⟩
  simp only
  rw [dif_pos hx, (Classical.choose_spec hx).uniq h]
section
variable {G : GX} {Wx : WX}
theorem any_rel {B H : Hp} : ∀ {us : List V} {n : Nat}, us.length = n → (∀ u ∈ us, u ≠ .non) → relWs G B H (List.replicate n (.sh .any)) us []
  | [], n, hl, _ => by
    have : n = 0 := by simpa using hl.symm
    subst this
    simp [relWs]
  | u :: us, n, hl, h => by
    obtain ⟨m, rfl⟩ : ∃ m, n = m + 1 := ⟨us.length, by simpa using hl.symm⟩
    rw [List.replicate_succ]
    simp only [relWs]
    exact ⟨u, us, [], [], rfl, by simp only [relW, repD]; exact ⟨h u (by simp), trivial⟩, any_rel (by simpa using hl) fun x hx => h x (by simp [hx]), rfl⟩
theorem rs_rel {B B1 H : Hp} (hB : Same B1 H) : ∀ {rs : List (Addr × List D)} {vs : List V} {f : List Addr}, relWs G B1 H (rs.map fun q => W.sh (.la q.1 q.2)) vs f → (∀ q ∈ rs, ∀ d ∈ q.2, wNon (.sh d) = false) → f = [] ∧ relWs G B H ((rs.map (fun q => q.2.length)).map anyL) vs (rs.map Prod.fst)
  | [], vs, f, h, _ => by
    simp only [List.map_nil, relWs] at h ⊢
    exact ⟨h.2, h.1, trivial⟩
  | q :: rs, vs, f, h, hn => by
    simp only [List.map_cons, relWs, relW, repD] at h
    obtain ⟨v, r, g1, g2, rfl, ⟨⟨us, rfl, h1, h2⟩, rfl⟩, h3, rfl⟩ := h
    obtain ⟨rfl, ih⟩ := rs_rel hB h3 fun q hq => hn q (by simp [hq])
    refine ⟨rfl, ?_⟩
    simp only [List.map_cons, relWs]
    refine ⟨.ref q.1, r, [q.1], rs.map Prod.fst, rfl, ?_, ih, rfl⟩
    simp only [anyL, relW]
    refine ⟨q.1, us, [], rfl, hB _ _ h1, any_rel (repDs_length h2).symm fun u hu => ?_, rfl⟩
    obtain ⟨i, hi⟩ := List.mem_iff_getElem?.mp hu
    have hl : i < q.2.length := by
      rw [repDs_length h2]
      exact (List.getElem?_eq_some_iff.mp hi).1
    obtain ⟨u', hu', hr⟩ := repDs_get h2 (List.getElem?_eq_getElem hl)
    rw [hi] at hu'
    cases hu'
    have := wNon_rel (G := G) (B := B1) (H := H) (w := .sh q.2[i]) (v := u) (f := []) (by simp only [relW]; exact ⟨hr, trivial⟩)
    rw [hn q (by simp) _ (List.getElem_mem hl)] at this
    exact of_decide_eq_false this
theorem sim_dis {r : Nat} {t : TE} {mc : ME W} {p : Bool} (hc : Sim G true p Wx (rW G) t mc) : Sim G true false Wx (rW G) t (mDis r mc) := by
  intro B H σ env fp O Q c
  unfold mDis at c
  cases e : env[r]? with
  | none => rw [e] at c; exact c.elim
  | some ow =>
    cases ow with
    | none => rw [e] at c; exact c.elim
    | some w =>
      rw [e] at c
      simp only at c
      by_cases hx : ∃ ns, DisOk r mc env w ns
      case neg => rw [dif_neg hx] at c; exact c.elim
      rw [dif_pos hx] at c
      have hd := Classical.choose_spec hx
      generalize Classical.choose hx = ns at c hd
      obtain ⟨hp, hcall⟩ := hd
      obtain ⟨v, g, f', hv, rv, rr, nd, inn⟩ := relE_out O.rel e
      have nd' := List.nodup_append.mp (nd O.nd)
      have out : ∀ q ∈ g, B q = none := fun q hq => O.out q (inn q (by simp [hq]))
      obtain ⟨d, rs, e', h1, h2, h3, h4, h5, h6⟩ := hcall g (nL_len hp rv) nd'.1
      have be := grd_bext (H := H) out
      obtain ⟨_, hrep⟩ := la_rep (B' := grd B H g) (rest := []) be rv (by simpa using h1) fun q hq => grd_in hq
      have rsh : relW G (grd B H g) H (.sh d) v [] := by
        simp only [relW]
        exact ⟨hrep, trivial⟩
      have hi : r < (strip env).length := by
        rw [strip_length]
        exact (List.getElem?_eq_some_iff.mp e).1
      obtain ⟨f0, r0, i0, _⟩ := relE_none r (relE_frame be (relE_strip O.rel) fun _ _ => rfl)
      obtain ⟨fe, re, ne, ie⟩ := relE_in r0 (by simp [hi]) hv rsh
      have nil : fe = [] := by
        apply List.eq_nil_iff_forall_not_mem.mpr
        intro q hq
        have := ie q hq
        simp only [List.nil_append] at this
        have := i0 q this
        simp at this
      subst nil
      rw [List.set_set] at re
      have O1 : Ok G (grd B H g) H σ ((strip env).set r (some (.sh d))) [] := ⟨grd_sub O.sub, re, List.nodup_nil, fun q hq => by simp at hq⟩
      refine hc (grd B H g) H σ _ [] O1 _ ?_
      rw [h2]
      intro b H1 B1 f1 fp1 P
      have rb : relW G B1 H1 (.ol (rs.map fun q => .sh (.la q.1 q.2))) b f1 := P.rel
      simp only [relW] at rb
      obtain ⟨L, vs, g1, rfl, hL, rvs, rfl⟩ := rb
      obtain ⟨rfl, rows⟩ := rs_rel (B := B) P.ok.sub rvs h6
      rw [h3] at rows
      have hk : ∀ a o, H a = some o → H1 a = some o := fun a o z => P.step.keep a o z (by simp)
      have nLn : H L = none := by
        rcases P.step.new L (by simp) with y | y
        · simp at y
        · exact y
      have lv := relE_live rr
      have lvg := relW_live rv
      have kE : ∀ q, H q ≠ none → H1 q = H q := fun q hq => by
        cases z : H q with
        | none => exact absurd z hq
        | some o => exact hk q o z
      have sub1 : Same B H1 := fun a o h => hk a o (O.sub a o h)
      have inr : ∀ a ∈ rs.map Prod.fst, a ∈ g := fun a ha => by
        obtain ⟨q, hq, rfl⟩ := List.mem_map.mp ha
        exact h5 q hq
      refine c (.ref L) H1 B (L :: rs.map Prod.fst) f' ⟨⟨sub1, relE_frame (Same.refl B) rr fun q hq => kE q (lv q hq), nd'.2.1, fun q hq => O.out q (inn q (by simp [hq]))⟩, ?_, fun q hq => ?_, ⟨fun a o h _ => hk a o h, Same.refl B, fun _ _ _ => rfl, fun a ha => ?_, fun a h => ?_⟩, fun _ => ⟨?_, fun q hq z => ?_⟩, fun z => Bool.noConfusion z⟩
      · show relW _ _ _ _ _ _
        simp only [relW]
        exact ⟨L, vs, rs.map Prod.fst, rfl, hL, rows, rfl⟩
      · rcases List.mem_cons.mp hq with rfl | hq
        · exact none_of_sub O.sub nLn
        · exact out q (inr q hq)
      · simp only [List.cons_append, List.mem_cons, List.mem_append] at ha
        rcases ha with rfl | ha | ha
        · exact .inr nLn
        · exact .inl (inn a (by simp [inr a ha]))
        · exact .inl (inn a (by simp [ha]))
      · rw [kE a h]
        exact h
      · refine List.nodup_cons.mpr ⟨fun z => ?_, h4⟩
        exact lvg L (inr L z) nLn
      · rcases List.mem_cons.mp hq with rfl | hq
        · exact lv q z nLn
        · exact nd'.2.2 q (inr q hq) q z rfl
theorem se_dis {X : Cx} {ex : Expr} {mc : ME W} {p : Bool} (r : Nat) (h : SE X Wx true p ex mc) : SE X Wx true false ex (mDis r mc) := by
  obtain ⟨t, pe, s⟩ := h
  exact ⟨t, pe, sim_dis s⟩
end
end AM
set_option maxHeartbeats 2000000
namespace AM
open PySem PySem.Spec L2 PyProof.Rows
def mLook (i : Nat) (m : ME W) : ME W := fun env => match env[i]? with
  | some (some w) => match w.toD with
    | some d => match m ((strip env).set i (some (.sh d))) with
      | some (.ok w2, _) => if w2.closed = true then some (.ok w2, env) else none
      | _ => none
    | none => none
  | _ => none
section
variable {G : GX} {Wx : WX}
theorem sim_look {i : Nat} {t : TE} {m : ME W} {p : Bool} (h : Sim G true p Wx (rW G) t m) : Sim G true false Wx (rW G) t (mLook i m) := by
  intro B H σ env fp O Q c
  unfold mLook at c
  cases e : env[i]? with
  | none => rw [e] at c; exact c.elim
  | some ow =>
    cases ow with
    | none => rw [e] at c; exact c.elim
    | some w =>
      rw [e] at c
      simp only at c
      cases ed : w.toD with
      | none => rw [ed] at c; exact c.elim
      | some d =>
        rw [ed] at c
        simp only at c
        obtain ⟨v, g, f', hv, rv, rr, nd, inn⟩ := relE_out O.rel e
        have out : ∀ q ∈ g, B q = none := fun q hq => O.out q (inn q (by simp [hq]))
        have be := grd_bext (H := H) out
        have rsh : relW G (grd B H g) H (.sh d) v [] := by
          simp only [relW]
          exact ⟨relW_toD be rv ed fun q hq => grd_in hq, trivial⟩
        have hi : i < (strip env).length := by
          rw [strip_length]
          exact (List.getElem?_eq_some_iff.mp e).1
        obtain ⟨f0, r0, i0, _⟩ := relE_none i (relE_frame be (relE_strip O.rel) fun _ _ => rfl)
        obtain ⟨fe, re, ne, ie⟩ := relE_in r0 (by simp [hi]) hv rsh
        have nil : fe = [] := by
          apply List.eq_nil_iff_forall_not_mem.mpr
          intro q hq
          have := ie q hq
          simp only [List.nil_append] at this
          have := i0 q this
          simp at this
        subst nil
        rw [List.set_set] at re
        have O1 : Ok G (grd B H g) H σ ((strip env).set i (some (.sh d))) [] := ⟨grd_sub O.sub, re, List.nodup_nil, fun q hq => by simp at hq⟩
        refine h (grd B H g) H σ _ [] O1 _ ?_
        rcases em : m ((strip env).set i (some (.sh d))) with _ | ⟨r, e'⟩
        · rw [em] at c; exact c
        rw [em] at c
        rcases r with w2 | x
        case ex => exact c.elim
        simp only at c
        by_cases hcl : w2.closed = true
        case neg => rw [if_neg hcl] at c; exact c.elim
        rw [if_pos hcl] at c
        intro b H1 B1 f1 fp1 P
        have lv := relE_live O.rel
        have lvg := relW_live rv
        have hk : ∀ a o, H a = some o → H1 a = some o := fun a o z => P.step.keep a o z (by simp)
        have kE : ∀ q, H q ≠ none → H1 q = H q := fun q hq => by
          cases z : H q with
          | none => exact absurd z hq
          | some o => exact hk q o z
        have hF : ∀ a ∈ g, ∀ o, B1 a = some o → ownKind o = true := fun a ha o ho => by
          have h1 := P.ok.sub a o ho
          rw [kE a (lvg a ha)] at h1
          obtain ⟨o2, e2, k2⟩ := relW_kind rv a ha
          rw [h1] at e2
          cases e2
          exact k2
        have eB : Same B (ung B1 g) := fun a o ha => by
          have na : a ∉ g := fun z => by rw [out a z] at ha; cases ha
          rw [ung_out na]
          exact P.step.bext a o (be a o ha)
        have newF : ∀ q ∈ f1, H q = none := fun q hq => by
          rcases P.step.new q (by simp [hq]) with y | y
          · simp at y
          · exact y
        have outU : ∀ q, B1 q = none → ung B1 g q = none := fun q hq => by
          unfold ung
          split
          · rfl
          · exact hq
        obtain ⟨n1, _⟩ := P.own rfl
        refine c b H1 (ung B1 g) f1 fp ⟨⟨fun a o z => P.ok.sub a o (ung_sub a o z), relE_frame eB O.rel fun q hq => kE q (lv q hq), O.nd, fun q hq => ?_⟩, relW_ung hF hcl P.rel, fun q hq => outU q (P.out q hq), ⟨fun a o z _ => hk a o z, eB, fun a hl hn => ?_, fun a ha => ?_, P.step.live⟩, fun _ => ⟨n1, fun q hq z => lv q z (newF q hq)⟩, fun z => Bool.noConfusion z⟩
        · by_cases hg : q ∈ g
          · exact ung_in hg
          · rw [ung_out hg, P.step.bold q (lv q hq) (by simp), grd_out hg]
            exact O.out q hq
        · have hg : a ∉ g := fun z => hn (inn a (by simp [z]))
          rw [ung_out hg, P.step.bold a hl (by simp), grd_out hg]
        · rcases List.mem_append.mp ha with ha | ha
          · exact .inr (newF a ha)
          · exact .inl ha
theorem se_look {X : Cx} {ex : Expr} {m : ME W} {p : Bool} (i : Nat) (h : SE X Wx true p ex m) : SE X Wx true false ex (mLook i m) := by
  obtain ⟨t, pe, s⟩ := h
  exact ⟨t, pe, sim_look s⟩
end
def loopN (j : Nat) (mc : ME Bool) : List W → Env → Option Env
  | [], e => some e
  | w :: ws, e => if j < e.length then match mc (e.set j (some w)) with
    | some (.ok false, e1) => loopN j mc ws (e1.set j none)
    | _ => none else none
def mCompN (me : ME W) (j : Nat) (mc : ME Bool) : ME W := me.bind fun w env => match wOl w with
  | some ws => (loopN j mc ws (env.set j none)).map fun e => (.ok (.ol []), e)
  | none => none
section
variable {G : GX} {Wx Wx0 : WX} {p q0 : Bool} {te tv : TE} {tt : TT} {me : ME W} {mc : ME Bool} {j : Nat}
theorem sim_compN (he : Sim G true p Wx (rW G) te me) (hc : Sim G true q0 Wx0 (rEqv Bool) tt mc) : Sim G true false Wx (rW G) (tLc (iList G.K te) (gName j) tt tv [j]) (mCompN me j mc) := by
  intro B H σ env fp O Q c
  unfold tLc iList
  refine he B H σ env fp O _ ?_
  unfold mCompN ME.bind at c
  cases e1 : me env with
  | none => rw [e1] at c; exact c
  | some r =>
    obtain ⟨r, env1⟩ := r
    rw [e1] at c
    cases r with
    | ex x => exact c
    | ok w =>
      intro v H1 B1 f0 fp1 P
      simp only at c
      cases ew : wOl w with
      | none => rw [ew] at c; exact c.elim
      | some ws =>
      rw [ew] at c
      simp only at c
      have ew : w = .ol ws := by
        unfold wOl at ew
        split at ew
        · cases ew; rfl
        · cases ew
      subst ew
      obtain ⟨nd, dis⟩ := P.own rfl
      have out := P.out
      have new := P.step.new
      have rel := P.rel
      simp only [rW, relW] at rel
      obtain ⟨q, us, g0, rfl, hq, hr, rfl⟩ := rel
      have hlen := relWs_length hr
      simp only [List.nodup_cons] at nd
      refine ⟨q, rfl, ⟨us, SqL.of hq⟩, fun D nD => ?_⟩
      have BD := none_of_sub P.ok.sub nD
      obtain ⟨fpW, OW, subW⟩ := P.ok.unwipe (σ := σ) [j] rfl
      have lvW := relE_live OW.rel
      have hqD : q ≠ D := fun z => by rw [z, nD] at hq; cases hq
      have lv0 := relWs_live hr
      have g0D : ∀ a ∈ g0, a ≠ D := fun a ha z => lv0 a ha (by rw [z]; exact nD)
      have fpD : ∀ a ∈ fpW, a ≠ D := fun a ha z => lvW a ha (by rw [z]; exact nD)
      have wj : wipeE env1 [j] = env1.set j none := rfl
      refine lc_it (walk_list (K := G.K) (xs := us)) (fun i H' => ∃ env' B' fp' gs, Ok G B' H' σ env' fp' ∧ Step B H fp B' H' (D :: fp') ∧ H' D = some (.lst []) ∧ B' D = none ∧ D ∉ fp' ∧ H' q = some (.lst us) ∧ q ∉ fp' ∧ B' q = none ∧ q ∉ gs ∧ relWs G B' H' (ws.drop i) (us.drop i) gs ∧ gs.Nodup ∧ (∀ a ∈ gs, B' a = none ∧ a ∉ fp' ∧ a ≠ D ∧ (a ∈ fp ∨ H a = none)) ∧ (q ∈ fp ∨ H q = none) ∧ (env'[j]? = some none ∨ env'[j]? = none) ∧
        (match loopN j mc (ws.drop i) env' with
        | some e2 => ∀ H' B' fp', Ok G B' H' σ e2 fp' → Step B H fp B' H' (D :: fp') → H' D = some (.lst []) → B' D = none → D ∉ fp' → Q (.ref D) H'
        | none => False)) ?_ ?_ ?_ ?_
      · refine ⟨env1.set j none, B1, fpW, g0, ⟨fun a o h => by rw [upd_ne fun z => by rw [z, BD] at h; cases h]; exact OW.sub a o h, relE_frame (Same.refl B1) (wj ▸ OW.rel) fun a ha => upd_ne (fpD a ha), OW.nd, OW.out⟩, ⟨fun a o h n => ?_, P.step.bext, P.step.bold, fun a ha => ?_, fun a h => ?_⟩, upd_same, BD, fun z => fpD D z rfl, by rw [upd_ne hqD]; exact hq, fun z => dis q (by simp) (subW q z), out q (by simp), nd.1, relWs_frame (Same.refl B1) hr fun a ha => upd_ne (g0D a ha), nd.2, fun a ha => ⟨out a (by simp [ha]), fun z => dis a (by simp [ha]) (subW a z), g0D a ha, new a (by simp [ha])⟩, new q (by simp), ?_, ?_⟩
        · have := P.step.keep a o h n
          rw [upd_ne fun z => by rw [z, nD] at this; cases this]
          exact this
        · rcases List.mem_cons.mp ha with rfl | ha
          · refine .inr ?_
            cases e : H a with
            | none => rfl
            | some o => exact absurd nD (P.step.live a (by simp [e]))
          · exact new a (by simp [subW a ha])
        · have := P.step.live a h
          by_cases ea : a = D
          · rw [ea, upd_same]; simp
          · rw [upd_ne ea]; exact this
        · by_cases hj : j < env1.length
          · exact .inl (List.getElem?_set_self hj)
          · exact .inr (List.getElem?_eq_none_iff.mpr (by rw [List.length_set]; omega))
        · show match loopN j mc ws (env1.set j none) with | some e2 => _ | none => False
          cases el : loopN j mc ws (env1.set j none) with
          | none => rw [el] at c; exact c.elim
          | some e2 =>
            rw [el] at c
            intro H' B' fp' O' S' hD hBD nDf
            refine c (.ref D) H' B' [D] fp' ⟨O', ?_, fun a ha => ?_, S'.mono fun a ha => by simpa using ha, fun _ => ⟨by simp, fun a ha => ?_⟩, fun z => Bool.noConfusion z⟩
            · show relW _ _ _ _ _ _
              simp only [relW]
              exact ⟨D, [], [], rfl, hD, by simp [relWs], rfl⟩
            · rw [List.mem_singleton] at ha
              rw [ha]
              exact hBD
            · rw [List.mem_singleton] at ha
              rw [ha]
              exact nDf
      · rintro i H' _ ⟨env', B', fp', gs, _, _, _, _, _, hq', _⟩
        exact SqL.of hq'
      · rintro i x H' H'' hi' ⟨env', B', fp', gs, O', S', hD, hBD, nDf, hq', nqf, hBq, nqg, rg, ndg, pg, nq, wz, ct⟩ ⟨rfl, hx⟩
        have hwi : i < ws.length := by omega
        have ed : ws.drop i = ws[i] :: ws.drop (i + 1) := List.drop_eq_getElem_cons hwi
        have eu : us.drop i = x :: us.drop (i + 1) := by
          rw [List.drop_eq_getElem_cons hi']
          congr 1
          rw [List.getElem?_eq_getElem hi'] at hx
          exact Option.some.inj hx
        generalize ws[i] = w at ed
        rw [ed] at ct rg
        rw [eu] at rg
        simp only [relWs] at rg
        obtain ⟨v, r', g1, g2, ee, r1, r2, rfl⟩ := rg
        cases ee
        simp only [List.nodup_append] at ndg
        simp only [loopN] at ct
        by_cases hj : j < env'.length
        case neg => rw [if_neg hj] at ct; exact ct.elim
        rw [if_pos hj] at ct
        have OW3 : Ok G B' H'' (L2.wipe σ [j]) env' fp' := ⟨O'.sub, relE_congr O'.rel (wipe_length σ [j]) (fun k w e => wipe_out (fun h => by
          rw [List.mem_singleton] at h
          subst h
          rcases wz with z | z <;> rw [e] at z <;> cases z)), O'.nd, O'.out⟩
        obtain ⟨fp2, O2, s2⟩ := OW3.set r1 (fun a ha => (pg a (by simp [ha])).1) ndg.1 (fun a ha => (pg a (by simp [ha])).2.1) hj
        have old : ∀ a, a ∈ fp2 → a ∈ fp ∨ H a = none := fun a ha => by
          rcases List.mem_append.mp (s2 a ha) with z | z
          · exact (pg a (by simp [z])).2.2.2
          · exact S'.new a (by simp [z])
        have nD2 : D ∉ fp2 := fun z => by
          rcases List.mem_append.mp (s2 D z) with z | z
          · exact (pg D (by simp [z])).2.2.1 rfl
          · exact nDf z
        have nq2 : q ∉ fp2 := fun z => by
          rcases List.mem_append.mp (s2 q z) with z | z
          · exact nqg (by simp [z])
          · exact nqf z
        have ng2 : ∀ a ∈ g2, a ∉ fp2 := fun a ha z => by
          rcases List.mem_append.mp (s2 a z) with z | z
          · exact ndg.2.2 a z a ha rfl
          · exact (pg a (by simp [ha])).2.1 z
        show L2.wipe ((L2.wipe σ [j]).set j (some x)) [j] = L2.wipe σ [j] ∧ _
        have hw : L2.wipe ((L2.wipe σ [j]).set j (some x)) [j] = L2.wipe σ [j] := by
          show (((σ.set j none).set j (some x)).set j none) = σ.set j none
          rw [List.set_set, List.set_set]
        refine ⟨hw, hc B' H'' _ (env'.set j (some w)) fp2 O2 _ ?_⟩
        cases e3 : mc (env'.set j (some w)) with
        | none => rw [e3] at ct; exact ct
        | some r3 =>
          obtain ⟨r3, env3⟩ := r3
          rw [e3] at ct
          cases r3 with
          | ex y => exact ct.elim
          | ok b =>
            intro b' H4 B4 f4 fp4 P4
            obtain ⟨rfl, rfl⟩ := P4.rel
            cases b with
            | true => exact ct.elim
            | false =>
              show if false = true then _ else _
              rw [if_neg Bool.false_ne_true]
              simp only at ct
              have lv2 := relWs_live r2
              have S4 := P4.step
              have stay : ∀ a, H'' a ≠ none → a ∉ fp2 → H4 a = H'' a := fun a ha hn => by
                cases z : H'' a with
                | none => exact absurd z ha
                | some o => exact S4.keep a o z hn
              have lD : H'' D ≠ none := by rw [hD]; simp
              have lq : H'' q ≠ none := by rw [hq']; simp
              have newN : ∀ a, H'' a ≠ none → a ∉ fp2 → a ∉ fp4 := fun a ha hn z => by
                rcases S4.new a (by simp [z]) with y | y
                · exact hn y
                · exact ha y
              obtain ⟨fp6, O6, s6⟩ := P4.ok.unwipe (σ := σ) [j] hw
              have e6 : wipeE env3 [j] = env3.set j none := rfl
              rw [e6] at O6
              have st2 : Step B H fp B4 H4 (D :: fp6) := by
                refine ⟨fun a o h n => S4.keep a o (S'.keep a o h n) fun z => ?_, fun a o h => S4.bext a o (S'.bext a o h), fun a h n => (S4.bold a (S'.live a h) fun z => ?_).trans (S'.bold a h n), fun a ha => ?_, fun a h => S4.live a (S'.live a h)⟩
                · rcases old a z with y | y
                  · exact n y
                  · rw [h] at y; cases y
                · rcases old a z with y | y
                  · exact n y
                  · exact h y
                · rcases List.mem_cons.mp ha with rfl | ha
                  · exact S'.new a (by simp)
                  · rcases S4.new a (by simp [s6 a ha]) with z | z
                    · exact old a z
                    · refine .inr ?_
                      cases y : H a with
                      | none => rfl
                      | some o => exact absurd z (S'.live a (by simp [y]))
              have bE : ∀ a, H'' a ≠ none → a ∉ fp2 → B4 a = B' a := fun a ha hn => S4.bold a ha hn
              refine ⟨env3.set j none, B4, fp6, g2, O6, st2, (stay D lD nD2).trans hD, (bE D lD nD2).trans hBD, fun z => newN D lD nD2 (s6 D z), (stay q lq nq2).trans hq', fun z => newN q lq nq2 (s6 q z), (bE q lq nq2).trans hBq, fun z => nqg (by simp [z]), relWs_frame S4.bext r2 fun a ha => stay a (lv2 a ha) (ng2 a ha), ndg.2.1, fun a ha => ⟨(bE a (lv2 a ha) (ng2 a ha)).trans (pg a (by simp [ha])).1, fun z => newN a (lv2 a ha) (ng2 a ha) (s6 a z), (pg a (by simp [ha])).2.2.1, (pg a (by simp [ha])).2.2.2⟩, nq, ?_, ct⟩
              by_cases hj3 : j < env3.length
              · exact .inl (List.getElem?_set_self hj3)
              · exact .inr (List.getElem?_eq_none_iff.mpr (by rw [List.length_set]; omega))
      · rintro H' ⟨env', B', fp', gs, O', S', hD, hBD, nDf, _, _, _, _, _, _, _, _, _, ct⟩
        have ed : ws.drop us.length = [] := List.drop_eq_nil_iff.mpr (by omega)
        rw [ed] at ct
        exact ct H' B' fp' O' S' hD hBD nDf
end
section
variable {X : Cx} {Wx : WX} {p q0 : Bool} {pos p1 : Pos} {x : Str} {elt iter : Expr} {ifs : List Expr} {scope : Scope} {j : Nat} {me : ME W} {mc : ME Bool} {mv : ME W}
theorem se_lcN (hc : X.calm = true) (hN : X.N.Nodup) (hi : SE X Wx true p iter me) (ok : BlkOk X.N X.env.scope scope [(x, j)]) (hg : ∀ b : BF, PG (b.cx X scope) (.Name x p1) (gName j)) (ht : ∀ b : BF, STts (b.cx X scope) W0 q0 ifs mc) (he : ∀ b : BF, SE (b.cx X scope) W0 true q0 elt mv) (hs : ∀ x, foldedSetIterable iter X.env x = pure x := by intro _; rfl) :
    SE X Wx true false (.ListComp elt [⟨.Name x p1, iter, ifs, 0⟩] scope pos) (mCompN me j mc) := by
  obtain ⟨ti, pi, si⟩ := hi
  obtain ⟨t2, p2, s2⟩ := uni_t ht
  obtain ⟨t3, p3, s3⟩ := uni_e he
  exact ⟨_, pe_lc hc hN (pi_list pi) ok (fun s H C cl fp => hg ⟨s, H, C, cl, fp⟩) (fun s H C cl fp => p2 ⟨s, H, C, cl, fp⟩) (fun s H C cl fp => p3 ⟨s, H, C, cl, fp⟩) hs, sim_compN si s2⟩
end
end AM
set_option maxHeartbeats 2000000
namespace AM
open PySem PySem.Spec L2 PyProof.Rows
def fstL : List W → Option Nat
  | .ol _ :: _ => some 0
  | .sh _ :: ws => (fstL ws).map (· + 1)
  | _ => none
def FstOk (r : Nat) (mc : ME W) (env : Env) (w : W) (b : Bool) : Prop :=
  plW w = true ∧ ∀ as : List Addr, as.length = nL w → as.Nodup → ∃ (d : D) (ds : List D) (e' : Env), laW w as = some (d, []) ∧ mc ((strip env).set r (some (.sh d))) = some (.ok (.ol (if b = true then (as.take 1).map (fun a => .sh (.la a ds)) else [])), e') ∧ (b = true → as ≠ [])
open Classical in
noncomputable def mFst (r it : Nat) (mc : ME W) (b1 b2 : MS) : MS := fun env => match env[r]? with
  | some (some w) => if FstOk r mc env w true then match w with
      | .ot ws => match fstL ws with
        | some j => if it < env.length then match mAt r it b1 [j] env with
          | some (.ok _, e) => match b2 e with
            | some (.ok .nx, e2) => some (.ok .nx, e2)
            | some (.ok (.rt w), e2) => some (.ok (.rt w), e2)
            | _ => none
          | _ => none else none
        | none => none
      | _ => none
    else if FstOk r mc env w false then some (.ok .nx, env) else none
  | _ => none
section
variable {G : GX} {Wx : WX}
theorem fst_at {B H : Hp} : ∀ {ws : List W} {vs : List V} {g : List Addr} {j : Nat}, relWs G B H ws vs g → fstL ws = some j → ∃ p g', g = p :: g' ∧ vs[j]? = some (.ref p)
  | [], vs, g, j, h, e => by simp [fstL] at e
  | .ol us :: ws, vs, g, j, h, e => by
    simp only [fstL, Option.some.injEq] at e
    subst e
    simp only [relWs, relW] at h
    obtain ⟨v, r, g1, g2, rfl, ⟨p, us', g', rfl, h2, h3, rfl⟩, h4, rfl⟩ := h
    exact ⟨p, g' ++ g2, by simp, rfl⟩
  | .sh d :: ws, vs, g, j, h, e => by
    simp only [fstL, Option.map_eq_some_iff] at e
    obtain ⟨i, e1, rfl⟩ := e
    simp only [relWs, relW] at h
    obtain ⟨v, r, g1, g2, rfl, ⟨_, rfl⟩, h4, rfl⟩ := h
    obtain ⟨p, g', e2, e3⟩ := fst_at h4 e1
    exact ⟨p, g', by simpa using e2, by simpa using e3⟩
  | .ot _ :: _, _, _, _, _, e => by simp [fstL] at e
  | .ob _ _ _ :: _, _, _, _, _, e => by simp [fstL] at e
  | .dk _ _ :: _, _, _, _, _, e => by simp [fstL] at e
  | .dt _ _ :: _, _, _, _, _, e => by simp [fstL] at e
variable {pn pnb : Nat → Bool} {tb1 tb2 : TS} {mb1 mb2 : MS} {r it : Nat} {t : TE} {mc : ME W} {p : Bool}
theorem simS_fst (hc : Sim G true p Wx (rW G) t mc) (hb1 : SimS G pnb Wx tb1 mb1) (hb2 : SimS G pn Wx tb2 mb2) (hne : it ≠ r) (hpr : pnb r = true) (hpi : pnb it = true) (hpn : ∀ i, pn i = true → pnb i = true ∧ i ≠ it) :
    SimS G pn Wx (tFor (iList G.K t) (gName it) (tSeq tb1 tb2)) (mFst r it mc mb1 mb2) := by
  intro B H σ env fp O D c
  unfold iList
  unfold mFst at c
  split at c
  case h_2 => exact c.elim
  rename_i w e
  obtain ⟨v, g, f', hv, rv, rr, nd, inn⟩ := relE_out O.rel e
  have nd' := List.nodup_append.mp (nd O.nd)
  have out : ∀ q ∈ g, B q = none := fun q hq => O.out q (inn q (by simp [hq]))
  have key : ∀ (b : Bool), FstOk r mc env w b → (∀ (us : List V) (L : Addr) (H1 : Hp), us = (if b = true then (g.take 1).map V.ref else []) → (b = true → g ≠ []) → H1 L = some (.lst us) → Ok G (upd B L (.lst us)) H1 σ env fp → Step B H fp (upd B L (.lst us)) H1 fp → Same B (upd B L (.lst us)) → (upd B L (.lst us)) L = some (.lst us) →
      ∃ W : Nat → Nat → L2.St → Hp → Prop, (∃ m, W 0 m σ H1) ∧ ∀ i m σ' H', W i m σ' H' → ((Itl G.K L).stop i H' ∧ D.nx σ' H') ∨ ((Itl G.K L).go i H' ∧ ∃ N : L2.St → Hp → Prop, (∀ σ'' H'', N σ'' H'' → ∃ m', m' < m ∧ W (i + 1) m' σ'' H'') ∧ ∀ x H'', (Itl G.K L).yld i H' x H'' → (gName it) x σ' H'' fun σ2 H2 => (tSeq tb1 tb2) { D with nx := N, ct := N, bk := D.nx } σ2 H2)) →
      t σ H fun x H1 => ∃ a, x = .ref a ∧ (∃ xs, SqL G.K H1 a xs) ∧ ∃ W : Nat → Nat → L2.St → Hp → Prop, (∃ m, W 0 m σ H1) ∧ ∀ i m σ' H', W i m σ' H' → ((Itl G.K a).stop i H' ∧ D.nx σ' H') ∨ ((Itl G.K a).go i H' ∧ ∃ N : L2.St → Hp → Prop, (∀ σ'' H'', N σ'' H'' → ∃ m', m' < m ∧ W (i + 1) m' σ'' H'') ∧ ∀ x H'', (Itl G.K a).yld i H' x H'' → (gName it) x σ' H'' fun σ2 H2 => (tSeq tb1 tb2) { D with nx := N, ct := N, bk := D.nx } σ2 H2) := by
    rintro b ⟨hp, hcall⟩ k
    obtain ⟨d, ds, e', h1, h2, h3⟩ := hcall g (nL_len hp rv) nd'.1
    have be := grd_bext (H := H) out
    obtain ⟨_, hrep⟩ := la_rep (B' := grd B H g) (rest := []) be rv (by simpa using h1) fun q hq => grd_in hq
    have rsh : relW G (grd B H g) H (.sh d) v [] := by
      simp only [relW]
      exact ⟨hrep, trivial⟩
    have hi : r < (strip env).length := by
      rw [strip_length]
      exact (List.getElem?_eq_some_iff.mp e).1
    obtain ⟨f0, r0, i0, _⟩ := relE_none r (relE_frame be (relE_strip O.rel) fun _ _ => rfl)
    obtain ⟨fe, re, ne, ie⟩ := relE_in r0 (by simp [hi]) hv rsh
    have nil : fe = [] := by
      apply List.eq_nil_iff_forall_not_mem.mpr
      intro q hq
      have := ie q hq
      simp only [List.nil_append] at this
      have := i0 q this
      simp at this
    subst nil
    rw [List.set_set] at re
    have O1 : Ok G (grd B H g) H σ ((strip env).set r (some (.sh d))) [] := ⟨grd_sub O.sub, re, List.nodup_nil, fun q hq => by simp at hq⟩
    refine hc (grd B H g) H σ _ [] O1 _ ?_
    rw [h2]
    intro y H1 B1 f1 fp1 P
    have rb : relW G B1 H1 (.ol (if b = true then (g.take 1).map (fun a => .sh (.la a ds)) else [])) y f1 := P.rel
    simp only [relW] at rb
    obtain ⟨L, us, g1, rfl, hL, rus, rfl⟩ := rb
    have hus : us = (if b = true then (g.take 1).map V.ref else []) := by
      cases b with
      | false =>
        simp only [Bool.false_eq_true, if_false, relWs] at rus ⊢
        exact rus.1
      | true =>
        simp only [if_true] at rus ⊢
        cases g with
        | nil => exact absurd rfl (h3 rfl)
        | cons a g =>
          simp only [List.take_succ_cons, List.take_zero, List.map_cons, List.map_nil, relWs, relW, repD] at rus ⊢
          obtain ⟨v', r', _, _, rfl, ⟨⟨_, rfl, _, _⟩, _⟩, ⟨rfl, _⟩, _⟩ := rus
          rfl
    have hk : ∀ a o, H a = some o → H1 a = some o := fun a o z => P.step.keep a o z (by simp)
    have nLn : H L = none := by
      rcases P.step.new L (by simp) with y | y
      · simp at y
      · exact y
    have nB : B L = none := none_of_sub O.sub nLn
    have lv := relE_live O.rel
    have kE : ∀ q, H q ≠ none → H1 q = H q := fun q hq => by
      cases z : H q with
      | none => exact absurd z hq
      | some o => exact hk q o z
    have sB0 : Same B (upd B L (.lst us)) := same_new nB
    have sub1 : Same (upd B L (.lst us)) H1 := fun a o h => by
      by_cases ea : a = L
      · subst ea
        rw [upd_same] at h
        cases h
        exact hL
      · rw [upd_ne ea] at h
        exact hk a o (O.sub a o h)
    have neL : ∀ q, H q ≠ none → q ≠ L := fun q hq z => hq (by rw [z]; exact nLn)
    refine ⟨L, rfl, ⟨us, SqL.of hL⟩, k us L H1 hus h3 hL ⟨sub1, relE_frame sB0 O.rel fun q hq => kE q (lv q hq), O.nd, fun q hq => by
      rw [upd_ne (neL q (lv q hq))]
      exact O.out q hq⟩ ⟨fun a o h _ => hk a o h, sB0, fun a h _ => upd_ne (neL a h), fun a h => .inl h, fun a h => by
      rw [kE a h]
      exact h⟩ sB0 upd_same⟩
  by_cases ck : FstOk r mc env w true
  · rw [if_pos ck] at c
    split at c
    case h_2 => exact c.elim
    rename_i ws
    refine key true ck fun us L H1 hus hg hL O2 S2 sB0 hBL => ?_
    simp only [if_true] at hus
    split at c
    case h_2 => exact c.elim
    rename_i j ej
    by_cases hit : it < env.length
    case neg => rw [if_neg hit] at c; exact c.elim
    rw [if_pos hit] at c
    simp only [relW] at rv
    obtain ⟨T0, vs, rfl, hT, hr⟩ := rv
    obtain ⟨pa, g', rfl, hvj⟩ := fst_at hr ej
    have hus : us = [.ref pa] := hus
    have P0 : PostS G pn B H σ fp env σ H1 (upd B L (.lst us)) [] fp := ⟨O2, S2, fun _ _ => rfl⟩
    refine for_it (walk_list (K := G.K) (a := L) (xs := us)) (fun i σ' H' => (i = 0 ∧ σ' = σ ∧ H' = H1) ∨ (1 ≤ i ∧ (∃ B', Same (upd B L (.lst us)) B' ∧ Same B' H') ∧ D.nx σ' H')) (.inl ⟨rfl, rfl, rfl⟩) ?_ ?_ ?_
    · rintro i σ' H' _ (⟨_, _, rfl⟩ | ⟨_, ⟨B', s1, s2⟩, _⟩)
      · exact SqL.of hL
      · exact SqL.of (s2 _ _ (s1 _ _ hBL))
    · rintro i x σ' H' H'' hi' inv ⟨rfl, hx⟩
      have hi0 : i = 0 := by rw [hus] at hi'; simpa using hi'
      subst hi0
      rcases inv with ⟨_, rfl, rfl⟩ | ⟨h, _⟩
      case inr => omega
      rw [hus] at hx
      simp only [List.getElem?_cons_zero, Option.some.injEq] at hx
      subst hx
      cases e2 : mAt r it mb1 [j] env with
      | none => rw [e2] at c; exact c.elim
      | some r2 =>
        obtain ⟨r2, env2⟩ := r2
        rw [e2] at c
        cases r2 with
        | ex y => exact c.elim
        | ok u =>
          simp only at c
          show tb1 _ (List.set _ it (some (.ref pa))) _
          refine at_step (pn := pn) (Kp := []) (Sh := fun _ => True) hb1 hne hpr hpi hpn O2 hv hit (fun _ _ => trivial) (fun _ _ _ _ _ => trivial) (fun w0 gR w _ o n rr' ew => ?_) e2 _ fun σ2 H2 B2 fp2 O3 S3 pin3 hr3 hit3 hk3 hsh3 => ?_
          · have hT1 : (upd B L (.lst us)) T0 = some (.tup vs) := sB0 _ _ hT
            simp only [getP] at ew
            cases ek : kids w0 with
            | none => rw [ek] at ew; cases ew
            | some ws' =>
              obtain ⟨rfl, hr'⟩ := root_ot O2.sub rr' hT1 ek
              rw [ek, Option.bind_some] at ew
              cases ej' : ws'[j]? with
              | none => rw [ej'] at ew; cases ew
              | some y =>
                rw [ej'] at ew
                cases ew
                obtain ⟨u', hu', z⟩ := zipT hT1 hr' ej'
                rw [hvj] at hu'
                cases hu'
                exact z
          · have P2 : PostS G pn B H σ' fp env2 σ2 H2 B2 [] fp2 := ⟨O3, Step.trans (S := []) P0.step S3, fun i hi => pin3 i hi⟩
            show tb2 _ σ2 H2
            refine hb2 B2 H2 σ2 env2 fp2 O3 _ ?_
            have tr : ∀ {env3 : Env} {σ' : L2.St} {H' B' : Hp} {f0 fp' : List Addr} , PostS G pn B2 H2 σ2 fp2 env3 σ' H' B' f0 fp' → PostS G pn B H _ fp env3 σ' H' B' f0 fp' := fun Q =>
              ⟨Q.ok, Step.trans (S := []) P2.step Q.step, fun i hi => (Q.pin i hi).trans (P2.pin i hi)⟩
            rcases em : mb2 env2 with _ | ⟨r3, env3⟩
            · rw [em] at c; exact c.elim
            · rw [em] at c
              rcases r3 with f | y
              · cases f with
                | nx =>
                  intro σ' H' B' fp' Q
                  exact .inr ⟨Nat.le_refl _, ⟨B', fun a o h => Q.step.bext a o (S3.bext a o h), Q.ok.sub⟩, c σ' H' B' fp' (tr Q)⟩
                | ct => exact c.elim
                | bk => exact c.elim
                | rt w => exact fun v σ' H' B' f0 fp' Q r o n dj => c v σ' H' B' f0 fp' (tr Q) r o n dj
              · exact c.elim
    · rintro σ' H' (⟨h, _⟩ | ⟨_, _, h⟩)
      · rw [hus] at h; simp at h
      · exact h
  · rw [if_neg ck] at c
    by_cases ck2 : FstOk r mc env w false
    case neg => rw [if_neg ck2] at c; exact c.elim
    rw [if_pos ck2] at c
    refine key false ck2 fun us L H1 hus hg hL O2 S2 sB0 hBL => ?_
    have hus : us = [] := hus
    refine for_it (walk_list (K := G.K) (a := L) (xs := us)) (fun i σ' H' => σ' = σ ∧ H' = H1) ⟨rfl, rfl⟩ ?_ ?_ ?_
    · rintro i σ' H' _ ⟨_, rfl⟩
      exact SqL.of hL
    · rintro i x σ' H' H'' hi'
      rw [hus] at hi'
      simp at hi'
    · rintro σ' H' ⟨rfl, rfl⟩
      exact c _ _ _ _ ⟨O2, S2, fun _ _ => rfl⟩
end
section
variable {X : Cx} {pn : Nat → Bool} {Wx : WX} {pos pq : Pos} {x : Str} {r it : Nat} {ex : Expr} {st1 : Stmt} {sts : List Stmt} {mb1 mb2 : MS} {mc : ME W} {pp : Bool}
theorem ss_fst (hp : PassesOwn (model X.prog X.w) X.A X.env X.xe) (hc : X.calm = true) (hN : X.N.Nodup) (hi : X.N[it]? = some x) (hx : Loc X.env.scope x) (hv : SE X Wx true pp ex mc) (hb1 : SS X (pnB r it pn) Wx st1 mb1) (hb2 : SSs X pn Wx sts mb2) (hne : (it == r) = false) (hpn : pn it = false)
    (hf : X.fn x = true ∨ X.env.scope.names.lookup x = some .local := by first | exact .inl rfl | exact .inr rfl | assumption) (hs : ∀ v, foldedSetIterable ex X.env v = pure v := by intro _; rfl) :
    SS X pn Wx (.For (.Name x pq) ex (st1 :: sts) [] pos) (mFst r it mc mb1 mb2) := by
  obtain ⟨t1, p1, s1⟩ := hb1
  obtain ⟨t2, p2, s2⟩ := hb2
  obtain ⟨t, p0, s0⟩ := hv
  exact ⟨_, ps_for hp hc (pi_list p0) (pg_name hN hi hx hf) (pss_cons p1 p2) hs, simS_fst (G := gx X) s0 s1 s2 (by simpa using hne) (by simp [pnB]) (by simp [pnB]) fun i h => ⟨by simp [pnB, h], fun z => by rw [z, hpn] at h; cases h⟩⟩
end
end AM
namespace AM
open PySem PySem.Spec L2 PyProof.Rows
section
variable {X : Cx} {CX : CXT} {f : Addr} {fd : FuncData} {ps : List Str} {sp : Sp} {E : XK} {x : Str} {p pos : Pos}
theorem pe_callG0 (R : RunAt X.prog X.w X.K X.mg X.base CX X.A f fd ps sp) (hl : ∀ vs H Q E, sp vs H Q E → vs.length = ps.length) (hg : Gl X x) (hm : X.mg x = some (.ref f)) (hk : PySem.W.keepIn X.K (.ref f) = true) (hb : Binds X.K fd ps []) (hx : Passes CX X E)
    (hdb : (x == ("__debug__" : Str)) = false := by decide) : PE X (.Call (.Name x p) [] [] pos) (tCall sp [] E tNil) := by
  refine ⟨fun pins s σ H Q I h => ?_⟩
  refine wpAny_Call_Name_kw (ld_glob I hg hm ?_ hdb)
  refine PySem.W.callWith_K0 I.kIn hk ?_
  have q : sp [] H Q E := h
  have lv := hl _ _ _ _ q
  have b := hb s [] I.kIn (by simpa using lv)
  simp only [List.append_nil] at b
  refine wpAny_call (codeAny_mono (R X.stack s H ⟨[], []⟩ [] [] Q E I.env0 b .nil lv q) fun res s' hq => ?_)
  match res, hq with
  | .error z, hq => exact hx pins σ H s z s' I hq
  | .ok (.ret u), hq => exact I.after hq
  | .ok .next, hq => exact hq.elim
  | .ok .brk, hq => exact hq.elim
  | .ok .cont, hq => exact hq.elim
end
theorem se_callNG {X : Cx} {Wx : WX} {x : Str} {n j : Nat} {mf : MF} {pp pos : Pos} (hG : X.A.guards = some []) (D : DfG X.prog X.w X.K X.mg X.base x n mf j) (hr : Room j X.A) (hg : Gl X x) (hdb : (x == ("__debug__" : Str)) = false := by decide) :
    SE X Wx true true (.Call (.Name x pp) [] [] pos) (mNoX (mK0 mf wNil)) := by
  obtain ⟨f, fd, ps, hl, F, hm, hk, hb⟩ := D.ex
  have h : Sim (gx X) true true W0 (rW (gx X)) (tCall (spOf (gx X) n mf) [] (WE W0 []) tNil) (mK0 mf wNil) := by
    have e : (tCall (spOf (gx X) n mf) [] (WE W0 []) tNil) = (fun σ H Q => tNil σ H fun vs H1 => spOf (gx X) n mf vs H1 Q (WE W0 σ)) := by
      funext σ H Q
      unfold tCall
      simp only [List.append_nil]
    rw [e]
    exact sim_call0 D.len simA_nil
  exact ⟨_, pe_callG0 (F X.A hr hG) (fun vs H Q E h => h.1.trans hl.symm) hg hm hk hb passes0 hdb, sim_nox h⟩
section
variable {X : Cx} {Wx : WX} {pn : Nat → Bool} {p : Bool} {pos : Pos}
theorem ss_lcK (r : Nat) {i : Nat} {y : Str} {py spos : Pos} {elt tg iter : Expr} {ifs : List Expr} {scope : Scope} {own : List (Str × Nat)} {mi : ME (List D)} {mg : MG} {mc : ME Bool} {me : ME W} (hp : pn i = false) (hc : X.calm = true) (hN : X.N.Nodup) (hy : X.N[i]? = some y) (hyl : X.env.scope.names.lookup y = some .local)
    (hsw : swapsWith (.ListComp elt [⟨tg, iter, ifs, 0⟩] scope pos) (some (.Name y py)) spos.line X.env = pure true) (hi : SI X Wx p tg iter mi) (ok : BlkOk X.N X.env.scope scope own) (hg : ∀ b : BF, SG (b.cx X scope) (offs (own.map (·.2))) true tg mg) (ht : ∀ b : BF, STts (b.cx X scope) W0 true ifs mc) (he : ∀ b : BF, SE (b.cx X scope) W0 true true elt me) (hs : ∀ x, foldedSetIterable iter X.env x = pure x := by intro _; rfl) :
    SS X pn Wx (.Assign [.Name y py] (.ListComp elt [⟨tg, iter, ifs, 0⟩] scope pos) spos) (mAsg (mFz (mLook r (mCompP mi mg mc me (own.map (·.2))))) (gSet i)) := by
  obtain ⟨ti, pi, si⟩ := hi
  obtain ⟨t1, p1, s1⟩ := uni_g hg
  obtain ⟨t2, p2, s2⟩ := uni_t ht
  obtain ⟨t3, p3, s3⟩ := uni_e he
  exact ⟨_, ps_setLc hc hN hy hyl hsw pi ok (fun s H C cl fp => p1 ⟨s, H, C, cl, fp⟩) (fun s H C cl fp => p2 ⟨s, H, C, cl, fp⟩) (fun s H C cl fp => p3 ⟨s, H, C, cl, fp⟩) hs, simS_asg (sim_look (i := r) (sim_compP si s1 s2 s3)).fz (simG_name (qq := true) hp)⟩
end
end AM
namespace AM
open PySem PySem.Spec L2 PyProof.Rows
def fInQ (x y : PyData) : Option Bool := match y with
  | .tuple ds => some (ds.any fun z => PyData.eqv z x)
  | _ => none
def gInQ : W × W → Option W := gDD fInQ
def rInQ (K : PySem.W.Frag) : R2 := fun x y H Q => ∃ d ds, Dp K H x d ∧ Dp K H y (.tuple ds) ∧ SeqAt.shaped d = true ∧ SeqAt.shaped (.tuple ds) = true ∧ Q (.bl (ds.any fun z => PyData.eqv z d)) H
section
variable {X : Cx} {b : Expr}
theorem op_inQ (hu : X.A.units + 65 < cLine) : OpR X (compareOp .In) (rInQ X.K) := by
  intro pins s σ H x y v u Q I rx ry h
  obtain ⟨d, ds, hd, he, sd, se, q⟩ := h
  obtain ⟨as, r1⟩ := Dp.reads I d x v hd rx
  obtain ⟨bs, r2⟩ := Dp.reads I (.tuple ds) y u he ry
  exact SeqAt.in_tuple_reads r2 r1 (SeqAt.canLay_of_shaped se) (SeqAt.canLay_of_shaped sd) (room_in_shaped sd hu) ⟨.bl _, H, I, rfl, q⟩
theorem cr_inQ (hu : X.A.units + 65 < cLine) (hm : behindInMarks .In b = false) : CR X .In b gInQ := by
  refine ⟨_, op_inQ hu, ops_DD (G := gx X) fun H x y d e b Q h1 h2 h3 h4 hf q => ?_, hm⟩
  unfold fInQ at hf
  split at hf
  · cases hf
    exact ⟨d, _, h1, h2, h3, h4, q⟩
  · cases hf
end
end AM
namespace AM
open PySem PySem.Spec L2 PyProof.Rows
def ItzTT (K : PySem.W.Frag) (a b : Addr) : It :=
  ⟨fun i H => ∃ (xs ys : List V) (x y : V), SqT K H a xs ∧ SqT K H b ys ∧ xs[i]? = some x ∧ ys[i]? = some y,
    fun i H v H' => ∃ T x y, v = .ref T ∧ H T = none ∧ H' = upd H T (.tup [x, y]) ∧ (∀ xs, SqT K H a xs → xs[i]? = some x) ∧ ∀ ys, SqT K H b ys → ys[i]? = some y,
    fun i H => ∃ xs ys : List V, SqT K H a xs ∧ SqT K H b ys ∧ i = min xs.length ys.length⟩
theorem turn_zipTT {P : Program} {w : World} {K : PySem.W.Frag} {elts : List Expr} {kk : Nat} {tpos : Pos} {a b z TI TO i1 i2 : Addr} (D : ZipSep2 z TI TO i1 i2 [i1, a] [i2, b]) :
    Turn P w K (.Tuple elts kk tpos) (ItzTT K a b) [z, TI, TO, i1, i2] z (fun i h => IsZip h z TI TO .none ∧ IsTupOf2 h TI (.ref i1) (.ref i2) ∧ (∃ x y, IsTupOf2 h TO x y) ∧ h.IsTupleIter i1 a i ∧ h.IsTupleIter i2 b i) where
  mem := by simp
  obj := fun i h st d hd => by
    obtain ⟨hz, hTI, ⟨x, y, hTO⟩, ⟨o1, e1, _, d1⟩, ⟨o2, e2, _, d2⟩⟩ := st
    have e' : d = z ∨ d = TI ∨ d = TO ∨ d = i1 ∨ d = i2 := by simpa using hd
    rcases e' with q | q | q | q | q
    · rw [q]; exact ⟨_, hz, fun v q => nomatch q⟩
    · rw [q]; exact ⟨_, hTI, fun v q => nomatch q⟩
    · rw [q]; exact ⟨_, hTO, fun v q => nomatch q⟩
    · rw [q]; exact ⟨o1, e1, fun v q => by rw [d1] at q; cases q⟩
    · rw [q]; exact ⟨o2, e2, fun v q => by rw [d2] at q; cases q⟩
  keep := fun i h h' st k => by
    obtain ⟨hz, hTI, ⟨x, y, hTO⟩, h1, h2⟩ := st
    exact ⟨k z (by simp) _ hz, k TI (by simp) _ hTI, ⟨x, y, k TO (by simp) _ hTO⟩, h1.at fun o q => k i1 (by simp) o q, h2.at fun o q => k i2 (by simp) o q⟩
  item := by
    intro X hP hw hK hc i pins s σ H E I hf st hg
    subst hP hw hK
    obtain ⟨hz, hTI, ⟨x0, y0, hTO⟩, h1, h2⟩ := st
    obtain ⟨xs, ys, x, y, hqx, hqy, hx, hy⟩ := hg
    obtain ⟨its1, rv1, p1, _⟩ := I.tuple hqx
    obtain ⟨its2, rv2, p2, _⟩ := I.tuple hqy
    obtain ⟨u1, hu1, ru1⟩ := rv1.get hx
    obtain ⟨u2, hu2, ru2⟩ := rv2.get hy
    have hzl : z < s.heap.objs.size := Heap.lt_size hz
    have hh : X.A.handled = none := I.ok.hd hc
    have n1 : a ≠ i1 := fun q => by
      obtain ⟨o1, e1, _, d1⟩ := h1
      obtain ⟨o, e, _, _, d⟩ := p1
      rw [q, e1] at e; cases e; rw [d1] at d; cases d
    have n2 : b ≠ i2 := fun q => by
      obtain ⟨o1, e1, _, d1⟩ := h2
      obtain ⟨o, e, _, _, d⟩ := p2
      rw [q, e1] at e; cases e; rw [d1] at d; cases d
    have l1 : i < its1.toArray.size := by have := (List.getElem?_eq_some_iff.mp hu1).1; simpa using this
    have l2 : i < its2.toArray.size := by have := (List.getElem?_eq_some_iff.mp hu2).1; simpa using this
    refine wpAny_pyNext_zipD2_item D (Draws.tuple (A := X.A.in1) hh i1 a n1 its1.toArray) (Draws.tuple (A := X.A.in1) hh i2 b n2 its2.toArray) hz hTI hTO ⟨h1, p1⟩ ⟨h2, p2⟩ l1 l2 fun w1 w2 h' tk y1 y2 z' TO' h1' h2' hT hsz hk => ?_
    obtain rfl : u1 = w1 := by simpa [hu1] using y1
    obtain rfl : u2 = w2 := by simpa [hu2] using y2
    refine ⟨_, rfl, wpAny_letOwnedTupleGo_zip (s := { s with heap := h', toks := tk }) z' fun h'' z'' sb => ?_⟩
    have hT2 : h''.get? s.heap.objs.size = some { cls := .type "tuple", data := .seq #[u1, u2] } := (sb.2 _ (Nat.ne_of_gt hzl)).trans hT
    have new : ObjOk X.prog X.w (upd H s.heap.objs.size (.tup [x, y])) h'' s.heap.objs.size (.tup [x, y]) :=
      ⟨by show 2 ≤ sizeLine; decide, [u1, u2], .cons ru1 (.cons ru2 .nil), ⟨_, hT2, rfl, _, rfl⟩⟩
    have I1 : Inv X pins σ (upd H s.heap.objs.size (.tup [x, y])) { s with heap := h'', toks := tk } :=
      I.turnedNew (t' := tk) (ch := [z, TI, TO, i1, i2]) (fun d o hb q => (sb.2 d (fun q' => hb (by simp [q']))).trans (hk d o (fun q' => hb (by simp [q'])) (fun q' => hb (by simp [q'])) (fun q' => hb (by simp [q'])) (fun q' => hb (by simp [q'])) q)) hf (Nat.le_refl _) new
    have zi1 : i1 ≠ z := fun q => D.zf1 (by simp [q])
    have zi2 : i2 ≠ z := fun q => D.zf2 (by simp [q])
    refine ⟨.ref s.heap.objs.size, _, I1, rfl, ⟨_, x, y, rfl, I.hok.fresh (Nat.le_refl _), rfl, fun l hl => by rw [I.tuple_inj hl hqx]; exact hx, fun l hl => by rw [I.tuple_inj hl hqy]; exact hy⟩, ⟨z'', ?_, ⟨u1, u2, ?_⟩, ?_, ?_⟩, fun d hd => ?_⟩
    · exact (sb.2 _ D.TIz).trans (hk _ _ D.TIz D.TITO D.TIi1 D.TIi2 hTI)
    · exact (sb.2 _ D.TOz).trans TO'
    · exact h1'.1.at fun o q => (sb.2 _ zi1).trans q
    · exact h2'.1.at fun o q => (sb.2 _ zi2).trans q
    · have hlt : d < s.heap.objs.size := by
        have e' : d = z ∨ d = TI ∨ d = TO ∨ d = i1 ∨ d = i2 := by simpa using hd
        rcases e' with q | q | q | q | q
        · rw [q]; exact hzl
        · rw [q]; exact Heap.lt_size hTI
        · rw [q]; exact Heap.lt_size hTO
        · rw [q]; obtain ⟨_, e1, _⟩ := h1; exact Heap.lt_size e1
        · rw [q]; obtain ⟨_, e2, _⟩ := h2; exact Heap.lt_size e2
      rw [upd_ne (Nat.ne_of_lt hlt)]
      exact (hf d hd).1
  done := by
    intro X hP hw hK hc i pins s σ H E I hf st hg
    subst hP hw hK
    obtain ⟨hz, hTI, ⟨x0, y0, hTO⟩, h1, h2⟩ := st
    obtain ⟨xs, ys, hqx, hqy, hend⟩ := hg
    obtain ⟨its1, rv1, p1, _⟩ := I.tuple hqx
    obtain ⟨its2, rv2, p2, _⟩ := I.tuple hqy
    have l1 := rv1.length
    have l2 := rv2.length
    have hh : X.A.handled = none := I.ok.hd hc
    have n1 : a ≠ i1 := fun q => by
      obtain ⟨o1, e1, _, d1⟩ := h1
      obtain ⟨o, e, _, _, d⟩ := p1
      rw [q, e1] at e; cases e; rw [d1] at d; cases d
    have n2 : b ≠ i2 := fun q => by
      obtain ⟨o1, e1, _, d1⟩ := h2
      obtain ⟨o, e, _, _, d⟩ := p2
      rw [q, e1] at e; cases e; rw [d1] at d; cases d
    exact wpAny_pyNext_zipD2_end D (Draws.tuple (A := X.A.in1) hh i1 a n1 its1.toArray) (Draws.tuple (A := X.A.in1) hh i2 b n2 its2.toArray) hz hTI hTO ⟨h1, p1⟩ ⟨h2, p2⟩
      (by simp; omega) (by simp; omega) (by simp; omega) fun h' tk hk => ⟨rfl, I.turnedL (t' := tk) (ch := [z, TI, TO, i1, i2]) (fun d o hb q =>
      hk d o (fun q' => hb (by simp [q'])) (fun q' => hb (by simp [q'])) (fun q' => hb (by simp [q'])) (fun q' => hb (by simp [q'])) q) hf⟩
  self := fun A i s Q E st h => wpAny_pyIter_zip st.1 h
def iZipQ (K : PySem.W.Frag) (ta : TA) : TI := fun σ H R => ta σ H fun vs H1 => ∃ a b xs ys, vs = [.ref a, .ref b] ∧ ((SqL K H1 a xs ∧ SqL K H1 b ys ∧ R (Itz K a b) H1) ∨ (SqT K H1 a xs ∧ SqT K H1 b ys ∧ R (ItzTT K a b) H1))
theorem pi_zipQ {X : Cx} {e e2 : Expr} {ta : TA} {p pos tpos : Pos} {elts : List Expr} {kk : Nat} (hg : Gl X "zip") (hm : X.mg "zip" = none) (ha : PA X [e, e2] ta)
    (hs : starEach [e, e2] X.env = (false, eval e X.env) :: starEach [e2] X.env := by rfl) (hpl : (backTo pos (starEach [e2] X.env)).any (·.1) = false := by rfl) :
    PI X (.Tuple elts kk tpos) (.Call (.Name "zip" p) [e, e2] [] pos) (iZipQ X.K ta) := by
  refine ⟨fun pins s σ H R I h => ?_⟩
  refine Call_ (ld_blt I hg hm PyProof.Rows.boot_zip (PyProof.Rows.callWith_type1 (thn (ha.run pos pins s σ H _ I h) fun us s1 ⟨vs, H1, I1, r1, q1⟩ => ?_) hs hpl))
  obtain ⟨a, b, xs, ys, ex, q1⟩ := q1
  subst ex
  cases r1 with
  | cons r rr =>
    cases rr with
    | cons r' rr =>
      cases rr
      cases r
      cases r'
      have fr : ∀ d, d ∈ [s1.heap.objs.size + 4, s1.heap.objs.size + 2, s1.heap.objs.size + 3, s1.heap.objs.size, s1.heap.objs.size + 1] → s1.heap.objs.size ≤ d := fun d hd => by
        have e' : d = s1.heap.objs.size + 4 ∨ d = s1.heap.objs.size + 2 ∨ d = s1.heap.objs.size + 3 ∨ d = s1.heap.objs.size ∨ d = s1.heap.objs.size + 1 := by simpa using hd
        rcases e' with z | z | z | z | z
        · rw [z]; exact Nat.le_add_right _ _
        · rw [z]; exact Nat.le_add_right _ _
        · rw [z]; exact Nat.le_add_right _ _
        · rw [z]; exact Nat.le_refl _
        · rw [z]; exact Nat.le_add_right _ _
      rcases q1 with ⟨hqx, hqy, q⟩ | ⟨hqx, hqy, q⟩
      · obtain ⟨its, rv, p1, _⟩ := I1.list hqx
        obtain ⟨its2, rv2, p2, _⟩ := I1.list hqy
        have la : a < s1.heap.objs.size := p1.lt
        have lb : b < s1.heap.objs.size := p2.lt
        refine call_zip_2 p1.isList p2.isList fun h' hz hTI hTO h1 h2 hsz hk => wpAny_pyIter_zip hz ?_
        have I2 : Inv X pins σ H1 { s1 with heap := h' } := I1.kept (t' := s1.toks) hk
        exact ⟨s1.heap.objs.size + 4, [s1.heap.objs.size + 4, s1.heap.objs.size + 2, s1.heap.objs.size + 3, s1.heap.objs.size, s1.heap.objs.size + 1], _, _, H1, rfl, I2, turn_zip (PySem.W.ktu_apart s1.heap.objs.size a b la lb), ⟨hz, hTI, ⟨_, _, hTO⟩, h1, h2⟩, fun c hcm => I1.fpOk (fr c hcm) (I1.hok.fresh (fr c hcm)), q⟩
      · obtain ⟨its1, rv1, p1, _⟩ := I1.tuple hqx
        obtain ⟨its2, rv2, p2, _⟩ := I1.tuple hqy
        have la : a < s1.heap.objs.size := by
          obtain ⟨o, e, _⟩ := p1
          exact Heap.lt_size e
        have lb : b < s1.heap.objs.size := by
          obtain ⟨o, e, _⟩ := p2
          exact Heap.lt_size e
        refine zip_begins2 (begins_tuple a its1.toArray) (begins_tuple b its2.toArray) p1 p2 fun h' hz hTI hTO h1 h2 hsz hk => wpAny_pyIter_zip hz ?_
        have I2 : Inv X pins σ H1 { s1 with heap := h' } := I1.kept (t' := s1.toks) hk
        exact ⟨s1.heap.objs.size + 4, [s1.heap.objs.size + 4, s1.heap.objs.size + 2, s1.heap.objs.size + 3, s1.heap.objs.size, s1.heap.objs.size + 1], _, _, H1, rfl, I2, turn_zipTT (zip_sep2 (fp1 := [a]) (fp2 := [b]) (fun x hx => by rw [List.mem_singleton.mp hx]; exact la) (fun x hx => by rw [List.mem_singleton.mp hx]; exact lb)), ⟨hz, hTI, ⟨_, _, hTO⟩, ⟨_, h1, rfl, rfl⟩, ⟨_, h2, rfl, rfl⟩⟩, fun c hcm => I1.fpOk (fr c hcm) (I1.hok.fresh (fr c hcm)), q⟩
theorem walk_zipTT {K : PySem.W.Frag} {a b : Addr} {xs ys : List V} {n : Nat} (hn : n = min xs.length ys.length) : Walk (ItzTT K a b) n (fun H => SqT K H a xs ∧ SqT K H b ys) (YPair (fun i => xs[i]?) (fun i => ys[i]?)) := by
  subst hn
  refine ⟨fun i _ hi q => ?_, fun _ q => ⟨xs, ys, q.1, q.2, rfl⟩, fun i H v H' _ q y => ?_⟩
  · have h1 : i < xs.length := by omega
    have h2 : i < ys.length := by omega
    exact ⟨xs, ys, xs[i], ys[i], q.1, q.2, by simp [h1], by simp [h2]⟩
  · obtain ⟨T, x, z, h1, h2, h3, h4, h5⟩ := y
    exact ⟨T, x, z, h1, h2, h3, h4 xs q.1, h5 ys q.2⟩
def gZipQ (as : List W) : Option (List D) := match as with
  | [a, b] => match wEls a, wEls b with
    | some xs, some ys => some ((xs.zip ys).map fun p => .tup [p.1, p.2])
    | _, _ => match wTEls a, wTEls b with
      | some xs, some ys => some ((xs.zip ys).map fun p => .tup [p.1, p.2])
      | _, _ => none
  | _ => none
section
variable {G : GX} {Wx : WX} {p : Bool} {ta : TA} {ma : ME (List W)}
theorem simI_zipQ (h : Sim G true p Wx (rWs G) ta ma) : SimI G p Wx (iZipQ G.K ta) (mItR gZipQ ma) := by
  refine simI_lst (R := fun H vs Q => ∃ a b xs ys, vs = [.ref a, .ref b] ∧ ((SqL G.K H a xs ∧ SqL G.K H b ys ∧ Q (Itz G.K a b) H) ∨ (SqT G.K H a xs ∧ SqT G.K H b ys ∧ Q (ItzTT G.K a b) H))) h fun B H ws vs f ds s o r e => ?_
  unfold gZipQ at e
  split at e
  · rename_i w1 w2
    split at e
    · rename_i es1 es2 e1 e2
      cases e
      obtain ⟨v, z, f1, f2, rfl, r1, r2, rfl⟩ := rel2 r
      obtain ⟨a, xs, rfl, ha, hr1⟩ := wEls_grd s (fun q hq => o q (by simp [hq])) r1 e1
      obtain ⟨b, ys, rfl, hb, hr2⟩ := wEls_grd s (fun q hq => o q (by simp [hq])) r2 e2
      have hg1 := ha (f1 ++ f2) (fun _ h => by simp [h]) o
      have hg2 := hb (f1 ++ f2) (fun _ h => by simp [h]) o
      refine ⟨Itz G.K a b, ⟨_, _, walk_zip (xs := xs) (ys := ys) (by rw [List.length_map, List.length_zip, repDs_length hr1, repDs_length hr2]), fun H2 s2 => ⟨SqL.of (s2 _ _ hg1), SqL.of (s2 _ _ hg2)⟩, fun i H2 x H3 hi _ y => ?_⟩, fun Q q => ⟨a, b, xs, ys, rfl, .inl ⟨SqL.of (grd_sub s _ _ hg1), SqL.of (grd_sub s _ _ hg2), q⟩⟩⟩
      obtain ⟨T, x1, x2, rfl, nT, rfl, h1, h2⟩ := y
      obtain ⟨d1, hd1, rd1⟩ := repDs_yd hr1 h1
      obtain ⟨d2, hd2, rd2⟩ := repDs_yd hr2 h2
      refine ⟨.tup [d1, d2], ?_, .inr ⟨T, _, _, rfl, nT, rfl, rfl, ?_⟩⟩
      · rw [List.getElem?_map, (List.getElem?_zip_eq_some (z := (d1, d2))).mpr ⟨hd1, hd2⟩]
        rfl
      · simp only [repDs]
        exact ⟨_, _, rfl, repD_mono (grd_bext o) rd1, _, _, rfl, repD_mono (grd_bext o) rd2, rfl⟩
    · split at e
      · rename_i es1 es2 e1 e2
        cases e
        obtain ⟨v, z, f1, f2, rfl, r1, r2, rfl⟩ := rel2 r
        unfold wTEls at e1 e2
        split at e1
        · cases e1
          split at e2
          · cases e2
            simp only [relW, repD] at r1 r2
            obtain ⟨⟨a, xs, rfl, ha, hr1⟩, rfl⟩ := r1
            obtain ⟨⟨b, ys, rfl, hb, hr2⟩, rfl⟩ := r2
            have hg1 := sqT_of_same (grd_bext (H := H) o) ha
            have hg2 := sqT_of_same (grd_bext (H := H) o) hb
            refine ⟨ItzTT G.K a b, ⟨_, _, walk_zipTT (xs := xs) (ys := ys) (by rw [List.length_map, List.length_zip, repDs_length hr1, repDs_length hr2]), fun H2 s2 => ⟨sqT_of_same s2 hg1, sqT_of_same s2 hg2⟩, fun i H2 x H3 hi _ y => ?_⟩, fun Q q => ⟨a, b, xs, ys, rfl, .inr ⟨sqT_of_same s ha, sqT_of_same s hb, q⟩⟩⟩
            obtain ⟨T, x1, x2, rfl, nT, rfl, h1, h2⟩ := y
            obtain ⟨d1, hd1, rd1⟩ := repDs_yd hr1 h1
            obtain ⟨d2, hd2, rd2⟩ := repDs_yd hr2 h2
            refine ⟨.tup [d1, d2], ?_, .inr ⟨T, _, _, rfl, nT, rfl, rfl, ?_⟩⟩
            · rw [List.getElem?_map, (List.getElem?_zip_eq_some (z := (d1, d2))).mpr ⟨hd1, hd2⟩]
              rfl
            · simp only [repDs]
              exact ⟨_, _, rfl, repD_mono (grd_bext o) rd1, _, _, rfl, repD_mono (grd_bext o) rd2, rfl⟩
          · cases e2
        · cases e1
      · cases e
  · cases e
end
section
variable {X : Cx} {Wx : WX} {k p : Bool} {a b c : Expr} {ma : ME (List W)} {pp pos tpos : Pos} {elts : List Expr} {kk : Nat}
theorem si_zipQ (hg : Gl X "zip") (hm : X.mg "zip" = none) (ha : SA X Wx true p [a, b] ma) (hs : starEach [a, b] X.env = (false, eval a X.env) :: starEach [b] X.env := by rfl) (hpl : (backTo pos (starEach [b] X.env)).any (·.1) = false := by rfl) : SI X Wx p (.Tuple elts kk tpos) (.Call (.Name "zip" pp) [a, b] [] pos) (mItR gZipQ ma) := by
  obtain ⟨t, pa, s⟩ := ha
  exact ⟨_, pi_zipQ hg hm pa hs hpl, simI_zipQ s⟩
end
end AM
set_option maxHeartbeats 4000000
namespace LW
open PySem L2 AM
def b_show_numbers : MS :=
    (mRet (mMs gJoin (mC (.str " ")) (mCons (mCompP (mItL (mVarS 0)) (gSet 1) (ME.pure true) (mBi gStr (mCons (mVarS 1) mNil)) [1]) mNil)))
def m_show_numbers : MF := fnM 1 2 [0] (b_show_numbers)
def b_show_bar : MS :=
    (mRet (mOp2 gAdd (mOp2 gAdd (mOp2 gAdd (mC (.str "bar ")) (mK0 m_show_numbers (wOwn (mVarS 0) wNil))) (mC (.str " by "))) (mK0 m_show_numbers (wOwn (mVarS 1) wNil))))
def m_show_bar : MF := fnM 2 2 [0, 1] (b_show_bar)
def b_show_row : MS :=
    (mSeq (mAsg (mVarS 0) (gUn 3 (gsCons (gSet 2) (gsCons (gSet 3) (gsCons (gSet 4) gsNil)))))
    (mSeq (mAsg (mFz (mOp2 gAdd (mOp2 gAdd (mK0 m_show_numbers (wOwn (mVarS 2) wNil)) (mC (.str " is "))) (mBi gStr (mCons (mVarS 3) mNil)))) (gSet 1))
    (mSeq (mIfS (mB (mOp2 gEq (mVarS 4) (mLst mNil))) (mRet (mVarS 1)) mNx)
    (mRet (mOp2 gAdd (mOp2 gAdd (mVarS 1) (mC (.str ": "))) (mMs gJoin (mC (.str ", ")) (mCons (mCompP (mItL (mVarS 4)) (gUn 2 (gsCons (gSet 5) (gsCons (gSet 6) gsNil))) (ME.pure true) (mOp2 gAdd (mOp2 gAdd (mK0 m_show_numbers (wOwn (mVarS 5) wNil)) (mC (.str " to "))) (mBi gStr (mCons (mVarS 6) mNil))) [5, 6]) mNil)))))))
def m_show_row : MF := fnM 1 7 [0] (b_show_row)
def b_show_paper : MS :=
    (mSeq (mAsg (mFz (mIx (mVarS 0) (mC (.int 0)))) (gSet 1))
    (mSeq (mIfS (mAnd (mB (mOp2 gEq (mBi gLen (mCons (mVarS 0) mNil)) (mC (.int 1)))) (mB (mOp1 (gIs "str") (mVarS 1)))) (mRet (mVarS 1)) mNx)
    (mSeq (mIfS (mB (mOp2 gEq (mBi gLen (mCons (mVarS 0) mNil)) (mC (.int 1)))) (mRet (mOp2 gAdd (mC (.str "times ")) (mK0 m_show_numbers (wOwn (mVarS 1) wNil)))) mNx)
    (mSeq (mIfS (mAnd (mB (mOp2 gEq (mBi gLen (mCons (mVarS 0) mNil)) (mC (.int 2)))) (mB (mOp1 (gIs "list") (mVarS 1)))) (mRet (mK0 m_show_bar (wOwn (mVarS 1) (wOwn (mFz (mIx (mVarS 0) (mC (.int 1)))) wNil)))) mNx)
    (mSeq (mIfS (mB (mOp2 gEq (mBi gLen (mCons (mVarS 0) mNil)) (mC (.int 2)))) (mRet (mOp2 gAdd (mOp2 gAdd (mOp2 gAdd (mC (.str "mod ")) (mBi gStr (mCons (mVarS 1) mNil))) (mC (.str " by "))) (mK0 m_show_numbers (wOwn (mFz (mIx (mVarS 0) (mC (.int 1)))) wNil)))) mNx)
    (mSeq (mIfS (mB (mOp1 (gIs "str") (mVarS 1))) (mRet (mMs gJoin (mC (.str "; ")) (mCons (mOp2 gAdd (mLst (mCons (mOp2 gAdd (mC (.str "rows ")) (mK0 m_show_numbers (wOwn (mFz (mIx (mVarS 0) (mC (.int 1)))) wNil))) mNil)) (mCompP (mItL (mIx (mVarS 0) (mC (.int 2)))) (gSet 2) (ME.pure true) (mK0 m_show_row (wOwn (mVarS 2) wNil)) [2])) mNil))) mNx)
    (mRet (mOp2 gAdd (mOp2 gAdd (mOp2 gAdd (mC (.str "loss ")) (mK0 m_show_numbers (wOwn (mVarS 1) wNil))) (mC (.str " "))) (mK0 m_show_bar (wOwn (mFz (mIx (mVarS 0) (mC (.int 1)))) (wOwn (mFz (mIx (mVarS 0) (mC (.int 2)))) wNil)))))))))))
def m_show_paper : MF := fnM 1 3 [0] (b_show_paper)
def b__law_numbers_text : MS :=
    (mRet (mMs gJoin (mC (.str " ")) (mCons (mCompP (mItL (mVarS 0)) (gSet 1) (ME.pure true) (mBi gStr (mCons (mVarS 1) mNil)) [1]) mNil)))
def m__law_numbers_text : MF := fnM 1 2 [0] (b__law_numbers_text)
def b__law_row_text : MS :=
    (mSeq (mAsg (mFz (mOp2 gAdd (mOp2 gAdd (mOp2 gAdd (mC (.str "; ")) (mK0 m__law_numbers_text (wOwn (mFz (mIx (mVarS 0) (mC (.int 0)))) wNil))) (mC (.str " is "))) (mBi gStr (mCons (mIx (mVarS 0) (mC (.int 1))) mNil)))) (gSet 1))
    (mSeq (mIfS (mB (mOp2 gEq (mIx (mVarS 0) (mC (.int 2))) (mLst mNil))) (mRet (mVarS 1)) mNx)
    (mRet (mOp2 gAdd (mOp2 gAdd (mVarS 1) (mC (.str ": "))) (mMs gJoin (mC (.str ", ")) (mCons (mCompP (mItL (mIx (mVarS 0) (mC (.int 2)))) (gUn 2 (gsCons (gSet 2) (gsCons (gSet 3) gsNil))) (ME.pure true) (mOp2 gAdd (mOp2 gAdd (mK0 m__law_numbers_text (wOwn (mVarS 2) wNil)) (mC (.str " to "))) (mBi gStr (mCons (mVarS 3) mNil))) [2, 3]) mNil))))))
def m__law_row_text : MF := fnM 1 4 [0] (b__law_row_text)
def b__law_bar_text : MS :=
    (mRet (mOp2 gAdd (mOp2 gAdd (mOp2 gAdd (mC (.str "bar ")) (mK0 m__law_numbers_text (wOwn (mVarS 0) wNil))) (mC (.str " by "))) (mK0 m__law_numbers_text (wOwn (mVarS 1) wNil))))
def m__law_bar_text : MF := fnM 2 2 [0, 1] (b__law_bar_text)
def b__law_paper_text : MS :=
    (mSeq (mAsg (mFz (mIx (mVarS 0) (mC (.int 0)))) (gSet 1))
    (mSeq (mIfS (mB (mOp2 gInQ (mVarS 1) (mTup (mCons (mC (.str "any")) (mCons (mC (.str "sum")) mNil))))) (mRet (mVarS 1)) mNx)
    (mSeq (mIfS (mB (mOp2 gEq (mVarS 1) (mC (.str "rows")))) (mRet (mOp2 gAdd (mOp2 gAdd (mC (.str "rows ")) (mK0 m__law_numbers_text (wOwn (mFz (mIx (mVarS 0) (mC (.int 1)))) wNil))) (mMs gJoin (mC (.str "")) (mCons (mCompP (mItL (mIx (mVarS 0) (mC (.int 2)))) (gSet 2) (ME.pure true) (mK0 m__law_row_text (wOwn (mVarS 2) wNil)) [2]) mNil)))) mNx)
    (mSeq (mIfS (mB (mOp2 gEq (mBi gLen (mCons (mVarS 0) mNil)) (mC (.int 1)))) (mRet (mOp2 gAdd (mC (.str "times ")) (mK0 m__law_numbers_text (wOwn (mVarS 1) wNil)))) mNx)
    (mSeq (mIfS (mB (mOp2 gEq (mBi gLen (mCons (mVarS 0) mNil)) (mC (.int 3)))) (mRet (mOp2 gAdd (mOp2 gAdd (mOp2 gAdd (mC (.str "loss ")) (mK0 m__law_numbers_text (wOwn (mVarS 1) wNil))) (mC (.str " "))) (mK0 m__law_bar_text (wOwn (mFz (mIx (mVarS 0) (mC (.int 1)))) (wOwn (mFz (mIx (mVarS 0) (mC (.int 2)))) wNil))))) mNx)
    (mSeq (mIfS (mB (mOp1 (gIs "list") (mVarS 1))) (mRet (mK0 m__law_bar_text (wOwn (mVarS 1) (wOwn (mFz (mIx (mVarS 0) (mC (.int 1)))) wNil)))) mNx)
    (mRet (mOp2 gAdd (mOp2 gAdd (mOp2 gAdd (mC (.str "mod ")) (mBi gStr (mCons (mVarS 1) mNil))) (mC (.str " by "))) (mK0 m__law_numbers_text (wOwn (mFz (mIx (mVarS 0) (mC (.int 1)))) wNil))))))))))
def m__law_paper_text : MF := fnM 1 3 [0] (b__law_paper_text)
def b__law_long_text : MS :=
    (mSeq (mAsg (mFz (mCompP (mItR gRg1 (mCons (mC (.int 60)) mNil)) (gSet 3) (ME.pure true) (mTup (mCons (mOp2 gMul (mLst (mCons (mC (.int 1)) mNil)) (mC (.int 6))) (mCons (mC (.int 2)) (mCons (mCompP (mItR gRg1 (mCons (mC (.int 6)) mNil)) (gSet 4) (ME.pure true) (mTup (mCons (mLst (mCons (mVarS 3) (mCons (mC (.int 0)) (mCons (mC (.int 0)) (mCons (mC (.int 0)) (mCons (mC (.int 0)) (mCons (mOp2 gSub (mC (.int 0)) (mVarS 3)) mNil))))))) (mCons (mVarS 3) mNil))) [4]) mNil)))) [3])) (gSet 0))
    (mSeq (mAsg (mFz (mTup (mCons (mC (.str "rows")) (mCons (mOp2 gMul (mLst (mCons (mC (.int 0)) mNil)) (mC (.int 6))) (mCons (mVarS 0) mNil))))) (gSet 1))
    (mSeq (mAsg (mBi gStrY (mCons (mVarS 1) mNil)) (gSet 2))
    (mRet (mAndV (mOp2 gEq (mK0 m_show_paper (wOwn (mVarS 1) wNil)) (mK0 m__law_paper_text (wOwn (mVarS 1) wNil))) (mOp2 gEq (mBi gStrY (mCons (mVarS 1) mNil)) (mVarS 2)))))))
def m__law_long_text : MF := fnM 0 5 [] (b__law_long_text)
def b_number_in : MS :=
    (mSeq (mAsg (mFz (mIf (mB (mOp2 gEq (mSl (mVarS 0) mNoPart (mPart (mC (.int 1)))) (mC (.str "-")))) (mFz (mSl (mVarS 0) (mPart (mC (.int 1))) mNoPart)) (mVarS 0))) (gSet 1))
    (mSeq (mIfS (mOr (mB (mOp2 gEq (mVarS 1) (mC (.str "")))) (mOr (mB (mOp2 gGt (mBi gLen (mCons (mVarS 1) mNil)) (mC (.int 40)))) (mAnd (mB (mOp2 gEq (mIx (mVarS 1) (mC (.int 0))) (mC (.str "0")))) (mB (mOp2 gNe (mVarS 0) (mC (.str "0"))))))) (mRaise "NoText") mNx)
    (mSeq (mFor (mItS (mVarS 1)) (gSet 2) (mIfS (mB (mOp2 gNotInC (mVarS 2) (mC (.str "0123456789")))) (mRaise "NoText") mNx))
    (mRet (mBi gToInt (mCons (mVarS 0) mNil))))))
def m_number_in : MF := fnM 1 3 [0] (b_number_in)
def b_numbers_in : MS :=
    (mSeq (mAsg (mFz (mMs gSplit (mVarS 0) (mCons (mC (.str " ")) mNil))) (gSet 1))
    (mSeq (mIfS (mB (mOp2 gGt (mBi gLen (mCons (mVarS 1) mNil)) (mC (.int 6)))) (mRaise "NoText") mNx)
    (mRet (mCompX (mItL (mVarS 1)) (gSet 2) (ME.pure true) (mK0 m_number_in (wOwn (mVarS 2) wNil)) [2]))))
def m_numbers_in : MF := fnM 1 3 [0] (b_numbers_in)
def b_halves : MS :=
    (mSeq (mAsg (mFz (mMs gSplit (mVarS 0) (mCons (mVarS 1) mNil))) (gSet 2))
    (mSeq (mIfS (mB (mOp2 gNe (mBi gLen (mCons (mVarS 2) mNil)) (mC (.int 2)))) (mRaise "NoText") mNx)
    (mRet (mTup (mCons (mIx (mVarS 2) (mC (.int 0))) (mCons (mIx (mVarS 2) (mC (.int 1))) mNil))))))
def m_halves : MF := fnM 2 3 [0, 1] (b_halves)
def b_number_from : MS :=
    (mSeq (mAsg (mK0 m_number_in (wOwn (mVarS 0) wNil)) (gSet 2))
    (mSeq (mIfS (mB (mOp2 gLt (mVar 2) (mVarS 1))) (mRaise "NoText") mNx)
    (mRet (mMov 2))))
def m_number_from : MF := fnM 2 3 [0, 1] (b_number_from)
def b_numbers_from : MS :=
    (mSeq (mAsg (mK0 m_numbers_in (wOwn (mVarS 0) wNil)) (gSet 1))
    (mSeq (mIfS (mB (mOp2 gLt (mBi gMin (mCons (mVar 1) mNil)) (mC (.int 0)))) (mRaise "NoText") mNx)
    (mRet (mMov 1))))
def m_numbers_from : MF := fnM 1 2 [0] (b_numbers_from)
def b_bar_in : MS :=
    (mSeq (mAsg (mFz (mK0 m_halves (wOwn (mVarS 0) (wOwn (mC (.str " by ")) wNil)))) (gUn 2 (gsCons (gSet 1) (gsCons (gSet 2) gsNil))))
    (mRet (mTup (mCons (mK0 m_numbers_in (wOwn (mVarS 1) wNil)) (mCons (mK0 m_numbers_from (wOwn (mVarS 2) wNil)) mNil)))))
def m_bar_in : MF := fnM 1 3 [0] (b_bar_in)
def b_lead_in : MS :=
    (mSeq (mAsg (mFz (mK0 m_halves (wOwn (mVarS 0) (wOwn (mC (.str " to ")) wNil)))) (gUn 2 (gsCons (gSet 1) (gsCons (gSet 2) gsNil))))
    (mRet (mTup (mCons (mK0 m_numbers_in (wOwn (mVarS 1) wNil)) (mCons (mK0 m_number_from (wOwn (mVarS 2) (wOwn (mC (.int 0)) wNil))) mNil)))))
def m_lead_in : MF := fnM 1 3 [0] (b_lead_in)
def b_row_in : MS :=
    (mSeq (mAsg (mFz (mMs gPart (mVarS 0) (mCons (mC (.str ": ")) mNil))) (gUn 3 (gsCons (gSet 2) (gsCons (gSet 3) (gsCons (gSet 4) gsNil)))))
    (mSeq (mAsg (mFz (mK0 m_halves (wOwn (mVarS 2) (wOwn (mC (.str " is ")) wNil)))) (gUn 2 (gsCons (gSet 5) (gsCons (gSet 6) gsNil))))
    (mSeq (mAsg (mLst mNil) (gSet 1))
    (mSeq (mIfS (mB (mOp2 gNe (mVarS 3) (mC (.str "")))) (mAsg (mCompX (mItL (mFz (mMs gSplit (mVarS 4) (mCons (mC (.str ", ")) mNil)))) (gSet 7) (ME.pure true) (mK0 m_lead_in (wOwn (mVarS 7) wNil)) [7]) (gSet 1)) mNx)
    (mSeq (mIfS (mB (mOp2 gGt (mBi gLen (mCons (mVar 1) mNil)) (mC (.int 6)))) (mRaise "NoText") mNx)
    (mRet (mTup (mCons (mK0 m_numbers_in (wOwn (mVarS 5) wNil)) (mCons (mK0 m_number_from (wOwn (mVarS 6) (wOwn (mC (.int 0)) wNil))) (mCons (mMov 1) mNil))))))))))
def m_row_in : MF := fnM 1 8 [0] (b_row_in)
def b_read_paper : MS :=
    (mSeq (mIfS (mB (mOp2 gIn (mVarS 0) (mTup (mCons (mC (.str "any")) (mCons (mC (.str "sum")) mNil))))) (mRet (mTup (mCons (mVarS 0) mNil))) mNx)
    (mSeq (mAsg (mFz (mMs gPart (mVarS 0) (mCons (mC (.str " ")) mNil))) (gUn 3 (gsCons (gSet 2) (gsCons (gSet 3) (gsCons (gSet 4) gsNil)))))
    (mSeq (mIfS (mB (mOp2 gEq (mVarS 2) (mC (.str "times")))) (mRet (mTup (mCons (mK0 m_numbers_in (wOwn (mVarS 4) wNil)) mNil))) mNx)
    (mSeq (mIfS (mB (mOp2 gEq (mVarS 2) (mC (.str "mod")))) (mSeq (mAsg (mFz (mK0 m_halves (wOwn (mVarS 4) (wOwn (mC (.str " by ")) wNil)))) (gUn 2 (gsCons (gSet 5) (gsCons (gSet 6) gsNil))))
    (mRet (mTup (mCons (mK0 m_number_from (wOwn (mVarS 5) (wOwn (mC (.int 0)) wNil))) (mCons (mK0 m_numbers_in (wOwn (mVarS 6) wNil)) mNil))))) mNx)
    (mSeq (mIfS (mB (mOp2 gEq (mVarS 2) (mC (.str "bar")))) (mRet (mK0 m_bar_in (wOwn (mVarS 4) wNil))) mNx)
    (mSeq (mIfS (mB (mOp2 gEq (mVarS 2) (mC (.str "loss")))) (mSeq (mAsg (mFz (mK0 m_halves (wOwn (mVarS 4) (wOwn (mC (.str " bar ")) wNil)))) (gUn 2 (gsCons (gSet 7) (gsCons (gSet 8) gsNil))))
    (mSeq (mAsg (mK0 m_bar_in (wOwn (mVarS 8) wNil)) (gUn 2 (gsCons (gSet 9) (gsCons (gSet 10) gsNil))))
    (mRet (mTup (mCons (mK0 m_numbers_from (wOwn (mVarS 7) wNil)) (mCons (mMov 9) (mCons (mMov 10) mNil))))))) mNx)
    (mSeq (mIfS (mB (mOp2 gNe (mVarS 2) (mC (.str "rows")))) (mRaise "NoText") mNx)
    (mSeq (mAsg (mFz (mMs gSplit (mVarS 4) (mCons (mC (.str "; ")) mNil))) (gSet 1))
    (mRet (mTup (mCons (mC (.str "rows")) (mCons (mK0 m_numbers_in (wOwn (mFz (mIx (mVarS 1) (mC (.int 0)))) wNil)) (mCons (mCompX (mItL (mSl (mVarS 1) (mPart (mC (.int 1))) mNoPart)) (gSet 11) (ME.pure true) (mK0 m_row_in (wOwn (mVarS 11) wNil)) [11]) mNil)))))))))))))
def m_read_paper : MF := fnM 1 12 [0] (b_read_paper)
def b__law_whole : MS :=
    (mRet (mAndV (mOp1 (gIs "int") (mVarS 0)) (mOp1 gNotV (mOp1 (gIs "bool") (mVarS 0)))))
def m__law_whole : MF := fnM 1 1 [0] (b__law_whole)
def b__law_kinds (rec__law_kinds : MF) : MS :=
    (mSeq (mIfS (mB (mOp1 (gIs2 "list" "tuple") (mVarS 1))) (mSeq (mIfS (mOr (mB (mOp2 gNe (mOp1 (gIs "list") (mVarS 0)) (mOp1 (gIs "list") (mVarS 1)))) (mNot (mB (mOp1 (gIs2 "list" "tuple") (mVarS 0))))) (mRet (mC (.bl false))) mNx)
    (mRet (mOp2 gEq (mCompP (mItR gZipQ (mCons (mVarS 0) (mCons (mVarS 1) mNil))) (gUn 2 (gsCons (gSet 2) (gsCons (gSet 3) gsNil))) (mNot (mB (mK0 rec__law_kinds (wOwn (mVarS 2) (wOwn (mVarS 3) wNil))))) (mC (.int 1)) [2, 3]) (mLst mNil)))) mNx)
    (mRet (mAndV (mOp2 gEq (mOp1 (gIs "str") (mVarS 0)) (mOp1 (gIs "str") (mVarS 1))) (mFz (mOrV (mOp1 (gIs "str") (mVarS 1)) (mFz (mK0 m__law_whole (wOwn (mVarS 0) wNil))))))))
def m__law_kinds : Nat → MF
  | 0 => fun _ => none
  | d + 1 => fnM 2 4 [0, 1] (b__law_kinds (m__law_kinds d))
def b__law_lists (fu : Nat) : MS :=
    (mSeq (mAsg (mLst mNil) (gSet 1))
    (mSeq (mAsg (mLst (mCons (mVarS 0) mNil)) (gSet 2))
    (mSeq (mWhile (mB (mOp2 gNe (mVar 2) (mLst mNil))) (mSeq (mAsg (mFz (mIn (onL gPop) (lChk isOl (lVar 2)) mNil)) (gSet 3))
    (mSeq (mIfS (mB (mOp1 (gIs "list") (mVarS 3))) (mDrop (mIn (onL gApp) (lChk isOl (lVar 1)) (mCons (mVarS 3) mNil))) mNx)
    (mIfS (mB (mOp1 (gIs2 "list" "tuple") (mVarS 3))) (mAsg (mOp2 gAdd (mVar 2) (mBi gList (mCons (mVarS 3) mNil))) (gSet 2)) mNx))) fu)
    (mRet (mMov 1)))))
def m__law_lists (fu : Nat) : MF := fnM 1 4 [0] (b__law_lists fu)
noncomputable def b__law_kept (fu : Nat) : MS :=
    (mSeq (mAsg (mFz (mK0 m__law_paper_text (wBor (lVar 0) wNil))) (gSet 1))
    (mSeq (mAsg (mBi gStrY (mCons (mVar 0) mNil)) (gSet 2))
    (mSeq (mFor (mItR gRg1 (mCons (mC (.int 2)) mNil)) (gSet 3) (mSeq (mAsg (mFz (mK0 m_show_paper (wBor (lVar 0) wNil))) (gSet 5))
    (mSeq (mAsg (mK0 m_read_paper (wOwn (mVarS 1) wNil)) (gSet 6))
    (mSeq (mIfS (mOr (mNot (mB (mOp1 (gIs "str") (mVarS 5)))) (mOr (mB (mOp2 gNe (mVarS 5) (mVarS 1))) (mOr (mB (mOp2 gNe (mVar 6) (mVar 0))) (mNot (mB (mK0 (m__law_kinds 8) (wBor (lVar 6) (wBor (lVar 0) wNil)))))))) (mRet (mC (.bl false))) mNx)
    (mSeq (mAsg (mK0 m_read_paper (wOwn (mVarS 1) wNil)) (gSet 7))
    (mSeq (mForO (mDis 7 (mK0 (m__law_lists fu) (wOwn (mVarS 7) wNil))) (gSet 4) (mDrop (mIn (onL gClr) (lChk isOl (lVar 4)) mNil)))
    (mSeq (mIfS (mOr (mB (mOp2 gNe (mVar 6) (mVar 0))) (mB (mOp2 gNe (mK0 m_read_paper (wOwn (mC (.str "times 1 2")) wNil)) (mTup (mCons (mLst (mCons (mC (.int 1)) (mCons (mC (.int 2)) mNil))) mNil))))) (mRet (mC (.bl false))) mNx)
    (mSeq (mAsg (mDis 6 (mK0 (m__law_lists fu) (wOwn (mVarS 6) wNil))) (gSet 8))
    (mSeq (mAsg (mFz (mLook 8 (mCompP (mItL (mVarS 8)) (gSet 4) (ME.pure true) (mBi gLen (mCons (mVarS 4) mNil)) [4]))) (gSet 9))
    (mSeq (mForB 8 4 (bLst 8) (mDrop (mIn (onL gApp) (lChk isOl (lVar 4)) (mCons (mC (.int 7)) mNil))))
    (mIfS (mOr (mB (mOp2 gNe (mLook 8 (mCompP (mItL (mVarS 8)) (gSet 4) (ME.pure true) (mBi gLen (mCons (mVarS 4) mNil)) [4])) (mCompP (mItL (mVarS 9)) (gSet 10) (ME.pure true) (mOp2 gAdd (mVarS 10) (mC (.int 1))) [10]))) (mB (mOp2 gNe (mBi gStrY (mCons (mVar 0) mNil)) (mVarS 2)))) (mRet (mC (.bl false))) mNx)))))))))))
    (mSeq (mFst 0 4 (mSl (mCompP (mItT (mVarS 0)) (gSet 4) (mB (mOp1 (gIs "list") (mVarS 4))) (mVarS 4) [4]) mNoPart (mPart (mC (.int 1)))) (mAsg (mOp2 gAdd (mIx (mVar 4) (mC (.int 0))) (mC (.int 1))) (gSetI (lVar 4) (mC (.int 0)))) (mIfS (mB (mOp2 gNe (mK0 m_show_paper (wBor (lVar 0) wNil)) (mK0 m__law_paper_text (wBor (lVar 0) wNil)))) (mRet (mC (.bl false))) mNx))
    (mRet (mC (.bl true)))))))
noncomputable def m__law_kept (fu : Nat) : MF := fnM 1 11 [] (b__law_kept fu)
def b__law_mixed : MS :=
    (mSeq (mAsg (mOp2 gMod (mOp2 gAdd (mOp2 gAdd (mOp2 gMul (mOp2 gMod (mVarS 0) (mC (.int 2147483647))) (mC (.int 48271))) (mOp2 gMul (mVarS 1) (mC (.int 69621)))) (mC (.int 11))) (mC (.int 2147483647))) (gSet 2))
    (mSeq (mAsg (mOp2 gMod (mOp2 gMul (mVarS 2) (mVarS 2)) (mC (.int 2147483629))) (gSet 2))
    (mRet (mOp2 gDiv (mOp2 gMod (mOp2 gMul (mVarS 2) (mVarS 2)) (mC (.int 2147483587))) (mC (.int 64))))))
def m__law_mixed : MF := fnM 2 3 [0, 1] (b__law_mixed)
def b__law_take : MS :=
    (mSeq (mIfS (mB (mOp2 gIn (mIx (mVar 0) (mC (.int 0))) (mLst (mCons (mC (.int 0)) (mCons (mOp1 gNeg (mC (.int 1))) mNil))))) (mSeq (mAsg (mOp2 gAdd (mIx (mVar 0) (mC (.int 2))) (mC (.int 1))) (gSetI (lVar 0) (mC (.int 2))))
    (mRet (mOp2 gMod (mK0 m__law_mixed (wBor (lIx (lVar 0) (mC (.int 1))) (wBor (lIx (lVar 0) (mC (.int 2))) wNil))) (mVarS 1)))) mNx)
    (mSeq (mAsg (mOp2 gMod (mIx (mVar 0) (mC (.int 0))) (mVarS 1)) (gSet 2))
    (mSeq (mAsg (mOp2 gDiv (mIx (mVar 0) (mC (.int 0))) (mVarS 1)) (gSetI (lVar 0) (mC (.int 0))))
    (mRet (mVarS 2)))))
def m__law_take : MF := fnM 2 3 [1] (b__law_take)
def b__law_great : MS :=
    (mSeq (mAsg (mFz (mK1 m__law_take (wIo (lVar 0) (wOwn (mOp2 gPow (mC (.int 10)) (mC (.int 20))) wNil)))) (gSet 1))
    (mSeq (mAsg (mFz (mK1 m__law_take (wIo (lVar 0) (wOwn (mC (.int 4)) wNil)))) (gSet 2))
    (mRet (mIx (mLst (mCons (mOp2 gMod (mVarS 1) (mC (.int 8))) (mCons (mOp2 gMod (mVarS 1) (mC (.int 100))) (mCons (mVarS 1) (mCons (mOp2 gAdd (mOp2 gMul (mOp2 gAdd (mOp2 gMul (mVarS 1) (mOp2 gPow (mC (.int 10)) (mC (.int 19)))) (mK1 m__law_take (wIo (lVar 0) (wOwn (mOp2 gPow (mC (.int 10)) (mC (.int 19))) wNil)))) (mC (.int 9))) (mOp2 gMod (mVarS 1) (mC (.int 9)))) mNil))))) (mVarS 2)))))
def m__law_great : MF := fnM 1 3 [] (b__law_great)
def b__law_signed : MS :=
    (mSeq (mAsg (mFz (mK1 m__law_great (wIo (lVar 0) wNil))) (gSet 1))
    (mRet (mIx (mLst (mCons (mVarS 1) (mCons (mVarS 1) (mCons (mOp1 gNeg (mVarS 1)) mNil)))) (mK1 m__law_take (wIo (lVar 0) (wOwn (mC (.int 3)) wNil))))))
def m__law_signed : MF := fnM 1 2 [] (b__law_signed)
def b__law_list : MS :=
    (mSeq (mAsg (mLst mNil) (gSet 2))
    (mSeq (mFor (mItR gRg1 (mCons (mOp2 gAdd (mC (.int 1)) (mK1 m__law_take (wIo (lVar 0) (wOwn (mC (.int 6)) wNil)))) mNil)) (gSet 3) (mSeq (mAsg (mFz (mK1 m__law_signed (wIo (lVar 0) wNil))) (gSet 4))
    (mDrop (mIn (onL gApp) (lChk isOl (lVar 2)) (mCons (mIx (mLst (mCons (mVarS 4) (mCons (mBi gAbs (mCons (mVarS 4) mNil)) mNil))) (mBi gToInt (mCons (mOp2 gEq (mVarS 1) (mC (.int 0))) mNil))) mNil)))))
    (mRet (mMov 2))))
def m__law_list : MF := fnM 2 5 [1] (b__law_list)
def b__law_row : MS :=
    (mSeq (mAsg (mK1 m__law_list (wIo (lVar 0) (wOwn (mC .non) wNil))) (gSet 1))
    (mSeq (mAsg (mLst mNil) (gSet 2))
    (mSeq (mFor (mItR gRg1 (mCons (mK1 m__law_take (wIo (lVar 0) (wOwn (mC (.int 7)) wNil))) mNil)) (gSet 3) (mDrop (mIn (onL gApp) (lChk isOl (lVar 2)) (mCons (mTup (mCons (mComp (mItR gRg1 (mCons (mOp2 gAdd (mC (.int 1)) (mK1 m__law_take (wIo (lVar 0) (wOwn (mC (.int 6)) wNil)))) mNil)) (gSet 3) (ME.pure true) (mOp2 gSub (mK1 m__law_take (wIo (lVar 0) (wOwn (mC (.int 9)) wNil))) (mC (.int 4))) [3]) (mCons (mK1 m__law_take (wIo (lVar 0) (wOwn (mC (.int 99)) wNil))) mNil))) mNil))))
    (mRet (mTup (mCons (mMov 1) (mCons (mK1 m__law_great (wIo (lVar 0) wNil)) (mCons (mMov 2) mNil))))))))
def m__law_row : MF := fnM 1 4 [] (b__law_row)
def b__law_paper : MS :=
    (mSeq (mAsg (mFz (mK1 m__law_take (wIo (lVar 0) (wOwn (mC (.int 8)) wNil)))) (gSet 1))
    (mSeq (mIfS (mB (mOp2 gLt (mVarS 1) (mC (.int 2)))) (mRet (mTup (mCons (mIx (mLst (mCons (mC (.str "any")) (mCons (mC (.str "sum")) mNil))) (mVarS 1)) mNil))) mNx)
    (mSeq (mAsg (mK1 m__law_list (wIo (lVar 0) (wOwn (mC .non) wNil))) (gSet 2))
    (mSeq (mIfS (mB (mOp2 gEq (mVarS 1) (mC (.int 2)))) (mRet (mTup (mCons (mMov 2) mNil))) mNx)
    (mSeq (mIfS (mB (mOp2 gEq (mVarS 1) (mC (.int 3)))) (mRet (mTup (mCons (mK1 m__law_great (wIo (lVar 0) wNil)) (mCons (mMov 2) mNil)))) mNx)
    (mSeq (mIfS (mB (mOp2 gEq (mVarS 1) (mC (.int 4)))) (mRet (mTup (mCons (mMov 2) (mCons (mK1 m__law_list (wIo (lVar 0) (wOwn (mC (.int 0)) wNil))) mNil)))) mNx)
    (mSeq (mIfS (mB (mOp2 gEq (mVarS 1) (mC (.int 5)))) (mRet (mTup (mCons (mK1 m__law_list (wIo (lVar 0) (wOwn (mC (.int 0)) wNil))) (mCons (mMov 2) (mCons (mK1 m__law_list (wIo (lVar 0) (wOwn (mC (.int 0)) wNil))) mNil))))) mNx)
    (mRet (mTup (mCons (mC (.str "rows")) (mCons (mMov 2) (mCons (mFz (mComp (mItR gRg1 (mCons (mK1 m__law_take (wIo (lVar 0) (wOwn (mC (.int 4)) wNil))) mNil)) (gSet 3) (ME.pure true) (mK1 m__law_row (wIo (lVar 0) wNil)) [3])) mNil))))))))))))
def m__law_paper : MF := fnM 1 4 [] (b__law_paper)
def b__law_pile : MS :=
    (mSeq (mAsg (mC (.int 0)) (gSet 2))
    (mSeq (mIfS (mB (mOp2 gLt (mVarS 1) (mBi gLen (mCons (mVarS 0) mNil)))) (mAsg (mFz (mIx (mVarS 0) (mVarS 1))) (gSet 2)) mNx)
    (mRet (mLst (mCons (mIx (mLst (mCons (mC (.int 0)) (mCons (mOp2 gMod (mVarS 2) (mOp2 gMul (mOp2 gMul (mOp2 gPow (mC (.int 10)) (mC (.int 50))) (mOp2 gPow (mC (.int 10)) (mC (.int 50)))) (mOp2 gPow (mC (.int 10)) (mC (.int 50))))) mNil))) (mBi gToInt (mCons (mOp2 gGe (mBi gAbs (mCons (mVarS 2) mNil)) (mOp2 gPow (mC (.int 10)) (mC (.int 18)))) mNil))) (mCons (mOp2 gMod (mVarS 2) (mC (.int 2147483647))) (mCons (mOp2 gMul (mC (.int 97)) (mVarS 1)) mNil)))))))
def m__law_pile : MF := fnM 2 3 [0, 1] (b__law_pile)
def b__law_edges : MS :=
    (mSeq (mAsg (mLst (mCons (mTup (mCons (mC (.str "rows")) (mCons (mLst (mCons (mC (.int 0)) mNil)) (mCons (mFz (mLst mNil)) mNil)))) (mCons (mTup (mCons (mC (.str "rows")) (mCons (mLst (mCons (mC (.int 0)) (mCons (mC (.int 0)) mNil))) (mCons (mFz (mLst (mCons (mFz (mTup (mCons (mLst (mCons (mC (.int 1)) (mCons (mC (.int 1)) mNil))) (mCons (mC (.int 0)) (mCons (mLst mNil) mNil))))) (mCons (mFz (mTup (mCons (mLst (mCons (mC (.int 1)) (mCons (mC (.int 1)) mNil))) (mCons (mC (.int 0)) (mCons (mLst mNil) mNil))))) mNil)))) mNil)))) (mCons (mTup (mCons (mLst (mCons (mC (.int 0)) mNil)) mNil)) (mCons (mTup (mCons (mC (.int 0)) (mCons (mLst (mCons (mC (.int 0)) mNil)) mNil))) (mCons (mTup (mCons (mLst (mCons (mC (.int 0)) mNil)) (mCons (mLst (mCons (mC (.int 0)) mNil)) mNil))) mNil)))))) (gSet 0))
    (mSeq (mAsg (mOp2 gCatO (mMov 0) (mLst (mCons (mTup (mCons (mLst (mCons (mC (.int 0)) mNil)) (mCons (mLst (mCons (mC (.int 0)) mNil)) (mCons (mLst (mCons (mC (.int 0)) mNil)) mNil)))) (mCons (mTup (mCons (mC (.str "rows")) (mCons (mLst (mCons (mC (.int 0)) mNil)) (mCons (mFz (mLst (mCons (mFz (mTup (mCons (mLst (mCons (mC (.int 0)) mNil)) (mCons (mC (.int 1)) (mCons (mOp2 gMul (mLst (mCons (mFz (mTup (mCons (mLst (mCons (mC (.int 0)) mNil)) (mCons (mC (.int 0)) mNil)))) mNil)) (mC (.int 6))) mNil))))) (mCons (mFz (mTup (mCons (mLst (mCons (mC (.int 0)) mNil)) (mCons (mC (.int 0)) (mCons (mLst (mCons (mFz (mTup (mCons (mLst (mCons (mC (.int 0)) mNil)) (mCons (mC (.int 0)) mNil)))) mNil)) mNil))))) mNil)))) mNil)))) (mCons (mTup (mCons (mOp2 gMul (mLst (mCons (mOp1 gNeg (mC (.int 1))) mNil)) (mC (.int 6))) mNil)) mNil))))) (gSet 0))
    (mSeq (mDrop (mIn (onL gApp) (lChk isOl (lVar 0)) (mCons (mTup (mCons (mC (.str "rows")) (mCons (mLst (mCons (mC (.int 0)) mNil)) (mCons (mFz (mCompP (mItR gRg1 (mCons (mC (.int 60)) mNil)) (gSet 2) (ME.pure true) (mTup (mCons (mLst (mCons (mVarS 2) mNil)) (mCons (mVarS 2) (mCons (mCompP (mItR gRg1 (mCons (mOp2 gMod (mVarS 2) (mC (.int 7))) mNil)) (gSet 3) (ME.pure true) (mTup (mCons (mLst (mCons (mVarS 2) mNil)) (mCons (mVarS 2) mNil))) [3]) mNil)))) [2])) mNil)))) mNil)))
    (mSeq (mAsg (mOp2 gSub (mOp2 gPow (mC (.int 10)) (mC (.int 40))) (mC (.int 2))) (gSet 1))
    (mSeq (mAsg (mOp2 gCatO (mMov 0) (mLst (mCons (mTup (mCons (mC (.str "rows")) (mCons (mLst (mCons (mC (.int 0)) mNil)) (mCons (mFz (mLst (mCons (mFz (mTup (mCons (mLst (mCons (mC (.int 0)) mNil)) (mCons (mC (.int 1)) (mCons (mLst (mCons (mFz (mTup (mCons (mLst (mCons (mVarS 1) (mCons (mOp1 gNeg (mVarS 1)) mNil))) (mCons (mVarS 1) mNil)))) mNil)) mNil))))) mNil))) mNil)))) (mCons (mTup (mCons (mOp2 gMul (mLst (mCons (mVarS 1) mNil)) (mC (.int 6))) (mCons (mOp2 gMul (mLst (mCons (mOp1 gNeg (mVarS 1)) mNil)) (mC (.int 6))) (mCons (mOp2 gMul (mLst (mCons (mVarS 1) mNil)) (mC (.int 6))) mNil)))) mNil)))) (gSet 0))
    (mRet (mOp2 gCatO (mMov 0) (mLst (mCons (mTup (mCons (mOp2 gSub (mOp2 gPow (mC (.int 10)) (mC (.int 40))) (mC (.int 1))) (mCons (mLst (mCons (mOp2 gSub (mC (.int 1)) (mOp2 gPow (mC (.int 10)) (mC (.int 40)))) mNil)) mNil))) (mCons (mTup (mCons (mC (.str "rows")) (mCons (mLst (mCons (mC (.int 0)) mNil)) (mCons (mFz (mLst (mCons (mFz (mTup (mCons (mLst (mCons (mC (.int 5)) mNil)) (mCons (mC (.int 0)) (mCons (mLst mNil) mNil))))) mNil))) mNil)))) mNil))))))))))
def m__law_edges : MF := fnM 0 4 [] (b__law_edges)
noncomputable def b_law (fu : Nat) : MS :=
    (mSeq (mIfS (mNot (mB (mNoX (mK0 m__law_long_text wNil)))) (mRet (mC (.bl false))) mNx)
    (mSeq (mFor (mItR gRg1 (mCons (mC (.int 16)) mNil)) (gSet 1) (mIfS (mNot (mB (mK0 (m__law_kept fu) (wOwn (mK0 m__law_paper (wOwn (mK0 m__law_pile (wOwn (mVarS 0) (wOwn (mVarS 1) wNil))) wNil)) wNil)))) (mRet (mC (.bl false))) mNx))
    (mRet (mOp2 gEq (mCompN (mNoX (mK0 m__law_edges wNil)) 2 (mNot (mB (mK1 (m__law_kept fu) (wIo (lVar 2) wNil))))) (mLst mNil)))))
noncomputable def m_law (fu : Nat) : MF := fnM 1 3 [0] (b_law fu)
end LW
namespace TY
open PySem AM
abbrev Env := AM.Env
abbrev X (α : Type) := Option (Res α)
section
variable {α β γ δ σ τ ρ lam : Type}
def X.ok (a : α) : X α := some (.ok a)
def X.ex (x : XV) : X α := some (.ex x)
def X.bad : X α := none
def X.bind (p : X α) (k : α → X β) : X β := match p with
  | none => none
  | some (.ok a) => k a
  | some (.ex x) => some (.ex x)
def X.ofO (o : Option α) : X α := o.map .ok
@[simp] theorem bind_ok {a : α} {k : α → X β} : X.bind (X.ok a) k = k a := Eq.trans rfl rfl
@[simp] theorem bind_some {a : α} {k : α → X β} : X.bind (some (.ok a)) k = k a := Eq.trans rfl rfl
@[simp] theorem bind_ex {x : XV} {k : α → X β} : X.bind (X.ex x) k = X.ex x := Eq.trans rfl rfl
@[simp] theorem bind_ex2 {x : XV} {k : α → X β} : X.bind (some (.ex x)) k = some (.ex x) := Eq.trans rfl rfl
@[simp] theorem bind_none {k : α → X β} : X.bind none k = none := Eq.trans rfl rfl
@[simp] theorem bind_bad {k : α → X β} : X.bind X.bad k = X.bad := Eq.trans rfl rfl
@[simp] theorem ofO_some {a : α} : X.ofO (some a) = X.ok a := Eq.trans rfl rfl
@[simp] theorem ofO_none : X.ofO (none : Option α) = X.bad := Eq.trans rfl rfl
@[simp] theorem ok_inj {a b : α} : (X.ok a = X.ok b) ↔ a = b := by simp [X.ok]
inductive Out (σ lam ρ : Type) where
  | go (s : σ) | bk (l : lam) | ct (l : lam) | rt (r : ρ)
def X.bindO (p : X (Out σ lam ρ)) (k : σ → X (Out τ lam ρ)) : X (Out τ lam ρ) := X.bind p fun o => match o with
  | .go s => k s | .bk l => X.ok (.bk l) | .ct l => X.ok (.ct l) | .rt r => X.ok (.rt r)
def X.bindR (p : X (Out σ Unit ρ)) (k : σ → X ρ) : X ρ := X.bind p fun o => match o with
  | .go s => k s | .bk _ => X.bad | .ct _ => X.bad | .rt r => X.ok r
def X.forP (b : α → σ → X σ) : List α → σ → X σ
  | [], s => X.ok s
  | a :: as, s => X.bind (b a s) fun s => X.forP b as s
def X.up (p : X (Out σ Unit ρ)) : X (Out σ lam ρ) := X.bind p fun o => match o with
  | .go s => X.ok (.go s) | .bk _ => X.bad | .ct _ => X.bad | .rt r => X.ok (.rt r)
structure Jd (β τ : Type) where
  rel0 : Option (Res β × Env) → X τ → Prop
  Ex : Env → Prop
  non0 : ∀ r, rel0 r none
  ex0 : ∀ x e, Ex e → rel0 (some (.ex x, e)) (some (.ex x))
structure Jd.rel {β τ : Type} (J : Jd β τ) (r : Option (Res β × Env)) (p : X τ) : Prop where
  h : J.rel0 r p
theorem Jd.non {β τ : Type} (J : Jd β τ) (r : Option (Res β × Env)) : J.rel r none := ⟨J.non0 r⟩
theorem Jd.ex {β τ : Type} (J : Jd β τ) (x : XV) (e : Env) (h : J.Ex e) : J.rel (some (.ex x, e)) (some (.ex x)) := ⟨J.ex0 x e h⟩
def jE {Oo : Type} (ev : σ → β) (mk : σ → Oo → Env) (Ex : Env → Prop) : Jd β σ where
  rel0 r p := match p with
    | none => True
    | some (.ok s) => ∃ os, r = some (.ok (ev s), mk s os)
    | some (.ex x) => ∃ e, r = some (.ex x, e) ∧ Ex e
  Ex := Ex
  non0 _ := trivial
  ex0 _ _ h := ⟨_, rfl, h⟩
def jM {Oo : Type} (mk : σ → Oo → Env) (Ex : Env → Prop) : Jd Fl σ where
  rel0 r p := match p with
    | none => True
    | some (.ok s) => ∃ os, r = some (.ok .nx, mk s os)
    | some (.ex x) => ∃ e, r = some (.ex x, e) ∧ Ex e
  Ex := Ex
  non0 _ := trivial
  ex0 _ _ h := ⟨_, rfl, h⟩
def jF (G : ρ → W → Env → Prop) (Ex : Env → Prop) : Jd Fl ρ where
  rel0 r p := match p with
    | none => True
    | some (.ok a) => ∃ w e, (r = some (.ok (.rt w), e) ∨ (r = some (.ok .nx, e) ∧ w = .sh .non)) ∧ G a w e
    | some (.ex x) => ∃ e, r = some (.ex x, e) ∧ Ex e
  Ex := Ex
  non0 _ := trivial
  ex0 _ _ h := ⟨_, rfl, h⟩
def TF0 (r : Option (Res W × List (Option W))) (p : X ρ) (er : ρ → W) (eo : ρ → List (Option W)) (Xo : List (Option W) → Prop) : Prop := match p with
  | none => True
  | some (.ok a) => r = some (.ok (er a), eo a)
  | some (.ex x) => ∃ outs, r = some (.ex x, outs) ∧ Xo outs
structure TF (r : Option (Res W × List (Option W))) (p : X ρ) (er : ρ → W) (eo : ρ → List (Option W)) (Xo : List (Option W) → Prop) : Prop where
  h : TF0 r p er eo Xo
def aft (r : Option (Res α × Env)) (κ : α → Env → Option (Res β × Env)) : Option (Res β × Env) := match r with
  | none => none
  | some (.ok a, e) => κ a e
  | some (.ex x, e) => some (.ex x, e)
def opK (o : Option α) (e : Env) (κ : α → Env → Option (Res β × Env)) : Option (Res β × Env) := match o with
  | none => none
  | some a => κ a e
def sq (r : Option (Res Fl × Env)) (rest : MS) : Option (Res Fl × Env) := match r with
  | some (.ok .nx, e) => rest e
  | r => r
def gK (g : MG) (w : W) (e : Env) (rest : MS) : Option (Res Fl × Env) := match g w e with
  | some (.ok _, e) => rest e
  | _ => none
theorem aft_aft {r : Option (Res α × Env)} {κ : α → Env → Option (Res β × Env)} {κ' : β → Env → Option (Res γ × Env)} : aft (aft r κ) κ' = aft r fun a e => aft (κ a e) κ' := by
  rcases r with _ | ⟨_ | _, _⟩ <;> rfl
theorem bind_aft {m : ME α} {f : α → ME β} {env : Env} : ME.bind m f env = aft (m env) f := by
  unfold ME.bind aft
  rcases m env with _ | ⟨_ | _, _⟩ <;> rfl
theorem pure_aft {a : α} {env : Env} {κ : α → Env → Option (Res β × Env)} : aft (ME.pure a env) κ = κ a env := rfl
theorem op_aft {g : α → Option γ} {a : α} {env : Env} {κ : γ → Env → Option (Res β × Env)} : aft (ME.op g a env) κ = opK (g a) env κ := by
  unfold ME.op opK aft
  rcases g a with _ | _ <;> rfl
theorem opK_aft {o : Option α} {env : Env} {κ : α → Env → Option (Res β × Env)} {κ' : β → Env → Option (Res γ × Env)} : aft (opK o env κ) κ' = opK o env fun a e => aft (κ a e) κ' := by
  rcases o with _ | _ <;> rfl
end
section
variable {α β γ δ σ τ ρ lam : Type} {J : Jd β τ} {p : X τ} {env e : Env}
theorem x_val {m : ME α} {κ : α → Env → Option (Res β × Env)} {a : α} (h : m env = some (.ok a, e)) (k : J.rel (κ a e) p) : J.rel (aft (m env) κ) p := by
  rw [h]
  exact k
theorem o_val {o : Option α} {κ : α → Env → Option (Res β × Env)} {a : α} (h : o = some a) (k : J.rel (κ a e) p) : J.rel (opK o e κ) p := by
  rw [h]
  exact k
theorem o_par {o : Option α} {f : Option γ} {ec : γ → α} {κ : α → Env → Option (Res β × Env)} {pk : γ → X τ} (h : o = f.map ec) (k : ∀ c, J.rel (κ (ec c) e) (pk c)) : J.rel (opK o e κ) (X.bind (X.ofO f) pk) := by
  rw [h]
  rcases f with _ | c
  · exact J.non _
  · exact k c
theorem x_sub {Oo : Type} {m : ME α} {κ : α → Env → Option (Res β × Env)} {ps : X σ} {pk : σ → X τ} (ev : σ → α) (mk : σ → Oo → Env) (h : (jE ev mk J.Ex).rel (m env) ps) (k : ∀ s os, J.rel (κ (ev s) (mk s os)) (pk s)) : J.rel (aft (m env) κ) (X.bind ps pk) := by
  rcases ps with _ | ⟨s | x⟩
  · exact J.non _
  · obtain ⟨os, h⟩ := h.h
    rw [h]
    exact k s os
  · obtain ⟨e', h, h2⟩ := h.h
    rw [h]
    exact J.ex x e' h2
theorem e_end {Oo : Type} {Ex : Env → Prop} {ev : σ → β} {mk : σ → Oo → Env} {w : β} {s : σ} (os : Oo) (h : w = ev s) (h2 : e = mk s os) : (jE ev mk Ex).rel (some (.ok w, e)) (X.ok s) := ⟨⟨os, by rw [h, h2]⟩⟩
theorem e_true {Ex : Env → Prop} : (jE id (fun (_ : Bool) (_ : Unit) => e) Ex).rel (ME.pure true e) (X.ok true) := ⟨⟨(), rfl⟩⟩
theorem x_all {α : Type} {J : Jd α τ} {m : ME α} (h : J.rel (aft (m env) fun a e => some (.ok a, e)) p) : J.rel (m env) p := by
  have : aft (m env) (fun a e => some (.ok a, e)) = m env := by
    rcases m env with _ | ⟨_ | _, _⟩ <;> rfl
  rwa [this] at h
section
variable {κ : W → Env → Option (Res β × Env)} {ma mb m : ME W} {g : W × W → Option W} {g1 : W → Option W}
theorem x_op2 (h : J.rel (aft (ma env) fun w e => aft (mb e) fun u e => opK (g (w, u)) e κ) p) : J.rel (aft (mOp2 g ma mb env) κ) p := by
  simp only [mOp2, bind_aft, aft_aft, pure_aft, op_aft]
  exact h
theorem x_ix (h : J.rel (aft (ma env) fun w e => aft (mb e) fun u e => opK (gIx (w, u)) e κ) p) : J.rel (aft (mIx ma mb env) κ) p := by
  simp only [mIx, bind_aft, aft_aft, pure_aft, op_aft]
  exact h
theorem x_op1 (h : J.rel (aft (m env) fun w e => opK (g1 w) e κ) p) : J.rel (aft (mOp1 g1 m env) κ) p := by
  simp only [mOp1, bind_aft, aft_aft, op_aft]
  exact h
theorem x_fz (h : J.rel (aft (m env) fun w e => opK (w.toD.map W.sh) e κ) p) : J.rel (aft (mFz m env) κ) p := by
  simp only [mFz, bind_aft, aft_aft, op_aft]
  exact h
theorem x_B {κ : Bool → Env → Option (Res β × Env)} (h : J.rel (aft (m env) fun w e => opK (wBl w) e κ) p) : J.rel (aft (mB m env) κ) p := by
  simp only [mB, bind_aft, aft_aft, op_aft]
  exact h
theorem x_bi {ms : ME (List W)} {g : List W → Option W} (h : J.rel (aft (ms env) fun ws e => opK (g ws) e κ) p) : J.rel (aft (mBi g ms env) κ) p := by
  simp only [mBi, bind_aft, aft_aft, op_aft]
  exact h
theorem x_lst {ms : ME (List W)} (h : J.rel (aft (ms env) fun ws e => opK (gLst ws) e κ) p) : J.rel (aft (mLst ms env) κ) p := by
  simp only [mLst, bind_aft, aft_aft, op_aft]
  exact h
theorem x_tup {ms : ME (List W)} (h : J.rel (aft (ms env) fun ws e => opK (gTup ws) e κ) p) : J.rel (aft (mTup ms env) κ) p := by
  simp only [mTup, bind_aft, aft_aft, op_aft]
  exact h
theorem x_nil {κ : List W → Env → Option (Res β × Env)} (h : J.rel (κ [] env) p) : J.rel (aft (mNil env) κ) p := h
theorem x_cons {ms : ME (List W)} {κ : List W → Env → Option (Res β × Env)} (h : J.rel (aft (m env) fun w e => aft (ms e) fun ws e => κ (w :: ws) e) p) : J.rel (aft (mCons m ms env) κ) p := by
  simp only [mCons, bind_aft, aft_aft, op_aft, pure_aft]
  exact h
theorem x_itR {ms : ME (List W)} {g : List W → Option (List D)} {κ : List D → Env → Option (Res β × Env)} (h : J.rel (aft (ms env) fun ws e => opK (g ws) e κ) p) : J.rel (aft (mItR g ms env) κ) p := by
  simp only [mItR, bind_aft, aft_aft, op_aft]
  exact h
theorem x_itL {κ : List D → Env → Option (Res β × Env)} (h : J.rel (aft (m env) fun w e => opK (wEls w) e κ) p) : J.rel (aft (mItL m env) κ) p := by
  simp only [mItL, bind_aft, aft_aft, op_aft]
  exact h
theorem x_noPart {κ : Option Int → Env → Option (Res β × Env)} (h : J.rel (κ none env) p) : J.rel (aft (mNoPart env) κ) p := h
theorem x_part {κ : Option Int → Env → Option (Res β × Env)} (h : J.rel (aft (m env) fun w e => opK ((wInt w).map some) e κ) p) : J.rel (aft (mPart m env) κ) p := by
  simp only [mPart, bind_aft, aft_aft, op_aft]
  exact h
theorem x_sl {lo hi : ME (Option Int)} (h : J.rel (aft (m env) fun w e => aft (lo e) fun a e => aft (hi e) fun b e => opK (gSl (w, a, b)) e κ) p) : J.rel (aft (mSl m lo hi env) κ) p := by
  simp only [mSl, bind_aft, aft_aft, op_aft, pure_aft]
  exact h
theorem x_ms {ms : ME (List W)} {g : W × List W → Option W} (h : J.rel (aft (m env) fun w e => opK ((wStr w).map fun s => W.sh (.str s)) e fun w e => aft (ms e) fun ws e => opK (g (w, ws)) e κ) p) : J.rel (aft (mMs g m ms env) κ) p := by
  simp only [mMs, bind_aft, aft_aft, op_aft, pure_aft, opK_aft]
  exact h
def andK (t : Bool) (b : ME Bool) (e : Env) (κ : Bool → Env → Option (Res β × Env)) : Option (Res β × Env) := if t = true then aft (b e) κ else κ false e
def orK (t : Bool) (b : ME Bool) (e : Env) (κ : Bool → Env → Option (Res β × Env)) : Option (Res β × Env) := if t = true then κ true e else aft (b e) κ
def ifK {α : Type} (t : Bool) (a b : ME α) (e : Env) (κ : α → Env → Option (Res β × Env)) : Option (Res β × Env) := if t = true then aft (a e) κ else aft (b e) κ
theorem x_and {a b : ME Bool} {κ : Bool → Env → Option (Res β × Env)} (h : J.rel (aft (a env) fun c e => andK c b e κ) p) : J.rel (aft (mAnd a b env) κ) p := by
  simp only [mAnd, bind_aft, aft_aft]
  have : (fun (c : Bool) (e : Env) => aft ((if c = true then b else ME.pure false) e) κ) = fun c e => if c = true then aft (b e) κ else κ false e := by
    funext c e
    cases c <;> rfl
  rw [this]
  exact h
theorem x_or {a b : ME Bool} {κ : Bool → Env → Option (Res β × Env)} (h : J.rel (aft (a env) fun c e => orK c b e κ) p) : J.rel (aft (mOr a b env) κ) p := by
  simp only [mOr, bind_aft, aft_aft]
  have : (fun (c : Bool) (e : Env) => aft ((if c = true then ME.pure true else b) e) κ) = fun c e => if c = true then κ true e else aft (b e) κ := by
    funext c e
    cases c <;> rfl
  rw [this]
  exact h
theorem x_if {α : Type} {κ : α → Env → Option (Res β × Env)} {c : ME Bool} {a b : ME α} (h : J.rel (aft (c env) fun t e => ifK t a b e κ) p) : J.rel (aft (mIf c a b env) κ) p := by
  simp only [mIf, bind_aft, aft_aft]
  have : (fun (c : Bool) (e : Env) => aft ((if c = true then a else b) e) κ) = fun c e => if c = true then aft (a e) κ else aft (b e) κ := by
    funext c e
    cases c <;> rfl
  rw [this]
  exact h
def inK {β : Type} (e : Env) (path : Path) (g : W → Option (W × W)) (κ : W → Env → Option (Res β × Env)) : Option (Res β × Env) := opK (getE e path) e fun w e => opK (g w) e fun r e => opK (setE e path r.1) e fun e' _ => κ r.2 e'
theorem x_in {g : W → List W → Option (W × W)} {ml : ME Path} {ms : ME (List W)} {path : Path} {e1 : Env} (hl : ml env = some (.ok path, e1)) (h : J.rel (aft (ms e1) fun ws e => inK e path (fun w => g w ws) κ) p) : J.rel (aft (mIn g ml ms env) κ) p := by
  have : aft (mIn g ml ms env) κ = aft (ms e1) fun ws e => inK e path (fun w => g w ws) κ := by
    unfold mIn inK
    rw [hl]
    simp only
    rcases ms e1 with _ | ⟨ws | x, e2⟩
    · rfl
    · simp only [aft]
      rcases getE e2 path with _ | w
      · rfl
      · simp only [opK, Option.bind_some]
        rcases g w ws with _ | ⟨r1, r2⟩
        · rfl
        · simp only [Option.bind_some]
          rcases setE e2 path r1 with _ | e3 <;> rfl
    · rfl
  rw [this]
  exact h
end
section
variable {κ : Bool → Env → Option (Res β × Env)} {b : ME Bool} {ta tb : Bool}
theorem k_andX {Oo : Type} {pb : X σ} {pk : σ → X τ} (ev : σ → Bool) (mk : σ → Oo → Env) (s0 : σ) (os0 : Oo) (hb : (jE ev mk J.Ex).rel (b e) pb) (h0 : ev s0 = false) (h1 : e = mk s0 os0) (k : ∀ s os, J.rel (κ (ev s) (mk s os)) (pk s)) : J.rel (andK ta b e κ) (X.bind (if ta = true then pb else X.ok s0) pk) := by
  unfold andK
  cases ta
  · have := k s0 os0
    rw [h0, ← h1] at this
    exact this
  · exact x_sub ev mk hb k
theorem k_orX {Oo : Type} {pb : X σ} {pk : σ → X τ} (ev : σ → Bool) (mk : σ → Oo → Env) (s0 : σ) (os0 : Oo) (hb : (jE ev mk J.Ex).rel (b e) pb) (h0 : ev s0 = true) (h1 : e = mk s0 os0) (k : ∀ s os, J.rel (κ (ev s) (mk s os)) (pk s)) : J.rel (orK ta b e κ) (X.bind (if ta = true then X.ok s0 else pb) pk) := by
  unfold orK
  cases ta
  · exact x_sub ev mk hb k
  · have := k s0 os0
    rw [h0, ← h1] at this
    exact this
end
theorem k_ifX {α : Type} {Oo : Type} {κ : α → Env → Option (Res β × Env)} {t : Bool} {a b : ME α} {pa pb : X σ} {pk : σ → X τ} (ev : σ → α) (mk : σ → Oo → Env) (ha : (jE ev mk J.Ex).rel (a e) pa) (hb : (jE ev mk J.Ex).rel (b e) pb) (k : ∀ s os, J.rel (κ (ev s) (mk s os)) (pk s)) : J.rel (ifK t a b e κ) (X.bind (if t = true then pa else pb) pk) := by
  unfold ifK
  cases t
  · exact x_sub ev mk hb k
  · exact x_sub ev mk ha k
end
section
variable {σ τ ρ lam α β : Type} {J : Jd Fl τ} {p : X τ} {env e : Env} {m : ME W} {rest s A B : MS} {w : W}
theorem sq_nx {r : Option (Res Fl × Env)} : sq r mNx = r := by
  rcases r with _ | ⟨(_ | _ | _ | _) | _, _⟩ <;> rfl
theorem mSeq_sq : mSeq s rest env = sq (s env) rest := rfl
theorem s_last (h : J.rel (mSeq s mNx env) p) : J.rel (s env) p := by
  rw [mSeq_sq, sq_nx] at h
  exact h
theorem s_assoc (h : J.rel (mSeq A (mSeq B rest) env) p) : J.rel (mSeq (mSeq A B) rest env) p := by
  have : mSeq (mSeq A B) rest env = mSeq A (mSeq B rest) env := by
    unfold mSeq
    rcases A env with _ | ⟨(_ | _ | _ | _) | _, _⟩ <;> rfl
  rw [this]
  exact h
theorem n_env {e' : Env} (h : env = e') (k : J.rel (s e') p) : J.rel (s env) p := by
  rw [h]
  exact k
theorem s_nx (h : J.rel (rest env) p) : J.rel (mSeq mNx rest env) p := h
theorem s_asg {g : MG} (h : J.rel (aft (m env) fun w e => gK g w e rest) p) : J.rel (mSeq (mAsg m g) rest env) p := by
  have : mSeq (mAsg m g) rest env = aft (m env) fun w e => gK g w e rest := by
    unfold mSeq mAsg
    rw [bind_aft]
    rcases m env with _ | ⟨w | x, e⟩
    · rfl
    · simp only [aft, gK]
      rcases g w e with _ | ⟨_ | _, _⟩ <;> rfl
    · rfl
  rw [this]
  exact h
theorem k_set {i : Nat} (hi : Nat.blt i e.length = true) (k : J.rel (rest (e.set i (some w))) p) : J.rel (gK (gSet i) w e rest) p := by
  have hi : i < e.length := by simpa using hi
  simp only [gK, gSet, if_pos hi]
  exact k
theorem k_G {g : MG} {e' : Env} (h : g w e = some (.ok (), e')) (k : J.rel (rest e') p) : J.rel (gK g w e rest) p := by
  simp only [gK, h]
  exact k
theorem s_drop (h : J.rel (aft (m env) fun _ e => rest e) p) : J.rel (mSeq (mDrop m) rest env) p := by
  have : mSeq (mDrop m) rest env = aft (m env) fun _ e => rest e := by
    unfold mSeq mDrop
    rw [bind_aft]
    rcases m env with _ | ⟨_ | _, _⟩ <;> rfl
  rw [this]
  exact h
theorem s_ret (h : J.rel (aft (m env) fun w e => some (.ok (.rt w), e)) p) : J.rel (mSeq (mRet m) rest env) p := by
  have : mSeq (mRet m) rest env = aft (m env) fun w e => some (.ok (.rt w), e) := by
    unfold mSeq mRet
    rw [bind_aft]
    rcases m env with _ | ⟨_ | _, _⟩ <;> rfl
  rw [this]
  exact h
theorem s_raise {c : Str} (h : J.Ex env) : J.rel (mSeq (mRaise c) rest env) (X.ex ⟨c, []⟩) := J.ex _ _ h
theorem s_if {c : ME Bool} (h : J.rel (aft (c env) fun b e => if b = true then mSeq A rest e else mSeq B rest e) p) : J.rel (mSeq (mIfS c A B) rest env) p := by
  have : mSeq (mIfS c A B) rest env = aft (c env) fun b e => if b = true then mSeq A rest e else mSeq B rest e := by
    unfold mSeq mIfS
    rw [bind_aft]
    rcases c env with _ | ⟨b | x, e⟩
    · rfl
    · cases b <;> rfl
    · rfl
  rw [this]
  exact h
theorem k_if {b : Bool} {x y : Option (Res β × Env)} {J : Jd β τ} {pa pb : X τ} (ha : J.rel x pa) (hb : J.rel y pb) : J.rel (if b = true then x else y) (if b = true then pa else pb) := by
  cases b
  · exact hb
  · exact ha
theorem s_sub {Oo : Type} {ps : X σ} {pk : σ → X τ} (mk : σ → Oo → Env) (h : (jM mk J.Ex).rel (s env) ps) (k : ∀ s os, J.rel (rest (mk s os)) (pk s)) : J.rel (mSeq s rest env) (X.bind ps pk) := by
  rw [mSeq_sq]
  rcases ps with _ | ⟨a | x⟩
  · exact J.non _
  · obtain ⟨os, h⟩ := h.h
    rw [h]
    exact k a os
  · obtain ⟨e', h, h2⟩ := h.h
    rw [h]
    exact J.ex x e' h2
theorem n_go {Oo : Type} {mk : σ → Oo → Env} {Ex : Env → Prop} {a : σ} (os : Oo) (h : env = mk a os) : (jM mk Ex).rel (mNx env) (X.ok a) := ⟨⟨os, by rw [h]; rfl⟩⟩
theorem n_ret {G : ρ → W → Env → Prop} {Ex : Env → Prop} {a : ρ} (h : G a w env) : (jF G Ex).rel (some (.ok (.rt w), env)) (X.ok a) := ⟨⟨w, env, .inl rfl, h⟩⟩
theorem s_for {it : ME (List D)} {g : MG} {body : MS} (h : J.rel (aft (it env) fun ds e => sq (mLoop g body ds e) rest) p) : J.rel (mSeq (mFor it g body) rest env) p := by
  have : mSeq (mFor it g body) rest env = aft (it env) fun ds e => sq (mLoop g body ds e) rest := by
    rw [mSeq_sq]
    unfold mFor
    rw [bind_aft]
    rcases it env with _ | ⟨_ | _, _⟩ <;> rfl
  rw [this]
  exact h
theorem loopP {Oo : Type} {g : MG} {body : MS} {mk : σ → Oo → Env} {Ex : Env → Prop} {dd : α → D} {pb : α → σ → X σ} (hb : ∀ x s os, (jM mk Ex).rel (gK g (.sh (dd x)) (mk s os) body) (pb x s)) :
    ∀ (xs : List α) (s : σ) (os : Oo), (jM mk Ex).rel (mLoop g body (xs.map dd) (mk s os)) (X.forP pb xs s)
  | [], s, os => ⟨⟨os, rfl⟩⟩
  | x :: xs, s, os => by
    have h := (hb x s os).h
    simp only [List.map_cons, mLoop, X.forP]
    unfold gK at h
    rcases e1 : pb x s with _ | ⟨s' | z⟩
    · exact Jd.non _ _
    · rw [e1] at h
      obtain ⟨os', h⟩ := h
      rcases e2 : g (.sh (dd x)) (mk s os) with _ | ⟨_ | _, e3⟩
      · rw [e2] at h; cases h
      · rw [e2] at h
        simp only at h ⊢
        rw [h]
        exact loopP hb xs s' os'
      · rw [e2] at h; cases h
    · rw [e1] at h
      obtain ⟨e', h, h2⟩ := h
      rcases e2 : g (.sh (dd x)) (mk s os) with _ | ⟨_ | _, e3⟩
      · rw [e2] at h; cases h
      · rw [e2] at h
        simp only at h ⊢
        rw [h]
        exact ⟨⟨e', rfl, h2⟩⟩
      · rw [e2] at h; cases h
theorem k_for {Oo : Type} {g : MG} {body : MS} {ds : List D} {dd : α → D} {pb : α → σ → X σ} {pk : σ → X τ} {xs : List α} (mk : σ → Oo → Env) (s0 : σ) (os0 : Oo) (h0 : e = mk s0 os0) (hd : ds = xs.map dd) (hb : ∀ x s os, (jM mk J.Ex).rel (gK g (.sh (dd x)) (mk s os) body) (pb x s)) (k : ∀ s os, J.rel (rest (mk s os)) (pk s)) : J.rel (sq (mLoop g body ds e) rest) (X.bind (X.forP pb xs s0) pk) := by
  subst h0 hd
  exact s_sub (s := mLoop g body (xs.map dd)) mk (loopP hb xs s0 os0) k
end
end TY
namespace TY
open PySem AM
abbrev at_ {α : Type} (xs : List α) (i : Int) : Option α := L2.atI xs i
def tI : Int → D := .int
def tB : Bool → D := .bl
def tS : Str → D := .str
def tN : Unit → D := fun _ => .non
def tD : D → D := fun d => d
def tR : List Int → D := .scr
section
variable {α β γ δ : Type}
def tL (t : α → D) : List α → D := fun xs => .lst (xs.map t)
def t2 (a : α → D) (b : β → D) : α × β → D := fun p => .tup [a p.1, b p.2]
def t3 (a : α → D) (b : β → D) (c : γ → D) : α × β × γ → D := fun p => .tup [a p.1, b p.2.1, c p.2.2]
def eD (t : α → D) : α → W := fun a => .sh (t a)
def eO (e : α → W) : List α → W := fun xs => .ol (xs.map e)
def o2 (a : α → W) (b : β → W) : α × β → W := fun p => .ot [a p.1, b p.2]
def o3 (a : α → W) (b : β → W) (c : γ → W) : α × β × γ → W := fun p => .ot [a p.1, b p.2.1, c p.2.2]
def Fz (e : α → W) (t : α → D) : Prop := ∀ a, (e a).toD = some (t a)
theorem fz_sh {t : α → D} : Fz (eD t) t := fun _ => rfl
theorem toDs_map {e : α → W} {t : α → D} (h : Fz e t) : ∀ xs : List α, W.toDs (xs.map e) = some (xs.map t)
  | [] => rfl
  | x :: xs => by simp [W.toDs, h x, toDs_map h xs]
theorem fz_ol {e : α → W} {t : α → D} (h : Fz e t) : Fz (eO e) (tL t) := fun xs => by
  simp only [eO, W.toD, toDs_map h xs]
  rfl
theorem fz_o2 {a : α → W} {b : β → W} {c : α → D} {d : β → D} (h : Fz a c) (k : Fz b d) : Fz (o2 a b) (t2 c d) := fun p => by
  simp [o2, W.toD, W.toDs, h p.1, k p.2, t2]
theorem fz_o3 {a : α → W} {b : β → W} {g : γ → W} {c : α → D} {d : β → D} {k : γ → D} (h1 : Fz a c) (h2 : Fz b d) (h3 : Fz g k) : Fz (o3 a b g) (t3 c d k) := fun p => by
  simp [o3, W.toD, W.toDs, h1 p.1, h2 p.2.1, h3 p.2.2, t3]
theorem fzV {e : α → W} {t : α → D} (h : Fz e t) (a : α) : (e a).toD.map W.sh = some (eD t a) := by rw [h a]; rfl
structure Pl (t : α → D) (pd : α → PyData) (k : Nat) : Prop where
  hpd : ∀ a, (t a).pd = some (pd a)
  lay : ∀ a, (pd a).canLay0 = true
  dep : ∀ a, (pd a).depth ≤ k
  eqv : ∀ a b, PyData.eqv (pd a) (pd b) = true ↔ a = b
theorem pl_I : Pl tI PyData.int 0 := ⟨fun _ => rfl, fun _ => rfl, fun _ => by simp [PyData.depth], fun a b => by simp [PyData.eqv]⟩
section
variable {t : α → D} {pd : α → PyData} {k : Nat}
theorem pl_pds (h : Pl t pd k) : ∀ xs : List α, D.pds (xs.map t) = some (xs.map pd)
  | [] => rfl
  | x :: xs => by simp [D.pds, h.hpd x, pl_pds h xs]
theorem pl_lays (h : Pl t pd k) : ∀ xs : List α, PyData.canLayAll0 (xs.map pd) = true
  | [] => rfl
  | x :: xs => by simp [PyData.canLayAll0, h.lay x, pl_lays h xs]
theorem pl_deps (h : Pl t pd k) : ∀ xs : List α, PyData.depthAll (xs.map pd) ≤ k
  | [] => by simp [PyData.depthAll]
  | x :: xs => by
    have := h.dep x
    have := pl_deps h xs
    simp only [List.map_cons, PyData.depthAll]
    omega
theorem pl_eqs (h : Pl t pd k) : ∀ xs ys : List α, PyData.eqvAll (xs.map pd) (ys.map pd) = true ↔ xs = ys
  | [], [] => by simp [PyData.eqvAll]
  | [], _ :: _ => by simp [PyData.eqvAll]
  | _ :: _, [] => by simp [PyData.eqvAll]
  | x :: xs, y :: ys => by simp [PyData.eqvAll, h.eqv x y, pl_eqs h xs ys]
theorem pl_L (h : Pl t pd k) : Pl (tL t) (fun xs => .list (xs.map pd)) (k + 1) := ⟨fun xs => by simp [tL, D.pd, pl_pds h xs], fun xs => by simpa [PyData.canLay0] using pl_lays h xs, fun xs => by
  have := pl_deps h xs
  simp only [PyData.depth]
  omega, fun xs ys => by simpa [PyData.eqv] using pl_eqs h xs ys⟩
variable {u : β → D} {qd : β → PyData} {l : Nat}
theorem pl_2 (h : Pl t pd k) (g : Pl u qd l) : Pl (t2 t u) (fun p => .tuple [pd p.1, qd p.2]) (max k l + 1) := ⟨fun p => by simp [t2, D.pd, D.pds, h.hpd p.1, g.hpd p.2], fun p => by simp [PyData.canLay0, PyData.canLayAll0, h.lay p.1, g.lay p.2], fun p => by
  have := h.dep p.1
  have := g.dep p.2
  simp only [PyData.depth, PyData.depthAll]
  omega, fun p q => by simp [PyData.eqv, PyData.eqvAll, h.eqv, g.eqv, Prod.ext_iff]⟩
variable {v : γ → D} {rd : γ → PyData} {m : Nat}
theorem wPd_of (h : Pl t pd k) (hk : k ≤ 64) {w : W} {a : α} (e : w.toD = some (t a)) : wPd w = some (pd a) := by
  unfold wPd
  simp only [e, Option.bind_some, h.hpd a]
  rw [if_pos]
  have := h.dep a
  simp [SeqAt.shaped, h.lay a]
  omega
variable {e : α → W} {e' : α → W} [DecidableEq α]
theorem pl_dec (h : Pl t pd k) (a b : α) : PyData.eqv (pd a) (pd b) = decide (a = b) := by
  rw [Bool.eq_iff_iff, h.eqv]
  simp
theorem gEq_p (h : Pl t pd k) (hk : Nat.ble k 64 = true) (f : Fz e t) (f' : Fz e' t) (a b : α) : gEq (e a, e' b) = some (eD tB (decide (a = b))) := by
  simp only [gEq, gDD, wPd_of h (by simpa using hk) (f a), wPd_of h (by simpa using hk) (f' b), fEq, pl_dec h]
  rfl
theorem gNe_p (h : Pl t pd k) (hk : Nat.ble k 64 = true) (f : Fz e t) (f' : Fz e' t) (a b : α) : gNe (e a, e' b) = some (eD tB (!decide (a = b))) := by
  simp only [gNe, gDD, wPd_of h (by simpa using hk) (f a), wPd_of h (by simpa using hk) (f' b), fNe, pl_dec h]
  rfl
theorem any_eqvL (h : Pl t pd k) (a : α) : ∀ xs : List α, (List.any (xs.map pd) fun z => PyData.eqv z (pd a)) = decide (a ∈ xs)
  | [] => by simp
  | x :: xs => by
    simp only [List.map_cons, List.any_cons, any_eqvL h a xs, pl_dec h, List.mem_cons, Bool.decide_or]
    congr 1
    by_cases e : a = x
    · simp [e]
    · have : ¬ x = a := fun z => e z.symm
      simp [e, this]
variable {el : List α → W}
theorem gIn_p (h : Pl t pd k) (hk : Nat.ble (k + 1) 64 = true) (f : Fz e t) (f' : Fz el (tL t)) (a : α) (xs : List α) : gIn (e a, el xs) = some (eD tB (decide (a ∈ xs))) := by
  have hk : k + 1 ≤ 64 := by simpa using hk
  simp only [gIn, gDD, wPd_of h (by omega) (f a), wPd_of (pl_L h) hk (f' xs), fIn, any_eqvL h]
  rfl
end
theorem add_I (i j : Int) : gAdd (eD tI i, eD tI j) = some (eD tI (i + j)) := rfl
theorem sub_I (i j : Int) : gSub (eD tI i, eD tI j) = some (eD tI (i - j)) := rfl
theorem neg_I (i : Int) : gNeg (eD tI i) = some (eD tI (-i)) := rfl
theorem lt_I (i j : Int) : gLt (eD tI i, eD tI j) = some (eD tB (decide (i < j))) := rfl
theorem gt_I (i j : Int) : gGt (eD tI i, eD tI j) = some (eD tB (decide (j < i))) := rfl
theorem ge_I (i j : Int) : gGe (eD tI i, eD tI j) = some (eD tB (decide (j ≤ i))) := rfl
theorem log_lt {n k : Nat} (h : n < 2 ^ k) (h0 : 0 < k) : n.log2 < k := by
  by_cases hn : n = 0
  · subst hn; simpa using h0
  · exact (Nat.log2_lt hn).mpr h
def mulO (i j : Int) : Option Int := if i.natAbs.log2 + j.natAbs.log2 < 100000000 then some (i * j) else none
theorem mul_I (i j : Int) : gMul (eD tI i, eD tI j) = (mulO i j).map (eD tI) := by
  unfold mulO
  simp only [gMul, gMulI, gRep, gII, wInt, eD, tI, wEls]
  by_cases h : i.natAbs.log2 + j.natAbs.log2 < 100000000 <;> simp [h, eD]
theorem mul_c {i j k : Int} (h : decide (i.natAbs.log2 + j.natAbs.log2 < 100000000) = true) (e : i * j = k) : gMul (eD tI i, eD tI j) = some (eD tI k) := by
  rw [mul_I, mulO, if_pos (of_decide_eq_true h), e]
  rfl
theorem mulO_ok {i j : Int} {n m : Nat} (h : i.natAbs < 2 ^ n) (k : j.natAbs < 2 ^ m) (hn : n + m ≤ 99999999) : mulO i j = some (i * j) := by
  unfold mulO
  rw [if_pos]
  have h1 := log_lt (n := i.natAbs) (k := n + 1) (by rw [Nat.pow_succ]; omega) (by omega)
  have h2 := log_lt (n := j.natAbs) (k := m + 1) (by rw [Nat.pow_succ]; omega) (by omega)
  omega
def divO (i j : Int) : Option Int := if 0 < j ∧ j.natAbs.log2 < 9000 then some (i / j) else if j ≠ 0 ∧ j.natAbs < 1073741824 then some (i.fdiv j) else none
theorem div_I (i j : Int) : gDiv (eD tI i, eD tI j) = (divO i j).map (eD tI) := by
  unfold divO
  simp only [gDiv, gDivP, gDivN, gII, wInt, eD, tI]
  by_cases h : 0 < j ∧ j.natAbs.log2 < 9000
  · simp [h, eD]
  · by_cases h2 : j ≠ 0 ∧ j.natAbs < 1073741824
    · simp only [if_neg h, if_pos h2, Bool.and_eq_true, decide_eq_true_eq]
      rfl
    · simp only [if_neg h, if_neg h2, Bool.and_eq_true, decide_eq_true_eq]
      rfl
theorem div_c {i j : Int} (h : (decide (0 < j) && decide (j.natAbs.log2 < 9000)) = true) : gDiv (eD tI i, eD tI j) = some (eD tI (i / j)) := by
  simp only [Bool.and_eq_true, decide_eq_true_eq] at h
  rw [div_I, divO, if_pos h]
  rfl
def modO (i j : Int) : Option Int := if 0 < j then some (i % j) else if j ≠ 0 then some (i.fmod j) else none
theorem mod_I (i j : Int) : gMod (eD tI i, eD tI j) = (modO i j).map (eD tI) := by
  unfold modO
  simp only [gMod, gModP, gModN, gII, wInt, eD, tI]
  by_cases h : 0 < j
  · simp [h, eD]
  · by_cases h2 : j ≠ 0
    · simp only [if_neg h, if_pos h2, decide_eq_true_eq]
      rfl
    · simp only [if_neg h, if_neg h2, decide_eq_true_eq]
      rfl
theorem mod_c {i j : Int} (h : decide (0 < j) = true) : gMod (eD tI i, eD tI j) = some (eD tI (i % j)) := by
  rw [mod_I, modO, if_pos (of_decide_eq_true h)]
  rfl
theorem divO_pos {i j : Int} (h : 0 < j) (k : j.natAbs < 2 ^ 8999) : divO i j = some (i / j) := by
  unfold divO
  rw [if_pos ⟨h, by have := log_lt k (by decide); omega⟩]
theorem modO_pos {i j : Int} (h : 0 < j) : modO i j = some (i % j) := by
  unfold modO
  rw [if_pos h]
theorem pow_c {i j k : Int} (h : (decide (0 ≤ j) && decide (j ≤ 1000000) && decide (i.natAbs < 2 ^ 64)) = true) (e : i ^ j.toNat = k) : gPow (eD tI i, eD tI j) = some (eD tI k) := by
  simp only [gPow, gII, wInt, eD, tI]
  rw [if_pos h, e]
def b2i (b : Bool) : Int := if b = true then 1 else 0
@[simp] theorem b2i_t : b2i true = 1 := rfl
@[simp] theorem b2i_f : b2i false = 0 := rfl
theorem int_B (b : Bool) : gToInt [eD tB b] = some (eD tI (b2i b)) := rfl
def absI (i : Int) : Int := if i < 0 then -i else i
theorem abs_I (i : Int) : gAbs [eD tI i] = some (eD tI (absI i)) := rfl
theorem bl_B (b : Bool) : wBl (eD tB b) = some b := rfl
theorem atI_map {f : α → β} (xs : List α) (i : Int) : L2.atI (xs.map f) i = (L2.atI xs i).map f := by
  unfold L2.atI
  rw [List.length_map]
  rcases L2.ixN xs.length i with _ | j
  · rfl
  · simp
theorem ix_sh {t : α → D} (xs : List α) (i : Int) : gIx (eD (tL t) xs, eD tI i) = (at_ xs i).map (eD t) := by
  show (L2.atI (xs.map t) i).map W.sh = _
  rw [atI_map, Option.map_map]
  rfl
theorem ix_ol {e : α → W} (xs : List α) (i : Int) : gIx (eO e xs, eD tI i) = (at_ xs i).map e := by
  show L2.atI (xs.map e) i = _
  rw [atI_map]
theorem ix_scr (xs : List Int) (i : Int) : gIx (eD tR xs, eD tI i) = (at_ xs i).map (eD tI) := rfl
theorem at_ok {xs : List α} {i : Int} {x : α} (h0 : 0 ≤ i) (h : xs[i.toNat]? = some x) : at_ xs i = some x := by
  have := (List.getElem?_eq_some_iff.mp h).1
  simp [at_, L2.atI, L2.ixN, h0, show i < xs.length by omega]
  exact (List.getElem?_eq_some_iff.mp h).2
@[simp] theorem at_0 {x : α} {xs : List α} : at_ (x :: xs) 0 = some x := at_ok (by omega) rfl
@[simp] theorem at_1 {x y : α} {xs : List α} : at_ (x :: y :: xs) 1 = some y := at_ok (by omega) rfl
@[simp] theorem at_2 {x y z : α} {xs : List α} : at_ (x :: y :: z :: xs) 2 = some z := at_ok (by omega) rfl
theorem len_sh {t : α → D} (xs : List α) : gLen [eD (tL t) xs] = some (eD tI (xs.length : Int)) := by
  show some (W.sh (.int ((xs.map t).length : Int))) = _
  rw [List.length_map]
  rfl
theorem len_ol {e : α → W} (xs : List α) : gLen [eO e xs] = some (eD tI (xs.length : Int)) := by
  show some (W.sh (.int ((xs.map e).length : Int))) = _
  rw [List.length_map]
  rfl
theorem len_scr (xs : List Int) : gLen [eD tR xs] = some (eD tI (xs.length : Int)) := rfl
theorem shsOf_map {t : α → D} : ∀ xs : List α, shsOf (xs.map (eD t)) = some (xs.map t)
  | [] => rfl
  | x :: xs => by simp [shsOf, eD, shsOf_map (t := t) xs, show (fun a => W.sh (t a)) = eD t from rfl]
theorem els_sh {t : α → D} (xs : List α) : wEls (eD (tL t) xs) = some (xs.map t) := rfl
theorem els_ol {t : α → D} (xs : List α) : wEls (eO (eD t) xs) = some (xs.map t) := shsOf_map xs
theorem dInts_map : ∀ xs : List Int, dInts (xs.map tI) = some xs
  | [] => rfl
  | x :: xs => by
    show (dInts (xs.map tI)).map (x :: ·) = _
    rw [dInts_map xs]
    rfl
def LE (e : List α → W) (t : α → D) : Prop := ∀ xs, wEls (e xs) = some (xs.map t)
theorem le_sh {t : α → D} : LE (eD (tL t)) t := els_sh
theorem le_ol {t : α → D} : LE (eO (eD t)) t := els_ol
theorem le_seq {e : List α → W} {t : α → D} (h : LE e t) (xs : List α) : wSeq (e xs) = some (xs.map t) := by
  have := h xs
  unfold wSeq
  split
  · rename_i e2; rw [e2] at this; simp [wEls] at this
  · rename_i e2; rw [e2] at this; simp [wEls] at this
  · rename_i e2; rw [e2] at this; simp [wEls] at this
  · exact this
theorem wInts_le {e : List Int → W} (h : LE e tI) (xs : List Int) : wInts (e xs) = some xs := by
  have := h xs
  unfold wInts
  split
  · rename_i e2; rw [e2] at this; simp [wEls] at this
  · rw [this]; exact dInts_map xs
def minO (xs : List Int) : Option Int := if xs.length = 0 then none else some (minI xs)
theorem min_L {e : List Int → W} (h : LE e tI) (xs : List Int) : gMin [e xs] = (minO xs).map (eD tI) := by
  simp only [gMin, wInts_le h, minO, Option.bind_some]
  split <;> rfl
def catO (xs ys : List α) : Option (List α) := if xs.length + ys.length ≤ 100000 then some (xs ++ ys) else none
theorem cat_L {e e' : List α → W} {t : α → D} (h : LE e t) (h' : LE e' t) (xs ys : List α) : gAdd (e xs, e' ys) = (catO xs ys).map (eO (eD t)) := by
  have a := h xs
  have b := h' ys
  have i1 : wInt (e xs) = none := by
    cases h : e xs with
    | sh d => rw [h] at a; cases d <;> simp [wEls, wInt] at a ⊢
    | ol ws => rfl
    | ot _ => rfl
    | ob _ _ _ => rfl
    | dk _ _ => rfl
    | dt _ _ => rfl
  have i2 : wStr (e xs) = none := by
    cases h : e xs with
    | sh d => rw [h] at a; cases d <;> simp [wEls, wStr] at a ⊢
    | ol ws => rfl
    | ot _ => rfl
    | ob _ _ _ => rfl
    | dk _ _ => rfl
    | dt _ _ => rfl
  have g1 : gAddI (e xs, e' ys) = none := by simp [gAddI, gII, i1]
  have g2 : gAddS (e xs, e' ys) = none := by simp [gAddS, i2]
  simp only [gAdd, g1, g2, Option.none_or, gCat, a, b, catO, List.length_map]
  split
  · simp only [Option.map_some, Option.some.injEq, eO]
    rw [← List.map_append, List.map_map]
    rfl
  · rfl
theorem cutL_map {f : α → β} (xs : List α) (lo hi : Option Int) : cutL (xs.map f) lo hi = (cutL xs lo hi).map f := by
  simp [cutL]
theorem wEls_ne {w : W} {ds : List D} (h : wEls w = some ds) : ∀ a b, gSl (w, a, b) = some (.ol ((cutL ds a b).map W.sh)) := fun a b => by
  cases w with
  | sh d => cases d <;> simp [wEls] at h; subst h; rfl
  | ol ws => simp only [gSl, h, Option.map_some]
  | ot _ => simp [wEls] at h
  | ob _ _ _ => simp [wEls] at h
  | dk _ _ => simp [wEls] at h
  | dt _ _ => simp [wEls] at h
theorem sl_L {e : List α → W} {t : α → D} (h : LE e t) (xs : List α) (lo hi : Option Int) : gSl (e xs, lo, hi) = some (eO (eD t) (cutL xs lo hi)) := by
  rw [wEls_ne (h xs), cutL_map, List.map_map]
  rfl
theorem lst_0 {e : α → W} : gLst [] = some (eO e []) := rfl
theorem lst_1 {e : α → W} {a : α} : gLst [e a] = some (eO e [a]) := rfl
theorem lst_2 {e : α → W} {a b : α} : gLst [e a, e b] = some (eO e [a, b]) := rfl
theorem lst_3 {e : α → W} {a b c : α} : gLst [e a, e b, e c] = some (eO e [a, b, c]) := rfl
theorem lst_n {e : α → W} {ws : List W} (xs : List α) (h : ws = xs.map e) (hl : Nat.ble ws.length 100000 = true) : gLst ws = some (eO e xs) := by
  unfold gLst
  rw [if_pos (by simpa using hl), h]
  rfl
def rgT (lo c : Int) (n : Nat) : List Int := (List.range n).map fun k => lo + (k : Nat) * c
theorem rgL_T (lo c : Int) (n : Nat) : rgL lo c n = (rgT lo c n).map tI := by
  simp only [rgL, rgT, List.map_map]
  rfl
@[simp] theorem rgT_len (lo c : Int) (n : Nat) : (rgT lo c n).length = n := by simp [rgT]
def rg1 (n : Int) : Option (List Int) := if inR n = true then some (rgT 0 1 n.toNat) else none
theorem rg_1 (n : Int) : gRg1 [eD tI n] = (rg1 n).map fun xs => xs.map tI := by
  show (if inR n = true then some (rgL 0 1 n.toNat) else none) = _
  unfold rg1
  split
  · simp [rgL_T]
  · rfl
theorem inR_ok {n : Int} (h : -(2 ^ 62) ≤ n) (k : n < 2 ^ 62) : inR n = true := by
  simp only [inR, Bool.and_eq_true, decide_eq_true_eq]
  omega
theorem rg1_ok {n : Int} (h : -(2 ^ 62) ≤ n) (k : n < 2 ^ 62) : rg1 n = some (rgT 0 1 n.toNat) := by rw [rg1, if_pos (inR_ok h k)]
end
section
variable {α β γ δ σ τ ρ : Type} {J : Jd β τ} {env e' : Env}
def ixO (xs : List α) (i : Int) : Option (Nat × α) := (L2.ixN xs.length i).bind fun j => xs[j]?.map fun x => (j, x)
theorem ixO_mem {xs : List α} {i : Int} {j : Nat} {x : α} (h : ixO xs i = some (j, x)) : L2.ixN xs.length i = some j ∧ xs[j]? = some x ∧ j < xs.length := by
  unfold ixO at h
  rcases e : L2.ixN xs.length i with _ | k
  · rw [e] at h; cases h
  · rw [e] at h
    simp only [Option.bind_some, Option.map_eq_some_iff, Prod.mk.injEq] at h
    obtain ⟨y, h1, rfl, rfl⟩ := h
    exact ⟨rfl, h1, (List.getElem?_eq_some_iff.mp h1).1⟩
theorem ixO_ok {xs : List α} {i : Int} {x : α} (h0 : 0 ≤ i) (h : xs[i.toNat]? = some x) : ixO xs i = some (i.toNat, x) := by
  have := (List.getElem?_eq_some_iff.mp h).1
  simp only [ixO, L2.ixN, if_pos h0, if_pos (show i < xs.length by omega), Option.bind_some, h, Option.map_some]
theorem p_ix {ml : ME Path} {mi : ME W} {e : α → W} {xs : List α} {a : Int} {r : Option (Res β × Env)} {pk : Nat × α → X τ} {path : Path} (hl : ml env = some (.ok path, env)) (hi : mi env = some (.ok (eD tI a), env)) (hg : getE env path = some (eO e xs))
    (k : ∀ j x, lIx ml mi env = some (.ok (path.1, path.2 ++ [j]), env) → getE env (path.1, path.2 ++ [j]) = some (e x) → (∀ y, setE env (path.1, path.2 ++ [j]) (e y) = setE env path (eO e (xs.set j y))) → J.rel r (pk (j, x))) : J.rel r (X.bind (X.ofO (ixO xs a)) pk) := by
  rcases h : ixO xs a with _ | ⟨j, x⟩
  · exact J.non _
  · obtain ⟨h1, h2, h3⟩ := ixO_mem h
    unfold getE at hg
    rcases e1 : env[path.1]? with _ | ⟨_ | w⟩
    · rw [e1] at hg; cases hg
    · rw [e1] at hg; cases hg
    · rw [e1] at hg
      simp only at hg
      have gp : ∀ (js : List Nat) (w : W), getP w js = some (eO e xs) → getP w (js ++ [j]) = some (e x) ∧ ∀ y, putP w (js ++ [j]) (e y) = putP w js (eO e (xs.set j y)) := by
        intro js
        induction js with
        | nil =>
          intro w h
          simp only [getP, Option.some.injEq] at h
          subst h
          refine ⟨?_, fun y => ?_⟩
          · simp [getP, kids, eO, h2]
          · simp [putP, kids, eO, h2, setKid, List.map_set]
        | cons i js ih =>
          intro w h
          simp only [List.cons_append, getP, putP] at h ⊢
          rcases e2 : (kids w).bind (·[i]?) with _ | z
          · rw [e2] at h; cases h
          · rw [e2] at h
            simp only at h ⊢
            obtain ⟨q1, q2⟩ := ih z h
            exact ⟨q1, fun y => by rw [q2 y]⟩
      obtain ⟨q1, q2⟩ := gp _ _ hg
      refine k j x ?_ ?_ fun y => ?_
      · unfold lIx
        have g2 : getE env path = some (eO e xs) := by
          unfold getE
          rw [e1]
          exact hg
        have wi : wInt (eD tI a) = some a := rfl
        have kd : kids (eO e xs) = some (xs.map e) := rfl
        simp only [hl, hi, wi, g2, Option.bind_some, kd, List.length_map, h1]
        simp only [eO, if_pos h3]
      · unfold getE
        simp only [e1]
        exact q1
      · unfold setE
        simp only [e1, q2 y]
def setO (xs : List α) (i : Int) (v : α) : Option (List α) := (L2.ixN xs.length i).bind fun j => if j < xs.length then some (xs.set j v) else none
theorem setO_ok {xs : List α} {i : Int} {v : α} (h0 : 0 ≤ i) (h : i < xs.length) : setO xs i v = some (xs.set i.toNat v) := by
  simp only [setO, L2.ixN, if_pos h0, if_pos h, Option.bind_some, if_pos (show i.toNat < xs.length by omega)]
theorem k_setI {J : Jd Fl τ} {ml : ME Path} {mi : ME W} {e : α → W} {xs : List α} {i : Int} {v : α} {rest : MS} {path : Path} {ev : List α → Env} {pk : List α → X τ} (hl : ml env = some (.ok path, env)) (hi : mi env = some (.ok (eD tI i), env)) (hg : getE env path = some (eO e xs)) (hs : ∀ ys, setE env path (eO e ys) = some (ev ys)) (k : ∀ ys, J.rel (rest (ev ys)) (pk ys)) :
    J.rel (gK (gSetI ml mi) (e v) env rest) (X.bind (X.ofO (setO xs i v)) pk) := by
  have wi : wInt (eD tI i) = some i := rfl
  have : gK (gSetI ml mi) (e v) env rest = match (setO xs i v) with | some ys => rest (ev ys) | none => none := by
    unfold gK gSetI setO
    simp only [hl, hi, wi, hg, eO, List.length_map]
    rcases L2.ixN xs.length i with _ | j
    · rfl
    · simp only [Option.bind_some]
      by_cases h : j < xs.length
      · simp only [if_pos h]
        have := hs (xs.set j v)
        simp only [eO, List.map_set] at this
        rw [this]
        rfl
      · simp only [if_neg h]
  rw [this]
  rcases setO xs i v with _ | ys
  · exact J.non _
  · exact k ys
theorem v_of {m : ME α} {a : α} (h : (jE (fun _ : Unit => a) (fun _ (_ : Unit) => env) (fun _ => False)).rel (m env) (X.ok ())) : m env = some (.ok a, env) := by
  obtain ⟨_, h⟩ := h.h
  exact h
end
end TY
namespace TY
open PySem AM
section
variable {α β γ δ σ τ ρ : Type} {J : Jd β τ} {env e : Env}
theorem chk_ol {ml : ME Path} {path : Path} {el : α → W} {xs : List α} (hl : ml env = some (.ok path, env)) (hg : getE env path = some (eO el xs)) : lChk isOl ml env = some (.ok path, env) := by
  unfold lChk
  simp only [hl, hg]
  rfl
def appO (xs : List α) (x : α) : Option (List α) := if xs.length < 100000 then some (xs ++ [x]) else none
theorem appO_ok {xs : List α} {x : α} (h : xs.length < 100000) : appO xs x = some (xs ++ [x]) := if_pos h
section
variable {κ : W → Env → Option (Res β × Env)} {path : Path} {el : α → W} {xs : List α} {ev : List α → Env} {pk : List α → X τ} {pk2 : List α × α → X τ}
theorem i_app {x : α} (hg : getE e path = some (eO el xs)) (hs : ∀ ys, setE e path (eO el ys) = some (ev ys)) (k : ∀ ys, J.rel (κ (eD tN ()) (ev ys)) (pk ys)) :
    J.rel (inK e path (fun w => onL gApp w [el x]) κ) (X.bind (X.ofO (appO xs x)) pk) := by
  unfold inK
  rw [hg]
  by_cases h : xs.length < 100000
  · have := hs (xs ++ [x])
    simp only [eO, List.map_append, List.map_cons, List.map_nil] at this
    simp only [opK, onL, eO, gApp, List.length_map, appO, if_pos h, Option.map_some, this]
    exact k _
  · simp only [appO, if_neg h]
    exact J.non _
end
section
variable {κ : List AW → Env → Option (Res β × Env)} {p : X τ} {m : ME W} {r : ME (List AW)} {ml : ME Path} {pa : Path} {e' : Env}
theorem xa_nil (h : J.rel (κ [] env) p) : J.rel (aft (wNil env) κ) p := h
theorem xa_own (h : J.rel (aft (m env) fun w e => aft (r e) fun as e => κ (.own w :: as) e) p) : J.rel (aft (wOwn m r env) κ) p := by
  simp only [wOwn, bind_aft, aft_aft, pure_aft]
  exact h
theorem xa_bor (hl : ml env = some (.ok pa, e')) (h : J.rel (aft (r e') fun as e => κ (.bor pa :: as) e) p) : J.rel (aft (wBor ml r env) κ) p := by
  simp only [wBor, wLoc, hl, bind_aft, aft_aft, pure_aft]
  exact h
theorem xa_io (hl : ml env = some (.ok pa, e')) (h : J.rel (aft (r e') fun as e => κ (.io pa :: as) e) p) : J.rel (aft (wIo ml r env) κ) p := by
  simp only [wIo, wLoc, hl, bind_aft, aft_aft, pure_aft]
  exact h
end
theorem aw_nil {o : Option W} : argWs e o [] = some [] := rfl
theorem aw_own {o : Option W} {w : W} {as : List AW} {ws : List W} (h : argWs e o as = some ws) : argWs e o (.own w :: as) = some (w :: ws) := by simp [argWs, h]
theorem aw_bor {o : Option W} {pa : Path} {en : α → W} {t : α → D} {a : α} {as : List AW} {ws : List W} (f : Fz en t) (hg : getE e pa = some (en a)) (h : argWs e o as = some ws) : argWs e o (.bor pa :: as) = some (eD t a :: ws) := by
  simp [argWs, h, hg, f a, eD]
theorem aw_io {w : W} {pa : Path} {as : List AW} {ws : List W} (h : argWs e (some w) as = some ws) : argWs e (some w) (.io pa :: as) = some (w :: ws) := by simp [argWs, h]
section
variable {κ : W → Env → Option (Res β × Env)} {mf : MF} {ma : ME (List AW)} {as : List AW} {ws : List W} {pf : X ρ} {pk : ρ → X τ} {er : ρ → W} {eo : ρ → List (Option W)} {Xo : List (Option W) → Prop} {p : X τ}
theorem x_K0 (h : J.rel (aft (ma env) fun as e => aft (callK0 mf as e) κ) p) : J.rel (aft (mK0 mf ma env) κ) p := by
  simp only [mK0, bind_aft, aft_aft]
  exact h
theorem k_call0 (ha : argWs e none as = some ws) (ht : TF (mf ws) pf er eo Xo) (hio : ioOf as = none) (hb : hasBor as = false) (hx : J.Ex e) (k : ∀ a, J.rel (κ (er a) e) (pk a)) : J.rel (aft (callK0 mf as e) κ) (X.bind pf pk) := by
  unfold callK0
  simp only [hio, ha]
  rcases pf with _ | ⟨a | x⟩
  · exact J.non _
  · rw [show mf ws = _ from ht.h]
    simp only [hb, Bool.false_and]
    exact k a
  · obtain ⟨outs, ht, _⟩ := ht.h
    rw [ht]
    simp only [hb, Bool.false_and]
    exact J.ex x e hx
theorem k_call0b (ha : argWs e none as = some ws) (ht : TF (mf ws) pf er eo Xo) (hio : ioOf as = none) (hc : ∀ a, (er a).closed = true) (hx : J.Ex e) (k : ∀ a, J.rel (κ (er a) e) (pk a)) : J.rel (aft (callK0 mf as e) κ) (X.bind pf pk) := by
  unfold callK0
  simp only [hio, ha]
  rcases pf with _ | ⟨a | x⟩
  · exact J.non _
  · rw [show mf ws = _ from ht.h]
    simp only [resClosed, hc a, Bool.not_true, Bool.and_false]
    exact k a
  · obtain ⟨outs, ht, _⟩ := ht.h
    rw [ht]
    simp only [resClosed, Bool.not_true, Bool.and_false]
    exact J.ex x e hx
def cK1 (mf : MF) (as : List AW) (e : Env) : Option (Res W × Env) := (match ioOf as with | none => ME.stuck | some (i, pa) => if ioCount as = 1 then callK1 mf as i pa else ME.stuck) e
theorem x_K1 (h : J.rel (aft (ma env) fun as e => aft (cK1 mf as e) κ) p) : J.rel (aft (mK1 mf ma env) κ) p := by
  simp only [mK1, bind_aft, aft_aft]
  exact h
theorem k_call1 {i : Nat} {pa : Path} {w : W} {w' : ρ → W} {ev : ρ → Env} (hio : ioOf as = some (i, pa)) (hn : ioCount as = 1) (hg : getE e pa = some w) (ha : argWs (e.set pa.1 none) (some w) as = some ws) (ht : TF (mf ws) pf er eo Xo) (hb : hasBor as = false)
    (ho : ∀ a, (eo a)[i]? = some (some (w' a))) (hs : ∀ a, setE e pa (w' a) = some (ev a)) (hx : ∀ outs, Xo outs → ∃ v e', outs[i]? = some (some v) ∧ setE e pa v = some e' ∧ J.Ex e') (k : ∀ a, J.rel (κ (er a) (ev a)) (pk a)) :
    J.rel (aft (cK1 mf as e) κ) (X.bind pf pk) := by
  unfold cK1
  simp only [hio, if_pos hn]
  unfold callK1
  simp only [hg, ha]
  rcases pf with _ | ⟨a | x⟩
  · exact J.non _
  · rw [show mf ws = _ from ht.h]
    simp only [hb, Bool.false_and, ho a, hs a]
    exact k a
  · obtain ⟨outs, ht, hX⟩ := ht.h
    obtain ⟨v, e', h1, h2, h3⟩ := hx outs hX
    rw [ht]
    simp only [hb, Bool.false_and, h1, h2]
    exact J.ex x e' h3
end
theorem cl_I (i : Int) : (eD tI i).closed = true := rfl
def X.nx (p : X ρ) : X ρ := match p with
  | some (.ok a) => X.ok a
  | _ => none
@[simp] theorem nx_ok {a : ρ} : X.nx (X.ok a) = X.ok a := Eq.trans rfl rfl
theorem k_call0n {κ : W → Env → Option (Res β × Env)} {mf : MF} {as : List AW} {ws : List W} {pf : X ρ} {pk : ρ → X τ} {er : ρ → W} {eo : ρ → List (Option W)} {Xo : List (Option W) → Prop} (ha : argWs e none as = some ws) (ht : TF (mf ws) pf er eo Xo) (hio : ioOf as = none) (hb : hasBor as = false) (k : ∀ a, J.rel (κ (er a) e) (pk a)) : J.rel (aft (callK0 mf as e) κ) (X.bind (X.nx pf) pk) := by
  unfold callK0
  simp only [hio, ha]
  rcases pf with _ | ⟨a | x⟩
  · exact J.non _
  · rw [show mf ws = _ from ht.h]
    simp only [hb, Bool.false_and]
    exact k a
  · exact J.non _
theorem k_call1n {κ : W → Env → Option (Res β × Env)} {mf : MF} {as : List AW} {ws : List W} {pf : X ρ} {pk : ρ → X τ} {er : ρ → W} {eo : ρ → List (Option W)} {Xo : List (Option W) → Prop} {i : Nat} {pa : Path} {w : W} {w' : ρ → W} {ev : ρ → Env} (hio : ioOf as = some (i, pa)) (hn : ioCount as = 1) (hg : getE e pa = some w) (ha : argWs (e.set pa.1 none) (some w) as = some ws) (ht : TF (mf ws) pf er eo Xo) (hb : hasBor as = false)
    (ho : ∀ a, (eo a)[i]? = some (some (w' a))) (hs : ∀ a, setE e pa (w' a) = some (ev a)) (k : ∀ a, J.rel (κ (er a) (ev a)) (pk a)) :
    J.rel (aft (cK1 mf as e) κ) (X.bind (X.nx pf) pk) := by
  unfold cK1
  simp only [hio, if_pos hn]
  unfold callK1
  simp only [hg, ha]
  rcases pf with _ | ⟨a | x⟩
  · exact J.non _
  · rw [show mf ws = _ from ht.h]
    simp only [hb, Bool.false_and, ho a, hs a]
    exact k a
  · exact J.non _
def X.lcG (c : α → X Bool) (f : α → X β) : List α → X (List β)
  | [] => X.ok []
  | x :: xs => X.bind (c x) fun t => if t = true then (X.bind (f x) fun y => X.bind (X.lcG c f xs) fun ys => X.ok (y :: ys)) else X.lcG c f xs
def X.lcX (c : α → X Bool) (f : α → X β) (xs : List α) : X (List β) := if xs.length ≤ 100000 then X.lcG c f xs else X.bad
def X.lcM (f : α → X β) : List α → X (List β)
  | [] => X.ok []
  | x :: xs => X.bind (f x) fun y => X.bind (X.lcM f xs) fun ys => X.ok (y :: ys)
theorem lcG_true (f : α → X β) : ∀ xs, X.lcG (fun _ => X.ok true) f xs = X.lcM f xs
  | [] => rfl
  | x :: xs => by simp [X.lcG, X.lcM, lcG_true f xs]
theorem lcX_M {f : α → X β} {xs : List α} (h : xs.length ≤ 100000) : X.lcX (fun _ => X.ok true) f xs = X.lcM f xs := by rw [X.lcX, if_pos h, lcG_true]
section
variable {κ : W → Env → Option (Res β × Env)} {it : ME (List D)} {g : MG} {c : ME Bool} {el : ME W} {vs : List Nat} {p : X τ}
def clK (o : Option (List W)) (e : Env) (κ : W → Env → Option (Res β × Env)) : Option (Res β × Env) := opK o e fun ws e1 => κ (.ol ws) e1
theorem x_cp (h : J.rel (aft (it env) fun ds e1 => clK (mCLP g c el (wipeE e1 vs) ds []) e1 κ) p) : J.rel (aft (mCompP it g c el vs env) κ) p := by
  have : aft (mCompP it g c el vs env) κ = aft (it env) fun ds e1 => clK (mCLP g c el (wipeE e1 vs) ds []) e1 κ := by
    unfold mCompP clK
    rcases it env with _ | ⟨ds | x, e1⟩
    · rfl
    · simp only [aft]
      rcases mCLP g c el (wipeE e1 vs) ds [] with _ | ws <;> rfl
    · rfl
  rw [this]
  exact h
variable {dd : α → D} {en : γ → W} {ds : List D} {xs : List α}
theorem k_cpX {c : ME Bool} {pc : α → X Bool} {pf : α → X γ} {ev : α → Env} {pk : List γ → X τ} (hd : ds = xs.map dd) (hg : ∀ x, g (.sh (dd x)) (wipeE e vs) = some (.ok (), ev x)) (hc : ∀ x, (jE id (fun (_ : Bool) (_ : Unit) => ev x) (fun _ => False)).rel (c (ev x)) (pc x)) (he : ∀ x, (jE en (fun (_ : γ) (_ : Unit) => ev x) (fun _ => False)).rel (el (ev x)) (pf x)) (k : ∀ ys, J.rel (κ (eO en ys) e) (pk ys)) :
    J.rel (clK (mCLP g c el (wipeE e vs) ds []) e κ) (X.bind (X.lcX pc pf xs) pk) := by
  subst hd
  unfold X.lcX
  split
  · rename_i hl
    have key : ∀ (xs : List α) (acc : List W), acc.length + xs.length ≤ 100000 → match X.lcG pc pf xs with
        | some (.ok ys) => mCLP g c el (wipeE e vs) (xs.map dd) acc = some (acc ++ ys.map en)
        | some (.ex _) => False
        | none => True := by
      intro xs
      induction xs with
      | nil => intro acc _; simp [mCLP, X.lcG, X.ok]
      | cons x xs ih =>
        intro acc h
        simp only [List.length_cons] at h
        have h1 := (hc x).h
        have h2 := (he x).h
        simp only [X.lcG]
        rcases e1 : pc x with _ | ⟨t | z⟩
        · trivial
        · rw [e1] at h1
          obtain ⟨_, h1⟩ := h1
          cases t with
          | false =>
            have := ih acc (by omega)
            simp only [X.bind, Bool.false_eq_true, if_false]
            rcases e3 : X.lcG pc pf xs with _ | ⟨ys | z⟩
            · trivial
            · rw [e3] at this
              simp only [List.map_cons, mCLP, hg x, h1, id]
              exact this
            · rw [e3] at this; exact this
          | true =>
            simp only [X.bind, if_true]
            rcases e2 : pf x with _ | ⟨y | z⟩
            · trivial
            · rw [e2] at h2
              obtain ⟨_, h2⟩ := h2
              have := ih (acc ++ [en y]) (by simp; omega)
              rcases e3 : X.lcG pc pf xs with _ | ⟨ys | z⟩
              · trivial
              · rw [e3] at this
                simp only [List.map_cons, mCLP, hg x, h1, id, h2, if_pos (show acc.length < 100000 by omega), X.ok]
                rw [this]
                simp
              · rw [e3] at this; exact this
            · rw [e2] at h2
              obtain ⟨_, _, h⟩ := h2
              exact h.elim
        · rw [e1] at h1
          obtain ⟨_, _, h⟩ := h1
          exact h.elim
    have := key xs [] (by simpa using hl)
    rcases e3 : X.lcG pc pf xs with _ | ⟨ys | z⟩
    · exact J.non _
    · rw [e3] at this
      simp only [List.nil_append] at this
      rw [this]
      exact k ys
    · rw [e3] at this; exact this.elim
  · exact J.non _
def X.lcS (f : α → σ → X (γ × σ)) : List α → σ → X (List γ × σ)
  | [], s => X.ok ([], s)
  | x :: xs, s => X.bind (f x s) fun y => X.bind (X.lcS f xs y.2) fun ys => X.ok (y.1 :: ys.1, ys.2)
def X.lcSX (f : α → σ → X (γ × σ)) (xs : List α) (s : σ) : X (List γ × σ) := if xs.length ≤ 100000 then X.lcS f xs s else X.bad
theorem x_cs (h : J.rel (aft (it env) fun ds e1 => aft ((match mCL g c el vs ds [] (wipeE e1 vs) with | some (.ok ws, e2) => some (.ok (.ol ws), e2) | _ => none)) κ) p) : J.rel (aft (mComp it g c el vs env) κ) p := by
  have : aft (mComp it g c el vs env) κ = aft (it env) fun ds e1 => aft ((match mCL g c el vs ds [] (wipeE e1 vs) with | some (.ok ws, e2) => some (.ok (.ol ws), e2) | _ => none)) κ := by
    unfold mComp
    rcases it env with _ | ⟨ds | x, e1⟩ <;> rfl
  rw [this]
  exact h
theorem k_cs {Oo Op : Type} {pf : α → σ → X (γ × σ)} {pk : List γ × σ → X τ} (mk : σ → Oo → Env) (mk2 : σ → Op → Env) (ev : α → σ → Oo → Env) (s0 : σ) (os0 : Oo) (hd : ds = xs.map dd) (h0 : wipeE e vs = mk s0 os0) (hg : ∀ x s os, g (.sh (dd x)) (mk s os) = some (.ok (), ev x s os)) (hw : ∀ s os, ∃ os', wipeE (mk2 s os) vs = mk s os')
    (he : ∀ x s os, (jE (fun r : γ × σ => en r.1) (fun r (o : Op) => mk2 r.2 o) (fun _ => False)).rel (el (ev x s os)) (pf x s)) (k : ∀ (r : List γ × σ) os, J.rel (κ (eO en r.1) (mk r.2 os)) (pk r)) :
    J.rel (aft ((match mCL g (ME.pure true) el vs ds [] (wipeE e vs) with | some (.ok ws, e2) => some (.ok (.ol ws), e2) | _ => none)) κ) (X.bind (X.lcSX pf xs s0) pk) := by
  subst hd
  rw [h0]
  by_cases hl : xs.length ≤ 100000
  · rw [X.lcSX, if_pos hl]
    have key : ∀ (xs : List α) (acc : List W) (s : σ) (os : Oo), acc.length + xs.length ≤ 100000 → match X.lcS pf xs s with
        | some (.ok r) => ∃ os', mCL g (ME.pure true) el vs (xs.map dd) acc (mk s os) = some (.ok (acc ++ r.1.map en), mk r.2 os')
        | some (.ex _) => False
        | none => True := by
      intro xs
      induction xs with
      | nil => intro acc s os _; exact ⟨os, by simp [mCL, ME.pure]⟩
      | cons x xs ih =>
        intro acc s os h
        simp only [List.length_cons] at h
        have h2 := (he x s os).h
        simp only [X.lcS]
        rcases e2 : pf x s with _ | ⟨y | z⟩
        · trivial
        · rw [e2] at h2
          obtain ⟨o2, h2⟩ := h2
          obtain ⟨os', hw'⟩ := hw y.2 o2
          have := ih (acc ++ [en y.1]) y.2 os' (by simp; omega)
          simp only [X.bind]
          rcases e3 : X.lcS pf xs y.2 with _ | ⟨ys | z⟩
          · trivial
          · rw [e3] at this
            obtain ⟨o3, this⟩ := this
            refine ⟨o3, ?_⟩
            simp only [List.map_cons, mCL, hg x s os, ME.pure, h2, if_pos (show acc.length < 100000 by omega)]
            rw [hw']
            refine Eq.trans this ?_
            simp
          · rw [e3] at this; exact this
        · rw [e2] at h2
          obtain ⟨_, _, h⟩ := h2
          exact h.elim
    have := key xs [] s0 os0 (by simpa using hl)
    rcases e3 : X.lcS pf xs s0 with _ | ⟨r | z⟩
    · exact J.non _
    · rw [e3] at this
      obtain ⟨o3, this⟩ := this
      simp only [List.nil_append] at this
      rw [this]
      exact k r o3
    · rw [e3] at this; exact this.elim
  · rw [X.lcSX, if_neg hl]
    exact J.non _
end
def gF (N n : Nat) (nio : List Nat) (er : ρ → W) (eo : ρ → List (Option W)) : ρ → W → Env → Prop := fun a w e => w = er a ∧ e.length = N ∧ (wipeE e nio).take n = eo a
def xF (N n : Nat) (nio : List Nat) (Xo : List (Option W) → Prop) : Env → Prop := fun e => e.length = N ∧ Xo ((wipeE e nio).take n)
theorem tf_fn {n N : Nat} {nio : List Nat} {body : MS} {ws : List W} {p : X ρ} {er : ρ → W} {eo : ρ → List (Option W)} {Xo : List (Option W) → Prop} (hl : ws.length = n) (h : (jF (gF N n nio er eo) (xF N n nio Xo)).rel (body (ws.map some ++ List.replicate (N - n) none)) p) : TF (fnM n N nio body ws) p er eo Xo := by
  unfold fnM
  rw [if_pos hl]
  rcases p with _ | ⟨a | x⟩
  · exact ⟨trivial⟩
  · obtain ⟨w, e, h, rfl, h2, h3⟩ := h.h
    rcases h with h | ⟨h, h4⟩
    · rw [h]
      simp only [if_pos h2, h3]
      exact ⟨rfl⟩
    · rw [h]
      simp only [if_pos h2, h3, ← h4]
      exact ⟨rfl⟩
  · obtain ⟨e, h, h2, h3⟩ := h.h
    rw [h]
    simp only [if_pos h2]
    exact ⟨⟨_, rfl, h3⟩⟩
def xAny : List (Option W) → Prop := fun _ => True
def xIo (i : Nat) : List (Option W) → Prop := fun o => ∃ w, o[i]? = some (some w)
end
end TY
namespace TY
open PySem AM
section
variable {α β γ σ ρ : Type}
theorem forP_at {b : α → σ → X σ} (I : Nat → σ → Prop) : ∀ {xs : List α} {k : Nat} {s : σ}, I k s → (∀ i x s, xs[i]? = some x → I (k + i) s → ∃ s', b x s = X.ok s' ∧ I (k + i + 1) s') → ∃ s', X.forP b xs s = X.ok s' ∧ I (k + xs.length) s'
  | [], k, s, h, _ => ⟨s, rfl, h⟩
  | x :: xs, k, s, h, st => by
    obtain ⟨s1, h1, h2⟩ := st 0 x s rfl h
    obtain ⟨s2, h3, h4⟩ := forP_at I (xs := xs) (k := k + 1) (s := s1) h2 fun i y s hy hi => by
      have := st (i + 1) y s (by simpa using hy) (by rwa [show k + (i + 1) = k + 1 + i by omega])
      rwa [show k + (i + 1) + 1 = k + 1 + i + 1 by omega] at this
    refine ⟨s2, ?_, by rw [show k + (x :: xs).length = k + 1 + xs.length by simp; omega]; exact h4⟩
    simp only [X.forP, h1, bind_ok, h3]
theorem forP_ok {b : α → σ → X σ} {xs : List α} {s : σ} (I : Nat → σ → Prop) (h : I 0 s) (st : ∀ i x s, xs[i]? = some x → I i s → ∃ s', b x s = X.ok s' ∧ I (i + 1) s') : ∃ s', X.forP b xs s = X.ok s' ∧ I xs.length s' := by
  have := forP_at I (xs := xs) (k := 0) h fun i d env hd hi => by
    rw [Nat.zero_add] at hi ⊢
    exact st i d env hd hi
  rwa [Nat.zero_add] at this
theorem lcS_at {f : α → σ → X (γ × σ)} (I : Nat → List γ → σ → Prop) : ∀ {xs : List α} {k : Nat} {acc : List γ} {s : σ}, I k acc s → (∀ i x acc s, xs[i]? = some x → I (k + i) acc s → ∃ y s', f x s = X.ok (y, s') ∧ I (k + i + 1) (acc ++ [y]) s') → ∃ ys s', X.lcS f xs s = X.ok (ys, s') ∧ I (k + xs.length) (acc ++ ys) s'
  | [], k, acc, s, h, _ => ⟨[], s, rfl, by simpa using h⟩
  | x :: xs, k, acc, s, h, st => by
    obtain ⟨y, s1, h1, h2⟩ := st 0 x acc s rfl h
    obtain ⟨ys, s2, h3, h4⟩ := lcS_at I (xs := xs) (k := k + 1) (acc := acc ++ [y]) (s := s1) h2 fun i z acc s hy hi => by
      have := st (i + 1) z acc s (by simpa using hy) (by rwa [show k + (i + 1) = k + 1 + i by omega])
      rwa [show k + (i + 1) + 1 = k + 1 + i + 1 by omega] at this
    refine ⟨y :: ys, s2, ?_, by rw [show k + (x :: xs).length = k + 1 + xs.length by simp; omega]; simpa using h4⟩
    simp only [X.lcS, h1, bind_ok, h3]
theorem lcSX_ok {f : α → σ → X (γ × σ)} {xs : List α} {s : σ} (I : Nat → List γ → σ → Prop) (hl : xs.length ≤ 100000) (h : I 0 [] s) (st : ∀ i x acc s, xs[i]? = some x → I i acc s → ∃ y s', f x s = X.ok (y, s') ∧ I (i + 1) (acc ++ [y]) s') : ∃ ys s', X.lcSX f xs s = X.ok (ys, s') ∧ I xs.length ys s' := by
  have := lcS_at I (xs := xs) (k := 0) (acc := []) h fun i d acc env hd hi => by
    rw [Nat.zero_add] at hi ⊢
    exact st i d acc env hd hi
  rw [X.lcSX, if_pos hl]
  rw [Nat.zero_add] at this
  exact this
@[simp] theorem bindR_go {s : σ} {k : σ → X ρ} : X.bindR (X.ok (.go s)) k = k s := Eq.trans rfl rfl
@[simp] theorem bindR_rt {r : ρ} {k : σ → X ρ} : X.bindR (X.ok (.rt r)) k = X.ok r := Eq.trans rfl rfl
@[simp] theorem bindO_go {τ lam : Type} {s : σ} {k : σ → X (Out τ lam ρ)} : X.bindO (X.ok (.go s)) k = k s := Eq.trans rfl rfl
@[simp] theorem bindO_rt {τ lam : Type} {r : ρ} {k : σ → X (Out τ lam ρ)} : X.bindO (X.ok (.rt r)) k = X.ok (.rt r) := Eq.trans rfl rfl
@[simp] theorem up_go {lam : Type} {s : σ} : X.up (lam := lam) (ρ := ρ) (X.ok (.go s)) = X.ok (.go s) := Eq.trans rfl rfl
@[simp] theorem up_rt {lam : Type} {r : ρ} : X.up (σ := σ) (lam := lam) (X.ok (.rt r)) = X.ok (.rt r) := Eq.trans rfl rfl
end
end TY
namespace TY
open PySem AM
section
variable {α β γ : Type}
def fn (xs : List Int) (i : Nat) : Int := xs.getD i 0
end
def S : Nat → (Nat → Int) → Int
  | 0, _ => 0
  | n + 1, f => S n f + f n
section
variable {n : Nat} {f g : Nat → Int}
theorem S_congr (h : ∀ i, i < n → f i = g i) : S n f = S n g := by
  induction n with
  | zero => rfl
  | succ n ih => rw [S, S, ih fun i hi => h i (by omega), h n (by omega)]
theorem S_add : S n (fun i => f i + g i) = S n f + S n g := by
  induction n with
  | zero => rfl
  | succ n ih => simp only [S, ih]; omega
theorem S_sub : S n (fun i => f i - g i) = S n f - S n g := by
  induction n with
  | zero => rfl
  | succ n ih => simp only [S, ih]; omega
theorem S_const {c : Int} : S n (fun _ => c) = n * c := by
  induction n with
  | zero => simp [S]
  | succ n ih =>
    simp only [S, ih]
    rw [Int.natCast_add, Int.add_mul]
    simp
theorem S_zero : S n (fun _ => 0) = 0 := by rw [S_const]; simp
theorem S_one {a : Nat} {c : Int} : S n (fun i => if i = a then c else 0) = if a < n then c else 0 := by
  induction n with
  | zero => rfl
  | succ n ih =>
    simp only [S, ih]
    by_cases h : a < n
    · rw [if_pos h, if_neg (by omega), if_pos (by omega)]; omega
    · rw [if_neg h]
      by_cases e : n = a
      · rw [if_pos e, if_pos (by omega)]; omega
      · rw [if_neg e, if_neg (by omega)]; omega
theorem S_oneF {a : Nat} {h : Nat → Int} : S n (fun i => if i = a then h i else 0) = if a < n then h a else 0 := by
  rw [← S_one (n := n) (a := a) (c := h a)]
  refine S_congr fun i _ => ?_
  by_cases e : i = a
  · rw [if_pos e, if_pos e, e]
  · rw [if_neg e, if_neg e]
theorem S_nonneg (h : ∀ i, i < n → 0 ≤ f i) : 0 ≤ S n f := by
  induction n with
  | zero => simp [S]
  | succ n ih =>
    have := ih fun i hi => h i (by omega)
    have := h n (by omega)
    simp only [S]; omega
theorem S_le (h : ∀ i, i < n → f i ≤ g i) : S n f ≤ S n g := by
  induction n with
  | zero => simp [S]
  | succ n ih =>
    have := ih fun i hi => h i (by omega)
    have := h n (by omega)
    simp only [S]; omega
end
def Sl {α : Type} (xs : List α) (f : α → Int) : Int := (xs.map f).sum
section
variable {α : Type} {xs ys : List α} {f g : α → Int}
@[simp] theorem Sl_nil : Sl ([] : List α) f = 0 := rfl
@[simp] theorem Sl_cons {x : α} : Sl (x :: xs) f = f x + Sl xs f := by simp [Sl]
theorem Sl_congr (h : ∀ x ∈ xs, f x = g x) : Sl xs f = Sl xs g := by
  unfold Sl
  rw [List.map_congr_left h]
theorem Sl_add : Sl xs (fun x => f x + g x) = Sl xs f + Sl xs g := by
  induction xs with
  | nil => rfl
  | cons x xs ih => simp only [Sl_cons, ih]; omega
theorem Sl_sub : Sl xs (fun x => f x - g x) = Sl xs f - Sl xs g := by
  induction xs with
  | nil => rfl
  | cons x xs ih => simp only [Sl_cons, ih]; omega
theorem Sl_mul {c : Int} : Sl xs (fun x => c * f x) = c * Sl xs f := by
  induction xs with
  | nil => simp
  | cons x xs ih => simp only [Sl_cons, ih, Int.mul_add]
theorem Sl_const {c : Int} : Sl xs (fun _ => c) = xs.length * c := by
  induction xs with
  | nil => simp
  | cons x xs ih =>
    simp only [Sl_cons, ih, List.length_cons, Int.natCast_add, Int.add_mul]
    omega
theorem Sl_zero (h : ∀ x ∈ xs, f x = 0) : Sl xs f = 0 := by
  rw [Sl_congr h, Sl_const]; simp
theorem Sl_nonneg (h : ∀ x ∈ xs, 0 ≤ f x) : 0 ≤ Sl xs f := by
  induction xs with
  | nil => simp
  | cons x xs ih =>
    have := ih fun y hy => h y (by simp [hy])
    have := h x (by simp)
    simp only [Sl_cons]; omega
theorem S_Sl {n : Nat} {F : Nat → α → Int} : S n (fun i => Sl xs fun x => F i x) = Sl xs fun x => S n fun i => F i x := by
  induction xs with
  | nil => simp [S_zero]
  | cons x xs ih => simp only [Sl_cons, S_add, ih]
end
abbrev Ties := List (Int × Int)
def flow (x : Nat → Int) (i : Nat) (t : Int × Int) : Int := if i = t.1.toNat then x t.1.toNat - x t.2.toNat else if i = t.2.toNat then x t.2.toNat - x t.1.toNat else 0
def lap (ties : Ties) (x : Nat → Int) (i : Nat) : Int := Sl ties (flow x i)
def TiesOk (n : Nat) (ties : Ties) : Prop := ∀ t ∈ ties, 0 ≤ t.1 ∧ t.1 < t.2 ∧ t.2 < n
theorem lap_add {ties : Ties} {x y : Nat → Int} {i : Nat} : lap ties (fun j => x j + y j) i = lap ties x i + lap ties y i := by
  unfold lap
  rw [← Sl_add]
  refine Sl_congr fun t _ => ?_
  simp only [flow]
  split
  · omega
  · split <;> omega
theorem lap_sub {ties : Ties} {x y : Nat → Int} {i : Nat} : lap ties (fun j => x j - y j) i = lap ties x i - lap ties y i := by
  unfold lap
  rw [← Sl_sub]
  refine Sl_congr fun t _ => ?_
  simp only [flow]
  split
  · omega
  · split <;> omega
theorem lap_const {ties : Ties} {c : Int} {i : Nat} : lap ties (fun _ => c) i = 0 := by
  refine Sl_zero fun t _ => ?_
  simp only [flow]
  split
  · omega
  · split <;> omega
theorem lap_congr {n : Nat} {ties : Ties} {x y : Nat → Int} (ht : TiesOk n ties) (h : ∀ j, j < n → x j = y j) (i : Nat) : lap ties x i = lap ties y i := by
  refine Sl_congr fun t ht' => ?_
  obtain ⟨h1, h2, h3⟩ := ht t ht'
  unfold flow
  rw [h t.1.toNat (by omega), h t.2.toNat (by omega)]
theorem flow_sum {n : Nat} {w x : Nat → Int} {t : Int × Int} (h1 : 0 ≤ t.1) (h2 : t.1 < t.2) (h3 : t.2 < n) : S n (fun i => w i * flow x i t) = (w t.1.toNat - w t.2.toNat) * (x t.1.toNat - x t.2.toNat) := by
  have : ∀ i, w i * flow x i t = (if i = t.1.toNat then w i * (x t.1.toNat - x t.2.toNat) else 0) + (if i = t.2.toNat then w i * (x t.2.toNat - x t.1.toNat) else 0) := fun i => by
    unfold flow
    by_cases e : i = t.1.toNat
    · have e2 : ¬ i = t.2.toNat := by omega
      simp only [if_pos e, if_neg e2]
      omega
    · by_cases e2 : i = t.2.toNat
      · simp only [if_neg e, if_pos e2]
        omega
      · simp [if_neg e, if_neg e2]
  rw [S_congr fun i _ => this i, S_add, S_oneF (h := fun i => w i * (x t.1.toNat - x t.2.toNat)), S_oneF (h := fun i => w i * (x t.2.toNat - x t.1.toNat)), if_pos (by omega), if_pos (by omega), Int.sub_mul]
  simp only [Int.mul_sub]
  omega
theorem lap_pair {n : Nat} {ties : Ties} (ht : TiesOk n ties) {w x : Nat → Int} : S n (fun i => w i * lap ties x i) = Sl ties fun t => (w t.1.toNat - w t.2.toNat) * (x t.1.toNat - x t.2.toNat) := by
  unfold lap
  have : ∀ i, w i * Sl ties (flow x i) = Sl ties fun t => w i * flow x i t := fun i => Sl_mul.symm
  rw [S_congr fun i _ => this i, S_Sl]
  refine Sl_congr fun t h => ?_
  obtain ⟨h1, h2, h3⟩ := ht t h
  exact flow_sum h1 h2 h3
theorem lap_sum {n : Nat} {ties : Ties} (ht : TiesOk n ties) {x : Nat → Int} : S n (lap ties x) = 0 := by
  have := lap_pair ht (w := fun _ => 1) (x := x)
  simp only [Int.one_mul, Int.sub_self, Int.zero_mul] at this
  rw [show S n (lap ties x) = S n fun i => lap ties x i from rfl, this]
  exact Sl_zero fun _ _ => rfl
end TY
namespace TY
open PySem AM
section
variable {α β γ δ σ τ ρ : Type}
def k2 (a : α → D) (b : β → D) : α × β → D := fun p => .lst [a p.1, b p.2]
def k3 (a : α → D) (b : β → D) (c : γ → D) : α × β × γ → D := fun p => .lst [a p.1, b p.2.1, c p.2.2]
def k4 (a : α → D) (b : β → D) (c : γ → D) (d : δ → D) : α × β × γ × δ → D := fun p => .lst [a p.1, b p.2.1, c p.2.2.1, d p.2.2.2]
def l2 (a : α → W) (b : β → W) : α × β → W := fun p => .ol [a p.1, b p.2]
def l3 (a : α → W) (b : β → W) (c : γ → W) : α × β × γ → W := fun p => .ol [a p.1, b p.2.1, c p.2.2]
def l4 (a : α → W) (b : β → W) (c : γ → W) (d : δ → W) : α × β × γ × δ → W := fun p => .ol [a p.1, b p.2.1, c p.2.2.1, d p.2.2.2]
def o4 (a : α → W) (b : β → W) (c : γ → W) (d : δ → W) : α × β × γ × δ → W := fun p => .ot [a p.1, b p.2.1, c p.2.2.1, d p.2.2.2]
end
end TY
namespace TY
open PySem AM
section
variable {α β γ δ σ τ ρ : Type}
def w0 : Unit → List W := fun _ => []
def w1 (e : α → W) : α → List W := fun a => [e a]
def eB (c : Str) (fs : List Str) (l : α → List W) : α → W := fun a => .ob c fs (l a)
def d0 : Unit → List D := fun _ => []
def d1 (t : α → D) : α → List D := fun a => [t a]
end
end TY
namespace TY
open PySem AM
section
variable {α β : Type}
def tQ (t : α → D) : Option α → D
  | none => .non
  | some a => t a
def pdQ (pd : α → PyData) : Option α → PyData
  | none => .none
  | some a => pd a
theorem pl_Q {t : α → D} {pd : α → PyData} {k : Nat} (h : Pl t pd k) (n1 : ∀ a, PyData.eqv (pd a) .none = false) (n2 : ∀ a, PyData.eqv .none (pd a) = false) : Pl (tQ t) (pdQ pd) k := by
  refine ⟨fun a => ?_, fun a => ?_, fun a => ?_, fun a b => ?_⟩
  · cases a with
    | none => rfl
    | some a => exact h.hpd a
  · cases a with
    | none => rfl
    | some a => exact h.lay a
  · cases a with
    | none => simp [pdQ, PyData.depth]
    | some a => exact h.dep a
  · cases a with
    | none => cases b with
      | none => simp [pdQ, PyData.eqv]
      | some b => simp [pdQ, n2 b]
    | some a => cases b with
      | none => simp [pdQ, n1 a]
      | some b => simp [pdQ, h.eqv a b]
section
variable {t : α → D} {pd : α → PyData} {k : Nat} {e : α → W} {e' : β → W} [DecidableEq α]
theorem gEq_q (g : β → α) (h : Pl t pd k) (hk : Nat.ble k 64 = true) (f : Fz e t) (f' : ∀ b, (e' b).toD = some (t (g b))) (a : α) (b : β) : gEq (e a, e' b) = some (eD tB (decide (a = g b))) := by
  simp only [gEq, gDD, wPd_of h (by simpa using hk) (f a), wPd_of h (by simpa using hk) (f' b), fEq, pl_dec h]
  rfl
end
theorem fq_sh {t : α → D} : ∀ b, (eD t b).toD = some (tQ t (some b)) := fun _ => rfl
end
end TY
namespace TY
open PySem AM
def tT : List Nat → D := fun l => .str (SX.S l)
section
variable {α β τ : Type} {J : Jd β τ} {p : X τ} {env : Env}
theorem x_str {κ : W → Env → Option (Res β × Env)} {z : Str} {l : List Nat} (h : z = SX.S l) (k : J.rel (κ (eD tT l) env) p) : J.rel (aft (mC (.str z) env) κ) p := by
  subst h
  exact k
theorem o_imp {γ : Type} {o : Option α} {f : Option γ} {ec : γ → α} {e : Env} {κ : α → Env → Option (Res β × Env)} {pk : γ → X τ} (h : ∀ c, f = some c → o = some (ec c)) (k : ∀ c, J.rel (κ (ec c) e) (pk c)) : J.rel (opK o e κ) (X.bind (X.ofO f) pk) := by
  cases f with
  | none => exact J.non _
  | some c =>
    rw [h c rfl]
    exact k c
theorem x_itS {m : ME W} {κ : List D → Env → Option (Res β × Env)} (h : J.rel (aft (m env) fun w e => opK (wSigns w) e κ) p) : J.rel (aft (mItS m env) κ) p := by
  simp only [mItS, bind_aft, aft_aft, op_aft]
  exact h
end
theorem len_T0 (l : List Nat) : (SX.S l).length = l.length := SX.S_len l
def strT (i : Int) : Option (List Nat) := if i.natAbs.log2 < 1920 then some (toString i : Str).cps.toList else none
theorem str_T (i : Int) : gStr [eD tI i] = (strT i).map (eD tT) := by
  have wi : wInt (eD tI i) = some i := rfl
  simp only [gStr, wi, Option.bind_some, strT]
  split
  · rfl
  · rfl
def catT (a b : List Nat) : Option (List Nat) := if a.length + b.length ≤ 100000 then some (a ++ b) else none
theorem cat_T (a b : List Nat) : gAdd (eD tT a, eD tT b) = (catT a b).map (eD tT) := by
  have h1 : gAddI (eD tT a, eD tT b) = none := rfl
  have h2 : gAddS (eD tT a, eD tT b) = (catT a b).map (eD tT) := by
    have wa : wStr (eD tT a) = some (SX.S a) := rfl
    have wb : wStr (eD tT b) = some (SX.S b) := rfl
    simp only [gAddS, wa, wb, catT, len_T0]
    split
    · simp only [Option.map_some, eD, tT, SX.S_cat]
    · rfl
  have h3 : gCat (eD tT a, eD tT b) = none := rfl
  simp only [gAdd, h1, h2, h3, Option.none_or, Option.or_none]
def lenT (a : List Nat) : Option Int := if a.length ≤ 100000 then some (a.length : Int) else none
theorem len_T (a : List Nat) : gLen [eD tT a] = (lenT a).map (eD tI) := by
  simp only [gLen, eD, tT, lenT, len_T0]
  split <;> rfl
def cutT (a : List Nat) (lo hi : Option Int) : Option (List Nat) := if a.length ≤ 100000 then some (cutL a lo hi) else none
theorem sl_T (a : List Nat) (lo hi : Option Int) : gSl (eD tT a, lo, hi) = (cutT a lo hi).map (eD tT) := by
  simp only [gSl, eD, tT, cutT, len_T0]
  split
  · simp only [Option.map_some, L2.cutS, len_T0, cutL, SX.S]
    rfl
  · rfl
def ixT (a : List Nat) (i : Int) : Option (List Nat) := if a.length ≤ 100000 then (at_ a i).map fun c => [c] else none
theorem ix_T (a : List Nat) (i : Int) : gIx (eD tT a, eD tI i) = (ixT a i).map (eD tT) := by
  have wi : wInt (eD tI i) = some i := rfl
  simp only [gIx, wi]
  simp only [eD, tT, ixT, len_T0]
  split
  · simp only [at_, Option.map_map]
    rfl
  · rfl
def okT (a : List Nat) : Bool := a.all (· < 0x110000)
def eqT (a b : List Nat) : Option Bool := if okT a = true ∧ okT b = true then some (decide (a = b)) else none
def neT (a b : List Nat) : Option Bool := if okT a = true ∧ okT b = true then some (!decide (a = b)) else none
theorem wPd_T {a : List Nat} (h : okT a = true) : wPd (eD tT a) = some (.str (SX.S a)) := by
  have h2 : SeqAt.shaped (.str (SX.S a)) = true := by
    simp only [SeqAt.shaped, PyData.canLay0, PyData.strOk, PyData.depth, Bool.and_eq_true, decide_eq_true_eq]
    refine ⟨?_, rfl⟩
    rw [← Array.all_toList]
    exact h
  unfold wPd
  show (match (some (PyData.str (SX.S a))) with | some x => if SeqAt.shaped x then some x else none | none => none) = _
  simp only [h2, if_true]
theorem eqv_T (a b : List Nat) : PyData.eqv (.str (SX.S a)) (.str (SX.S b)) = decide (a = b) := by
  simp only [PyData.eqv]
  exact SX.S_beq_eq
theorem eq_T (a b : List Nat) : ∀ c, eqT a b = some c → gEq (eD tT a, eD tT b) = some (eD tB c) := fun c h => by
  unfold eqT at h
  split at h
  · rename_i h2
    cases h
    simp only [gEq, gDD, wPd_T h2.1, wPd_T h2.2, fEq, eqv_T]
    rfl
  · cases h
theorem ne_T (a b : List Nat) : ∀ c, neT a b = some c → gNe (eD tT a, eD tT b) = some (eD tB c) := fun c h => by
  unfold neT at h
  split at h
  · rename_i h2
    cases h
    simp only [gNe, gDD, wPd_T h2.1, wPd_T h2.2, fNe, eqv_T]
    rfl
  · cases h
def notInT (x z : List Nat) : Option Bool := match x with
  | [c] => some (!decide (c ∈ z))
  | _ => none
theorem notIn_T (x z : List Nat) : gNotInC (eD tT x, eD tT z) = (notInT x z).map (eD tB) := by
  cases x with
  | nil => rfl
  | cons c r => cases r <;> rfl
def sgns (z : List Nat) : List (List Nat) := z.map fun c => [c]
theorem signs_T (z : List Nat) : wSigns (eD tT z) = some ((sgns z).map tT) := by
  simp only [wSigns, eD, tT, signs, sgns, List.map_map]
  rfl
def intT (a : List Nat) : Option Int := if a.length ≤ 640 then intText? (SX.S a) else none
theorem int_T (a : List Nat) : gToInt [eD tT a] = (intT a).map (eD tI) := by
  simp only [gToInt, eD, tT, intT, len_T0]
  split <;> rfl
theorem str_of_T (a : List Nat) : (wStr (eD tT a)).map (fun s => W.sh (.str s)) = some (eD tT a) := rfl
def splitT (a b : List Nat) : Option (List (List Nat)) := if b ≠ [] ∧ b.all (· < 256) = true ∧ a.length ≤ 90000 then some (TL.spl b 0 [] a) else none
theorem split_T (a b : List Nat) : ∀ c, splitT a b = some c → gSplit (eD tT a, [eD tT b]) = some (eO (eD tT) c) := fun c h => by
  unfold splitT at h
  split at h
  · rename_i h2
    cases h
    have hl : ((SX.S b).length == 0) = false := by
      rw [len_T0]
      have := List.length_pos_iff.mpr h2.1
      exact beq_eq_false_iff_ne.mpr (by omega)
    show (if ((SX.S b).length == 0) = false ∧ (SX.S a).length ≤ 90000 then some (W.ol ((Txt.split (SX.S a) (SX.S b)).map fun z => W.sh (.str z))) else none) = _
    rw [if_pos ⟨hl, by rw [len_T0]; exact h2.2.2⟩, SX.split_S h2.1 h2.2.1, List.map_map]
    rfl
  · cases h
theorem dStrs_T : ∀ ys : List (List Nat), dStrs (ys.map tT) = some (ys.map SX.S)
  | [] => rfl
  | y :: ys => by
    have := dStrs_T ys
    show (dStrs (ys.map tT)).map (SX.S y :: ·) = _
    rw [this]
    rfl
def joinT (a : List Nat) (ys : List (List Nat)) : Option (List Nat) := if (ys.map (·.length)).sum + ys.length * a.length ≤ 100000 then some (TL.joinL a ys) else none
theorem join_T {e : List (List Nat) → W} (h : LE e tT) (a : List Nat) (ys : List (List Nat)) : gJoin (eD tT a, [e ys]) = (joinT a ys).map (eD tT) := by
  have w1 : wStr (eD tT a) = some (SX.S a) := rfl
  have w2 : (wSeq (e ys)).bind dStrs = some (ys.map SX.S) := by
    rw [le_seq h ys]
    exact dStrs_T ys
  simp only [gJoin, w1, w2, joinT, SX.lens, List.length_map, len_T0, SX.join_S]
  split <;> rfl
def partT (a b : List Nat) : Option (List Nat × List Nat × List Nat) := if b ≠ [] ∧ a.length ≤ 90000 then some (match TL.par b [] a with
  | some (p, q) => (p, b, q)
  | none => (a, [], [])) else none
theorem part_T (a b : List Nat) : ∀ c, partT a b = some c → gPart (eD tT a, [eD tT b]) = some (eD (t3 tT tT tT) c) := fun c h => by
  unfold partT at h
  split at h
  · rename_i h2
    cases h
    have hl : ((SX.S b).length == 0) = false := by
      rw [len_T0]
      have := List.length_pos_iff.mpr h2.1
      exact beq_eq_false_iff_ne.mpr (by omega)
    show (if ((SX.S b).length == 0) = false ∧ (SX.S a).length ≤ 90000 then some (W.sh (.tup [.str (Txt.partition (SX.S a) (SX.S b)).1, .str (Txt.partition (SX.S a) (SX.S b)).2.1, .str (Txt.partition (SX.S a) (SX.S b)).2.2])) else none) = _
    rw [if_pos ⟨hl, by rw [len_T0]; exact h2.2⟩]
    cases hp : TL.par b [] a with
    | none => rw [SX.partition_none h2.1 hp]; rfl
    | some r =>
      obtain ⟨p, q⟩ := r
      rw [SX.partition_some h2.1 hp]
      rfl
  · cases h
end TY
namespace TY
open PySem AM
inductive Kd where
  | web | place | owes | dues | times | unlike | figures | much | many | tie | bridge | saying | text | name | line | told | clear | no
  | n (i : Int)
  deriving DecidableEq
section
variable {β τ : Type} {J : Jd Fl τ} {env : Env} {rest : MS} {c : Str} {p : X τ} {m : ME W}
def X.keep (cs : List Str) (p : X Unit) : X (Option XV) := match p with
  | some (.ok _) => X.ok none
  | some (.ex x) => if cs.contains x.c then X.ok (some x) else X.bad
  | none => X.bad
end
end TY
namespace TY
open PySem AM
end TY
namespace TY
open PySem AM
end TY
namespace TY
open PySem AM
end TY
namespace TY
open PySem AM
end TY
namespace TY
open PySem AM
end TY
namespace TY
open PySem AM
def strY (d : D) : Option Str := match (match D.pd d with | some x => if SeqAt.shaped x then some x else none | none => none) with
  | some (.list xs) => if okY (.list xs) then some (PyData.shown (.list xs)) else none
  | some (.tuple xs) => if okY (.tuple xs) then some (PyData.shown (.tuple xs)) else none
  | _ => none
structure Yk (dep n : Nat) (d : D) : Prop where
  ex : ∃ p, D.pd d = some p ∧ plY p = true ∧ p.showable = true ∧ p.canLay0 = true ∧ p.depth ≤ dep ∧ p.weight ≤ n
theorem Yk.mono {dep n dep' n' : Nat} {d : D} (h : Yk dep n d) (a : dep ≤ dep') (b : n ≤ n') : Yk dep' n' d := by
  obtain ⟨p, h1, h2, h3, h4, h5, h6⟩ := h
  exact ⟨p, h1, h2, h3, h4, by omega, by omega⟩
theorem yk_I {i : Int} {b : Nat} (h : i.natAbs < 2 ^ b) (hb : b ≤ 1919) : Yk 0 b (tI i) := by
  have key : i.natAbs ≠ 0 → i.natAbs.log2 < b := fun h0 => (Nat.log2_lt h0).mpr h
  refine ⟨.int i, rfl, rfl, ?_, rfl, by simp [PyData.depth], ?_⟩
  · simp only [PyData.showable, decide_eq_true_eq]
    by_cases h0 : i.natAbs = 0
    · rw [h0]; decide
    · have := key h0
      omega
  · simp only [PyData.weight]
    by_cases h0 : i = 0
    · simp [h0]
    · have := key (by omega)
      rw [if_neg (by simpa using h0)]
      omega
theorem yks {dep n : Nat} : ∀ {ds : List D}, (∀ d ∈ ds, Yk dep n d) → ∃ ps, D.pds ds = some ps ∧ plYs ps = true ∧ PyData.showableAll ps = true ∧ PyData.canLayAll0 ps = true ∧ PyData.depthAll ps ≤ dep ∧ PyData.weightAll ps ≤ ds.length * (n + 1)
  | [], _ => ⟨[], rfl, rfl, rfl, rfl, by simp [PyData.depthAll], by simp [PyData.weightAll]⟩
  | d :: ds, h => by
    obtain ⟨p, a1, a2, a3, a4, a5, a6⟩ := (h d (by simp)).ex
    obtain ⟨ps, b1, b2, b3, b4, b5, b6⟩ := yks (ds := ds) fun x hx => h x (by simp [hx])
    refine ⟨p :: ps, by simp [D.pds, a1, b1], by simp [plYs, a2, b2], by simp [PyData.showableAll, a3, b3], by simp [PyData.canLayAll0, a4, b4], ?_, ?_⟩
    · simp only [PyData.depthAll]
      omega
    · simp only [PyData.weightAll, List.length_cons, Nat.add_mul]
      omega
theorem yk_lst {dep n : Nat} {ds : List D} (h : ∀ d ∈ ds, Yk dep n d) : Yk (dep + 1) (ds.length * (n + 1)) (.lst ds) := by
  obtain ⟨ps, b1, b2, b3, b4, b5, b6⟩ := yks h
  exact ⟨.list ps, by simp [D.pd, b1], by simpa [plY] using b2, by simpa [PyData.showable] using b3, by simpa [PyData.canLay0] using b4, by simp only [PyData.depth]; omega, by simpa only [PyData.weight] using b6⟩
theorem yk_tup {dep n : Nat} {ds : List D} (h : ∀ d ∈ ds, Yk dep n d) : Yk (dep + 1) (ds.length * (n + 1)) (.tup ds) := by
  obtain ⟨ps, b1, b2, b3, b4, b5, b6⟩ := yks h
  exact ⟨.tuple ps, by simp [D.pd, b1], by simpa [plY] using b2, by simpa [PyData.showable] using b3, by simpa [PyData.canLay0] using b4, by simp only [PyData.depth]; omega, by simpa only [PyData.weight] using b6⟩
theorem strY_tup {dep n : Nat} {ds : List D} (h : Yk dep n (.tup ds)) (h1 : dep ≤ 40) (h2 : n ≤ 1000000) : ∃ s, strY (.tup ds) = some s ∧ PyData.strOk s = true := by
  obtain ⟨p, a1, a2, a3, a4, a5, a6⟩ := h
  simp only [D.pd, Option.map_eq_some_iff] at a1
  obtain ⟨ps, e, rfl⟩ := a1
  have hs : SeqAt.shaped (.tuple ps) = true := by
    simp only [SeqAt.shaped, Bool.and_eq_true, decide_eq_true_eq]
    exact ⟨a4, by omega⟩
  have ok : okY (.tuple ps) = true := by
    simp only [okY, a2, a3, Bool.and_self, Bool.true_and, Bool.and_eq_true, decide_eq_true_eq]
    exact ⟨by omega, by omega⟩
  refine ⟨_, ?_, (okY_fits ok).2.2.2.2⟩
  unfold strY
  simp only [D.pd, e, Option.map_some, hs, if_true, ok]
theorem yk_ints {xs : List Int} {b : Nat} (h : ∀ x ∈ xs, x.natAbs < 2 ^ b) (hb : b ≤ 1919) : Yk 1 (xs.length * (b + 1)) ((tL tI) xs) := by
  have := yk_lst (dep := 0) (n := b) (ds := xs.map tI) fun d hd => by
    obtain ⟨x, hx, rfl⟩ := List.mem_map.mp hd
    exact yk_I (h x hx) hb
  rw [List.length_map] at this
  exact this
end TY
namespace TY
open PySem AM
end TY
namespace TY
open PySem AM
end TY
namespace TY
open PySem AM
end TY
namespace TY
open PySem AM
def t1 {α : Type} (t : α → D) : α → D := fun a => .tup [t a]
end TY
namespace TY
open PySem AM
end TY
namespace TY
open PySem AM
end TY
namespace TY
open PySem AM
end TY
namespace TY
open PySem AM
end TY
namespace TY
open PySem AM
end TY
namespace TY
open PySem AM
end TY
namespace TY
open PySem AM
end TY
namespace TY
open PySem AM
end TY
namespace TY
open PySem AM
end TY
namespace TY
open PySem AM
end TY
namespace TY
open PySem AM
end TY
namespace TY
open PySem AM
end TY
namespace TY
open PySem AM
end TY
namespace TY
open PySem AM
def wsD (o : Option W) : Option D := match o with
  | some (.sh d) => some d
  | _ => none
def wsB (o : Option W) : Option Bool := match o with
  | some (.sh (.bl b)) => some b
  | _ => none
def wsI (o : Option W) : Option Int := match o with
  | some (.sh (.int i)) => some i
  | _ => none
theorem wsD_ok {o : Option W} {c : D} (h : wsD o = some c) : o = some (eD tD c) := by
  unfold wsD at h
  split at h
  · cases h; rfl
  · cases h
theorem wsB_ok {o : Option W} {c : Bool} (h : wsB o = some c) : o = some (eD tB c) := by
  unfold wsB at h
  split at h
  · cases h; rfl
  · cases h
theorem wsI_ok {o : Option W} {c : Int} (h : wsI o = some c) : o = some (eD tI c) := by
  unfold wsI at h
  split at h
  · cases h; rfl
  · cases h
def dEls : D → Option (List D)
  | .lst ds => some ds
  | _ => none
theorem els_D (d : D) : ∀ c, dEls d = some c → wEls (eD tD d) = some (c.map tD) := fun c h => by
  unfold dEls at h
  split at h
  · cases h
    show some _ = some _
    rw [show (tD : D → D) = id from rfl, List.map_id]
  · cases h
def AsOk {α : Type} (t : α → D) (as : D → Option α) : Prop := ∀ d x, as d = some x → d = t x
def asI : D → Option Int
  | .int i => some i
  | _ => none
def asAll {α : Type} (as : D → Option α) : List D → Option (List α)
  | [] => some []
  | d :: ds => match as d, asAll as ds with
    | some x, some xs => some (x :: xs)
    | _, _ => none
def asL {α : Type} (as : D → Option α) : D → Option (List α)
  | .lst ds => asAll as ds
  | _ => none
def as2 {α β : Type} (a : D → Option α) (b : D → Option β) : D → Option (α × β)
  | .tup [x, y] => match a x, b y with
    | some u, some v => some (u, v)
    | _, _ => none
  | _ => none
theorem asI_ok : AsOk tI asI := fun d x h => by
  unfold asI at h
  split at h
  · cases h; rfl
  · cases h
theorem asAll_ok {α : Type} {t : α → D} {as : D → Option α} (k : AsOk t as) : ∀ {ds : List D} {xs : List α}, asAll as ds = some xs → ds = xs.map t
  | [], _, h => by cases h; rfl
  | d :: ds, xs, h => by
    unfold asAll at h
    split at h
    · rename_i x ys e1 e2
      cases h
      rw [k d x e1, asAll_ok k e2]
      rfl
    · cases h
theorem asL_ok {α : Type} {t : α → D} {as : D → Option α} (k : AsOk t as) : AsOk (tL t) (asL as) := fun d x h => by
  unfold asL at h
  split at h
  · rw [asAll_ok k h]; rfl
  · cases h
theorem as2_ok {α β : Type} {t : α → D} {u : β → D} {a : D → Option α} {b : D → Option β} (k : AsOk t a) (l : AsOk u b) : AsOk (t2 t u) (as2 a b) := fun d x h => by
  unfold as2 at h
  split at h
  · split at h
    · rename_i e1 e2
      cases h
      rw [k _ _ e1, l _ _ e2]
      rfl
    · cases h
  · cases h
@[simp] theorem asAll_map {α : Type} {t : α → D} {as : D → Option α} (h : ∀ x, as (t x) = some x) : ∀ xs : List α, asAll as (xs.map t) = some xs
  | [] => rfl
  | x :: xs => by
    show (match as (t x), asAll as (xs.map t) with | some x, some xs => some (x :: xs) | _, _ => none) = _
    rw [h x, asAll_map h xs]
@[simp] theorem asLI_tL (xs : List Int) : asL asI (tL tI xs) = some xs := asAll_map (t := tI) (fun _ => rfl) xs
@[simp] theorem asLI_map (xs : List Int) : asL asI (.lst (xs.map .int)) = some xs := asAll_map (t := D.int) (fun _ => rfl) xs
section
variable {α β γ σ τ : Type} {J : Jd β τ} {e : Env} {κ : W → Env → Option (Res β × Env)} {t : α → D} {as : D → Option α} {d : D} {pk : α → X τ}
theorem k_asR {R : Option (Res β × Env)} (k : AsOk t as) (h : ∀ x, d = t x → J.rel R (pk x)) : J.rel R (X.bind (X.ofO (as d)) pk) := by
  cases q : as d with
  | none => exact J.non _
  | some x => exact h x (k d x q)
theorem k_asb {g : List W → Option W} (k : AsOk t as) (h : ∀ x, J.rel (opK (g [eD t x]) e κ) (pk x)) : J.rel (opK (g [eD tD d]) e κ) (X.bind (X.ofO (as d)) pk) := by
  cases q : as d with
  | none => exact J.non _
  | some x =>
    rw [show eD tD d = eD t x from congrArg W.sh (k d x q)]
    exact h x
theorem aw_ownE {o : Option W} {w w' : W} {as : List AW} {ws : List W} (q : w = w') (h : argWs e o as = some ws) : argWs e o (.own w :: as) = some (w' :: ws) := by rw [q]; exact aw_own h
theorem asW {x : α} (h : d = t x) : eD tD d = eD t x := congrArg W.sh h
end
end TY
namespace TY
open PySem AM
section
variable {α : Type}
def o1 (a : α → W) : α → W := fun p => .ot [a p]
end
end TY
namespace TY
open PySem AM
def asT : D → Option (List Nat)
  | .str s => some s.cps.toList
  | _ => none
theorem asT_ok : AsOk tT asT := fun d x h => by
  unfold asT at h
  split at h
  · cases h; rfl
  · cases h
@[simp] theorem asT_tT (l : List Nat) : asT (tT l) = some l := rfl
theorem pl_QI : Pl (tQ tI) (pdQ PyData.int) 0 := pl_Q pl_I (fun _ => by simp [PyData.eqv]) fun _ => by simp [PyData.eqv]
end TY
namespace TY
open AM PySem
section
variable {α β γ τ : Type} {J : Jd β τ} {κ : W → Env → Option (Res β × Env)} {it : ME (List D)} {g : MG} {c : ME Bool} {el : ME W} {vs : List Nat} {p : X τ} {env e : Env}
def clX (o : Option (List W ⊕ (XV × Env))) (vs : List Nat) (e : Env) (κ : W → Env → Option (Res β × Env)) : Option (Res β × Env) := match o with
  | none => none
  | some (.inl ws) => κ (.ol ws) e
  | some (.inr (x, e3)) => some (.ex x, wipeE e3 vs)
theorem x_cpX (h : J.rel (aft (it env) fun ds e1 => clX (mCLX g c el (wipeE e1 vs) ds []) vs e1 κ) p) : J.rel (aft (mCompX it g c el vs env) κ) p := by
  have : aft (mCompX it g c el vs env) κ = aft (it env) fun ds e1 => clX (mCLX g c el (wipeE e1 vs) ds []) vs e1 κ := by
    unfold mCompX clX
    rcases it env with _ | ⟨ds | x, e1⟩
    · rfl
    · simp only [aft]
      rcases mCLX g c el (wipeE e1 vs) ds [] with _ | ⟨ws | ⟨x, e3⟩⟩ <;> rfl
    · rfl
  rw [this]
  exact h
variable {dd : α → D} {en : γ → W} {ds : List D} {xs : List α}
theorem k_cpY {c : ME Bool} {pc : α → X Bool} {pf : α → X γ} {ev : α → Env} {pk : List γ → X τ} (hd : ds = xs.map dd) (hg : ∀ x, g (.sh (dd x)) (wipeE e vs) = some (.ok (), ev x)) (hc : ∀ x, (jE id (fun (_ : Bool) (_ : Unit) => ev x) (fun _ => False)).rel (c (ev x)) (pc x)) (he : ∀ x, (jE en (fun (_ : γ) (_ : Unit) => ev x) (fun e3 => e3 = ev x)).rel (el (ev x)) (pf x)) (hx : ∀ x, J.Ex (wipeE (ev x) vs)) (k : ∀ ys, J.rel (κ (eO en ys) e) (pk ys)) :
    J.rel (clX (mCLX g c el (wipeE e vs) ds []) vs e κ) (X.bind (X.lcX pc pf xs) pk) := by
  subst hd
  unfold X.lcX
  split
  · rename_i hl
    have key : ∀ (xs : List α) (acc : List W), acc.length + xs.length ≤ 100000 → match X.lcG pc pf xs with
        | some (.ok ys) => mCLX g c el (wipeE e vs) (xs.map dd) acc = some (.inl (acc ++ ys.map en))
        | some (.ex z) => ∃ x, mCLX g c el (wipeE e vs) (xs.map dd) acc = some (.inr (z, ev x))
        | none => True := by
      intro xs
      induction xs with
      | nil => intro acc _; simp [mCLX, X.lcG, X.ok]
      | cons x xs ih =>
        intro acc h
        simp only [List.length_cons] at h
        have h1 := (hc x).h
        have h2 := (he x).h
        simp only [X.lcG]
        rcases e1 : pc x with _ | ⟨t | z⟩
        · trivial
        · rw [e1] at h1
          obtain ⟨_, h1⟩ := h1
          cases t with
          | false =>
            have := ih acc (by omega)
            simp only [X.bind, Bool.false_eq_true, if_false]
            rcases e3 : X.lcG pc pf xs with _ | ⟨ys | z⟩
            · trivial
            · rw [e3] at this
              simp only [List.map_cons, mCLX, hg x, h1, id]
              exact this
            · rw [e3] at this
              simp only [List.map_cons, mCLX, hg x, h1, id]
              exact this
          | true =>
            simp only [X.bind, if_true]
            rcases e2 : pf x with _ | ⟨y | z⟩
            · trivial
            · rw [e2] at h2
              obtain ⟨_, h2⟩ := h2
              have := ih (acc ++ [en y]) (by simp; omega)
              rcases e3 : X.lcG pc pf xs with _ | ⟨ys | z⟩
              · trivial
              · rw [e3] at this
                simp only [List.map_cons, mCLX, hg x, h1, h2, id, if_pos (show acc.length < 100000 by omega), X.ok] at this ⊢
                rw [this]
                simp
              · rw [e3] at this
                simp only [List.map_cons, mCLX, hg x, h1, h2, id, if_pos (show acc.length < 100000 by omega)]
                exact this
            · rw [e2] at h2
              obtain ⟨e3, h2, rfl⟩ := h2
              exact ⟨x, by simp only [List.map_cons, mCLX, hg x, h1, h2, id]⟩
        · rw [e1] at h1
          obtain ⟨_, _, h1⟩ := h1
          exact h1.elim
    have := key xs [] (by simpa using hl)
    rcases e3 : X.lcG pc pf xs with _ | ⟨ys | z⟩
    · exact J.non _
    · rw [e3] at this
      simp only at this
      rw [this]
      have := k ys
      simpa [clX, eO, X.bind] using this
    · rw [e3] at this
      obtain ⟨x, hx2⟩ := this
      rw [hx2]
      exact J.ex _ _ (hx x)
  · exact J.non _
end
end TY
namespace TY
open AM PySem PySem.Spec PySem.Builtin PySem.Builtin.Str L2
def as3 {α β γ : Type} (a : D → Option α) (b : D → Option β) (c : D → Option γ) : D → Option (α × β × γ)
  | .tup [x, y, z] => match a x, b y, c z with
    | some u, some v, some w => some (u, v, w)
    | _, _, _ => none
  | _ => none
theorem as3_ok {α β γ : Type} {t : α → D} {u : β → D} {v : γ → D} {a : D → Option α} {b : D → Option β} {c : D → Option γ} (k : AsOk t a) (l : AsOk u b) (m : AsOk v c) : AsOk (t3 t u v) (as3 a b c) := fun d x h => by
  unfold as3 at h
  split at h
  · split at h
    · rename_i e1 e2 e3
      cases h
      rw [k _ _ e1, l _ _ e2, m _ _ e3]
      rfl
    · cases h
  · cases h
end TY
namespace TY
open AM PySem
abbrev eW : W → W := fun w => w
end TY
namespace TY
open AM PySem
end TY
namespace TY
open PySem AM
end TY
namespace TY
open PySem AM
end TY
namespace TY
open PySem AM
def X.blk {σ α ρ τ : Type} (pm : X (Out σ Unit Bool)) (pa : σ → X α) (pf : α → X ρ) (okB : ρ → Bool) (pd : X τ) (pk : ρ → X τ) (pr : Bool → X τ) : X τ := match pm with
  | some (.ok (.go s)) => match pa s with
    | some (.ok a) => match pf a with
      | some (.ok r) => if okB r = true then pk r else pr false
      | _ => none
    | _ => none
  | some (.ok (.ct _)) => pd
  | some (.ok (.rt b)) => pr b
  | _ => none
end TY
set_option maxHeartbeats 1000000
namespace TY
open PySem AM
theorem str_W (w : W) : gStrY [eW w] = ((W.toD w).bind strY).map (eD tS) := by
  have hw : wPd w = (W.toD w).bind fun d => (match D.pd d with | some x => if SeqAt.shaped x then some x else none | none => none) := by
    unfold wPd
    cases W.toD w <;> rfl
  unfold gStrY
  simp only [hw]
  rcases W.toD w with _ | d
  · rfl
  · simp only [Option.bind_some]
    unfold strY
    rcases D.pd d with _ | x
    · rfl
    · dsimp only
      by_cases hs : SeqAt.shaped x = true
      · rw [if_pos hs]
        cases x with
        | list xs => dsimp only; split <;> rfl
        | tuple xs => dsimp only; split <;> rfl
        | _ => rfl
      · rw [if_neg hs]
        rfl
end TY
set_option maxHeartbeats 4000000
namespace LW
open PySem AM TY
def p__law_numbers_text (a_numbers : List Int) : X (List Nat) :=
  X.bind (X.lcX (fun (x1 : Int) => X.ok true) (fun (x1 : Int) => X.bind (X.ofO (strT  x1)) fun x3 => X.ok x3) a_numbers) fun x2 => X.bind (X.ofO (joinT ([32] : List Nat) x2)) fun x4 => X.ok x4
theorem t__law_numbers_text (a_numbers : List Int) : TF (m__law_numbers_text [(eD (tL tI)) a_numbers]) (p__law_numbers_text a_numbers) (fun r => (eD tT) r) (fun r => [none]) xAny :=
  tf_fn rfl (s_last (s_ret (x_ms (x_str (l := ([32] : List Nat)) (by rfl) (o_val (str_of_T _) (x_cons (x_cp (x_itL (x_val rfl (o_val (le_sh _) (k_cpX (en := (eD tT)) rfl (fun _ => rfl) (fun (x1 : Int) => e_true) (fun (x1 : Int) => (x_all (x_bi (x_cons (x_val rfl (x_nil (o_par (str_T _) fun x3 => (e_end () rfl rfl)))))))) fun x2 => (x_nil (o_par (join_T le_ol _ _) fun x4 => (n_ret ⟨rfl, rfl, rfl⟩))))))))))))))
def p__law_row_text (a_row_here : List Int × Int × (List (List Int × Int))) : X (List Nat) :=
  X.bind (p__law_numbers_text a_row_here.1) fun r1 => X.bind (X.ofO (catT  ([59, 32] : List Nat) r1)) fun x2 => X.bind (X.ofO (catT  x2 ([32, 105, 115, 32] : List Nat))) fun x3 => X.bind (X.ofO (strT  a_row_here.2.1)) fun x4 => X.bind (X.ofO (catT  x3 x4)) fun x5 => if (decide (a_row_here.2.2 = [])) = true then (X.ok x5) else X.bind (X.ofO (catT  x5 ([58, 32] : List Nat))) fun x6 => X.bind (X.lcX (fun (x7 : List Int × Int) => X.ok true) (fun (x7 : List Int × Int) => X.bind (X.nx (p__law_numbers_text x7.1)) fun r9 => X.bind (X.ofO (catT  r9 ([32, 116, 111, 32] : List Nat))) fun x10 => X.bind (X.ofO (strT  x7.2)) fun x11 => X.bind (X.ofO (catT  x10 x11)) fun x12 => X.ok x12) a_row_here.2.2) fun x8 => X.bind (X.ofO (joinT ([44, 32] : List Nat) x8)) fun x13 => X.bind (X.ofO (catT  x6 x13)) fun x14 => X.ok x14
theorem t__law_row_text (a_row_here : List Int × Int × (List (List Int × Int))) : TF (m__law_row_text [(eD (t3 (tL tI) tI (tL (t2 (tL tI) tI)))) a_row_here]) (p__law_row_text a_row_here) (fun r => (eD tT) r) (fun r => [none]) xAny :=
  tf_fn rfl (s_asg (x_fz (x_op2 (x_op2 (x_op2 (x_str (l := ([59, 32] : List Nat)) (by rfl) (x_K0 (xa_own (x_fz (x_ix (x_val rfl (x_val (e := _) (a := (eD tI) 0) rfl (o_val (a := (eD (tL tI)) a_row_here.1) rfl (o_val (fzV fz_sh _) (xa_nil (k_call0 (aw_own aw_nil) (t__law_numbers_text a_row_here.1) rfl rfl ⟨rfl, trivial⟩ fun r1 => (o_par (cat_T _ _) fun x2 => (x_str (l := ([32, 105, 115, 32] : List Nat)) (by rfl) (o_par (cat_T _ _) fun x3 => (x_bi (x_cons (x_ix (x_val rfl (x_val (e := _) (a := (eD tI) 1) rfl (o_val (a := (eD tI) a_row_here.2.1) rfl (x_nil (o_par (str_T _) fun x4 => (o_par (cat_T _ _) fun x5 => (o_val (fzV fz_sh _) (k_set rfl (n_env (e' := ([some ((eD (t3 (tL tI) tI (tL (t2 (tL tI) tI)))) a_row_here), some ((eD tT) x5), none, none] : AM.Env)) rfl (s_if (x_B (x_op2 (x_ix (x_val rfl (x_val (e := _) (a := (eD tI) 2) rfl (o_val (a := (eD (tL (t2 (tL tI) tI))) a_row_here.2.2) rfl (x_lst (x_nil (o_val (lst_0 (e := (eD (t2 (tL tI) tI)))) (o_val (gEq_p (pl_L (pl_2 (pl_L pl_I) pl_I)) rfl fz_sh (fz_ol fz_sh) _ _) (o_val (bl_B _) (k_if (s_ret (x_val rfl (n_ret ⟨rfl, rfl, rfl⟩))) (s_nx (s_last (s_ret (x_op2 (x_op2 (x_val rfl (x_str (l := ([58, 32] : List Nat)) (by rfl) (o_par (cat_T _ _) fun x6 => (x_ms (x_str (l := ([44, 32] : List Nat)) (by rfl) (o_val (str_of_T _) (x_cons (x_cp (x_itL (x_ix (x_val rfl (x_val (e := _) (a := (eD tI) 2) rfl (o_val (a := (eD (tL (t2 (tL tI) tI))) a_row_here.2.2) rfl (o_val (le_sh _) (k_cpX (en := (eD tT)) rfl (fun _ => rfl) (fun (x7 : List Int × Int) => e_true) (fun (x7 : List Int × Int) => (x_all (x_op2 (x_op2 (x_K0 (xa_own (x_val rfl (xa_nil (k_call0n (aw_own aw_nil) (t__law_numbers_text x7.1) rfl rfl fun r9 => (x_str (l := ([32, 116, 111, 32] : List Nat)) (by rfl) (o_par (cat_T _ _) fun x10 => (x_bi (x_cons (x_val rfl (x_nil (o_par (str_T _) fun x11 => (o_par (cat_T _ _) fun x12 => (e_end () rfl rfl)))))))))))))))))) fun x8 => (x_nil (o_par (join_T le_ol _ _) fun x13 => (o_par (cat_T _ _) fun x14 => (n_ret ⟨rfl, rfl, rfl⟩))))))))))))))))))))))))))))))))))))))))))))))))))))))))))))))))))))
def p__law_bar_text (a_times : List Int) (a_order : List Int) : X (List Nat) :=
  X.bind (p__law_numbers_text a_times) fun r1 => X.bind (X.ofO (catT  ([98, 97, 114, 32] : List Nat) r1)) fun x2 => X.bind (X.ofO (catT  x2 ([32, 98, 121, 32] : List Nat))) fun x3 => X.bind (p__law_numbers_text a_order) fun r4 => X.bind (X.ofO (catT  x3 r4)) fun x5 => X.ok x5
theorem t__law_bar_text (a_times : List Int) (a_order : List Int) : TF (m__law_bar_text [(eD (tL tI)) a_times, (eD (tL tI)) a_order]) (p__law_bar_text a_times a_order) (fun r => (eD tT) r) (fun r => [none, none]) xAny :=
  tf_fn rfl (s_last (s_ret (x_op2 (x_op2 (x_op2 (x_str (l := ([98, 97, 114, 32] : List Nat)) (by rfl) (x_K0 (xa_own (x_val rfl (xa_nil (k_call0 (aw_own aw_nil) (t__law_numbers_text a_times) rfl rfl ⟨rfl, trivial⟩ fun r1 => (o_par (cat_T _ _) fun x2 => (x_str (l := ([32, 98, 121, 32] : List Nat)) (by rfl) (o_par (cat_T _ _) fun x3 => (x_K0 (xa_own (x_val rfl (xa_nil (k_call0 (aw_own aw_nil) (t__law_numbers_text a_order) rfl rfl ⟨rfl, trivial⟩ fun r4 => (o_par (cat_T _ _) fun x5 => (n_ret ⟨rfl, rfl, rfl⟩)))))))))))))))))))))
def p__law_paper_text (a_paper_here : D) : X (List Nat) :=
  X.bind (X.ofO (wsD (gIx (((eD tD) a_paper_here), ((eD tI) 0))))) fun x1 => X.bind (X.ofO (wsB (gInQ (((eD tD) x1), ((eD (t2 tT tT)) (([97, 110, 121] : List Nat), ([115, 117, 109] : List Nat))))))) fun x2 => if x2 = true then (X.bind (X.ofO (asT x1)) fun x3 => X.ok x3) else X.bind (X.ofO (wsB (gEq (((eD tD) x1), ((eD tT) ([114, 111, 119, 115] : List Nat)))))) fun x4 => if x4 = true then (X.bind (X.ofO (wsD (gIx (((eD tD) a_paper_here), ((eD tI) 1))))) fun x5 => X.bind (X.ofO ((asL asI) x5)) fun x6 => X.bind (p__law_numbers_text x6) fun r7 => X.bind (X.ofO (catT  ([114, 111, 119, 115, 32] : List Nat) r7)) fun x8 => X.bind (X.ofO (wsD (gIx (((eD tD) a_paper_here), ((eD tI) 2))))) fun x9 => X.bind (X.ofO (dEls x9)) fun x10 => X.bind (X.lcX (fun (x11 : D) => X.ok true) (fun (x11 : D) => X.bind (X.ofO ((as3 (asL asI) asI (asL (as2 (asL asI) asI))) x11)) fun x13 => X.bind (X.nx (p__law_row_text x13)) fun r14 => X.ok r14) x10) fun x12 => X.bind (X.ofO (joinT ([] : List Nat) x12)) fun x15 => X.bind (X.ofO (catT  x8 x15)) fun x16 => X.ok x16) else X.bind (X.ofO (wsI (gLen [((eD tD) a_paper_here)]))) fun x17 => if (decide (x17 = 1)) = true then (X.bind (X.ofO ((asL asI) x1)) fun x18 => X.bind (p__law_numbers_text x18) fun r19 => X.bind (X.ofO (catT  ([116, 105, 109, 101, 115, 32] : List Nat) r19)) fun x20 => X.ok x20) else X.bind (X.ofO (wsI (gLen [((eD tD) a_paper_here)]))) fun x21 => if (decide (x21 = 3)) = true then (X.bind (X.ofO ((asL asI) x1)) fun x22 => X.bind (p__law_numbers_text x22) fun r23 => X.bind (X.ofO (catT  ([108, 111, 115, 115, 32] : List Nat) r23)) fun x24 => X.bind (X.ofO (catT  x24 ([32] : List Nat))) fun x25 => X.bind (X.ofO (wsD (gIx (((eD tD) a_paper_here), ((eD tI) 1))))) fun x26 => X.bind (X.ofO (wsD (gIx (((eD tD) a_paper_here), ((eD tI) 2))))) fun x27 => X.bind (X.ofO ((asL asI) x26)) fun x28 => X.bind (X.ofO ((asL asI) x27)) fun x29 => X.bind (p__law_bar_text x28 x29) fun r30 => X.bind (X.ofO (catT  x25 r30)) fun x31 => X.ok x31) else X.bind (X.ofO (wsB (gIs "list" ((eD tD) x1)))) fun x32 => if x32 = true then (X.bind (X.ofO (wsD (gIx (((eD tD) a_paper_here), ((eD tI) 1))))) fun x33 => X.bind (X.ofO ((asL asI) x1)) fun x34 => X.bind (X.ofO ((asL asI) x33)) fun x35 => X.bind (p__law_bar_text x34 x35) fun r36 => X.ok r36) else X.bind (X.ofO (asI x1)) fun x37 => X.bind (X.ofO (strT  x37)) fun x38 => X.bind (X.ofO (catT  ([109, 111, 100, 32] : List Nat) x38)) fun x39 => X.bind (X.ofO (catT  x39 ([32, 98, 121, 32] : List Nat))) fun x40 => X.bind (X.ofO (wsD (gIx (((eD tD) a_paper_here), ((eD tI) 1))))) fun x41 => X.bind (X.ofO ((asL asI) x41)) fun x42 => X.bind (p__law_numbers_text x42) fun r43 => X.bind (X.ofO (catT  x40 r43)) fun x44 => X.ok x44
theorem t__law_paper_text (a_paper_here : D) : TF (m__law_paper_text [(eD tD) a_paper_here]) (p__law_paper_text a_paper_here) (fun r => (eD tT) r) (fun r => [none]) xAny :=
  tf_fn rfl (s_asg (x_fz (x_ix (x_val rfl (x_val (e := _) (a := (eD tI) 0) rfl (o_imp (fun _ h => wsD_ok h) fun x1 => (o_val (fzV fz_sh _) (k_set rfl (n_env (e' := ([some ((eD tD) a_paper_here), some ((eD tD) x1), none] : AM.Env)) rfl (s_if (x_B (x_op2 (x_val rfl (x_tup (x_cons (x_str (l := ([97, 110, 121] : List Nat)) (by rfl) (x_cons (x_str (l := ([115, 117, 109] : List Nat)) (by rfl) (x_nil (o_val (a := (eD (t2 tT tT)) (([97, 110, 121] : List Nat), ([115, 117, 109] : List Nat))) rfl (o_imp (fun _ h => wsB_ok h) fun x2 => (o_val (bl_B _) (k_if (s_ret (x_val rfl (k_asR asT_ok fun x3 hx3 => (n_ret ⟨congrArg W.sh hx3, rfl, rfl⟩)))) (s_nx (s_if (x_B (x_op2 (x_val rfl (x_str (l := ([114, 111, 119, 115] : List Nat)) (by rfl) (o_imp (fun _ h => wsB_ok h) fun x4 => (o_val (bl_B _) (k_if (s_ret (x_op2 (x_op2 (x_str (l := ([114, 111, 119, 115, 32] : List Nat)) (by rfl) (x_K0 (xa_own (x_fz (x_ix (x_val rfl (x_val (e := _) (a := (eD tI) 1) rfl (o_imp (fun _ h => wsD_ok h) fun x5 => (o_val (fzV fz_sh _) (xa_nil (k_asR (asL_ok asI_ok) fun x6 hx6 => (k_call0 (aw_ownE (asW hx6) aw_nil) (t__law_numbers_text x6) rfl rfl ⟨rfl, trivial⟩ fun r7 => (o_par (cat_T _ _) fun x8 => (x_ms (x_str (l := ([] : List Nat)) (by rfl) (o_val (str_of_T _) (x_cons (x_cp (x_itL (x_ix (x_val rfl (x_val (e := _) (a := (eD tI) 2) rfl (o_imp (fun _ h => wsD_ok h) fun x9 => (o_imp (els_D _) fun x10 => (k_cpX (en := (eD tT)) rfl (fun _ => rfl) (fun (x11 : D) => e_true) (fun (x11 : D) => (x_all (x_K0 (xa_own (x_val rfl (xa_nil (k_asR (as3_ok (asL_ok asI_ok) asI_ok (asL_ok (as2_ok (asL_ok asI_ok) asI_ok))) fun x13 hx13 => (k_call0n (aw_ownE (asW hx13) aw_nil) (t__law_row_text x13) rfl rfl fun r14 => (e_end () rfl rfl))))))))) fun x12 => (x_nil (o_par (join_T le_ol _ _) fun x15 => (o_par (cat_T _ _) fun x16 => (n_ret ⟨rfl, rfl, rfl⟩)))))))))))))))))))))))))))))))) (s_nx (s_if (x_B (x_op2 (x_bi (x_cons (x_val rfl (x_nil (o_imp (fun _ h => wsI_ok h) fun x17 => (x_val (e := _) (a := (eD tI) 1) rfl (o_val (gEq_p pl_I rfl fz_sh fz_sh _ _) (o_val (bl_B _) (k_if (s_ret (x_op2 (x_str (l := ([116, 105, 109, 101, 115, 32] : List Nat)) (by rfl) (x_K0 (xa_own (x_val rfl (xa_nil (k_asR (asL_ok asI_ok) fun x18 hx18 => (k_call0 (aw_ownE (asW hx18) aw_nil) (t__law_numbers_text x18) rfl rfl ⟨rfl, trivial⟩ fun r19 => (o_par (cat_T _ _) fun x20 => (n_ret ⟨rfl, rfl, rfl⟩))))))))))) (s_nx (s_if (x_B (x_op2 (x_bi (x_cons (x_val rfl (x_nil (o_imp (fun _ h => wsI_ok h) fun x21 => (x_val (e := _) (a := (eD tI) 3) rfl (o_val (gEq_p pl_I rfl fz_sh fz_sh _ _) (o_val (bl_B _) (k_if (s_ret (x_op2 (x_op2 (x_op2 (x_str (l := ([108, 111, 115, 115, 32] : List Nat)) (by rfl) (x_K0 (xa_own (x_val rfl (xa_nil (k_asR (asL_ok asI_ok) fun x22 hx22 => (k_call0 (aw_ownE (asW hx22) aw_nil) (t__law_numbers_text x22) rfl rfl ⟨rfl, trivial⟩ fun r23 => (o_par (cat_T _ _) fun x24 => (x_str (l := ([32] : List Nat)) (by rfl) (o_par (cat_T _ _) fun x25 => (x_K0 (xa_own (x_fz (x_ix (x_val rfl (x_val (e := _) (a := (eD tI) 1) rfl (o_imp (fun _ h => wsD_ok h) fun x26 => (o_val (fzV fz_sh _) (xa_own (x_fz (x_ix (x_val rfl (x_val (e := _) (a := (eD tI) 2) rfl (o_imp (fun _ h => wsD_ok h) fun x27 => (o_val (fzV fz_sh _) (xa_nil (k_asR (asL_ok asI_ok) fun x28 hx28 => (k_asR (asL_ok asI_ok) fun x29 hx29 => (k_call0 (aw_ownE (asW hx28) (aw_ownE (asW hx29) aw_nil)) (t__law_bar_text x28 x29) rfl rfl ⟨rfl, trivial⟩ fun r30 => (o_par (cat_T _ _) fun x31 => (n_ret ⟨rfl, rfl, rfl⟩))))))))))))))))))))))))))))))))))) (s_nx (s_if (x_B (x_op1 (x_val rfl (o_imp (fun _ h => wsB_ok h) fun x32 => (o_val (bl_B _) (k_if (s_ret (x_K0 (xa_own (x_val rfl (xa_own (x_fz (x_ix (x_val rfl (x_val (e := _) (a := (eD tI) 1) rfl (o_imp (fun _ h => wsD_ok h) fun x33 => (o_val (fzV fz_sh _) (xa_nil (k_asR (asL_ok asI_ok) fun x34 hx34 => (k_asR (asL_ok asI_ok) fun x35 hx35 => (k_call0 (aw_ownE (asW hx34) (aw_ownE (asW hx35) aw_nil)) (t__law_bar_text x34 x35) rfl rfl ⟨rfl, trivial⟩ fun r36 => (n_ret ⟨rfl, rfl, rfl⟩)))))))))))))))) (s_nx (s_last (s_ret (x_op2 (x_op2 (x_op2 (x_str (l := ([109, 111, 100, 32] : List Nat)) (by rfl) (x_bi (x_cons (x_val rfl (x_nil (k_asb asI_ok fun x37 => (o_par (str_T _) fun x38 => (o_par (cat_T _ _) fun x39 => (x_str (l := ([32, 98, 121, 32] : List Nat)) (by rfl) (o_par (cat_T _ _) fun x40 => (x_K0 (xa_own (x_fz (x_ix (x_val rfl (x_val (e := _) (a := (eD tI) 1) rfl (o_imp (fun _ h => wsD_ok h) fun x41 => (o_val (fzV fz_sh _) (xa_nil (k_asR (asL_ok asI_ok) fun x42 hx42 => (k_call0 (aw_ownE (asW hx42) aw_nil) (t__law_numbers_text x42) rfl rfl ⟨rfl, trivial⟩ fun r43 => (o_par (cat_T _ _) fun x44 => (n_ret ⟨rfl, rfl, rfl⟩)))))))))))))))))))))))))))))))))))))))))))))))))))))))))))))))))))))))))))))))))))))))))))))))
def p_show_numbers (a_numbers : List Int) : X (List Nat) :=
  X.bind (X.lcX (fun (x1 : Int) => X.ok true) (fun (x1 : Int) => X.bind (X.ofO (strT  x1)) fun x3 => X.ok x3) a_numbers) fun x2 => X.bind (X.ofO (joinT ([32] : List Nat) x2)) fun x4 => X.ok x4
theorem t_show_numbers (a_numbers : List Int) : TF (m_show_numbers [(eD (tL tI)) a_numbers]) (p_show_numbers a_numbers) (fun r => (eD tT) r) (fun r => [none]) xAny :=
  tf_fn rfl (s_last (s_ret (x_ms (x_str (l := ([32] : List Nat)) (by rfl) (o_val (str_of_T _) (x_cons (x_cp (x_itL (x_val rfl (o_val (le_sh _) (k_cpX (en := (eD tT)) rfl (fun _ => rfl) (fun (x1 : Int) => e_true) (fun (x1 : Int) => (x_all (x_bi (x_cons (x_val rfl (x_nil (o_par (str_T _) fun x3 => (e_end () rfl rfl)))))))) fun x2 => (x_nil (o_par (join_T le_ol _ _) fun x4 => (n_ret ⟨rfl, rfl, rfl⟩))))))))))))))
def p_show_bar (a_times : List Int) (a_order : List Int) : X (List Nat) :=
  X.bind (p_show_numbers a_times) fun r1 => X.bind (X.ofO (catT  ([98, 97, 114, 32] : List Nat) r1)) fun x2 => X.bind (X.ofO (catT  x2 ([32, 98, 121, 32] : List Nat))) fun x3 => X.bind (p_show_numbers a_order) fun r4 => X.bind (X.ofO (catT  x3 r4)) fun x5 => X.ok x5
theorem t_show_bar (a_times : List Int) (a_order : List Int) : TF (m_show_bar [(eD (tL tI)) a_times, (eD (tL tI)) a_order]) (p_show_bar a_times a_order) (fun r => (eD tT) r) (fun r => [none, none]) xAny :=
  tf_fn rfl (s_last (s_ret (x_op2 (x_op2 (x_op2 (x_str (l := ([98, 97, 114, 32] : List Nat)) (by rfl) (x_K0 (xa_own (x_val rfl (xa_nil (k_call0 (aw_own aw_nil) (t_show_numbers a_times) rfl rfl ⟨rfl, trivial⟩ fun r1 => (o_par (cat_T _ _) fun x2 => (x_str (l := ([32, 98, 121, 32] : List Nat)) (by rfl) (o_par (cat_T _ _) fun x3 => (x_K0 (xa_own (x_val rfl (xa_nil (k_call0 (aw_own aw_nil) (t_show_numbers a_order) rfl rfl ⟨rfl, trivial⟩ fun r4 => (o_par (cat_T _ _) fun x5 => (n_ret ⟨rfl, rfl, rfl⟩)))))))))))))))))))))
def p_show_row (a_row : List Int × Int × (List (List Int × Int))) : X (List Nat) :=
  X.bind (p_show_numbers a_row.1) fun r1 => X.bind (X.ofO (catT  r1 ([32, 105, 115, 32] : List Nat))) fun x2 => X.bind (X.ofO (strT  a_row.2.1)) fun x3 => X.bind (X.ofO (catT  x2 x3)) fun x4 => if (decide (a_row.2.2 = [])) = true then (X.ok x4) else X.bind (X.ofO (catT  x4 ([58, 32] : List Nat))) fun x5 => X.bind (X.lcX (fun (x6 : List Int × Int) => X.ok true) (fun (x6 : List Int × Int) => X.bind (X.nx (p_show_numbers x6.1)) fun r8 => X.bind (X.ofO (catT  r8 ([32, 116, 111, 32] : List Nat))) fun x9 => X.bind (X.ofO (strT  x6.2)) fun x10 => X.bind (X.ofO (catT  x9 x10)) fun x11 => X.ok x11) a_row.2.2) fun x7 => X.bind (X.ofO (joinT ([44, 32] : List Nat) x7)) fun x12 => X.bind (X.ofO (catT  x5 x12)) fun x13 => X.ok x13
theorem t_show_row (a_row : List Int × Int × (List (List Int × Int))) : TF (m_show_row [(eD (t3 (tL tI) tI (tL (t2 (tL tI) tI)))) a_row]) (p_show_row a_row) (fun r => (eD tT) r) (fun r => [none]) xAny :=
  tf_fn rfl (s_asg (x_val rfl (k_G rfl (n_env (e' := ([some ((eD (t3 (tL tI) tI (tL (t2 (tL tI) tI)))) a_row), none, some ((eD (tL tI)) a_row.1), some ((eD tI) a_row.2.1), some ((eD (tL (t2 (tL tI) tI))) a_row.2.2), none, none] : AM.Env)) rfl (s_asg (x_fz (x_op2 (x_op2 (x_K0 (xa_own (x_val rfl (xa_nil (k_call0 (aw_own aw_nil) (t_show_numbers a_row.1) rfl rfl ⟨rfl, trivial⟩ fun r1 => (x_str (l := ([32, 105, 115, 32] : List Nat)) (by rfl) (o_par (cat_T _ _) fun x2 => (x_bi (x_cons (x_val rfl (x_nil (o_par (str_T _) fun x3 => (o_par (cat_T _ _) fun x4 => (o_val (fzV fz_sh _) (k_set rfl (n_env (e' := ([some ((eD (t3 (tL tI) tI (tL (t2 (tL tI) tI)))) a_row), some ((eD tT) x4), some ((eD (tL tI)) a_row.1), some ((eD tI) a_row.2.1), some ((eD (tL (t2 (tL tI) tI))) a_row.2.2), none, none] : AM.Env)) rfl (s_if (x_B (x_op2 (x_val rfl (x_lst (x_nil (o_val (lst_0 (e := (eD (t2 (tL tI) tI)))) (o_val (gEq_p (pl_L (pl_2 (pl_L pl_I) pl_I)) rfl fz_sh (fz_ol fz_sh) _ _) (o_val (bl_B _) (k_if (s_ret (x_val rfl (n_ret ⟨rfl, rfl, rfl⟩))) (s_nx (s_last (s_ret (x_op2 (x_op2 (x_val rfl (x_str (l := ([58, 32] : List Nat)) (by rfl) (o_par (cat_T _ _) fun x5 => (x_ms (x_str (l := ([44, 32] : List Nat)) (by rfl) (o_val (str_of_T _) (x_cons (x_cp (x_itL (x_val rfl (o_val (le_sh _) (k_cpX (en := (eD tT)) rfl (fun _ => rfl) (fun (x6 : List Int × Int) => e_true) (fun (x6 : List Int × Int) => (x_all (x_op2 (x_op2 (x_K0 (xa_own (x_val rfl (xa_nil (k_call0n (aw_own aw_nil) (t_show_numbers x6.1) rfl rfl fun r8 => (x_str (l := ([32, 116, 111, 32] : List Nat)) (by rfl) (o_par (cat_T _ _) fun x9 => (x_bi (x_cons (x_val rfl (x_nil (o_par (str_T _) fun x10 => (o_par (cat_T _ _) fun x11 => (e_end () rfl rfl)))))))))))))))))) fun x7 => (x_nil (o_par (join_T le_ol _ _) fun x12 => (o_par (cat_T _ _) fun x13 => (n_ret ⟨rfl, rfl, rfl⟩)))))))))))))))))))))))))))))))))))))))))))))))))))))))
def p_show_paper (a_paper : D) : X (List Nat) :=
  X.bind (X.ofO (wsD (gIx (((eD tD) a_paper), ((eD tI) 0))))) fun x1 => X.bind (X.ofO (wsI (gLen [((eD tD) a_paper)]))) fun x2 => X.bind (if (decide (x2 = 1)) = true then (X.bind (X.ofO (wsB (gIs "str" ((eD tD) x1)))) fun x3 => X.ok x3) else X.ok false) fun b4 => if b4 = true then (X.bind (X.ofO (asT x1)) fun x5 => X.ok x5) else X.bind (X.ofO (wsI (gLen [((eD tD) a_paper)]))) fun x6 => if (decide (x6 = 1)) = true then (X.bind (X.ofO ((asL asI) x1)) fun x7 => X.bind (p_show_numbers x7) fun r8 => X.bind (X.ofO (catT  ([116, 105, 109, 101, 115, 32] : List Nat) r8)) fun x9 => X.ok x9) else X.bind (X.ofO (wsI (gLen [((eD tD) a_paper)]))) fun x10 => X.bind (if (decide (x10 = 2)) = true then (X.bind (X.ofO (wsB (gIs "list" ((eD tD) x1)))) fun x11 => X.ok x11) else X.ok false) fun b12 => if b12 = true then (X.bind (X.ofO (wsD (gIx (((eD tD) a_paper), ((eD tI) 1))))) fun x13 => X.bind (X.ofO ((asL asI) x1)) fun x14 => X.bind (X.ofO ((asL asI) x13)) fun x15 => X.bind (p_show_bar x14 x15) fun r16 => X.ok r16) else X.bind (X.ofO (wsI (gLen [((eD tD) a_paper)]))) fun x17 => if (decide (x17 = 2)) = true then (X.bind (X.ofO (asI x1)) fun x18 => X.bind (X.ofO (strT  x18)) fun x19 => X.bind (X.ofO (catT  ([109, 111, 100, 32] : List Nat) x19)) fun x20 => X.bind (X.ofO (catT  x20 ([32, 98, 121, 32] : List Nat))) fun x21 => X.bind (X.ofO (wsD (gIx (((eD tD) a_paper), ((eD tI) 1))))) fun x22 => X.bind (X.ofO ((asL asI) x22)) fun x23 => X.bind (p_show_numbers x23) fun r24 => X.bind (X.ofO (catT  x21 r24)) fun x25 => X.ok x25) else X.bind (X.ofO (wsB (gIs "str" ((eD tD) x1)))) fun x26 => if x26 = true then (X.bind (X.ofO (wsD (gIx (((eD tD) a_paper), ((eD tI) 1))))) fun x27 => X.bind (X.ofO ((asL asI) x27)) fun x28 => X.bind (p_show_numbers x28) fun r29 => X.bind (X.ofO (catT  ([114, 111, 119, 115, 32] : List Nat) r29)) fun x30 => X.bind (X.ofO (wsD (gIx (((eD tD) a_paper), ((eD tI) 2))))) fun x31 => X.bind (X.ofO (dEls x31)) fun x32 => X.bind (X.lcX (fun (x33 : D) => X.ok true) (fun (x33 : D) => X.bind (X.ofO ((as3 (asL asI) asI (asL (as2 (asL asI) asI))) x33)) fun x35 => X.bind (X.nx (p_show_row x35)) fun r36 => X.ok r36) x32) fun x34 => X.bind (X.ofO (catO  [x30] x34)) fun x37 => X.bind (X.ofO (joinT ([59, 32] : List Nat) x37)) fun x38 => X.ok x38) else X.bind (X.ofO ((asL asI) x1)) fun x39 => X.bind (p_show_numbers x39) fun r40 => X.bind (X.ofO (catT  ([108, 111, 115, 115, 32] : List Nat) r40)) fun x41 => X.bind (X.ofO (catT  x41 ([32] : List Nat))) fun x42 => X.bind (X.ofO (wsD (gIx (((eD tD) a_paper), ((eD tI) 1))))) fun x43 => X.bind (X.ofO (wsD (gIx (((eD tD) a_paper), ((eD tI) 2))))) fun x44 => X.bind (X.ofO ((asL asI) x43)) fun x45 => X.bind (X.ofO ((asL asI) x44)) fun x46 => X.bind (p_show_bar x45 x46) fun r47 => X.bind (X.ofO (catT  x42 r47)) fun x48 => X.ok x48
theorem t_show_paper (a_paper : D) : TF (m_show_paper [(eD tD) a_paper]) (p_show_paper a_paper) (fun r => (eD tT) r) (fun r => [none]) xAny :=
  tf_fn rfl (s_asg (x_fz (x_ix (x_val rfl (x_val (e := _) (a := (eD tI) 0) rfl (o_imp (fun _ h => wsD_ok h) fun x1 => (o_val (fzV fz_sh _) (k_set rfl (n_env (e' := ([some ((eD tD) a_paper), some ((eD tD) x1), none] : AM.Env)) rfl (s_if (x_and (x_B (x_op2 (x_bi (x_cons (x_val rfl (x_nil (o_imp (fun _ h => wsI_ok h) fun x2 => (x_val (e := _) (a := (eD tI) 1) rfl (o_val (gEq_p pl_I rfl fz_sh fz_sh _ _) (o_val (bl_B _) (k_andX id (fun (_ : Bool) (_ : Unit) => ([some ((eD tD) a_paper), some ((eD tD) x1), none] : AM.Env)) false () (x_all (x_B (x_op1 (x_val rfl (o_imp (fun _ h => wsB_ok h) fun x3 => (o_val (bl_B _) (e_end () rfl rfl))))))) rfl rfl fun b4 _ => (k_if (s_ret (x_val rfl (k_asR asT_ok fun x5 hx5 => (n_ret ⟨congrArg W.sh hx5, rfl, rfl⟩)))) (s_nx (s_if (x_B (x_op2 (x_bi (x_cons (x_val rfl (x_nil (o_imp (fun _ h => wsI_ok h) fun x6 => (x_val (e := _) (a := (eD tI) 1) rfl (o_val (gEq_p pl_I rfl fz_sh fz_sh _ _) (o_val (bl_B _) (k_if (s_ret (x_op2 (x_str (l := ([116, 105, 109, 101, 115, 32] : List Nat)) (by rfl) (x_K0 (xa_own (x_val rfl (xa_nil (k_asR (asL_ok asI_ok) fun x7 hx7 => (k_call0 (aw_ownE (asW hx7) aw_nil) (t_show_numbers x7) rfl rfl ⟨rfl, trivial⟩ fun r8 => (o_par (cat_T _ _) fun x9 => (n_ret ⟨rfl, rfl, rfl⟩))))))))))) (s_nx (s_if (x_and (x_B (x_op2 (x_bi (x_cons (x_val rfl (x_nil (o_imp (fun _ h => wsI_ok h) fun x10 => (x_val (e := _) (a := (eD tI) 2) rfl (o_val (gEq_p pl_I rfl fz_sh fz_sh _ _) (o_val (bl_B _) (k_andX id (fun (_ : Bool) (_ : Unit) => ([some ((eD tD) a_paper), some ((eD tD) x1), none] : AM.Env)) false () (x_all (x_B (x_op1 (x_val rfl (o_imp (fun _ h => wsB_ok h) fun x11 => (o_val (bl_B _) (e_end () rfl rfl))))))) rfl rfl fun b12 _ => (k_if (s_ret (x_K0 (xa_own (x_val rfl (xa_own (x_fz (x_ix (x_val rfl (x_val (e := _) (a := (eD tI) 1) rfl (o_imp (fun _ h => wsD_ok h) fun x13 => (o_val (fzV fz_sh _) (xa_nil (k_asR (asL_ok asI_ok) fun x14 hx14 => (k_asR (asL_ok asI_ok) fun x15 hx15 => (k_call0 (aw_ownE (asW hx14) (aw_ownE (asW hx15) aw_nil)) (t_show_bar x14 x15) rfl rfl ⟨rfl, trivial⟩ fun r16 => (n_ret ⟨rfl, rfl, rfl⟩)))))))))))))))) (s_nx (s_if (x_B (x_op2 (x_bi (x_cons (x_val rfl (x_nil (o_imp (fun _ h => wsI_ok h) fun x17 => (x_val (e := _) (a := (eD tI) 2) rfl (o_val (gEq_p pl_I rfl fz_sh fz_sh _ _) (o_val (bl_B _) (k_if (s_ret (x_op2 (x_op2 (x_op2 (x_str (l := ([109, 111, 100, 32] : List Nat)) (by rfl) (x_bi (x_cons (x_val rfl (x_nil (k_asb asI_ok fun x18 => (o_par (str_T _) fun x19 => (o_par (cat_T _ _) fun x20 => (x_str (l := ([32, 98, 121, 32] : List Nat)) (by rfl) (o_par (cat_T _ _) fun x21 => (x_K0 (xa_own (x_fz (x_ix (x_val rfl (x_val (e := _) (a := (eD tI) 1) rfl (o_imp (fun _ h => wsD_ok h) fun x22 => (o_val (fzV fz_sh _) (xa_nil (k_asR (asL_ok asI_ok) fun x23 hx23 => (k_call0 (aw_ownE (asW hx23) aw_nil) (t_show_numbers x23) rfl rfl ⟨rfl, trivial⟩ fun r24 => (o_par (cat_T _ _) fun x25 => (n_ret ⟨rfl, rfl, rfl⟩))))))))))))))))))))))))))) (s_nx (s_if (x_B (x_op1 (x_val rfl (o_imp (fun _ h => wsB_ok h) fun x26 => (o_val (bl_B _) (k_if (s_ret (x_ms (x_str (l := ([59, 32] : List Nat)) (by rfl) (o_val (str_of_T _) (x_cons (x_op2 (x_lst (x_cons (x_op2 (x_str (l := ([114, 111, 119, 115, 32] : List Nat)) (by rfl) (x_K0 (xa_own (x_fz (x_ix (x_val rfl (x_val (e := _) (a := (eD tI) 1) rfl (o_imp (fun _ h => wsD_ok h) fun x27 => (o_val (fzV fz_sh _) (xa_nil (k_asR (asL_ok asI_ok) fun x28 hx28 => (k_call0 (aw_ownE (asW hx28) aw_nil) (t_show_numbers x28) rfl rfl ⟨rfl, trivial⟩ fun r29 => (o_par (cat_T _ _) fun x30 => (x_nil (o_val (lst_1 (e := (eD tT))) (x_cp (x_itL (x_ix (x_val rfl (x_val (e := _) (a := (eD tI) 2) rfl (o_imp (fun _ h => wsD_ok h) fun x31 => (o_imp (els_D _) fun x32 => (k_cpX (en := (eD tT)) rfl (fun _ => rfl) (fun (x33 : D) => e_true) (fun (x33 : D) => (x_all (x_K0 (xa_own (x_val rfl (xa_nil (k_asR (as3_ok (asL_ok asI_ok) asI_ok (asL_ok (as2_ok (asL_ok asI_ok) asI_ok))) fun x35 hx35 => (k_call0n (aw_ownE (asW hx35) aw_nil) (t_show_row x35) rfl rfl fun r36 => (e_end () rfl rfl))))))))) fun x34 => (o_par (cat_L le_ol le_ol _ _) fun x37 => (x_nil (o_par (join_T le_ol _ _) fun x38 => (n_ret ⟨rfl, rfl, rfl⟩)))))))))))))))))))))))))))))))))))) (s_nx (s_last (s_ret (x_op2 (x_op2 (x_op2 (x_str (l := ([108, 111, 115, 115, 32] : List Nat)) (by rfl) (x_K0 (xa_own (x_val rfl (xa_nil (k_asR (asL_ok asI_ok) fun x39 hx39 => (k_call0 (aw_ownE (asW hx39) aw_nil) (t_show_numbers x39) rfl rfl ⟨rfl, trivial⟩ fun r40 => (o_par (cat_T _ _) fun x41 => (x_str (l := ([32] : List Nat)) (by rfl) (o_par (cat_T _ _) fun x42 => (x_K0 (xa_own (x_fz (x_ix (x_val rfl (x_val (e := _) (a := (eD tI) 1) rfl (o_imp (fun _ h => wsD_ok h) fun x43 => (o_val (fzV fz_sh _) (xa_own (x_fz (x_ix (x_val rfl (x_val (e := _) (a := (eD tI) 2) rfl (o_imp (fun _ h => wsD_ok h) fun x44 => (o_val (fzV fz_sh _) (xa_nil (k_asR (asL_ok asI_ok) fun x45 hx45 => (k_asR (asL_ok asI_ok) fun x46 hx46 => (k_call0 (aw_ownE (asW hx45) (aw_ownE (asW hx46) aw_nil)) (t_show_bar x45 x46) rfl rfl ⟨rfl, trivial⟩ fun r47 => (o_par (cat_T _ _) fun x48 => (n_ret ⟨rfl, rfl, rfl⟩)))))))))))))))))))))))))))))))))))))))))))))))))))))))))))))))))))))))))))))))))))))))))))))))))))))))))))))
def p_number_in (a_word : List Nat) : X Int :=
  X.bind (X.ofO (cutT  a_word none (some 1))) fun x1 => X.bind (X.ofO (eqT x1 ([45] : List Nat))) fun x2 => X.bind (if x2 = true then (X.bind (X.ofO (cutT  a_word (some 1) none)) fun x3 => X.ok x3) else X.ok a_word) fun x4 => X.bind (X.ofO (eqT x4 ([] : List Nat))) fun x5 => X.bind (if x5 = true then X.ok true else X.bind (X.ofO (lenT  x4)) fun x6 => X.bind (if (decide (40 < x6)) = true then X.ok true else X.bind (X.ofO (ixT  x4 0)) fun x7 => X.bind (X.ofO (eqT x7 ([48] : List Nat))) fun x8 => X.bind (if x8 = true then (X.bind (X.ofO (neT a_word ([48] : List Nat))) fun x9 => X.ok x9) else X.ok false) fun b10 => X.ok b10) fun b11 => X.ok b11) fun b12 => if b12 = true then (X.ex ⟨"NoText", []⟩) else X.bind (X.forP (fun (x13 : List Nat) (s14 : Unit) => X.bind (X.ofO (notInT  x13 ([48, 49, 50, 51, 52, 53, 54, 55, 56, 57] : List Nat))) fun x16 => if x16 = true then (X.ex ⟨"NoText", []⟩) else X.ok ()) (sgns x4) ()) fun (s14 : Unit) => X.bind (X.ofO (intT  a_word)) fun x17 => X.ok x17
theorem t_number_in (a_word : List Nat) : TF (m_number_in [(eD tT) a_word]) (p_number_in a_word) (fun r => (eD tI) r) (fun r => [none]) xAny :=
  tf_fn rfl (s_asg (x_fz (x_if (x_B (x_op2 (x_sl (x_val rfl (x_noPart (x_part (x_val (e := _) (a := (eD tI) 1) rfl (o_val rfl (o_par (sl_T _ _ _) fun x1 => (x_str (l := ([45] : List Nat)) (by rfl) (o_imp (eq_T _ _) fun x2 => (o_val (bl_B _) (k_ifX (eD tT) (fun (_ : List Nat) (_ : Unit) => ([some ((eD tT) a_word), none, none] : AM.Env)) (x_all (x_fz (x_sl (x_val rfl (x_part (x_val (e := _) (a := (eD tI) 1) rfl (o_val rfl (x_noPart (o_par (sl_T _ _ _) fun x3 => (o_val (fzV fz_sh _) (e_end () rfl rfl))))))))))) (x_all (x_val rfl (e_end () rfl rfl))) fun x4 _ => (o_val (fzV fz_sh _) (k_set rfl (n_env (e' := ([some ((eD tT) a_word), some ((eD tT) x4), none] : AM.Env)) rfl (s_if (x_or (x_B (x_op2 (x_val rfl (x_str (l := ([] : List Nat)) (by rfl) (o_imp (eq_T _ _) fun x5 => (o_val (bl_B _) (k_orX id (fun (_ : Bool) (_ : Unit) => ([some ((eD tT) a_word), some ((eD tT) x4), none] : AM.Env)) true () (x_all (x_or (x_B (x_op2 (x_bi (x_cons (x_val rfl (x_nil (o_par (len_T _) fun x6 => (x_val (e := _) (a := (eD tI) 40) rfl (o_val (gt_I _ _) (o_val (bl_B _) (k_orX id (fun (_ : Bool) (_ : Unit) => ([some ((eD tT) a_word), some ((eD tT) x4), none] : AM.Env)) true () (x_all (x_and (x_B (x_op2 (x_ix (x_val rfl (x_val (e := _) (a := (eD tI) 0) rfl (o_par (ix_T _ _) fun x7 => (x_str (l := ([48] : List Nat)) (by rfl) (o_imp (eq_T _ _) fun x8 => (o_val (bl_B _) (k_andX id (fun (_ : Bool) (_ : Unit) => ([some ((eD tT) a_word), some ((eD tT) x4), none] : AM.Env)) false () (x_all (x_B (x_op2 (x_val rfl (x_str (l := ([48] : List Nat)) (by rfl) (o_imp (ne_T _ _) fun x9 => (o_val (bl_B _) (e_end () rfl rfl)))))))) rfl rfl fun b10 _ => (e_end () rfl rfl))))))))))))) rfl rfl fun b11 _ => (e_end () rfl rfl)))))))))))))) rfl rfl fun b12 _ => (k_if (s_raise ⟨rfl, trivial⟩) (s_nx (s_for (x_itS (x_val rfl (o_val (signs_T _) (k_for (fun (s14 : Unit) (o15 : Option W × Unit) => ([some ((eD tT) a_word), some ((eD tT) x4), o15.1] : AM.Env)) () (_, ()) rfl rfl (fun x13 s14 o15 => (k_set rfl (s_last (s_if (x_B (x_op2 (x_val rfl (x_str (l := ([48, 49, 50, 51, 52, 53, 54, 55, 56, 57] : List Nat)) (by rfl) (o_par (notIn_T _ _) fun x16 => (o_val (bl_B _) (k_if (s_raise ⟨rfl, trivial⟩) (s_nx (n_go (_, ()) rfl))))))))))))) fun s14 o15 => (n_env (e' := ([some ((eD tT) a_word), some ((eD tT) x4), o15.1] : AM.Env)) rfl (s_last (s_ret (x_bi (x_cons (x_val rfl (x_nil (o_par (int_T _) fun x17 => (n_ret ⟨rfl, rfl, rfl⟩))))))))))))))))))))))))))))))))))))))))))))
def p_numbers_in (a_text : List Nat) : X (List Int) :=
  X.bind (X.ofO (splitT a_text ([32] : List Nat))) fun x1 => if (decide (6 < ((x1.length : Nat) : Int))) = true then (X.ex ⟨"NoText", []⟩) else X.bind (X.lcX (fun (x2 : List Nat) => X.ok true) (fun (x2 : List Nat) => X.bind (p_number_in x2) fun r4 => X.ok r4) x1) fun x3 => X.ok x3
theorem t_numbers_in (a_text : List Nat) : TF (m_numbers_in [(eD tT) a_text]) (p_numbers_in a_text) (fun r => (eO (eD tI)) r) (fun r => [none]) xAny :=
  tf_fn rfl (s_asg (x_fz (x_ms (x_val rfl (o_val (str_of_T _) (x_cons (x_str (l := ([32] : List Nat)) (by rfl) (x_nil (o_imp (split_T _ _) fun x1 => (o_val (fzV (fz_ol fz_sh) _) (k_set rfl (n_env (e' := ([some ((eD tT) a_text), some ((eD (tL tT)) x1), none] : AM.Env)) rfl (s_if (x_B (x_op2 (x_bi (x_cons (x_val rfl (x_nil (o_val (len_sh _) (x_val (e := _) (a := (eD tI) 6) rfl (o_val (gt_I _ _) (o_val (bl_B _) (k_if (s_raise ⟨rfl, trivial⟩) (s_nx (s_last (s_ret (x_cpX (x_itL (x_val rfl (o_val (le_sh _) (k_cpY (en := (eD tI)) rfl (fun _ => rfl) (fun (x2 : List Nat) => e_true) (fun (x2 : List Nat) => (x_all (x_K0 (xa_own (x_val rfl (xa_nil (k_call0 (aw_own aw_nil) (t_number_in x2) rfl rfl rfl fun r4 => (e_end () rfl rfl)))))))) (fun _ => ⟨rfl, trivial⟩) fun x3 => (n_ret ⟨rfl, rfl, rfl⟩)))))))))))))))))))))))))))))))))
def p_halves (a_text : List Nat) (a_mark : List Nat) : X ((List Nat × List Nat)) :=
  X.bind (X.ofO (splitT a_text a_mark)) fun x1 => if (!decide (((x1.length : Nat) : Int) = 2)) = true then (X.ex ⟨"NoText", []⟩) else X.bind (X.ofO (at_  x1 0)) fun x2 => X.bind (X.ofO (at_  x1 1)) fun x3 => X.ok (x2, x3)
theorem t_halves (a_text : List Nat) (a_mark : List Nat) : TF (m_halves [(eD tT) a_text, (eD tT) a_mark]) (p_halves a_text a_mark) (fun r => (eD (t2 tT tT)) r) (fun r => [none, none]) xAny :=
  tf_fn rfl (s_asg (x_fz (x_ms (x_val rfl (o_val (str_of_T _) (x_cons (x_val rfl (x_nil (o_imp (split_T _ _) fun x1 => (o_val (fzV (fz_ol fz_sh) _) (k_set rfl (n_env (e' := ([some ((eD tT) a_text), some ((eD tT) a_mark), some ((eD (tL tT)) x1)] : AM.Env)) rfl (s_if (x_B (x_op2 (x_bi (x_cons (x_val rfl (x_nil (o_val (len_sh _) (x_val (e := _) (a := (eD tI) 2) rfl (o_val (gNe_p pl_I rfl fz_sh fz_sh _ _) (o_val (bl_B _) (k_if (s_raise ⟨rfl, trivial⟩) (s_nx (s_last (s_ret (x_tup (x_cons (x_ix (x_val rfl (x_val (e := _) (a := (eD tI) 0) rfl (o_par (ix_sh _ _) fun x2 => (x_cons (x_ix (x_val rfl (x_val (e := _) (a := (eD tI) 1) rfl (o_par (ix_sh _ _) fun x3 => (x_nil (o_val (a := (eD (t2 tT tT)) (x2, x3)) rfl (n_ret ⟨rfl, rfl, rfl⟩)))))))))))))))))))))))))))))))))))))))))
def p_number_from (a_word : List Nat) (a_least : Int) : X Int :=
  X.bind (p_number_in a_word) fun r1 => if (decide (r1 < a_least)) = true then (X.ex ⟨"NoText", []⟩) else X.ok r1
theorem t_number_from (a_word : List Nat) (a_least : Int) : TF (m_number_from [(eD tT) a_word, (eD tI) a_least]) (p_number_from a_word a_least) (fun r => (eD tI) r) (fun r => [none, none]) xAny :=
  tf_fn rfl (s_asg (x_K0 (xa_own (x_val rfl (xa_nil (k_call0 (aw_own aw_nil) (t_number_in a_word) rfl rfl ⟨rfl, trivial⟩ fun r1 => (k_set rfl (n_env (e' := ([some ((eD tT) a_word), some ((eD tI) a_least), some ((eD tI) r1)] : AM.Env)) rfl (s_if (x_B (x_op2 (x_val rfl (x_val rfl (o_val (lt_I _ _) (o_val (bl_B _) (k_if (s_raise ⟨rfl, trivial⟩) (s_nx (s_last (s_ret (x_val rfl (n_ret ⟨rfl, rfl, rfl⟩)))))))))))))))))))))
def p_numbers_from (a_text : List Nat) : X (List Int) :=
  X.bind (p_numbers_in a_text) fun r1 => X.bind (X.ofO (minO  r1)) fun x2 => if (decide (x2 < 0)) = true then (X.ex ⟨"NoText", []⟩) else X.ok r1
theorem t_numbers_from (a_text : List Nat) : TF (m_numbers_from [(eD tT) a_text]) (p_numbers_from a_text) (fun r => (eO (eD tI)) r) (fun r => [none]) xAny :=
  tf_fn rfl (s_asg (x_K0 (xa_own (x_val rfl (xa_nil (k_call0 (aw_own aw_nil) (t_numbers_in a_text) rfl rfl ⟨rfl, trivial⟩ fun r1 => (k_set rfl (n_env (e' := ([some ((eD tT) a_text), some ((eO (eD tI)) r1)] : AM.Env)) rfl (s_if (x_B (x_op2 (x_bi (x_cons (x_val rfl (x_nil (o_par (min_L le_ol _) fun x2 => (x_val (e := _) (a := (eD tI) 0) rfl (o_val (lt_I _ _) (o_val (bl_B _) (k_if (s_raise ⟨rfl, trivial⟩) (s_nx (s_last (s_ret (x_val rfl (n_ret ⟨rfl, rfl, rfl⟩)))))))))))))))))))))))))
def p_bar_in (a_text : List Nat) : X ((List Int × List Int)) :=
  X.bind (p_halves a_text ([32, 98, 121, 32] : List Nat)) fun r1 => X.bind (p_numbers_in r1.1) fun r2 => X.bind (p_numbers_from r1.2) fun r3 => X.ok (r2, r3)
theorem t_bar_in (a_text : List Nat) : TF (m_bar_in [(eD tT) a_text]) (p_bar_in a_text) (fun r => (o2 (eO (eD tI)) (eO (eD tI))) r) (fun r => [none]) xAny :=
  tf_fn rfl (s_asg (x_fz (x_K0 (xa_own (x_val rfl (xa_own (x_str (l := ([32, 98, 121, 32] : List Nat)) (by rfl) (xa_nil (k_call0 (aw_own (aw_own aw_nil)) (t_halves a_text ([32, 98, 121, 32] : List Nat)) rfl rfl ⟨rfl, trivial⟩ fun r1 => (o_val (fzV fz_sh _) (k_G rfl (n_env (e' := ([some ((eD tT) a_text), some ((eD tT) r1.1), some ((eD tT) r1.2)] : AM.Env)) rfl (s_last (s_ret (x_tup (x_cons (x_K0 (xa_own (x_val rfl (xa_nil (k_call0 (aw_own aw_nil) (t_numbers_in r1.1) rfl rfl ⟨rfl, trivial⟩ fun r2 => (x_cons (x_K0 (xa_own (x_val rfl (xa_nil (k_call0 (aw_own aw_nil) (t_numbers_from r1.2) rfl rfl ⟨rfl, trivial⟩ fun r3 => (x_nil (o_val (a := (o2 (eO (eD tI)) (eO (eD tI))) (r2, r3)) rfl (n_ret ⟨rfl, rfl, rfl⟩))))))))))))))))))))))))))))))
def p_lead_in (a_text : List Nat) : X ((List Int × Int)) :=
  X.bind (p_halves a_text ([32, 116, 111, 32] : List Nat)) fun r1 => X.bind (p_numbers_in r1.1) fun r2 => X.bind (p_number_from r1.2 0) fun r3 => X.ok (r2, r3)
theorem t_lead_in (a_text : List Nat) : TF (m_lead_in [(eD tT) a_text]) (p_lead_in a_text) (fun r => (o2 (eO (eD tI)) (eD tI)) r) (fun r => [none]) xAny :=
  tf_fn rfl (s_asg (x_fz (x_K0 (xa_own (x_val rfl (xa_own (x_str (l := ([32, 116, 111, 32] : List Nat)) (by rfl) (xa_nil (k_call0 (aw_own (aw_own aw_nil)) (t_halves a_text ([32, 116, 111, 32] : List Nat)) rfl rfl ⟨rfl, trivial⟩ fun r1 => (o_val (fzV fz_sh _) (k_G rfl (n_env (e' := ([some ((eD tT) a_text), some ((eD tT) r1.1), some ((eD tT) r1.2)] : AM.Env)) rfl (s_last (s_ret (x_tup (x_cons (x_K0 (xa_own (x_val rfl (xa_nil (k_call0 (aw_own aw_nil) (t_numbers_in r1.1) rfl rfl ⟨rfl, trivial⟩ fun r2 => (x_cons (x_K0 (xa_own (x_val rfl (xa_own (x_val (e := _) (a := (eD tI) 0) rfl (xa_nil (k_call0 (aw_own (aw_own aw_nil)) (t_number_from r1.2 0) rfl rfl ⟨rfl, trivial⟩ fun r3 => (x_nil (o_val (a := (o2 (eO (eD tI)) (eD tI)) (r2, r3)) rfl (n_ret ⟨rfl, rfl, rfl⟩))))))))))))))))))))))))))))))))
def p_row_in (a_text : List Nat) : X ((List Int × Int × (List (List Int × Int)))) :=
  X.bind (X.ofO (partT a_text ([58, 32] : List Nat))) fun x1 => X.bind (p_halves x1.1 ([32, 105, 115, 32] : List Nat)) fun r2 => X.bind (X.bind (X.ofO (neT x1.2.1 ([] : List Nat))) fun x3 => if x3 = true then (X.bind (X.ofO (splitT x1.2.2 ([44, 32] : List Nat))) fun x4 => X.bind (X.lcX (fun (x5 : List Nat) => X.ok true) (fun (x5 : List Nat) => X.bind (p_lead_in x5) fun r7 => X.ok r7) x4) fun x6 => X.ok x6) else X.ok []) fun (s8 : (List (List Int × Int))) => if (decide (6 < ((s8.length : Nat) : Int))) = true then (X.ex ⟨"NoText", []⟩) else X.bind (p_numbers_in r2.1) fun r10 => X.bind (p_number_from r2.2 0) fun r11 => X.ok (r10, r11, s8)
theorem t_row_in (a_text : List Nat) : TF (m_row_in [(eD tT) a_text]) (p_row_in a_text) (fun r => (o3 (eO (eD tI)) (eD tI) (eO (o2 (eO (eD tI)) (eD tI)))) r) (fun r => [none]) xAny :=
  tf_fn rfl (s_asg (x_fz (x_ms (x_val rfl (o_val (str_of_T _) (x_cons (x_str (l := ([58, 32] : List Nat)) (by rfl) (x_nil (o_imp (part_T _ _) fun x1 => (o_val (fzV fz_sh _) (k_G rfl (n_env (e' := ([some ((eD tT) a_text), none, some ((eD tT) x1.1), some ((eD tT) x1.2.1), some ((eD tT) x1.2.2), none, none, none] : AM.Env)) rfl (s_asg (x_fz (x_K0 (xa_own (x_val rfl (xa_own (x_str (l := ([32, 105, 115, 32] : List Nat)) (by rfl) (xa_nil (k_call0 (aw_own (aw_own aw_nil)) (t_halves x1.1 ([32, 105, 115, 32] : List Nat)) rfl rfl ⟨rfl, trivial⟩ fun r2 => (o_val (fzV fz_sh _) (k_G rfl (n_env (e' := ([some ((eD tT) a_text), none, some ((eD tT) x1.1), some ((eD tT) x1.2.1), some ((eD tT) x1.2.2), some ((eD tT) r2.1), some ((eD tT) r2.2), none] : AM.Env)) rfl (s_asg (x_lst (x_nil (o_val (lst_0 (e := (o2 (eO (eD tI)) (eD tI)))) (k_set rfl (n_env (e' := ([some ((eD tT) a_text), some ((eO (o2 (eO (eD tI)) (eD tI))) []), some ((eD tT) x1.1), some ((eD tT) x1.2.1), some ((eD tT) x1.2.2), some ((eD tT) r2.1), some ((eD tT) r2.2), none] : AM.Env)) rfl (s_sub (fun (s8 : (List (List Int × Int))) (o9 : Unit) => ([some ((eD tT) a_text), some ((eO (o2 (eO (eD tI)) (eD tI))) s8), some ((eD tT) x1.1), some ((eD tT) x1.2.1), some ((eD tT) x1.2.2), some ((eD tT) r2.1), some ((eD tT) r2.2), none] : AM.Env)) (s_last (s_if (x_B (x_op2 (x_val rfl (x_str (l := ([] : List Nat)) (by rfl) (o_imp (ne_T _ _) fun x3 => (o_val (bl_B _) (k_if (s_asg (x_cpX (x_itL (x_fz (x_ms (x_val rfl (o_val (str_of_T _) (x_cons (x_str (l := ([44, 32] : List Nat)) (by rfl) (x_nil (o_imp (split_T _ _) fun x4 => (o_val (fzV (fz_ol fz_sh) _) (o_val (le_sh _) (k_cpY (en := (o2 (eO (eD tI)) (eD tI))) rfl (fun _ => rfl) (fun (x5 : List Nat) => e_true) (fun (x5 : List Nat) => (x_all (x_K0 (xa_own (x_val rfl (xa_nil (k_call0 (aw_own aw_nil) (t_lead_in x5) rfl rfl rfl fun r7 => (e_end () rfl rfl)))))))) (fun _ => ⟨rfl, trivial⟩) fun x6 => (k_set rfl (n_go () rfl)))))))))))))))) (s_nx (n_go () rfl))))))))))) fun s8 o9 => (n_env (e' := ([some ((eD tT) a_text), some ((eO (o2 (eO (eD tI)) (eD tI))) s8), some ((eD tT) x1.1), some ((eD tT) x1.2.1), some ((eD tT) x1.2.2), some ((eD tT) r2.1), some ((eD tT) r2.2), none] : AM.Env)) rfl (s_if (x_B (x_op2 (x_bi (x_cons (x_val rfl (x_nil (o_val (len_ol _) (x_val (e := _) (a := (eD tI) 6) rfl (o_val (gt_I _ _) (o_val (bl_B _) (k_if (s_raise ⟨rfl, trivial⟩) (s_nx (s_last (s_ret (x_tup (x_cons (x_K0 (xa_own (x_val rfl (xa_nil (k_call0 (aw_own aw_nil) (t_numbers_in r2.1) rfl rfl ⟨rfl, trivial⟩ fun r10 => (x_cons (x_K0 (xa_own (x_val rfl (xa_own (x_val (e := _) (a := (eD tI) 0) rfl (xa_nil (k_call0 (aw_own (aw_own aw_nil)) (t_number_from r2.2 0) rfl rfl ⟨rfl, trivial⟩ fun r11 => (x_cons (x_val rfl (x_nil (o_val (a := (o3 (eO (eD tI)) (eD tI) (eO (o2 (eO (eD tI)) (eD tI)))) (r10, r11, s8)) rfl (n_ret ⟨rfl, rfl, rfl⟩)))))))))))))))))))))))))))))))))))))))))))))))))))))))))))))))))))
def p_read_paper (a_text : List Nat) : X AM.W :=
  X.bind (X.ofO (wsB (gIn (((eD tT) a_text), ((eD (t2 tT tT)) (([97, 110, 121] : List Nat), ([115, 117, 109] : List Nat))))))) fun x1 => if x1 = true then (X.ok ((eD (t1 tT)) a_text)) else X.bind (X.ofO (partT a_text ([32] : List Nat))) fun x2 => X.bind (X.ofO (eqT x2.1 ([116, 105, 109, 101, 115] : List Nat))) fun x3 => if x3 = true then (X.bind (p_numbers_in x2.2.2) fun r4 => X.ok ((o1 (eO (eD tI))) r4)) else X.bind (X.ofO (eqT x2.1 ([109, 111, 100] : List Nat))) fun x5 => if x5 = true then (X.bind (p_halves x2.2.2 ([32, 98, 121, 32] : List Nat)) fun r6 => X.bind (p_number_from r6.1 0) fun r7 => X.bind (p_numbers_in r6.2) fun r8 => X.ok ((o2 (eD tI) (eO (eD tI))) (r7, r8))) else X.bind (X.ofO (eqT x2.1 ([98, 97, 114] : List Nat))) fun x9 => if x9 = true then (X.bind (p_bar_in x2.2.2) fun r10 => X.ok ((o2 (eO (eD tI)) (eO (eD tI))) r10)) else X.bind (X.ofO (eqT x2.1 ([108, 111, 115, 115] : List Nat))) fun x11 => if x11 = true then (X.bind (p_halves x2.2.2 ([32, 98, 97, 114, 32] : List Nat)) fun r12 => X.bind (p_bar_in r12.2) fun r13 => X.bind (p_numbers_from r12.1) fun r14 => X.ok ((o3 (eO (eD tI)) (eO (eD tI)) (eO (eD tI))) (r14, r13.1, r13.2))) else X.bind (X.ofO (neT x2.1 ([114, 111, 119, 115] : List Nat))) fun x15 => if x15 = true then (X.ex ⟨"NoText", []⟩) else X.bind (X.ofO (splitT x2.2.2 ([59, 32] : List Nat))) fun x16 => X.bind (X.ofO (at_  x16 0)) fun x17 => X.bind (p_numbers_in x17) fun r18 => X.bind (X.lcX (fun (x19 : List Nat) => X.ok true) (fun (x19 : List Nat) => X.bind (p_row_in x19) fun r21 => X.ok r21) (cutL x16 (some 1) none)) fun x20 => X.ok ((o3 (eD tT) (eO (eD tI)) (eO (o3 (eO (eD tI)) (eD tI) (eO (o2 (eO (eD tI)) (eD tI)))))) (([114, 111, 119, 115] : List Nat), r18, x20))
theorem t_read_paper (a_text : List Nat) : TF (m_read_paper [(eD tT) a_text]) (p_read_paper a_text) (fun r => eW r) (fun r => [none]) xAny :=
  tf_fn rfl (s_if (x_B (x_op2 (x_val rfl (x_tup (x_cons (x_str (l := ([97, 110, 121] : List Nat)) (by rfl) (x_cons (x_str (l := ([115, 117, 109] : List Nat)) (by rfl) (x_nil (o_val (a := (eD (t2 tT tT)) (([97, 110, 121] : List Nat), ([115, 117, 109] : List Nat))) rfl (o_imp (fun _ h => wsB_ok h) fun x1 => (o_val (bl_B _) (k_if (s_ret (x_tup (x_cons (x_val rfl (x_nil (o_val (a := (eD (t1 tT)) a_text) rfl (n_ret ⟨rfl, rfl, rfl⟩))))))) (s_nx (s_asg (x_fz (x_ms (x_val rfl (o_val (str_of_T _) (x_cons (x_str (l := ([32] : List Nat)) (by rfl) (x_nil (o_imp (part_T _ _) fun x2 => (o_val (fzV fz_sh _) (k_G rfl (n_env (e' := ([some ((eD tT) a_text), none, some ((eD tT) x2.1), some ((eD tT) x2.2.1), some ((eD tT) x2.2.2), none, none, none, none, none, none, none] : AM.Env)) rfl (s_if (x_B (x_op2 (x_val rfl (x_str (l := ([116, 105, 109, 101, 115] : List Nat)) (by rfl) (o_imp (eq_T _ _) fun x3 => (o_val (bl_B _) (k_if (s_ret (x_tup (x_cons (x_K0 (xa_own (x_val rfl (xa_nil (k_call0 (aw_own aw_nil) (t_numbers_in x2.2.2) rfl rfl ⟨rfl, trivial⟩ fun r4 => (x_nil (o_val (a := (o1 (eO (eD tI))) r4) rfl (n_ret ⟨rfl, rfl, rfl⟩))))))))))) (s_nx (s_if (x_B (x_op2 (x_val rfl (x_str (l := ([109, 111, 100] : List Nat)) (by rfl) (o_imp (eq_T _ _) fun x5 => (o_val (bl_B _) (k_if (s_assoc (s_asg (x_fz (x_K0 (xa_own (x_val rfl (xa_own (x_str (l := ([32, 98, 121, 32] : List Nat)) (by rfl) (xa_nil (k_call0 (aw_own (aw_own aw_nil)) (t_halves x2.2.2 ([32, 98, 121, 32] : List Nat)) rfl rfl ⟨rfl, trivial⟩ fun r6 => (o_val (fzV fz_sh _) (k_G rfl (s_ret (x_tup (x_cons (x_K0 (xa_own (x_val rfl (xa_own (x_val (e := _) (a := (eD tI) 0) rfl (xa_nil (k_call0 (aw_own (aw_own aw_nil)) (t_number_from r6.1 0) rfl rfl ⟨rfl, trivial⟩ fun r7 => (x_cons (x_K0 (xa_own (x_val rfl (xa_nil (k_call0 (aw_own aw_nil) (t_numbers_in r6.2) rfl rfl ⟨rfl, trivial⟩ fun r8 => (x_nil (o_val (a := (o2 (eD tI) (eO (eD tI))) (r7, r8)) rfl (n_ret ⟨rfl, rfl, rfl⟩))))))))))))))))))))))))))))))) (s_nx (s_if (x_B (x_op2 (x_val rfl (x_str (l := ([98, 97, 114] : List Nat)) (by rfl) (o_imp (eq_T _ _) fun x9 => (o_val (bl_B _) (k_if (s_ret (x_K0 (xa_own (x_val rfl (xa_nil (k_call0 (aw_own aw_nil) (t_bar_in x2.2.2) rfl rfl ⟨rfl, trivial⟩ fun r10 => (n_ret ⟨rfl, rfl, rfl⟩))))))) (s_nx (s_if (x_B (x_op2 (x_val rfl (x_str (l := ([108, 111, 115, 115] : List Nat)) (by rfl) (o_imp (eq_T _ _) fun x11 => (o_val (bl_B _) (k_if (s_assoc (s_asg (x_fz (x_K0 (xa_own (x_val rfl (xa_own (x_str (l := ([32, 98, 97, 114, 32] : List Nat)) (by rfl) (xa_nil (k_call0 (aw_own (aw_own aw_nil)) (t_halves x2.2.2 ([32, 98, 97, 114, 32] : List Nat)) rfl rfl ⟨rfl, trivial⟩ fun r12 => (o_val (fzV fz_sh _) (k_G rfl (s_assoc (s_asg (x_K0 (xa_own (x_val rfl (xa_nil (k_call0 (aw_own aw_nil) (t_bar_in r12.2) rfl rfl ⟨rfl, trivial⟩ fun r13 => (k_G rfl (s_ret (x_tup (x_cons (x_K0 (xa_own (x_val rfl (xa_nil (k_call0 (aw_own aw_nil) (t_numbers_from r12.1) rfl rfl ⟨rfl, trivial⟩ fun r14 => (x_cons (x_val rfl (x_cons (x_val rfl (x_nil (o_val (a := (o3 (eO (eD tI)) (eO (eD tI)) (eO (eD tI))) (r14, r13.1, r13.2)) rfl (n_ret ⟨rfl, rfl, rfl⟩))))))))))))))))))))))))))))))))))) (s_nx (s_if (x_B (x_op2 (x_val rfl (x_str (l := ([114, 111, 119, 115] : List Nat)) (by rfl) (o_imp (ne_T _ _) fun x15 => (o_val (bl_B _) (k_if (s_raise ⟨rfl, trivial⟩) (s_nx (s_asg (x_fz (x_ms (x_val rfl (o_val (str_of_T _) (x_cons (x_str (l := ([59, 32] : List Nat)) (by rfl) (x_nil (o_imp (split_T _ _) fun x16 => (o_val (fzV (fz_ol fz_sh) _) (k_set rfl (n_env (e' := ([some ((eD tT) a_text), some ((eD (tL tT)) x16), some ((eD tT) x2.1), some ((eD tT) x2.2.1), some ((eD tT) x2.2.2), none, none, none, none, none, none, none] : AM.Env)) rfl (s_last (s_ret (x_tup (x_cons (x_str (l := ([114, 111, 119, 115] : List Nat)) (by rfl) (x_cons (x_K0 (xa_own (x_fz (x_ix (x_val rfl (x_val (e := _) (a := (eD tI) 0) rfl (o_par (ix_sh _ _) fun x17 => (o_val (fzV fz_sh _) (xa_nil (k_call0 (aw_own aw_nil) (t_numbers_in x17) rfl rfl ⟨rfl, trivial⟩ fun r18 => (x_cons (x_cpX (x_itL (x_sl (x_val rfl (x_part (x_val (e := _) (a := (eD tI) 1) rfl (o_val rfl (x_noPart (o_val (sl_L le_sh _ _ _) (o_val (le_ol _) (k_cpY (en := (o3 (eO (eD tI)) (eD tI) (eO (o2 (eO (eD tI)) (eD tI))))) rfl (fun _ => rfl) (fun (x19 : List Nat) => e_true) (fun (x19 : List Nat) => (x_all (x_K0 (xa_own (x_val rfl (xa_nil (k_call0 (aw_own aw_nil) (t_row_in x19) rfl rfl rfl fun r21 => (e_end () rfl rfl)))))))) (fun _ => ⟨rfl, trivial⟩) fun x20 => (x_nil (o_val (a := (o3 (eD tT) (eO (eD tI)) (eO (o3 (eO (eD tI)) (eD tI) (eO (o2 (eO (eD tI)) (eD tI)))))) (([114, 111, 119, 115] : List Nat), r18, x20)) rfl (n_ret ⟨rfl, rfl, rfl⟩)))))))))))))))))))))))))))))))))))))))))))))))))))))))))))))))))))))))))))))))))))))))))))))))))))))))))))))))))))
def p__law_pile (a_script : List Int) (a_k : Int) : X (List Int) :=
  X.bind (if (decide (a_k < ((a_script.length : Nat) : Int))) = true then (X.bind (X.ofO (at_  a_script a_k)) fun x1 => X.ok x1) else X.ok 0) fun (s2 : Int) => X.bind (X.ofO (at_  [0, (s2 % 1000000000000000000000000000000000000000000000000000000000000000000000000000000000000000000000000000000000000000000000000000000000000000000000000000000)] (b2i (decide (1000000000000000000 ≤ (absI s2)))))) fun x4 => X.bind (X.ofO (mulO  97 a_k)) fun x5 => X.ok [x4, (s2 % 2147483647), x5]
theorem t__law_pile (a_script : List Int) (a_k : Int) : TF (m__law_pile [(eD tR) a_script, (eD tI) a_k]) (p__law_pile a_script a_k) (fun r => (eO (eD tI)) r) (fun r => [none, none]) xAny :=
  tf_fn rfl (s_asg (x_val (e := _) (a := (eD tI) 0) rfl (k_set rfl (n_env (e' := ([some ((eD tR) a_script), some ((eD tI) a_k), some ((eD tI) 0)] : AM.Env)) rfl (s_sub (fun (s2 : Int) (o3 : Unit) => ([some ((eD tR) a_script), some ((eD tI) a_k), some ((eD tI) s2)] : AM.Env)) (s_last (s_if (x_B (x_op2 (x_val rfl (x_bi (x_cons (x_val rfl (x_nil (o_val (len_scr _) (o_val (lt_I _ _) (o_val (bl_B _) (k_if (s_asg (x_fz (x_ix (x_val rfl (x_val rfl (o_par (ix_scr _ _) fun x1 => (o_val (fzV fz_sh _) (k_set rfl (n_go () rfl))))))))) (s_nx (n_go () rfl))))))))))))))) fun s2 o3 => (n_env (e' := ([some ((eD tR) a_script), some ((eD tI) a_k), some ((eD tI) s2)] : AM.Env)) rfl (s_last (s_ret (x_lst (x_cons (x_ix (x_lst (x_cons (x_val (e := _) (a := (eD tI) 0) rfl (x_cons (x_op2 (x_val rfl (x_op2 (x_op2 (x_op2 (x_val (e := _) (a := (eD tI) 10) rfl (x_val (e := _) (a := (eD tI) 50) rfl (o_val (a := (eD tI) 100000000000000000000000000000000000000000000000000) (pow_c (by decide +kernel) (by decide +kernel)) (x_op2 (x_val (e := _) (a := (eD tI) 10) rfl (x_val (e := _) (a := (eD tI) 50) rfl (o_val (a := (eD tI) 100000000000000000000000000000000000000000000000000) (pow_c (by decide +kernel) (by decide +kernel)) (o_val (a := (eD tI) 10000000000000000000000000000000000000000000000000000000000000000000000000000000000000000000000000000) (mul_c (by decide +kernel) (by decide +kernel)) (x_op2 (x_val (e := _) (a := (eD tI) 10) rfl (x_val (e := _) (a := (eD tI) 50) rfl (o_val (a := (eD tI) 100000000000000000000000000000000000000000000000000) (pow_c (by decide +kernel) (by decide +kernel)) (o_val (a := (eD tI) 1000000000000000000000000000000000000000000000000000000000000000000000000000000000000000000000000000000000000000000000000000000000000000000000000000000) (mul_c (by decide +kernel) (by decide +kernel)) (o_val (mod_c (by decide +kernel)) (x_nil (o_val (lst_2 (e := (eD tI))) (x_bi (x_cons (x_op2 (x_bi (x_cons (x_val rfl (x_nil (o_val (abs_I _) (x_op2 (x_val (e := _) (a := (eD tI) 10) rfl (x_val (e := _) (a := (eD tI) 18) rfl (o_val (a := (eD tI) 1000000000000000000) (pow_c (by decide +kernel) (by decide +kernel)) (o_val (ge_I _ _) (x_nil (o_val (int_B _) (o_par (ix_ol _ _) fun x4 => (x_cons (x_op2 (x_val rfl (x_val (e := _) (a := (eD tI) 2147483647) rfl (o_val (mod_c (by decide +kernel)) (x_cons (x_op2 (x_val (e := _) (a := (eD tI) 97) rfl (x_val rfl (o_par (mul_I _ _) fun x5 => (x_nil (o_val (lst_3 (e := (eD tI))) (n_ret ⟨rfl, rfl, rfl⟩)))))))))))))))))))))))))))))))))))))))))))))))))))))))))))))))))
def p__law_mixed (a_cell : Int) (a_k : Int) : X Int :=
  X.bind (X.ofO (mulO  (a_cell % 2147483647) 48271)) fun x1 => X.bind (X.ofO (mulO  a_k 69621)) fun x2 => X.bind (X.ofO (mulO  (((x1 + x2) + 11) % 2147483647) (((x1 + x2) + 11) % 2147483647))) fun x3 => X.bind (X.ofO (mulO  (x3 % 2147483629) (x3 % 2147483629))) fun x4 => X.ok ((x4 % 2147483587) / 64)
theorem t__law_mixed (a_cell : Int) (a_k : Int) : TF (m__law_mixed [(eD tI) a_cell, (eD tI) a_k]) (p__law_mixed a_cell a_k) (fun r => (eD tI) r) (fun r => [none, none]) xAny :=
  tf_fn rfl (s_asg (x_op2 (x_op2 (x_op2 (x_op2 (x_op2 (x_val rfl (x_val (e := _) (a := (eD tI) 2147483647) rfl (o_val (mod_c (by decide +kernel)) (x_val (e := _) (a := (eD tI) 48271) rfl (o_par (mul_I _ _) fun x1 => (x_op2 (x_val rfl (x_val (e := _) (a := (eD tI) 69621) rfl (o_par (mul_I _ _) fun x2 => (o_val (add_I _ _) (x_val (e := _) (a := (eD tI) 11) rfl (o_val (add_I _ _) (x_val (e := _) (a := (eD tI) 2147483647) rfl (o_val (mod_c (by decide +kernel)) (k_set rfl (n_env (e' := ([some ((eD tI) a_cell), some ((eD tI) a_k), some ((eD tI) (((x1 + x2) + 11) % 2147483647))] : AM.Env)) rfl (s_asg (x_op2 (x_op2 (x_val rfl (x_val rfl (o_par (mul_I _ _) fun x3 => (x_val (e := _) (a := (eD tI) 2147483629) rfl (o_val (mod_c (by decide +kernel)) (k_set rfl (n_env (e' := ([some ((eD tI) a_cell), some ((eD tI) a_k), some ((eD tI) (x3 % 2147483629))] : AM.Env)) rfl (s_last (s_ret (x_op2 (x_op2 (x_op2 (x_val rfl (x_val rfl (o_par (mul_I _ _) fun x4 => (x_val (e := _) (a := (eD tI) 2147483587) rfl (o_val (mod_c (by decide +kernel)) (x_val (e := _) (a := (eD tI) 64) rfl (o_val (div_c (by decide +kernel)) (n_ret ⟨rfl, rfl, rfl⟩)))))))))))))))))))))))))))))))))))))))))))))
def p__law_take (a_pile_here : List Int) (a_many : Int) : X (Int × List Int) :=
  X.bind (X.ofO (at_  a_pile_here 0)) fun x1 => if (decide (x1 ∈ [0, (-1)])) = true then (X.bind (X.ofO (at_  a_pile_here 2)) fun x2 => X.bind (X.ofO (setO a_pile_here 2 (x2 + 1))) fun x3 => X.bind (X.ofO (ixO x3 1)) fun q4 => X.bind (X.ofO (ixO x3 2)) fun q5 => X.bind (p__law_mixed q4.2 q5.2) fun r6 => X.bind (X.ofO (modO  r6 a_many)) fun x7 => X.ok (x7, x3)) else X.bind (X.ofO (at_  a_pile_here 0)) fun x8 => X.bind (X.ofO (modO  x8 a_many)) fun x9 => X.bind (X.ofO (at_  a_pile_here 0)) fun x10 => X.bind (X.ofO (divO  x10 a_many)) fun x11 => X.bind (X.ofO (setO a_pile_here 0 x11)) fun x12 => X.ok (x9, x12)
theorem t__law_take (a_pile_here : List Int) (a_many : Int) : TF (m__law_take [(eO (eD tI)) a_pile_here, (eD tI) a_many]) (p__law_take a_pile_here a_many) (fun r => (eD tI) r.1) (fun r => [some ((eO (eD tI)) r.2), none]) (xIo 0) :=
  tf_fn rfl (s_if (x_B (x_op2 (x_ix (x_val rfl (x_val (e := _) (a := (eD tI) 0) rfl (o_par (ix_ol _ _) fun x1 => (x_lst (x_cons (x_val (e := _) (a := (eD tI) 0) rfl (x_cons (x_op1 (x_val (e := _) (a := (eD tI) 1) rfl (o_val (neg_I _) (x_nil (o_val (lst_2 (e := (eD tI))) (o_val (gIn_p pl_I rfl fz_sh (fz_ol fz_sh) _ _) (o_val (bl_B _) (k_if (s_assoc (s_asg (x_op2 (x_ix (x_val rfl (x_val (e := _) (a := (eD tI) 2) rfl (o_par (ix_ol _ _) fun x2 => (x_val (e := _) (a := (eD tI) 1) rfl (o_val (add_I _ _) (k_setI (e := (eD tI)) (v := (x2 + 1)) rfl (v_of (x_all (x_val (e := _) (a := (eD tI) 2) rfl (e_end () rfl rfl)))) rfl (fun _ => rfl) fun x3 => (s_ret (x_op2 (x_K0 (p_ix rfl (v_of (x_all (x_val (e := _) (a := (eD tI) 1) rfl (e_end () rfl rfl)))) rfl fun jq4 xq4 hlq4 hgq4 hsq4 => (xa_bor hlq4 (p_ix rfl (v_of (x_all (x_val (e := _) (a := (eD tI) 2) rfl (e_end () rfl rfl)))) rfl fun jq5 xq5 hlq5 hgq5 hsq5 => (xa_bor hlq5 (xa_nil (k_call0b (aw_bor fz_sh hgq4 (aw_bor fz_sh hgq5 aw_nil)) (t__law_mixed xq4 xq5) rfl (fun a => cl_I _) ⟨rfl, _, rfl⟩ fun r6 => (x_val rfl (o_par (mod_I _ _) fun x7 => (n_ret ⟨rfl, rfl, rfl⟩)))))))))))))))))))))) (s_nx (s_asg (x_op2 (x_ix (x_val rfl (x_val (e := _) (a := (eD tI) 0) rfl (o_par (ix_ol _ _) fun x8 => (x_val rfl (o_par (mod_I _ _) fun x9 => (k_set rfl (n_env (e' := ([some ((eO (eD tI)) a_pile_here), some ((eD tI) a_many), some ((eD tI) x9)] : AM.Env)) rfl (s_asg (x_op2 (x_ix (x_val rfl (x_val (e := _) (a := (eD tI) 0) rfl (o_par (ix_ol _ _) fun x10 => (x_val rfl (o_par (div_I _ _) fun x11 => (k_setI (e := (eD tI)) (v := x11) rfl (v_of (x_all (x_val (e := _) (a := (eD tI) 0) rfl (e_end () rfl rfl)))) rfl (fun _ => rfl) fun x12 => (n_env (e' := ([some ((eO (eD tI)) x12), some ((eD tI) a_many), some ((eD tI) x9)] : AM.Env)) rfl (s_last (s_ret (x_val rfl (n_ret ⟨rfl, rfl, rfl⟩))))))))))))))))))))))))))))))))))))))))))))
def p__law_great (a_pile_here : List Int) : X (Int × List Int) :=
  X.bind (p__law_take a_pile_here 100000000000000000000) fun r1 => X.bind (p__law_take r1.2 4) fun r2 => X.bind (X.ofO (mulO  r1.1 10000000000000000000)) fun x3 => X.bind (p__law_take r2.2 10000000000000000000) fun r4 => X.bind (X.ofO (mulO  (x3 + r4.1) 9)) fun x5 => X.bind (X.ofO (at_  [(r1.1 % 8), (r1.1 % 100), r1.1, (x5 + (r1.1 % 9))] r2.1)) fun x6 => X.ok (x6, r4.2)
theorem t__law_great (a_pile_here : List Int) : TF (m__law_great [(eO (eD tI)) a_pile_here]) (p__law_great a_pile_here) (fun r => (eD tI) r.1) (fun r => [some ((eO (eD tI)) r.2)]) (xIo 0) :=
  tf_fn rfl (s_asg (x_fz (x_K1 (xa_io rfl (xa_own (x_op2 (x_val (e := _) (a := (eD tI) 10) rfl (x_val (e := _) (a := (eD tI) 20) rfl (o_val (a := (eD tI) 100000000000000000000) (pow_c (by decide +kernel) (by decide +kernel)) (xa_nil (k_call1 rfl rfl rfl (aw_io (aw_own aw_nil)) (t__law_take a_pile_here 100000000000000000000) rfl (fun _ => rfl) (fun _ => rfl) (fun _ ⟨v, h⟩ => ⟨v, _, h, rfl, ⟨rfl, _, rfl⟩⟩) fun r1 => (o_val (fzV fz_sh _) (k_set rfl (n_env (e' := ([some ((eO (eD tI)) r1.2), some ((eD tI) r1.1), none] : AM.Env)) rfl (s_asg (x_fz (x_K1 (xa_io rfl (xa_own (x_val (e := _) (a := (eD tI) 4) rfl (xa_nil (k_call1 rfl rfl rfl (aw_io (aw_own aw_nil)) (t__law_take r1.2 4) rfl (fun _ => rfl) (fun _ => rfl) (fun _ ⟨v, h⟩ => ⟨v, _, h, rfl, ⟨rfl, _, rfl⟩⟩) fun r2 => (o_val (fzV fz_sh _) (k_set rfl (n_env (e' := ([some ((eO (eD tI)) r2.2), some ((eD tI) r1.1), some ((eD tI) r2.1)] : AM.Env)) rfl (s_last (s_ret (x_ix (x_lst (x_cons (x_op2 (x_val rfl (x_val (e := _) (a := (eD tI) 8) rfl (o_val (mod_c (by decide +kernel)) (x_cons (x_op2 (x_val rfl (x_val (e := _) (a := (eD tI) 100) rfl (o_val (mod_c (by decide +kernel)) (x_cons (x_val rfl (x_cons (x_op2 (x_op2 (x_op2 (x_op2 (x_val rfl (x_op2 (x_val (e := _) (a := (eD tI) 10) rfl (x_val (e := _) (a := (eD tI) 19) rfl (o_val (a := (eD tI) 10000000000000000000) (pow_c (by decide +kernel) (by decide +kernel)) (o_par (mul_I _ _) fun x3 => (x_K1 (xa_io rfl (xa_own (x_op2 (x_val (e := _) (a := (eD tI) 10) rfl (x_val (e := _) (a := (eD tI) 19) rfl (o_val (a := (eD tI) 10000000000000000000) (pow_c (by decide +kernel) (by decide +kernel)) (xa_nil (k_call1 rfl rfl rfl (aw_io (aw_own aw_nil)) (t__law_take r2.2 10000000000000000000) rfl (fun _ => rfl) (fun _ => rfl) (fun _ ⟨v, h⟩ => ⟨v, _, h, rfl, ⟨rfl, _, rfl⟩⟩) fun r4 => (o_val (add_I _ _) (x_val (e := _) (a := (eD tI) 9) rfl (o_par (mul_I _ _) fun x5 => (x_op2 (x_val rfl (x_val (e := _) (a := (eD tI) 9) rfl (o_val (mod_c (by decide +kernel)) (o_val (add_I _ _) (x_nil (o_val (lst_n (e := (eD tI)) [(r1.1 % 8), (r1.1 % 100), r1.1, (x5 + (r1.1 % 9))] rfl rfl) (x_val rfl (o_par (ix_ol _ _) fun x6 => (n_ret ⟨rfl, rfl, rfl⟩))))))))))))))))))))))))))))))))))))))))))))))))))))))))))))))))))))))))))
def p__law_signed (a_pile_here : List Int) : X (Int × List Int) :=
  X.bind (p__law_great a_pile_here) fun r1 => X.bind (p__law_take r1.2 3) fun r2 => X.bind (X.ofO (at_  [r1.1, r1.1, (-r1.1)] r2.1)) fun x3 => X.ok (x3, r2.2)
theorem t__law_signed (a_pile_here : List Int) : TF (m__law_signed [(eO (eD tI)) a_pile_here]) (p__law_signed a_pile_here) (fun r => (eD tI) r.1) (fun r => [some ((eO (eD tI)) r.2)]) (xIo 0) :=
  tf_fn rfl (s_asg (x_fz (x_K1 (xa_io rfl (xa_nil (k_call1 rfl rfl rfl (aw_io aw_nil) (t__law_great a_pile_here) rfl (fun _ => rfl) (fun _ => rfl) (fun _ ⟨v, h⟩ => ⟨v, _, h, rfl, ⟨rfl, _, rfl⟩⟩) fun r1 => (o_val (fzV fz_sh _) (k_set rfl (n_env (e' := ([some ((eO (eD tI)) r1.2), some ((eD tI) r1.1)] : AM.Env)) rfl (s_last (s_ret (x_ix (x_lst (x_cons (x_val rfl (x_cons (x_val rfl (x_cons (x_op1 (x_val rfl (o_val (neg_I _) (x_nil (o_val (lst_3 (e := (eD tI))) (x_K1 (xa_io rfl (xa_own (x_val (e := _) (a := (eD tI) 3) rfl (xa_nil (k_call1 rfl rfl rfl (aw_io (aw_own aw_nil)) (t__law_take r1.2 3) rfl (fun _ => rfl) (fun _ => rfl) (fun _ ⟨v, h⟩ => ⟨v, _, h, rfl, ⟨rfl, _, rfl⟩⟩) fun r2 => (o_par (ix_ol _ _) fun x3 => (n_ret ⟨rfl, rfl, rfl⟩)))))))))))))))))))))))))))))))
def p__law_list (a_pile_here : List Int) (a_least : Option Int) : X (List Int × List Int) :=
  X.bind (p__law_take a_pile_here 6) fun r1 => X.bind (X.ofO (rg1 (1 + r1.1))) fun x2 => X.bind (X.forP (fun (x3 : Int) (s4 : List Int × List Int) => X.bind (p__law_signed s4.1) fun r6 => X.bind (X.ofO (at_  [r6.1, (absI r6.1)] (b2i (decide (a_least = some 0))))) fun x7 => X.bind (X.ofO (appO s4.2 x7)) fun x8 => X.ok (r6.2, x8)) x2 (r1.2, [])) fun (s4 : List Int × List Int) => X.ok (s4.2, s4.1)
theorem t__law_list (a_pile_here : List Int) (a_least : Option Int) : TF (m__law_list [(eO (eD tI)) a_pile_here, (eD (tQ tI)) a_least]) (p__law_list a_pile_here a_least) (fun r => (eO (eD tI)) r.1) (fun r => [some ((eO (eD tI)) r.2), none]) (xIo 0) :=
  tf_fn rfl (s_asg (x_lst (x_nil (o_val (lst_0 (e := (eD tI))) (k_set rfl (n_env (e' := ([some ((eO (eD tI)) a_pile_here), some ((eD (tQ tI)) a_least), some ((eO (eD tI)) []), none, none] : AM.Env)) rfl (s_for (x_itR (x_cons (x_op2 (x_val (e := _) (a := (eD tI) 1) rfl (x_K1 (xa_io rfl (xa_own (x_val (e := _) (a := (eD tI) 6) rfl (xa_nil (k_call1 rfl rfl rfl (aw_io (aw_own aw_nil)) (t__law_take a_pile_here 6) rfl (fun _ => rfl) (fun _ => rfl) (fun _ ⟨v, h⟩ => ⟨v, _, h, rfl, ⟨rfl, _, rfl⟩⟩) fun r1 => (o_val (add_I _ _) (x_nil (o_par (rg_1 _) fun x2 => (k_for (fun (s4 : List Int × List Int) (o5 : Option W × Option W × Unit) => ([some ((eO (eD tI)) s4.1), some ((eD (tQ tI)) a_least), some ((eO (eD tI)) s4.2), o5.1, o5.2.1] : AM.Env)) (r1.2, []) (_, _, ()) rfl rfl (fun x3 s4 o5 => (k_set rfl (s_asg (x_fz (x_K1 (xa_io rfl (xa_nil (k_call1 rfl rfl rfl (aw_io aw_nil) (t__law_signed s4.1) rfl (fun _ => rfl) (fun _ => rfl) (fun _ ⟨v, h⟩ => ⟨v, _, h, rfl, ⟨rfl, _, rfl⟩⟩) fun r6 => (o_val (fzV fz_sh _) (k_set rfl (n_env (e' := ([some ((eO (eD tI)) r6.2), some ((eD (tQ tI)) a_least), some ((eO (eD tI)) s4.2), some ((eD tI) x3), some ((eD tI) r6.1)] : AM.Env)) rfl (s_last (s_drop (x_in (chk_ol rfl rfl) (x_cons (x_ix (x_lst (x_cons (x_val rfl (x_cons (x_bi (x_cons (x_val rfl (x_nil (o_val (abs_I _) (x_nil (o_val (lst_2 (e := (eD tI))) (x_bi (x_cons (x_op2 (x_val rfl (x_val (e := _) (a := (eD tI) 0) rfl (o_val (gEq_q some pl_QI rfl fz_sh fq_sh _ _) (x_nil (o_val (int_B _) (o_par (ix_ol _ _) fun x7 => (x_nil (i_app (el := (eD tI)) rfl (fun _ => rfl) fun x8 => (n_go (_, _, ()) rfl))))))))))))))))))))))))))))))))))))))) fun s4 o5 => (n_env (e' := ([some ((eO (eD tI)) s4.1), some ((eD (tQ tI)) a_least), some ((eO (eD tI)) s4.2), o5.1, o5.2.1] : AM.Env)) rfl (s_last (s_ret (x_val rfl (n_ret ⟨rfl, rfl, rfl⟩))))))))))))))))))))))))))
def p__law_row (a_pile_here : List Int) : X ((List Int × Int × (List (List Int × Int))) × List Int) :=
  X.bind (p__law_list a_pile_here none) fun r1 => X.bind (p__law_take r1.2 7) fun r2 => X.bind (X.ofO (rg1 r2.1)) fun x3 => X.bind (X.forP (fun (x4 : Int) (s5 : List Int × (List (List Int × Int))) => X.bind (p__law_take s5.1 6) fun r7 => X.bind (X.ofO (rg1 (1 + r7.1))) fun x8 => X.bind (X.lcSX (fun (x11 : Int) (s9 : List Int) => X.bind (X.nx (p__law_take s9 9)) fun r12 => X.ok ((r12.1 - 4), r12.2)) x8 r7.2) fun x13 => X.bind (p__law_take x13.2 99) fun r14 => X.bind (X.ofO (appO s5.2 (x13.1, r14.1))) fun x15 => X.ok (r14.2, x15)) x3 (r2.2, [])) fun (s5 : List Int × (List (List Int × Int))) => X.bind (p__law_great s5.1) fun r16 => X.ok ((r1.1, r16.1, s5.2), r16.2)
theorem t__law_row (a_pile_here : List Int) : TF (m__law_row [(eO (eD tI)) a_pile_here]) (p__law_row a_pile_here) (fun r => (o3 (eO (eD tI)) (eD tI) (eO (o2 (eO (eD tI)) (eD tI)))) r.1) (fun r => [some ((eO (eD tI)) r.2)]) (xIo 0) :=
  tf_fn rfl (s_asg (x_K1 (xa_io rfl (xa_own (x_val (e := _) (a := (eD tN) ()) rfl (xa_nil (k_call1 rfl rfl rfl (aw_io (aw_own aw_nil)) (t__law_list a_pile_here none) rfl (fun _ => rfl) (fun _ => rfl) (fun _ ⟨v, h⟩ => ⟨v, _, h, rfl, ⟨rfl, _, rfl⟩⟩) fun r1 => (k_set rfl (n_env (e' := ([some ((eO (eD tI)) r1.2), some ((eO (eD tI)) r1.1), none, none] : AM.Env)) rfl (s_asg (x_lst (x_nil (o_val (lst_0 (e := (o2 (eO (eD tI)) (eD tI)))) (k_set rfl (n_env (e' := ([some ((eO (eD tI)) r1.2), some ((eO (eD tI)) r1.1), some ((eO (o2 (eO (eD tI)) (eD tI))) []), none] : AM.Env)) rfl (s_for (x_itR (x_cons (x_K1 (xa_io rfl (xa_own (x_val (e := _) (a := (eD tI) 7) rfl (xa_nil (k_call1 rfl rfl rfl (aw_io (aw_own aw_nil)) (t__law_take r1.2 7) rfl (fun _ => rfl) (fun _ => rfl) (fun _ ⟨v, h⟩ => ⟨v, _, h, rfl, ⟨rfl, _, rfl⟩⟩) fun r2 => (x_nil (o_par (rg_1 _) fun x3 => (k_for (fun (s5 : List Int × (List (List Int × Int))) (o6 : Option W × Unit) => ([some ((eO (eD tI)) s5.1), some ((eO (eD tI)) r1.1), some ((eO (o2 (eO (eD tI)) (eD tI))) s5.2), o6.1] : AM.Env)) (r2.2, []) (_, ()) rfl rfl (fun x4 s5 o6 => (k_set rfl (s_last (s_drop (x_in (chk_ol rfl rfl) (x_cons (x_tup (x_cons (x_cs (x_itR (x_cons (x_op2 (x_val (e := _) (a := (eD tI) 1) rfl (x_K1 (xa_io rfl (xa_own (x_val (e := _) (a := (eD tI) 6) rfl (xa_nil (k_call1 rfl rfl rfl (aw_io (aw_own aw_nil)) (t__law_take s5.1 6) rfl (fun _ => rfl) (fun _ => rfl) (fun _ ⟨v, h⟩ => ⟨v, _, h, rfl, ⟨rfl, _, rfl⟩⟩) fun r7 => (o_val (add_I _ _) (x_nil (o_par (rg_1 _) fun x8 => (k_cs (en := (eD tI)) (fun (s9 : List Int) (o10 : Unit) => ([some ((eO (eD tI)) s9), some ((eO (eD tI)) r1.1), some ((eO (o2 (eO (eD tI)) (eD tI))) s5.2), none] : AM.Env)) (fun (s9 : List Int) (o10 : Option W × Unit) => ([some ((eO (eD tI)) s9), some ((eO (eD tI)) r1.1), some ((eO (o2 (eO (eD tI)) (eD tI))) s5.2), o10.1] : AM.Env)) (fun x11 s9 o10 => ([some ((eO (eD tI)) s9), some ((eO (eD tI)) r1.1), some ((eO (o2 (eO (eD tI)) (eD tI))) s5.2), some ((eD tI) x11)] : AM.Env)) r7.2 () rfl rfl (fun _ _ _ => rfl) (fun _ _ => ⟨(), rfl⟩) (fun x11 s9 o10 => (x_all (x_op2 (x_K1 (xa_io rfl (xa_own (x_val (e := _) (a := (eD tI) 9) rfl (xa_nil (k_call1n rfl rfl rfl (aw_io (aw_own aw_nil)) (t__law_take s9 9) rfl (fun _ => rfl) (fun _ => rfl) fun r12 => (x_val (e := _) (a := (eD tI) 4) rfl (o_val (sub_I _ _) (e_end (_, ()) rfl rfl)))))))))))) fun x13 _ => (x_cons (x_K1 (xa_io rfl (xa_own (x_val (e := _) (a := (eD tI) 99) rfl (xa_nil (k_call1 rfl rfl rfl (aw_io (aw_own aw_nil)) (t__law_take x13.2 99) rfl (fun _ => rfl) (fun _ => rfl) (fun _ ⟨v, h⟩ => ⟨v, _, h, rfl, ⟨rfl, _, rfl⟩⟩) fun r14 => (x_nil (o_val (a := (o2 (eO (eD tI)) (eD tI)) (x13.1, r14.1)) rfl (x_nil (i_app (el := (o2 (eO (eD tI)) (eD tI))) rfl (fun _ => rfl) fun x15 => (n_go (_, ()) rfl))))))))))))))))))))))))))))))))))) fun s5 o6 => (n_env (e' := ([some ((eO (eD tI)) s5.1), some ((eO (eD tI)) r1.1), some ((eO (o2 (eO (eD tI)) (eD tI))) s5.2), o6.1] : AM.Env)) rfl (s_last (s_ret (x_tup (x_cons (x_val rfl (x_cons (x_K1 (xa_io rfl (xa_nil (k_call1 rfl rfl rfl (aw_io aw_nil) (t__law_great s5.1) rfl (fun _ => rfl) (fun _ => rfl) (fun _ ⟨v, h⟩ => ⟨v, _, h, rfl, ⟨rfl, _, rfl⟩⟩) fun r16 => (x_cons (x_val rfl (x_nil (o_val (a := (o3 (eO (eD tI)) (eD tI) (eO (o2 (eO (eD tI)) (eD tI)))) (r1.1, r16.1, s5.2)) rfl (n_ret ⟨rfl, rfl, rfl⟩)))))))))))))))))))))))))))))))))))))))))))
def p__law_paper (a_pile_here : List Int) : X (AM.W × List Int) :=
  X.bind (p__law_take a_pile_here 8) fun r1 => if (decide (r1.1 < 2)) = true then (X.bind (X.ofO (at_  [([97, 110, 121] : List Nat), ([115, 117, 109] : List Nat)] r1.1)) fun x2 => X.ok ((eD (t1 tT)) x2, r1.2)) else X.bind (p__law_list r1.2 none) fun r3 => if (decide (r1.1 = 2)) = true then (X.ok ((o1 (eO (eD tI))) r3.1, r3.2)) else if (decide (r1.1 = 3)) = true then (X.bind (p__law_great r3.2) fun r4 => X.ok ((o2 (eD tI) (eO (eD tI))) (r4.1, r3.1), r4.2)) else if (decide (r1.1 = 4)) = true then (X.bind (p__law_list r3.2 (some 0)) fun r5 => X.ok ((o2 (eO (eD tI)) (eO (eD tI))) (r3.1, r5.1), r5.2)) else if (decide (r1.1 = 5)) = true then (X.bind (p__law_list r3.2 (some 0)) fun r6 => X.bind (p__law_list r6.2 (some 0)) fun r7 => X.ok ((o3 (eO (eD tI)) (eO (eD tI)) (eO (eD tI))) (r6.1, r3.1, r7.1), r7.2)) else X.bind (p__law_take r3.2 4) fun r8 => X.bind (X.ofO (rg1 r8.1)) fun x9 => X.bind (X.lcSX (fun (x12 : Int) (s10 : List Int) => X.bind (X.nx (p__law_row s10)) fun r13 => X.ok (r13.1, r13.2)) x9 r8.2) fun x14 => X.ok ((o3 (eD tT) (eO (eD tI)) (eD (tL (t3 (tL tI) tI (tL (t2 (tL tI) tI)))))) (([114, 111, 119, 115] : List Nat), r3.1, x14.1), x14.2)
theorem t__law_paper (a_pile_here : List Int) : TF (m__law_paper [(eO (eD tI)) a_pile_here]) (p__law_paper a_pile_here) (fun r => eW r.1) (fun r => [some ((eO (eD tI)) r.2)]) (xIo 0) :=
  tf_fn rfl (s_asg (x_fz (x_K1 (xa_io rfl (xa_own (x_val (e := _) (a := (eD tI) 8) rfl (xa_nil (k_call1 rfl rfl rfl (aw_io (aw_own aw_nil)) (t__law_take a_pile_here 8) rfl (fun _ => rfl) (fun _ => rfl) (fun _ ⟨v, h⟩ => ⟨v, _, h, rfl, ⟨rfl, _, rfl⟩⟩) fun r1 => (o_val (fzV fz_sh _) (k_set rfl (n_env (e' := ([some ((eO (eD tI)) r1.2), some ((eD tI) r1.1), none, none] : AM.Env)) rfl (s_if (x_B (x_op2 (x_val rfl (x_val (e := _) (a := (eD tI) 2) rfl (o_val (lt_I _ _) (o_val (bl_B _) (k_if (s_ret (x_tup (x_cons (x_ix (x_lst (x_cons (x_str (l := ([97, 110, 121] : List Nat)) (by rfl) (x_cons (x_str (l := ([115, 117, 109] : List Nat)) (by rfl) (x_nil (o_val (lst_2 (e := (eD tT))) (x_val rfl (o_par (ix_ol _ _) fun x2 => (x_nil (o_val (a := (eD (t1 tT)) x2) rfl (n_ret ⟨rfl, rfl, rfl⟩)))))))))))))))) (s_nx (s_asg (x_K1 (xa_io rfl (xa_own (x_val (e := _) (a := (eD tN) ()) rfl (xa_nil (k_call1 rfl rfl rfl (aw_io (aw_own aw_nil)) (t__law_list r1.2 none) rfl (fun _ => rfl) (fun _ => rfl) (fun _ ⟨v, h⟩ => ⟨v, _, h, rfl, ⟨rfl, _, rfl⟩⟩) fun r3 => (k_set rfl (n_env (e' := ([some ((eO (eD tI)) r3.2), some ((eD tI) r1.1), some ((eO (eD tI)) r3.1), none] : AM.Env)) rfl (s_if (x_B (x_op2 (x_val rfl (x_val (e := _) (a := (eD tI) 2) rfl (o_val (gEq_p pl_I rfl fz_sh fz_sh _ _) (o_val (bl_B _) (k_if (s_ret (x_tup (x_cons (x_val rfl (x_nil (o_val (a := (o1 (eO (eD tI))) r3.1) rfl (n_ret ⟨rfl, rfl, rfl⟩))))))) (s_nx (s_if (x_B (x_op2 (x_val rfl (x_val (e := _) (a := (eD tI) 3) rfl (o_val (gEq_p pl_I rfl fz_sh fz_sh _ _) (o_val (bl_B _) (k_if (s_ret (x_tup (x_cons (x_K1 (xa_io rfl (xa_nil (k_call1 rfl rfl rfl (aw_io aw_nil) (t__law_great r3.2) rfl (fun _ => rfl) (fun _ => rfl) (fun _ ⟨v, h⟩ => ⟨v, _, h, rfl, ⟨rfl, _, rfl⟩⟩) fun r4 => (x_cons (x_val rfl (x_nil (o_val (a := (o2 (eD tI) (eO (eD tI))) (r4.1, r3.1)) rfl (n_ret ⟨rfl, rfl, rfl⟩)))))))))))) (s_nx (s_if (x_B (x_op2 (x_val rfl (x_val (e := _) (a := (eD tI) 4) rfl (o_val (gEq_p pl_I rfl fz_sh fz_sh _ _) (o_val (bl_B _) (k_if (s_ret (x_tup (x_cons (x_val rfl (x_cons (x_K1 (xa_io rfl (xa_own (x_val (e := _) (a := (eD tI) 0) rfl (xa_nil (k_call1 rfl rfl rfl (aw_io (aw_own aw_nil)) (t__law_list r3.2 (some 0)) rfl (fun _ => rfl) (fun _ => rfl) (fun _ ⟨v, h⟩ => ⟨v, _, h, rfl, ⟨rfl, _, rfl⟩⟩) fun r5 => (x_nil (o_val (a := (o2 (eO (eD tI)) (eO (eD tI))) (r3.1, r5.1)) rfl (n_ret ⟨rfl, rfl, rfl⟩)))))))))))))) (s_nx (s_if (x_B (x_op2 (x_val rfl (x_val (e := _) (a := (eD tI) 5) rfl (o_val (gEq_p pl_I rfl fz_sh fz_sh _ _) (o_val (bl_B _) (k_if (s_ret (x_tup (x_cons (x_K1 (xa_io rfl (xa_own (x_val (e := _) (a := (eD tI) 0) rfl (xa_nil (k_call1 rfl rfl rfl (aw_io (aw_own aw_nil)) (t__law_list r3.2 (some 0)) rfl (fun _ => rfl) (fun _ => rfl) (fun _ ⟨v, h⟩ => ⟨v, _, h, rfl, ⟨rfl, _, rfl⟩⟩) fun r6 => (x_cons (x_val rfl (x_cons (x_K1 (xa_io rfl (xa_own (x_val (e := _) (a := (eD tI) 0) rfl (xa_nil (k_call1 rfl rfl rfl (aw_io (aw_own aw_nil)) (t__law_list r6.2 (some 0)) rfl (fun _ => rfl) (fun _ => rfl) (fun _ ⟨v, h⟩ => ⟨v, _, h, rfl, ⟨rfl, _, rfl⟩⟩) fun r7 => (x_nil (o_val (a := (o3 (eO (eD tI)) (eO (eD tI)) (eO (eD tI))) (r6.1, r3.1, r7.1)) rfl (n_ret ⟨rfl, rfl, rfl⟩))))))))))))))))))))) (s_nx (s_last (s_ret (x_tup (x_cons (x_str (l := ([114, 111, 119, 115] : List Nat)) (by rfl) (x_cons (x_val rfl (x_cons (x_fz (x_cs (x_itR (x_cons (x_K1 (xa_io rfl (xa_own (x_val (e := _) (a := (eD tI) 4) rfl (xa_nil (k_call1 rfl rfl rfl (aw_io (aw_own aw_nil)) (t__law_take r3.2 4) rfl (fun _ => rfl) (fun _ => rfl) (fun _ ⟨v, h⟩ => ⟨v, _, h, rfl, ⟨rfl, _, rfl⟩⟩) fun r8 => (x_nil (o_par (rg_1 _) fun x9 => (k_cs (en := (o3 (eO (eD tI)) (eD tI) (eO (o2 (eO (eD tI)) (eD tI))))) (fun (s10 : List Int) (o11 : Unit) => ([some ((eO (eD tI)) s10), some ((eD tI) r1.1), none, none] : AM.Env)) (fun (s10 : List Int) (o11 : Option W × Unit) => ([some ((eO (eD tI)) s10), some ((eD tI) r1.1), none, o11.1] : AM.Env)) (fun x12 s10 o11 => ([some ((eO (eD tI)) s10), some ((eD tI) r1.1), none, some ((eD tI) x12)] : AM.Env)) r8.2 () rfl rfl (fun _ _ _ => rfl) (fun _ _ => ⟨(), rfl⟩) (fun x12 s10 o11 => (x_all (x_K1 (xa_io rfl (xa_nil (k_call1n rfl rfl rfl (aw_io aw_nil) (t__law_row s10) rfl (fun _ => rfl) (fun _ => rfl) fun r13 => (e_end (_, ()) rfl rfl))))))) fun x14 _ => (o_val (fzV (fz_ol (fz_o3 (fz_ol fz_sh) fz_sh (fz_ol (fz_o2 (fz_ol fz_sh) fz_sh)))) _) (x_nil (o_val (a := (o3 (eD tT) (eO (eD tI)) (eD (tL (t3 (tL tI) tI (tL (t2 (tL tI) tI)))))) (([114, 111, 119, 115] : List Nat), r3.1, x14.1)) rfl (n_ret ⟨rfl, rfl, rfl⟩))))))))))))))))))))))))))))))))))))))))))))))))))))))))))))))))))))))))))))))))))))))))))
end LW
namespace TY
open PySem AM
def nearC (ties : Ties) (i j : Nat) : Int := Sl ties fun t => (if i = t.1.toNat ∧ j = t.2.toNat then 1 else 0) + (if i = t.2.toNat ∧ j = t.1.toNat then 1 else 0)
section
variable {n : Nat} {ties : Ties}
theorem nearC_nonneg {i j : Nat} : 0 ≤ nearC ties i j := Sl_nonneg fun t _ => by split <;> split <;> omega
theorem lap_near (ht : TiesOk n ties) {x : Nat → Int} {i : Nat} : lap ties x i = S n fun j => nearC ties i j * (x i - x j) := by
  have e : (fun j => nearC ties i j * (x i - x j)) = fun j => Sl ties fun t => (x i - x j) * ((if i = t.1.toNat ∧ j = t.2.toNat then 1 else 0) + (if i = t.2.toNat ∧ j = t.1.toNat then 1 else 0)) := by
    funext j
    unfold nearC
    rw [Sl_mul, Int.mul_comm]
  rw [e, S_Sl]
  unfold lap
  refine Sl_congr fun t h => ?_
  obtain ⟨h1, h2, h3⟩ := ht t h
  have hne : t.1.toNat ≠ t.2.toNat := by omega
  have k : ∀ j, (x i - x j) * ((if i = t.1.toNat ∧ j = t.2.toNat then (1 : Int) else 0) + (if i = t.2.toNat ∧ j = t.1.toNat then 1 else 0)) = (if j = t.2.toNat then (if i = t.1.toNat then x i - x j else 0) else 0) + (if j = t.1.toNat then (if i = t.2.toNat then x i - x j else 0) else 0) := fun j => by
    by_cases e1 : i = t.1.toNat <;> by_cases e2 : j = t.2.toNat <;> by_cases e3 : i = t.2.toNat <;> by_cases e4 : j = t.1.toNat <;> simp_all
  rw [S_congr fun j _ => k j, S_add, S_oneF, S_oneF, if_pos (show t.2.toNat < n by omega), if_pos (show t.1.toNat < n by omega)]
  unfold flow
  by_cases e1 : i = t.1.toNat
  · have e3 : ¬ i = t.2.toNat := by omega
    rw [if_pos e1, if_pos e1, if_neg e3, e1]
    omega
  · by_cases e3 : i = t.2.toNat
    · rw [if_neg e1, if_pos e3, if_neg e1, if_pos e3, e3]
      omega
    · rw [if_neg e1, if_neg e3, if_neg e1, if_neg e3]
      omega
def Eff (n q : Nat) (d : Nat → Int) : Prop := ∀ i, i < n → i ≠ q → 0 ≤ d i
def outs (n : Nat) (ties : Ties) (A : Nat → Bool) (i : Nat) : Int := S n fun j => if A j = true then 0 else nearC ties i j
def Reduced (n : Nat) (ties : Ties) (q : Nat) (d : Nat → Int) : Prop := Eff n q d ∧ ∀ A : Nat → Bool, (∃ i, i < n ∧ A i = true) → A q = false → ∃ i, i < n ∧ A i = true ∧ d i < outs n ties A i
theorem maxAt {x : Nat → Int} : ∀ {n : Nat}, 0 < n → ∃ i, i < n ∧ ∀ j, j < n → x j ≤ x i
  | 0, h => by omega
  | 1, _ => ⟨0, by omega, fun j hj => by rw [show j = 0 by omega]; omega⟩
  | n + 2, _ => by
    obtain ⟨i, hi, h⟩ := maxAt (x := x) (n := n + 1) (by omega)
    by_cases e : x i ≤ x (n + 1)
    · exact ⟨n + 1, by omega, fun j hj => by
        by_cases z : j = n + 1
        · rw [z]; omega
        · have := h j (by omega); omega⟩
    · exact ⟨i, by omega, fun j hj => by
        by_cases z : j = n + 1
        · rw [z]; omega
        · exact h j (by omega)⟩
theorem lap_top (ht : TiesOk n ties) {x : Nat → Int} {i : Nat} (hi : ∀ j, j < n → x j ≤ x i) : outs n ties (fun j => decide (x i ≤ x j)) i ≤ lap ties x i := by
  rw [lap_near ht]
  refine S_le fun j hj => ?_
  have h1 := hi j hj
  have h2 := nearC_nonneg (ties := ties) (i := i) (j := j)
  by_cases e : x i ≤ x j
  · simp only [e, decide_true, if_true]
    have : x i - x j = 0 := by omega
    rw [this]; simp
  · simp only [e, decide_false, Bool.false_eq_true, if_false]
    have h3 : 1 ≤ x i - x j := by omega
    calc nearC ties i j = nearC ties i j * 1 := by simp
      _ ≤ nearC ties i j * (x i - x j) := Int.mul_le_mul_of_nonneg_left h3 h2
theorem outs_congr {A B : Nat → Bool} (h : ∀ j, j < n → A j = B j) (i : Nat) : outs n ties A i = outs n ties B i := S_congr fun j hj => by rw [h j hj]
theorem red_top (ht : TiesOk n ties) {q : Nat} {d x : Nat → Int} (hn : 0 < n) (r : Reduced n ties q d) (e : Eff n q fun i => d i - lap ties x i) : ∀ j, j < n → x j ≤ x q := by
  obtain ⟨m, hm, hx⟩ := maxAt (x := x) hn
  intro j hj
  by_cases hq : x m ≤ x q
  · have := hx j hj; omega
  · exfalso
    obtain ⟨i, hi, hA, hd⟩ := r.2 (fun j => decide (x m ≤ x j)) ⟨m, hm, by simp⟩ (by simpa using hq)
    have hA : x m ≤ x i := by simpa using hA
    have hxi : x i = x m := by have := hx i hi; omega
    have h1 := lap_top ht (x := x) (i := i) fun j hj => by rw [hxi]; exact hx j hj
    have h2 : outs n ties (fun j => decide (x i ≤ x j)) i = outs n ties (fun j => decide (x m ≤ x j)) i := outs_congr (fun j _ => by rw [hxi]) i
    have hne : i ≠ q := fun z => hq (by rw [← z, hxi]; omega)
    have h3 : 0 ≤ d i - lap ties x i := e i hi hne
    omega
theorem lap_neg {x : Nat → Int} {i : Nat} : lap ties (fun j => - x j) i = - lap ties x i := by
  have := lap_add (ties := ties) (x := x) (y := fun j => - x j) (i := i)
  have z := lap_const (ties := ties) (c := 0) (i := i)
  have e : (fun j => x j + - x j) = fun _ => (0 : Int) := by funext j; omega
  rw [e, z] at this
  omega
theorem red_one (ht : TiesOk n ties) {q : Nat} {d d' x : Nat → Int} (hn : 0 < n) (hq : q < n) (r : Reduced n ties q d) (r' : Reduced n ties q d') (e : ∀ i, i < n → d' i = d i - lap ties x i) : ∀ i, i < n → d' i = d i := by
  have h1 := red_top ht hn r (x := x) fun i hi hne => by
    show 0 ≤ d i - lap ties x i
    rw [← e i hi]
    exact r'.1 i hi hne
  have h2 := red_top ht hn r' (x := fun j => - x j) fun i hi hne => by
    simp only [lap_neg, e i hi]
    have := r.1 i hi hne
    omega
  intro i hi
  rw [e i hi, lap_congr (y := fun _ => x q) ht (fun j hj => by have := h1 j hj; have := h2 j hj; omega), lap_const]
  omega
theorem red_most (ht : TiesOk n ties) {q : Nat} {d d' x : Nat → Int} (hn : 0 < n) (hq : q < n) (r : Reduced n ties q d') (ef : Eff n q d) (e : ∀ i, i < n → d' i = d i - lap ties x i) : d q ≤ d' q := by
  have h1 := red_top ht hn r (x := fun j => - x j) fun i hi hne => by
    simp only [lap_neg, e i hi]
    have := ef i hi hne
    omega
  have h2 : 0 ≤ lap ties (fun j => - x j) q := by
    rw [lap_near ht]
    refine S_nonneg fun j hj => Int.mul_nonneg nearC_nonneg ?_
    have := h1 j hj
    omega
  rw [lap_neg] at h2
  rw [e q hq]
  omega
end
section
variable {n : Nat} {ties : Ties}
theorem Sl_S {f : Nat → Int} : ∀ {L : List Nat}, L.Nodup → (∀ j ∈ L, j < n) → Sl L f = S n fun j => if j ∈ L then f j else 0
  | [], _, _ => by simp [S_zero]
  | a :: L, hn, hl => by
    have ih := Sl_S (f := f) (L := L) (List.nodup_cons.mp hn).2 fun j hj => hl j (by simp [hj])
    have ha : a ∉ L := (List.nodup_cons.mp hn).1
    rw [Sl_cons, ih]
    have e : ∀ j, (if j ∈ a :: L then f j else 0) = (if j = a then f a else 0) + (if j ∈ L then f j else 0) := fun j => by
      by_cases e1 : j = a
      · subst e1
        simp [ha]
      · by_cases e2 : j ∈ L <;> simp [e1, e2]
    rw [S_congr fun j _ => e j, S_add, S_one, if_pos (hl a (by simp))]
structure Burn (n : Nat) (ties : Ties) (d : Nat → Int) (q : Nat) (o : List Nat) : Prop where
  nd : o.Nodup
  all : ∀ i, i ∈ o ↔ i < n
  hd : o[0]? = some q
  few : ∀ k v, 0 < k → o[k]? = some v → d v < Sl (o.take k) (nearC ties v)
theorem Sl_all {o : List Nat} {f : Nat → Int} (nd : o.Nodup) (all : ∀ i, i ∈ o ↔ i < n) : Sl o f = S n f := by
  rw [Sl_S nd fun j hj => (all j).mp hj]
  exact S_congr fun j hj => if_pos ((all j).mpr hj)
end
end TY
namespace TY
open PySem AM
section
variable {n : Nat} {ties : Ties}
def IsDraw (n : Nat) (ties : Ties) (q : Nat) (d : Nat → Int) (r : Int) : Prop := ∃ x d' : Nat → Int, Reduced n ties q d' ∧ (∀ i, i < n → d' i = d i - lap ties x i) ∧ d' q = r
theorem Reduced.congr {q : Nat} {d d' : Nat → Int} (r : Reduced n ties q d) (h : ∀ i, i < n → d' i = d i) : Reduced n ties q d' := by
  refine ⟨fun i hi hne => by rw [h i hi]; exact r.1 i hi hne, fun A hA hq => ?_⟩
  obtain ⟨i, hi, h1, h2⟩ := r.2 A hA hq
  exact ⟨i, hi, h1, by rw [h i hi]; exact h2⟩
theorem IsDraw.congr {q : Nat} {d d' : Nat → Int} {r : Int} (h : IsDraw n ties q d r) (e : ∀ i, i < n → d' i = d i) : IsDraw n ties q d' r := by
  obtain ⟨x, u, h1, h2, h3⟩ := h
  exact ⟨x, u, h1, fun i hi => by rw [h2 i hi, e i hi], h3⟩
theorem IsDraw.uniq (ht : TiesOk n ties) {q : Nat} {d : Nat → Int} {r s : Int} (hn : 0 < n) (hq : q < n) (h : IsDraw n ties q d r) (k : IsDraw n ties q d s) : r = s := by
  obtain ⟨x, u, h1, h2, rfl⟩ := h
  obtain ⟨y, v, k1, k2, rfl⟩ := k
  refine (red_one ht hn hq h1 k1 (x := fun j => y j - x j) (fun i hi => ?_) q hq).symm
  rw [lap_sub, h2 i hi, k2 i hi]
  omega
theorem IsDraw.lent {q : Nat} {d t : Nat → Int} {r : Int} (h : IsDraw n ties q d r) : IsDraw n ties q (fun i => d i - lap ties t i) r := by
  obtain ⟨x, u, h1, h2, h3⟩ := h
  refine ⟨fun j => x j - t j, u, h1, fun i hi => ?_, h3⟩
  rw [h2 i hi, lap_sub]
  show _ = d i - lap ties t i - _
  omega
theorem Reduced.more {q : Nat} {d : Nat → Int} {m : Int} (r : Reduced n ties q d) : Reduced n ties q fun i => if i = q then d i + m else d i := by
  refine ⟨fun i hi hne => by simp only [if_neg hne]; exact r.1 i hi hne, fun A hA hq => ?_⟩
  obtain ⟨i, hi, h1, h2⟩ := r.2 A hA hq
  have hne : i ≠ q := fun z => by rw [z, hq] at h1; cases h1
  exact ⟨i, hi, h1, by simp only [if_neg hne]; exact h2⟩
theorem IsDraw.more {q : Nat} {d : Nat → Int} {r m : Int} (h : IsDraw n ties q d r) : IsDraw n ties q (fun i => if i = q then d i + m else d i) (r + m) := by
  obtain ⟨x, u, h1, h2, h3⟩ := h
  refine ⟨x, _, h1.more (m := m), fun i hi => ?_, by simp [h3]⟩
  by_cases e : i = q
  · simp only [if_pos e, h2 i hi]; omega
  · simp only [if_neg e, h2 i hi]
theorem IsDraw.mono (ht : TiesOk n ties) {q v : Nat} {d : Nat → Int} {r s : Int} (hn : 0 < n) (hq : q < n) (h : IsDraw n ties q d r) (k : IsDraw n ties q (fun i => if i = v then d i + 1 else d i) s) : r ≤ s := by
  obtain ⟨x, u, h1, h2, rfl⟩ := h
  obtain ⟨y, w, k1, k2, rfl⟩ := k
  have := red_most ht hn hq (d := fun i => if i = v then u i + 1 else u i) (d' := w) (x := fun j => y j - x j) k1 (fun i hi hne => ?_) fun i hi => ?_
  · by_cases e : q = v
    · simp only [if_pos e] at this; omega
    · simpa only [if_neg e] using this
  · have := h1.1 i hi hne
    by_cases e : i = v
    · simp only [if_pos e]; omega
    · simp only [if_neg e]; exact this
  · rw [lap_sub, k2 i hi]
    by_cases e : i = v
    · simp only [if_pos e, h2 i hi]; omega
    · simp only [if_neg e, h2 i hi]; omega
def CanClear (n : Nat) (ties : Ties) (d : Nat → Int) : Prop := ∃ x : Nat → Int, ∀ i, i < n → 0 ≤ d i - lap ties x i
end
structure Pre (n : Nat) (ties : Ties) (d : Nat → Int) (q : Nat) (o : List Nat) : Prop where
  nd : o.Nodup
  lt : ∀ i ∈ o, i < n
  hd : o[0]? = some q
  few : ∀ k v, 0 < k → o[k]? = some v → d v < Sl (o.take k) (nearC ties v)
section
variable {n : Nat} {ties : Ties} {d : Nat → Int} {q : Nat} {o : List Nat}
theorem Pre.len (p : Pre n ties d q o) : o.length ≤ n := by
  have h := Sl_S (f := fun _ => (1 : Int)) p.nd p.lt
  rw [Sl_const] at h
  have h2 : S n (fun j => if j ∈ o then (1 : Int) else 0) ≤ S n fun _ => 1 := S_le fun j _ => by split <;> omega
  rw [S_const] at h2
  omega
theorem Pre.all (p : Pre n ties d q o) (hl : o.length = n) : Burn n ties d q o := by
  refine ⟨p.nd, fun i => ⟨p.lt i, fun hi => ?_⟩, p.hd, p.few⟩
  apply Classical.byContradiction
  intro hno
  have h := Sl_S (f := fun _ => (1 : Int)) p.nd p.lt
  rw [Sl_const, hl] at h
  have h2 : S n (fun j => (if j ∈ o then (1 : Int) else 0) + if j = i then 1 else 0) ≤ S n fun _ => 1 := S_le fun j _ => by
    by_cases e : j = i
    · subst e; simp [hno]
    · by_cases e2 : j ∈ o <;> simp [e, e2]
  rw [S_const, S_add, S_one, if_pos hi] at h2
  omega
end
end TY
namespace TY
open PySem AM
end TY
namespace TY
open PySem AM
section
variable {n : Nat} {ties : Ties}
structure Ord (n : Nat) (o : List Nat) : Prop where
  nd : o.Nodup
  all : ∀ i, i ∈ o ↔ i < n
def nu (ties : Ties) (o : List Nat) (v : Nat) : Int := Sl (o.take (o.idxOf v)) (nearC ties v) - 1
theorem Ord.len {o : List Nat} (h : Ord n o) : o.length = n := by
  have h1 := Sl_all (f := fun _ => (1 : Int)) h.nd h.all
  rw [Sl_const, S_const] at h1
  omega
theorem Ord.get {o : List Nat} (h : Ord n o) {v : Nat} (hv : v < n) : o[o.idxOf v]? = some v := by
  have h1 := List.idxOf_lt_length_of_mem ((h.all v).mpr hv)
  rw [List.getElem?_eq_getElem h1]
  simp
def pos (n : Nat) (f : Nat → Int) : Int := S n fun i => if 0 ≤ f i then f i else 0
def Falls (n : Nat) (ties : Ties) (d : Nat → Int) (k : Int) : Prop := ∃ (x : Nat → Int) (o : List Nat), Ord n o ∧ pos n (fun i => d i - lap ties x i - nu ties o i) ≤ k
theorem Falls.mono {d : Nat → Int} {k l : Int} (h : Falls n ties d k) (hl : k ≤ l) : Falls n ties d l := by
  obtain ⟨x, o, h1, h⟩ := h
  exact ⟨x, o, h1, by omega⟩
theorem Falls.lent {d t : Nat → Int} {k : Int} (h : Falls n ties d k) : Falls n ties (fun i => d i - lap ties t i) k := by
  obtain ⟨x, o, ho, h⟩ := h
  refine ⟨fun i => x i - t i, o, ho, ?_⟩
  have : (fun i => d i - lap ties t i - lap ties (fun j => x j - t j) i - nu ties o i) = fun i => d i - lap ties x i - nu ties o i := by
    funext i
    rw [lap_sub]
    omega
  rw [this]
  exact h
theorem Falls.congr {d d' : Nat → Int} {k : Int} (h : Falls n ties d k) (e : ∀ i, i < n → d' i = d i) : Falls n ties d' k := by
  obtain ⟨x, o, ho, h⟩ := h
  refine ⟨x, o, ho, ?_⟩
  have : pos n (fun i => d' i - lap ties x i - nu ties o i) = pos n fun i => d i - lap ties x i - nu ties o i := S_congr fun i hi => by simp only [e i hi]
  omega
def Stands (n : Nat) (ties : Ties) (d : Nat → Int) (r : Int) : Prop := -1 ≤ r ∧ ¬ Falls n ties d r ∧ Falls n ties d (r + 1)
theorem Stands.uniq {d : Nat → Int} {r s : Int} (h : Stands n ties d r) (k : Stands n ties d s) : r = s := by
  apply Classical.byContradiction
  intro hne
  rcases Int.lt_or_gt_of_ne hne with h1 | h1
  · exact k.2.1 (h.2.2.mono (by omega))
  · exact h.2.1 (k.2.2.mono (by omega))
theorem Stands.congr {d d' : Nat → Int} {r : Int} (h : Stands n ties d r) (e : ∀ i, i < n → d' i = d i) : Stands n ties d' r := ⟨h.1, fun z => h.2.1 (z.congr fun i hi => (e i hi).symm), h.2.2.congr e⟩
theorem Stands.lent {d t : Nat → Int} {r : Int} (h : Stands n ties d r) : Stands n ties (fun i => d i - lap ties t i) r := by
  refine ⟨h.1, fun z => h.2.1 ?_, h.2.2.lent⟩
  have := z.lent (t := fun i => - t i)
  exact this.congr fun i _ => by rw [lap_neg]; omega
theorem CanClear.sum (ht : TiesOk n ties) {d : Nat → Int} (h : CanClear n ties d) : 0 ≤ S n d := by
  obtain ⟨x, hx⟩ := h
  have := S_nonneg hx
  rw [S_sub, show S n (fun i => lap ties x i) = 0 from lap_sum ht] at this
  omega
theorem CanClear.lent {d t : Nat → Int} (h : CanClear n ties d) : CanClear n ties fun i => d i - lap ties t i := by
  obtain ⟨x, hx⟩ := h
  refine ⟨fun i => x i - t i, fun i hi => ?_⟩
  have := hx i hi
  rw [lap_sub]
  show 0 ≤ d i - lap ties t i - _
  omega
theorem CanClear.congr {d d' : Nat → Int} (h : CanClear n ties d) (e : ∀ i, i < n → d' i = d i) : CanClear n ties d' := by
  obtain ⟨x, hx⟩ := h
  exact ⟨x, fun i hi => by rw [e i hi]; exact hx i hi⟩
end
end TY
set_option maxHeartbeats 4000000
namespace LW
open PySem AM TY
structure Pn (k : Nat) (d : D) : Prop where
  h : ∃ x, D.pd d = some x ∧ x.canLay0 = true ∧ x.depth ≤ k
theorem Pn.mono {k l : Nat} {d : D} (h : Pn k d) (e : k ≤ l) : Pn l d := by
  obtain ⟨x, a, b, c⟩ := h.h
  exact ⟨x, a, b, Nat.le_trans c e⟩
theorem pn_int (i : Int) : Pn 0 (tI i) := ⟨.int i, rfl, by simp [PyData.canLay0], by simp [PyData.depth]⟩
theorem pds_ok {k : Nat} : ∀ {ds : List D}, (∀ d ∈ ds, Pn k d) → ∃ xs, D.pds ds = some xs ∧ PyData.canLayAll0 xs = true ∧ PyData.depthAll xs ≤ k ∧ xs.length = ds.length
  | [], _ => ⟨[], rfl, by simp [PyData.canLayAll0], by simp [PyData.depthAll], rfl⟩
  | d :: ds, h => by
    obtain ⟨x, a, b, c⟩ := (h d (by simp)).h
    obtain ⟨xs, a2, b2, c2, l⟩ := pds_ok (ds := ds) fun e he => h e (by simp [he])
    refine ⟨x :: xs, by simp [D.pds, a, a2], by simp [PyData.canLayAll0, b, b2], ?_, by simp [l]⟩
    simp only [PyData.depthAll]
    omega
theorem pn_tup {k : Nat} {ds : List D} (h : ∀ d ∈ ds, Pn k d) : Pn (k + 1) (.tup ds) := by
  obtain ⟨xs, a, b, c, _⟩ := pds_ok h
  refine ⟨.tuple xs, by simp [D.pd, a], by simpa [PyData.canLay0] using b, ?_⟩
  simp only [PyData.depth]
  omega
theorem pn_lst {k : Nat} {ds : List D} (h : ∀ d ∈ ds, Pn k d) : Pn (k + 1) (.lst ds) := by
  obtain ⟨xs, a, b, c, _⟩ := pds_ok h
  refine ⟨.list xs, by simp [D.pd, a], by simpa [PyData.canLay0] using b, ?_⟩
  simp only [PyData.depth]
  omega
theorem wPd_pn {k : Nat} {d : D} (h : Pn k d) (hk : k ≤ 64) : ∃ x, wPd (.sh d) = some x ∧ D.pd d = some x ∧ x.canLay0 = true := by
  obtain ⟨x, a, b, c⟩ := h.h
  refine ⟨x, ?_, a, b⟩
  unfold wPd
  simp only [W.toD, Option.bind_some, a]
  rw [if_pos]
  simp [SeqAt.shaped, b]
  omega
structure Tx (t : List Nat) : Prop where
  ok : okT t = true
  len : t.length ≤ 80000
theorem okT_iff {t : List Nat} : okT t = true ↔ ∀ c ∈ t, c < 0x110000 := by simp [okT, List.all_eq_true]
theorem Tx.sub {a b : List Nat} (h : Tx a) (hs : ∀ c ∈ b, c ∈ a) (hl : b.length ≤ a.length) : Tx b := ⟨okT_iff.mpr fun c hc => okT_iff.mp h.ok c (hs c hc), Nat.le_trans hl h.len⟩
theorem Tx.drop {a : List Nat} (h : Tx a) (k : Nat) : Tx (a.drop k) := h.sub (fun c hc => List.mem_of_mem_drop hc) (by simp)
theorem Tx.take {a : List Nat} (h : Tx a) (k : Nat) : Tx (a.take k) := h.sub (fun c hc => List.mem_of_mem_take hc) (by simp; omega)
theorem eqT_ok {a b : List Nat} (ha : okT a = true) (hb : okT b = true) : eqT a b = some (decide (a = b)) := if_pos ⟨ha, hb⟩
theorem neT_ok {a b : List Nat} (ha : okT a = true) (hb : okT b = true) : neT a b = some (!decide (a = b)) := if_pos ⟨ha, hb⟩
theorem cutT_take {a : List Nat} (h : Tx a) (k : Nat) : cutT a none (some (k : Int)) = some (a.take k) := by
  unfold cutT
  rw [if_pos (by have := h.len; omega)]
  unfold cutL
  rw [HT.sIx_none, HT.sIx_nat]
  simp
theorem cutT_drop {a : List Nat} (h : Tx a) (k : Nat) : cutT a (some (k : Int)) none = some (a.drop k) := by
  unfold cutT
  rw [if_pos (by have := h.len; omega)]
  unfold cutL
  rw [HT.sIx_none, HT.sIx_nat]
  by_cases c : k ≤ a.length
  · rw [Nat.min_eq_left c, List.take_of_length_le (by simp)]
  · rw [Nat.min_eq_right (by omega), List.drop_of_length_le (Nat.le_refl _), List.drop_of_length_le (show a.length ≤ k by omega)]
    simp
theorem lenT_ok {a : List Nat} (h : Tx a) : lenT a = some (a.length : Int) := if_pos (by have := h.len; omega)
def isDg (c : Nat) : Bool := decide (48 ≤ c) && decide (c ≤ 57)
def rowN (w : List Nat) : List Nat := if w.take 1 = [45] then w.drop 1 else w
def badN (r w : List Nat) : Bool := decide (r = []) || decide (40 < r.length) || (decide (r.head? = some 48) && !decide (w = [48]))
def okN (w : List Nat) : Bool := !badN (rowN w) w && (rowN w).all isDg
def numI (w : List Nat) : Option Int := if okN w = true then intText? (SX.S w) else none
theorem digits_of {r : List Nat} (h : r.all isDg = true) : NumText.AllDigits r := fun c hc => by
  have := List.all_eq_true.mp h c hc
  simpa [isDg] using this
theorem okN_val {w : List Nat} (h : okN w = true) : ∃ v, intText? (SX.S w) = some v ∧ w.length ≤ 41 := by
  unfold okN at h
  simp only [Bool.and_eq_true, Bool.not_eq_true'] at h
  obtain ⟨h1, h2⟩ := h
  unfold badN at h1
  simp only [Bool.or_eq_false_iff, decide_eq_false_iff_not] at h1
  obtain ⟨⟨hne, hl⟩, _⟩ := h1
  unfold rowN at hne hl h2
  by_cases c : w.take 1 = [45]
  · rw [if_pos c] at hne hl h2
    obtain ⟨x, r, rfl⟩ : ∃ x r, w = x :: r := by
      cases w with
      | nil => simp at c
      | cons x r => exact ⟨x, r, rfl⟩
    simp at c
    subst c
    simp at hne hl h2
    refine ⟨_, intText_neg (x := SX.S (45 :: r)) (cs := r) rfl (digits_of (by simpa using h2)) hne ?_, by simp; omega⟩
    rw [SX.S_len]; simp; omega
  · rw [if_neg c] at hne hl h2
    refine ⟨_, intText_digits (x := SX.S w) (digits_of h2) hne ?_, by omega⟩
    rw [SX.S_len]; omega
theorem numI_len {w : List Nat} {v : Int} (h : numI w = some v) : okN w = true ∧ intText? (SX.S w) = some v := by
  unfold numI at h
  split at h
  · rename_i c
    exact ⟨c, h⟩
  · cases h
theorem notIn_dg (c : Nat) : notInT [c] [48, 49, 50, 51, 52, 53, 54, 55, 56, 57] = some (!isDg c) := by
  show some (!decide (c ∈ [48, 49, 50, 51, 52, 53, 54, 55, 56, 57])) = _
  congr 2
  simp only [isDg, List.mem_cons, List.not_mem_nil, or_false]
  rw [← Bool.decide_and]
  exact decide_eq_decide.mpr (by omega)
theorem rowN_tx {w : List Nat} (h : Tx w) : Tx (rowN w) := by
  unfold rowN
  split
  · exact h.drop 1
  · exact h
theorem row_ok {w : List Nat} (h : Tx w) : (X.bind (X.ofO (cutT w none (some 1))) fun x1 => X.bind (X.ofO (eqT x1 ([45] : List Nat))) fun x2 => if x2 = true then (X.bind (X.ofO (cutT w (some 1) none)) fun x3 => X.ok x3) else X.ok w) = X.ok (rowN w) := by
  rw [show cutT w none (some 1) = some (w.take 1) from cutT_take h 1, ofO_some, bind_ok, eqT_ok (h.take 1).ok (by decide), ofO_some, bind_ok, show cutT w (some 1) none = some (w.drop 1) from cutT_drop h 1, ofO_some, bind_ok]
  unfold rowN
  by_cases c : w.take 1 = [45]
  · rw [if_pos (decide_eq_true c), if_pos c]
  · rw [if_neg (by simpa using c), if_neg c]
theorem bad_ok {r w : List Nat} (hr : Tx r) (hw : Tx w) : (X.bind (X.ofO (eqT r ([] : List Nat))) fun x5 => X.bind (if x5 = true then X.ok true else X.bind (X.ofO (lenT r)) fun x6 => X.bind (if (decide (40 < x6)) = true then X.ok true else X.bind (X.ofO (ixT r 0)) fun x7 => X.bind (X.ofO (eqT x7 ([48] : List Nat))) fun x8 => X.bind (if x8 = true then (X.bind (X.ofO (neT w ([48] : List Nat))) fun x9 => X.ok x9) else X.ok false) fun b10 => X.ok b10) fun b11 => X.ok b11) fun b12 => X.ok b12) = X.ok (badN r w) := by
  rw [eqT_ok hr.ok (by decide), ofO_some, bind_ok]
  unfold badN
  cases r with
  | nil => simp
  | cons c r =>
    rw [if_neg (by simp), lenT_ok hr, ofO_some, bind_ok]
    by_cases l : 40 < (c :: r).length
    · rw [if_pos (by simp at l ⊢; omega), bind_ok, bind_ok]
      simp at l
      simp [l]
    · rw [if_neg (by simp at l ⊢; omega)]
      have hi : ixT (c :: r) 0 = some [c] := by
        unfold ixT
        rw [if_pos (by have := hr.len; omega), at_0]
        rfl
      have hc : okT [c] = true := okT_iff.mpr fun x hx => okT_iff.mp hr.ok x (by simp at hx; simp [hx])
      rw [hi, ofO_some, bind_ok, eqT_ok hc (by decide), ofO_some, bind_ok, neT_ok hw.ok (by decide), ofO_some, bind_ok]
      have l' : ¬ 40 < r.length + 1 := by simpa using l
      by_cases d : c = 48
      · subst d
        simp [l']
      · simp [d, l']
theorem dgs_ok : ∀ r : List Nat, X.forP (fun (x13 : List Nat) (s14 : Unit) => X.bind (X.ofO (notInT x13 ([48, 49, 50, 51, 52, 53, 54, 55, 56, 57] : List Nat))) fun x16 => if x16 = true then (X.ex ⟨"NoText", []⟩ : X Unit) else X.ok ()) (sgns r) () = if r.all isDg = true then X.ok () else X.ex ⟨"NoText", []⟩
  | [] => by simp [sgns, X.forP]
  | c :: r => by
    have ih := dgs_ok r
    show X.bind (X.bind (X.ofO (notInT [c] ([48, 49, 50, 51, 52, 53, 54, 55, 56, 57] : List Nat))) fun x16 => if x16 = true then (X.ex ⟨"NoText", []⟩ : X Unit) else X.ok ()) (fun s => X.forP _ (sgns r) s) = _
    rw [notIn_dg, ofO_some, bind_ok]
    by_cases d : isDg c = true
    · rw [show (c :: r).all isDg = r.all isDg by simp [d], d, if_neg (by decide), bind_ok]
      exact ih
    · rw [Bool.not_eq_true] at d
      rw [show (c :: r).all isDg = false by simp [d], d, if_pos (by decide), if_neg (by decide)]
      rfl
theorem intT_ok {w : List Nat} (h : okN w = true) : intT w = numI w := by
  obtain ⟨v, _, l⟩ := okN_val h
  unfold intT numI
  rw [if_pos (by omega), if_pos h]
def xN1 (o : Option Int) : X Int := match o with
  | some v => X.ok v
  | none => X.ex ⟨"NoText", []⟩
theorem numI_cases (w : List Nat) : (okN w = true ∧ ∃ v, numI w = some v) ∨ (okN w = false ∧ numI w = none) := by
  cases h : okN w with
  | true =>
    obtain ⟨v, e, _⟩ := okN_val h
    exact .inl ⟨rfl, v, by unfold numI; rw [if_pos h, e]⟩
  | false => exact .inr ⟨rfl, by unfold numI; rw [if_neg (by simp [h])]⟩
theorem pn_str {l : List Nat} (h : okT l = true) : Pn 0 (tT l) := by
  have h0 := wPd_T h
  refine ⟨.str (SX.S l), rfl, ?_, by simp [PyData.depth]⟩
  unfold wPd at h0
  simp only [eD, W.toD, Option.bind_some] at h0
  rw [show D.pd (tT l) = some (.str (SX.S l)) from rfl] at h0
  (try dsimp only at h0)
  split at h0
  · rename_i c
    simp only [SeqAt.shaped, Bool.and_eq_true] at c
    exact c.1
  · cases h0
end LW
set_option maxHeartbeats 4000000
namespace LW
open PySem AM TY
theorem p_num {w : List Nat} (h : Tx w) : p_number_in w = xN1 (numI w) := by
  have hr := row_ok h
  have hb := bad_ok (rowN_tx h) h
  have hd := dgs_ok (rowN w)
  have e : p_number_in w = X.bind (X.bind (X.ofO (cutT w none (some 1))) fun x1 => X.bind (X.ofO (eqT x1 ([45] : List Nat))) fun x2 => if x2 = true then (X.bind (X.ofO (cutT w (some 1) none)) fun x3 => X.ok x3) else X.ok w) fun x4 =>
      X.bind (X.bind (X.ofO (eqT x4 ([] : List Nat))) fun x5 => X.bind (if x5 = true then X.ok true else X.bind (X.ofO (lenT x4)) fun x6 => X.bind (if (decide (40 < x6)) = true then X.ok true else X.bind (X.ofO (ixT x4 0)) fun x7 => X.bind (X.ofO (eqT x7 ([48] : List Nat))) fun x8 => X.bind (if x8 = true then (X.bind (X.ofO (neT w ([48] : List Nat))) fun x9 => X.ok x9) else X.ok false) fun b10 => X.ok b10) fun b11 => X.ok b11) fun b12 => X.ok b12) fun b12 => if b12 = true then (X.ex ⟨"NoText", []⟩) else X.bind (X.forP (fun (x13 : List Nat) (s14 : Unit) => X.bind (X.ofO (notInT x13 ([48, 49, 50, 51, 52, 53, 54, 55, 56, 57] : List Nat))) fun x16 => if x16 = true then (X.ex ⟨"NoText", []⟩ : X Unit) else X.ok ()) (sgns x4) ()) fun (s14 : Unit) => X.bind (X.ofO (intT w)) fun x17 => X.ok x17 := by
    unfold p_number_in
    rw [show cutT w none (some 1) = some (w.take 1) from cutT_take h 1, show cutT w (some 1) none = some (w.drop 1) from cutT_drop h 1]
    simp only [ofO_some, bind_ok, eqT_ok (h.take 1).ok (show okT [45] = true by decide)]
    by_cases c : w.take 1 = [45]
    · simp only [c, decide_true, if_true, bind_ok]
      rw [eqT_ok (h.drop 1).ok (by decide), ofO_some, bind_ok, bind_ok]
      rcases (if decide (w.drop 1 = []) = true then X.ok true else X.bind (X.ofO (lenT (w.drop 1))) fun x6 => X.bind (if (decide (40 < x6)) = true then X.ok true else X.bind (X.ofO (ixT (w.drop 1) 0)) fun x7 => X.bind (X.ofO (eqT x7 ([48] : List Nat))) fun x8 => X.bind (if x8 = true then (X.bind (X.ofO (neT w ([48] : List Nat))) fun x9 => X.ok x9) else X.ok false) fun b10 => X.ok b10) fun b11 => X.ok b11) with _ | ⟨b | x⟩ <;> rfl
    · simp only [c, decide_false, Bool.false_eq_true, if_false, bind_ok]
      rw [eqT_ok h.ok (by decide), ofO_some, bind_ok, bind_ok]
      rcases (if decide (w = []) = true then X.ok true else X.bind (X.ofO (lenT w)) fun x6 => X.bind (if (decide (40 < x6)) = true then X.ok true else X.bind (X.ofO (ixT w 0)) fun x7 => X.bind (X.ofO (eqT x7 ([48] : List Nat))) fun x8 => X.bind (if x8 = true then (X.bind (X.ofO (neT w ([48] : List Nat))) fun x9 => X.ok x9) else X.ok false) fun b10 => X.ok b10) fun b11 => X.ok b11) with _ | ⟨b | x⟩ <;> rfl
  rw [e, hr, bind_ok, hb, bind_ok, hd]
  rcases numI_cases w with ⟨k, v, hv⟩ | ⟨k, hv⟩
  · have k2 := k
    unfold okN at k2
    simp only [Bool.and_eq_true, Bool.not_eq_true'] at k2
    rw [if_neg (by simp [k2.1]), if_pos k2.2, bind_ok, intT_ok k, hv, ofO_some, bind_ok]
    rfl
  · rw [hv]
    unfold okN at k
    cases hb' : badN (rowN w) w with
    | true => rw [if_pos rfl]; rfl
    | false =>
      rw [hb'] at k
      have k2 : (rowN w).all isDg = false := by simpa using k
      rw [if_neg (by simp), if_neg (by simp [k2])]
      rfl
theorem p_numf {w : List Nat} (h : Tx w) (l : Int) : p_number_from w l = match numI w with
    | some v => if v < l then X.ex ⟨"NoText", []⟩ else X.ok v
    | none => X.ex ⟨"NoText", []⟩ := by
  unfold p_number_from
  rw [p_num h]
  rcases numI w with _ | v
  · rfl
  · show (if decide (v < l) = true then _ else _) = _
    by_cases c : v < l
    · rw [if_pos (decide_eq_true c)]; simp [c]
    · rw [if_neg (by simpa using c)]; simp [c]
def numL (w : List Nat) (l : Option Int) : Option Int := match numI w, l with
  | some v, some l => if v < l then none else some v
  | o, _ => o
theorem spl_sub (Sp : List Nat) : ∀ (l : List Nat) (k : Nat) (acc : List Nat), ∀ p ∈ TL.spl Sp k acc l, (∀ c ∈ p, c ∈ acc ∨ c ∈ l) ∧ p.length ≤ acc.length + l.length
  | [], k, acc, p, hp => by
    rw [TL.spl_nil] at hp
    simp at hp
    subst hp
    exact ⟨fun c hc => .inl hc, by simp⟩
  | c :: r, 0, acc, p, hp => by
    cases h : TL.pre Sp (c :: r) with
    | true =>
      rw [TL.spl_hit h] at hp
      rcases List.mem_cons.mp hp with rfl | hp
      · exact ⟨fun c hc => .inl hc, by simp⟩
      · obtain ⟨a, b⟩ := spl_sub Sp r _ [] p hp
        exact ⟨fun x hx => .inr (by rcases a x hx with z | z; simp at z; simp [z]), by simp at b ⊢; omega⟩
    | false =>
      rw [TL.spl_miss h] at hp
      obtain ⟨a, b⟩ := spl_sub Sp r 0 (acc ++ [c]) p hp
      refine ⟨fun x hx => ?_, by simp at b ⊢; omega⟩
      rcases a x hx with z | z
      · simp at z
        rcases z with z | z
        · exact .inl z
        · exact .inr (by simp [z])
      · exact .inr (by simp [z])
  | c :: r, k + 1, acc, p, hp => by
    have e : TL.spl Sp (k + 1) acc (c :: r) = TL.spl Sp k acc r := rfl
    rw [e] at hp
    obtain ⟨a, b⟩ := spl_sub Sp r k acc p hp
    refine ⟨fun x hx => ?_, by simp at b ⊢; omega⟩
    rcases a x hx with z | z
    · exact .inl z
    · exact .inr (by simp [z])
theorem spl_len (Sp : List Nat) : ∀ (l : List Nat) (k : Nat) (acc : List Nat), (TL.spl Sp k acc l).length ≤ l.length + 1
  | [], k, acc => by rw [TL.spl_nil]; simp
  | c :: r, 0, acc => by
    cases h : TL.pre Sp (c :: r) with
    | true =>
      rw [TL.spl_hit h]
      have := spl_len Sp r (Sp.length - 1) []
      simp; omega
    | false =>
      rw [TL.spl_miss h]
      have := spl_len Sp r 0 (acc ++ [c])
      simp; omega
  | c :: r, k + 1, acc => by
    have e : TL.spl Sp (k + 1) acc (c :: r) = TL.spl Sp k acc r := rfl
    rw [e]
    have := spl_len Sp r k acc
    simp; omega
theorem Tx.spl {t : List Nat} (h : Tx t) (Sp : List Nat) : ∀ p ∈ TL.spl Sp 0 [] t, Tx p := fun p hp => by
  obtain ⟨a, b⟩ := spl_sub Sp t 0 [] p hp
  exact h.sub (fun c hc => by rcases a c hc with z | z; simp at z; exact z) (by simpa using b)
theorem splitT_ok {t Sp : List Nat} (h : Tx t) (h1 : Sp ≠ []) (h2 : Sp.all (· < 256) = true) : splitT t Sp = some (TL.spl Sp 0 [] t) := by
  unfold splitT
  rw [if_pos ⟨h1, h2, by have := h.len; omega⟩]
abbrev wds (t : List Nat) : List (List Nat) := TL.spl [32] 0 [] t
def allI : List (Option Int) → Option (List Int)
  | [] => some []
  | o :: os => match o, allI os with
    | some v, some vs => some (v :: vs)
    | _, _ => none
def numsW (ws : List (List Nat)) : Option (List Int) := if 6 < ws.length then none else allI (ws.map numI)
def numsI (t : List Nat) : Option (List Int) := numsW (wds t)
def xNL (o : Option (List Int)) : X (List Int) := match o with
  | some v => X.ok v
  | none => X.ex ⟨"NoText", []⟩
theorem lcM_num : ∀ {ws : List (List Nat)}, (∀ w ∈ ws, Tx w) → X.lcM (fun (x2 : List Nat) => X.bind (p_number_in x2) fun r4 => X.ok r4) ws = xNL (allI (ws.map numI))
  | [], _ => rfl
  | w :: ws, h => by
    have ih := lcM_num (ws := ws) fun x hx => h x (by simp [hx])
    simp only [X.lcM, List.map_cons, allI]
    rw [p_num (h w (by simp))]
    rcases numI w with _ | v
    · rfl
    · simp only [xN1, bind_ok]
      rw [ih]
      rcases allI (ws.map numI) with _ | vs <;> rfl
theorem p_nums {t : List Nat} (h : Tx t) : p_numbers_in t = xNL (numsI t) := by
  unfold p_numbers_in
  rw [splitT_ok h (by decide) (by decide), ofO_some, bind_ok]
  unfold numsI numsW wds
  have hl := spl_len [32] t 0 []
  by_cases c : 6 < (TL.spl [32] 0 [] t).length
  · rw [if_pos (by simp; omega), if_pos c]
    rfl
  · rw [if_neg (by simp; omega), if_neg c, lcX_M (by have := h.len; omega), lcM_num (h.spl [32])]
    rcases allI _ with _ | vs <;> rfl
theorem join_cons {Sp p : List Nat} {ws : List (List Nat)} (h : ws ≠ []) : TL.joinL Sp (p :: ws) = p ++ (Sp ++ TL.joinL Sp ws) := by
  cases ws with
  | nil => exact absurd rfl h
  | cons q r => rfl
theorem wds_of {ws : List (List Nat)} (h : ws ≠ []) (hf : ∀ p ∈ ws, 32 ∉ p) : wds (TL.joinL [32] ws) = ws := SX.spl_join h hf
theorem par_eq {Sp : List Nat} (hS : Sp ≠ []) : ∀ {l acc p q : List Nat}, TL.par Sp acc l = some (p, q) → acc ++ l = p ++ (Sp ++ q)
  | [], acc, p, q, h => by simp [TL.par] at h
  | c :: r, acc, p, q, h => by
    cases e : TL.pre Sp (c :: r) with
    | true =>
      rw [TL.par_hit e] at h
      cases h
      have e2 : (c :: r).take Sp.length = Sp := by simpa [TL.pre] using e
      have := List.take_append_drop Sp.length (c :: r)
      rw [e2] at this
      rw [this]
    | false =>
      rw [TL.par_miss e] at h
      have := par_eq hS h
      simpa using this
theorem okN_mem {w : List Nat} (h : okN w = true) : ∀ c ∈ w, c = 45 ∨ (48 ≤ c ∧ c ≤ 57) := fun c hc => by
  unfold okN at h
  simp only [Bool.and_eq_true] at h
  have h2 := h.2
  unfold rowN at h2
  by_cases m : w.take 1 = [45]
  · rw [if_pos m] at h2
    obtain ⟨x, r, rfl⟩ : ∃ x r, w = x :: r := by
      cases w with
      | nil => simp at m
      | cons x r => exact ⟨x, r, rfl⟩
    simp at m
    rcases List.mem_cons.mp hc with rfl | hc
    · exact .inl m
    · exact .inr (digits_of h2 c (by simpa using hc))
  · rw [if_neg m] at h2
    exact .inr (digits_of h2 c hc)
theorem numI_mem {w : List Nat} {v : Int} (h : numI w = some v) : ∀ c ∈ w, c = 45 ∨ (48 ≤ c ∧ c ≤ 57) := okN_mem (numI_len h).1
theorem join_mem {Sp : List Nat} : ∀ {ws : List (List Nat)} {c : Nat}, c ∈ TL.joinL Sp ws → c ∈ Sp ∨ ∃ w ∈ ws, c ∈ w
  | [], c, h => by simp [TL.joinL] at h
  | [w], c, h => .inr ⟨w, by simp, h⟩
  | w :: v :: ws, c, h => by
    rw [join_cons (by simp)] at h
    simp only [List.mem_append] at h
    rcases h with h | h | h
    · exact .inr ⟨w, by simp, h⟩
    · exact .inl h
    · rcases join_mem h with h | ⟨x, hx, h⟩
      · exact .inl h
      · exact .inr ⟨x, by simp [hx], h⟩
def PileOk (N : Nat) (p : List Int) : Prop := ∃ a b c : Int, p = [a, b, c] ∧ 0 ≤ c ∧ c < N
theorem PileOk.mono {N M : Nat} {p : List Int} (h : PileOk N p) (hl : N ≤ M) : PileOk M p := by
  obtain ⟨a, b, c, e, h0, h1⟩ := h
  exact ⟨a, b, c, e, h0, by omega⟩
theorem mixed_ok (a b : Int) (hb : b.natAbs < 2 ^ 60) : ∃ r, p__law_mixed a b = X.ok r := by
  unfold p__law_mixed
  rw [mulO_ok (n := 40) (m := 40) (by omega) (by decide) (by omega), ofO_some, bind_ok, mulO_ok (n := 60) (m := 40) hb (by decide) (by omega), ofO_some, bind_ok,
    mulO_ok (n := 40) (m := 40) (by omega) (by omega) (by omega), ofO_some, bind_ok, mulO_ok (n := 40) (m := 40) (by omega) (by omega) (by omega), ofO_some, bind_ok]
  exact ⟨_, rfl⟩
theorem take_ok {N : Nat} {p : List Int} {m : Int} (h : PileOk N p) (hN : N ≤ 2 ^ 50) (hm : 0 < m) (hm2 : m < 2 ^ 60) : ∃ r p', p__law_take p m = X.ok (r, p') ∧ 0 ≤ r ∧ r < m ∧ PileOk (N + 1) p' := by
  obtain ⟨a, b, c, rfl, h0, h1⟩ := h
  unfold p__law_take
  simp only [at_0, at_2, ofO_some, bind_ok, decide_eq_true_eq]
  have hd : divO a m = some (a / m) := divO_pos hm (Nat.lt_of_lt_of_le (show m.natAbs < 2 ^ 60 by omega) (Nat.pow_le_pow_right (by decide) (by decide)))
  by_cases hc : a ∈ [0, -1]
  · obtain ⟨r, hr⟩ := mixed_ok b (c + 1) (by omega)
    refine ⟨r % m, [a, b, c + 1], ?_, Int.emod_nonneg _ (by omega), Int.emod_lt_of_pos _ hm, a, b, c + 1, rfl, by omega, by omega⟩
    rw [if_pos hc, setO_ok (by decide) (by simp), ofO_some, bind_ok, ixO_ok (x := b) (by decide) rfl, ofO_some, bind_ok, ixO_ok (x := c + 1) (by decide) rfl, ofO_some, bind_ok]
    simp only [hr, bind_ok, modO_pos hm, ofO_some]
    rfl
  · refine ⟨a % m, [a / m, b, c], ?_, Int.emod_nonneg _ (by omega), Int.emod_lt_of_pos _ hm, a / m, b, c, rfl, by omega, by omega⟩
    rw [if_neg hc]
    simp only [modO_pos hm, hd, ofO_some, bind_ok]
    rw [setO_ok (by decide) (by simp), ofO_some, bind_ok]
    rfl
theorem pile_ok (ns : List Int) (k : Int) (h0 : 0 ≤ k) (h1 : k ≤ 1000) : ∃ p, p__law_pile ns k = X.ok p ∧ PileOk 100000 p := by
  have key : ∀ s2 : Int, ∃ p, (X.bind (X.ofO (at_  [0, (s2 % 1000000000000000000000000000000000000000000000000000000000000000000000000000000000000000000000000000000000000000000000000000000000000000000000000000000)] (b2i (decide (1000000000000000000 ≤ (absI s2)))))) fun x4 => X.bind (X.ofO (mulO  97 k)) fun x5 => X.ok [x4, (s2 % 2147483647), x5]) = X.ok p ∧ PileOk 100000 p := by
    intro s2
    rw [mulO_ok (n := 40) (m := 40) (by decide) (by omega) (by omega)]
    by_cases hb : 1000000000000000000 ≤ absI s2
    · rw [decide_eq_true hb, b2i_t]
      simp only [at_1, ofO_some, bind_ok]
      exact ⟨_, rfl, _, _, _, rfl, by omega, by omega⟩
    · rw [decide_eq_false hb, b2i_f]
      simp only [at_0, ofO_some, bind_ok]
      exact ⟨_, rfl, _, _, _, rfl, by omega, by omega⟩
  unfold p__law_pile
  simp only [decide_eq_true_eq]
  by_cases hk : k < ((ns.length : Nat) : Int)
  · rw [if_pos hk, at_ok (x := ns[k.toNat]'(by omega)) h0 (List.getElem?_eq_getElem _)]
    exact key _
  · rw [if_neg hk]
    exact key 0
theorem take_big {N : Nat} {p : List Int} {m : Int} (h : PileOk N p) (hN : N ≤ 2 ^ 50) (hm : 0 < m) (hm2 : m.natAbs < 2 ^ 200) : ∃ r p', p__law_take p m = X.ok (r, p') ∧ 0 ≤ r ∧ r < m ∧ PileOk (N + 1) p' := by
  obtain ⟨a, b, c, rfl, h0, h1⟩ := h
  unfold p__law_take
  simp only [at_0, at_2, ofO_some, bind_ok, decide_eq_true_eq]
  have hd : divO a m = some (a / m) := divO_pos hm (Nat.lt_of_lt_of_le hm2 (Nat.pow_le_pow_right (by decide) (by decide)))
  by_cases hc : a ∈ [0, -1]
  · obtain ⟨r, hr⟩ := mixed_ok b (c + 1) (by omega)
    refine ⟨r % m, [a, b, c + 1], ?_, Int.emod_nonneg _ (by omega), Int.emod_lt_of_pos _ hm, a, b, c + 1, rfl, by omega, by omega⟩
    rw [if_pos hc, setO_ok (by decide) (by simp), ofO_some, bind_ok, ixO_ok (x := b) (by decide) rfl, ofO_some, bind_ok, ixO_ok (x := c + 1) (by decide) rfl, ofO_some, bind_ok]
    simp only [hr, bind_ok, modO_pos hm, ofO_some]
    rfl
  · refine ⟨a % m, [a / m, b, c], ?_, Int.emod_nonneg _ (by omega), Int.emod_lt_of_pos _ hm, a / m, b, c, rfl, by omega, by omega⟩
    rw [if_neg hc]
    simp only [modO_pos hm, hd, ofO_some, bind_ok]
    rw [setO_ok (by decide) (by simp), ofO_some, bind_ok]
    rfl
theorem catT_ok {a b : List Nat} (h : a.length + b.length ≤ 100000) : catT a b = some (a ++ b) := if_pos h
structure Sm (L : Nat) (t : List Nat) : Prop where
  ok : okT t = true
  len : t.length ≤ L
theorem Sm.tx {L : Nat} {t : List Nat} (h : Sm L t) (hL : L ≤ 80000) : Tx t := ⟨h.ok, Nat.le_trans h.len hL⟩
theorem Sm.mono {L M : Nat} {t : List Nat} (h : Sm L t) (hL : L ≤ M) : Sm M t := ⟨h.ok, Nat.le_trans h.len hL⟩
theorem Sm.app {L M : Nat} {a b : List Nat} (h : Sm L a) (k : Sm M b) : Sm (L + M) (a ++ b) := ⟨okT_iff.mpr fun c hc => by
  rcases List.mem_append.mp hc with z | z
  · exact okT_iff.mp h.ok c z
  · exact okT_iff.mp k.ok c z, by have := h.len; have := k.len; simp; omega⟩
theorem numL_head {n : Nat} (h : n ≠ 0) : ∃ c r, TL.numL n = c :: r ∧ c ≠ 48 := by
  induction n using Nat.strongRecOn with
  | _ n ih =>
    by_cases h2 : n < 10
    · exact ⟨48 + n, [], TL.numL_lt h2, by omega⟩
    · obtain ⟨c, r, e, hc⟩ := ih (n / 10) (by omega) (by omega)
      exact ⟨c, r ++ [48 + n % 10], by rw [TL.numL_step (by omega), e]; rfl, hc⟩
theorem digs_all {l : List Nat} (h : PySem.NumText.AllDigits l) : l.all isDg = true := List.all_eq_true.mpr fun c hc => by
  have := h c hc
  simp only [isDg, Bool.and_eq_true, decide_eq_true_eq]
  exact this
theorem neg_text (m : Nat) : (Str.ofString (toString (Int.negSucc m))).cps.toList = 45 :: TL.numL (m + 1) := by
  have e1 : toString (Int.negSucc m) = "-" ++ toString ((m + 1 : Nat) : Int) := rfl
  have e2 := TL.tl_num (m + 1)
  rw [e1, Str.ofString_eq_toList, ← e2]
  unfold TL.tl
  rw [Str.ofString_eq_toList]
  simp [String.toList_append]
theorem int_text {z : Int} (h : z.natAbs < 10 ^ 40) : ∃ t, strT z = some t ∧ numI t = some z ∧ Sm 41 t ∧ 32 ∉ t ∧ t ≠ [] := by
  have hl : z.natAbs.log2 < 1920 := log_lt (Nat.lt_of_lt_of_le h (by decide)) (by decide)
  cases z with
  | ofNat n =>
    have e : (Str.ofString (toString ((n : Nat) : Int))).cps.toList = TL.numL n := TL.tl_num n
    have hd := TL.numL_digits n
    have hn : n < 10 ^ 40 := h
    have len := TL.numL_len (n := n) (k := 40) (by decide) hn
    have ne := TL.numL_ne n
    refine ⟨TL.numL n, by unfold strT; rw [if_pos hl]; exact congrArg some e, ?_, ⟨okT_iff.mpr fun c hc => by have := hd c hc; omega, by omega⟩, fun z => by have := hd 32 z; omega, ne⟩
    have r1 : rowN (TL.numL n) = TL.numL n := by
      unfold rowN
      rw [if_neg]
      intro z
      rcases e2 : TL.numL n with _ | ⟨c, r⟩
      · exact ne e2
      · rw [e2] at z hd
        simp at z
        have := hd c (by simp)
        omega
    have ok : okN (TL.numL n) = true := by
      unfold okN badN
      rw [r1, digs_all hd]
      by_cases h0 : n = 0
      · subst h0
        rw [TL.numL_lt (by decide)]
        (try rfl)
      · obtain ⟨c, r, e2, hc⟩ := numL_head h0
        rw [e2] at len ⊢
        simp at len
        simp [hc]
        (try omega)
    unfold numI
    rw [if_pos ok]
    have := TL.int_num (n := n) (by omega)
    have e3 : SX.S (TL.numL n) = Str.ofString (toString ((n : Nat) : Int)) := by
      rw [← e]
      (try rfl)
    rw [e3]
    exact this
  | negSucc m =>
    have e := neg_text m
    have hd := TL.numL_digits (m + 1)
    have hn : m + 1 < 10 ^ 40 := h
    have len := TL.numL_len (n := m + 1) (k := 40) (by decide) hn
    have ne := TL.numL_ne (m + 1)
    refine ⟨45 :: TL.numL (m + 1), by unfold strT; rw [if_pos hl]; exact congrArg some e, ?_, ⟨okT_iff.mpr fun c hc => by
      rcases List.mem_cons.mp hc with rfl | hc
      · decide
      · have := hd c hc; omega, by simp; omega⟩, fun z => by
      rcases List.mem_cons.mp z with z | z
      · cases z
      · have := hd 32 z; omega, by simp⟩
    have r1 : rowN (45 :: TL.numL (m + 1)) = TL.numL (m + 1) := rfl
    have ok : okN (45 :: TL.numL (m + 1)) = true := by
      unfold okN badN
      rw [r1, digs_all hd]
      obtain ⟨c, r, e2, hc⟩ := numL_head (n := m + 1) (by omega)
      rw [e2] at len ⊢
      simp at len
      simp [hc]
      (try omega)
    unfold numI
    rw [if_pos ok]
    have := PySem.intText_neg (x := SX.S (45 :: TL.numL (m + 1))) (cs := TL.numL (m + 1)) rfl hd ne (by rw [SX.S_len]; simp; omega)
    rw [this, TL.numL_val]
    rfl
theorem pn_dues (l : List Int) : Pn 1 (tL tI l) := pn_lst fun d hd => by
  obtain ⟨i, _, rfl⟩ := List.mem_map.mp hd
  exact pn_int i
theorem Tx.nil : Tx [] := ⟨by decide, by simp⟩
theorem partT_ok {t b : List Nat} (h : Tx t) (hb : b ≠ []) : partT t b = some (match TL.par b [] t with
  | some (p, q) => (p, b, q)
  | none => (t, [], [])) := by
  unfold partT
  rw [if_pos ⟨hb, by have := h.len; omega⟩]
  try (rcases TL.par b [] t with _ | ⟨p, q⟩ <;> rfl)
theorem Tx.par {t b p q : List Nat} (h : Tx t) (hb : b ≠ []) (e : TL.par b [] t = some (p, q)) : Tx p ∧ Tx q := by
  have := par_eq hb e
  rw [List.nil_append] at this
  subst this
  exact ⟨h.sub (fun c hc => by simp [hc]) (by simp), h.sub (fun c hc => by simp [hc]) (by simp; omega)⟩
theorem gIn2 {w a b : List Nat} (hw : okT w = true) (ha : okT a = true) (hb : okT b = true) : wsB (gIn (((eD tT) w), ((eD (t2 tT tT)) (a, b)))) = some (decide (w = a) || decide (w = b)) := by
  obtain ⟨y, v1, v2, _⟩ := wPd_pn (pn_tup (k := 0) (ds := [tT a, tT b]) fun d hd => by
    simp at hd
    rcases hd with rfl | rfl
    · exact pn_str ha
    · exact pn_str hb) (by decide)
  simp only [D.pd, Option.map_eq_some_iff] at v2
  obtain ⟨ps, _, rfl⟩ := v2
  unfold gIn gDD
  (try dsimp only)
  rw [wPd_T hw, show eD (t2 tT tT) (a, b) = .sh (.tup [tT a, tT b]) from rfl, v1]
  have e1 : L2.eqV (.str (SX.S a)) (.str (SX.S w)) = decide (w = a) := by
    show (SX.S a == SX.S w) = _
    rw [SX.S_beq_eq]
    exact decide_eq_decide.mpr ⟨Eq.symm, Eq.symm⟩
  have e2 : L2.eqV (.str (SX.S b)) (.str (SX.S w)) = decide (w = b) := by
    show (SX.S b == SX.S w) = _
    rw [SX.S_beq_eq]
    exact decide_eq_decide.mpr ⟨Eq.symm, Eq.symm⟩
  have e3 : L2.inV (.str (SX.S w)) [.str (SX.S a), .str (SX.S b)] = (decide (w = a) || decide (w = b)) := by
    simp only [L2.inV, List.any_cons, List.any_nil, Bool.or_false, e1, e2]
  show wsB ((Option.map _ (fIn _ (.tuple ps))).or ((gInT false (.sh (tT w), .sh (.tup [tT a, tT b]))).or _)) = _
  simp only [fIn, Option.map_none, Option.none_or, gInT, tT, dFlat, dFlats, Bool.false_eq_true, if_false, e3]
  rfl
theorem great_ok {N : Nat} {p : List Int} (h : PileOk N p) (hN : N ≤ 2 ^ 48) : ∃ v p', p__law_great p = X.ok (v, p') ∧ 0 ≤ v ∧ v < 10 ^ 40 ∧ PileOk (N + 3) p' := by
  unfold p__law_great
  obtain ⟨a, p1, e1, a0, a1, o1⟩ := take_big (m := 100000000000000000000) h (by omega) (by decide) (by decide)
  rw [e1, bind_ok]
  (try dsimp only)
  obtain ⟨w, p2, e2, w0, w1, o2⟩ := take_ok (m := 4) o1 (by omega) (by decide) (by decide)
  rw [e2, bind_ok, mulO_ok (n := 80) (m := 80) (by omega) (by decide) (by decide), ofO_some, bind_ok]
  (try dsimp only)
  obtain ⟨b, p3, e3, b0, b1, o3⟩ := take_big (m := 10000000000000000000) o2 (by omega) (by decide) (by decide)
  rw [e3, bind_ok]
  (try dsimp only)
  rw [mulO_ok (n := 160) (m := 10) (by omega) (by decide) (by decide), ofO_some, bind_ok]
  have x1 : a % 8 < 8 := Int.emod_lt_of_pos _ (by decide)
  have x2 : 0 ≤ a % 8 := Int.emod_nonneg _ (by decide)
  have x3 : a % 100 < 100 := Int.emod_lt_of_pos _ (by decide)
  have x4 : 0 ≤ a % 100 := Int.emod_nonneg _ (by decide)
  have x5 : a % 9 < 9 := Int.emod_lt_of_pos _ (by decide)
  have x6 : 0 ≤ a % 9 := Int.emod_nonneg _ (by decide)
  rcases (show w = 0 ∨ w = 1 ∨ w = 2 ∨ w = 3 by omega) with rfl | rfl | rfl | rfl
  · exact ⟨_, p3, by rw [at_ok (x := a % 8) (by decide) rfl, ofO_some, bind_ok], x2, by omega, o3⟩
  · exact ⟨_, p3, by rw [at_ok (x := a % 100) (by decide) rfl, ofO_some, bind_ok], x4, by omega, o3⟩
  · exact ⟨_, p3, by rw [at_ok (x := a) (by decide) rfl, ofO_some, bind_ok], a0, by omega, o3⟩
  · exact ⟨_, p3, by rw [at_ok (x := (a * 10000000000000000000 + b) * 9 + a % 9) (by decide) rfl, ofO_some, bind_ok], by omega, by omega, o3⟩
theorem signed_ok {N : Nat} {p : List Int} (h : PileOk N p) (hN : N ≤ 2 ^ 47) : ∃ v p', p__law_signed p = X.ok (v, p') ∧ v.natAbs < 10 ^ 40 ∧ PileOk (N + 4) p' := by
  unfold p__law_signed
  obtain ⟨a, p1, e1, a0, a1, o1⟩ := great_ok h (by omega)
  rw [e1, bind_ok]
  (try dsimp only)
  obtain ⟨w, p2, e2, w0, w1, o2⟩ := take_ok (m := 3) o1 (by omega) (by decide) (by decide)
  rw [e2, bind_ok]
  (try dsimp only)
  rcases (show w = 0 ∨ w = 1 ∨ w = 2 by omega) with rfl | rfl | rfl
  · exact ⟨_, p2, by rw [at_ok (x := a) (by decide) rfl, ofO_some, bind_ok], by omega, o2⟩
  · exact ⟨_, p2, by rw [at_ok (x := a) (by decide) rfl, ofO_some, bind_ok], by omega, o2⟩
  · exact ⟨_, p2, by rw [at_ok (x := -a) (by decide) rfl, ofO_some, bind_ok], by omega, o2⟩
end LW
set_option maxHeartbeats 4000000
namespace LW
open PySem AM TY
theorem str_ex {i : Int} (h : i.natAbs < 10 ^ 42) : ∃ y, strT i = some y ∧ Sm 43 y := by
  have hl : i.natAbs.log2 < 1920 := log_lt (Nat.lt_of_lt_of_le h (by decide)) (by decide)
  refine ⟨_, by unfold strT; rw [if_pos hl], okT_iff.mpr fun c hc => ?_, ?_⟩
  · apply Classical.byContradiction
    intro q
    exact PyProof.Rows.int_text_free' c (by omega) i hc
  · have := int_text_length_le10 (k := 42) (by decide) h
    have e := ofString_length (toString i)
    show (Str.ofString (toString i)).cps.toList.length ≤ 43
    rw [show (Str.ofString (toString i)).cps.toList.length = (Str.ofString (toString i)).length from by simp [Str.length], e]
    exact this
theorem join_sm : ∀ {ys : List (List Nat)}, (∀ y ∈ ys, Sm 43 y) → Sm (44 * ys.length) (TL.joinL [32] ys)
  | [], _ => ⟨by decide, by simp [TL.joinL]⟩
  | [y], h => by
    have := h y (by simp)
    exact this.mono (by simp)
  | y :: z :: ys, h => by
    have h1 := h y (by simp)
    have h2 := join_sm (ys := z :: ys) fun x hx => h x (by simp [hx])
    rw [join_cons (by simp)]
    have s32 : Sm 1 [32] := ⟨by decide, by simp⟩
    have := h1.app (s32.app h2)
    refine this.mono ?_
    simp
    omega
theorem sum43 : ∀ {ys : List (List Nat)}, (∀ y ∈ ys, Sm 43 y) → (ys.map (·.length)).sum ≤ 43 * ys.length
  | [], _ => by simp
  | y :: ys, h => by
    have h1 := (h y (by simp)).len
    have h2 := sum43 (ys := ys) fun x hx => h x (by simp [hx])
    simp
    omega
def iT (z : Int) : List Nat := (toString z : Str).cps.toList
def nT (xs : List Int) : List Nat := TL.joinL [32] (xs.map iT)
abbrev Lead : Type := List Int × Int
abbrev Row : Type := List Int × Int × List Lead
def lT (l : Lead) : List Nat := nT l.1 ++ ([32, 116, 111, 32] ++ iT l.2)
def rT (r : Row) : List Nat := nT r.1 ++ ([32, 105, 115, 32] ++ (iT r.2.1 ++ (if r.2.2 = [] then [] else [58, 32] ++ TL.joinL [44, 32] (r.2.2.map lT))))
def bT (xs ys : List Int) : List Nat := [98, 97, 114, 32] ++ (nT xs ++ ([32, 98, 121, 32] ++ nT ys))
def Sh (xs : List Int) : Prop := xs.length ≤ 6 ∧ ∀ z ∈ xs, z.natAbs < 10 ^ 41
def ShL (l : Lead) : Prop := Sh l.1 ∧ l.2.natAbs < 10 ^ 41
def ShR (r : Row) : Prop := Sh r.1 ∧ r.2.1.natAbs < 10 ^ 41 ∧ r.2.2.length ≤ 6 ∧ ∀ l ∈ r.2.2, ShL l
theorem iT_ok {z : Int} (h : z.natAbs < 10 ^ 41) : strT z = some (iT z) ∧ Sm 43 (iT z) := by
  obtain ⟨y, e, s⟩ := str_ex (i := z) (Nat.lt_of_lt_of_le h (by decide))
  have e2 : strT z = some (iT z) := by
    unfold strT at e ⊢
    split at e
    · rename_i c
      rw [if_pos c]
      rfl
    · cases e
  rw [e2] at e
  cases e
  exact ⟨e2, s⟩
theorem iTs_lc : ∀ {xs : List Int}, (∀ z ∈ xs, z.natAbs < 10 ^ 41) → X.lcM (fun (x1 : Int) => X.bind (X.ofO (strT x1)) fun x3 => X.ok x3) xs = X.ok (xs.map iT)
  | [], _ => rfl
  | x :: xs, h => by
    have ih := iTs_lc (xs := xs) fun z hz => h z (by simp [hz])
    simp only [X.lcM, (iT_ok (h x (by simp))).1, ofO_some, bind_ok, ih, List.map_cons]
theorem nT_sm {xs : List Int} (h : Sh xs) : Sm (44 * xs.length) (nT xs) := by
  have := join_sm (ys := xs.map iT) fun y hy => by
    obtain ⟨z, hz, rfl⟩ := List.mem_map.mp hy
    exact (iT_ok (h.2 z hz)).2
  simpa [nT] using this
theorem nT_sm6 {xs : List Int} (h : Sh xs) : Sm 264 (nT xs) := (nT_sm h).mono (by have := h.1; omega)
theorem nT_join {xs : List Int} (h : Sh xs) : joinT [32] (xs.map iT) = some (nT xs) := by
  have h1 := sum43 (ys := xs.map iT) fun y hy => by
    obtain ⟨z, hz, rfl⟩ := List.mem_map.mp hy
    exact (iT_ok (h.2 z hz)).2
  have := h.1
  unfold joinT
  rw [if_pos (by simp at h1 ⊢; omega)]
  rfl
theorem show_n {xs : List Int} (h : Sh xs) : p_show_numbers xs = X.ok (nT xs) := by
  unfold p_show_numbers
  rw [lcX_M (by have := h.1; omega), iTs_lc h.2, bind_ok, nT_join h, ofO_some, bind_ok]
theorem law_n {xs : List Int} (h : Sh xs) : p__law_numbers_text xs = X.ok (nT xs) := by
  unfold p__law_numbers_text
  rw [lcX_M (by have := h.1; omega), iTs_lc h.2, bind_ok, nT_join h, ofO_some, bind_ok]
theorem show_b {xs ys : List Int} (h : Sh xs) (k : Sh ys) : p_show_bar xs ys = X.ok (bT xs ys) ∧ p__law_bar_text xs ys = X.ok (bT xs ys) := by
  have s1 := (nT_sm6 h).len
  have s2 := (nT_sm6 k).len
  have c1 : catT [98, 97, 114, 32] (nT xs) = some ([98, 97, 114, 32] ++ nT xs) := catT_ok (by simp; omega)
  have c2 : catT ([98, 97, 114, 32] ++ nT xs) [32, 98, 121, 32] = some ([98, 97, 114, 32] ++ nT xs ++ [32, 98, 121, 32]) := catT_ok (by simp; omega)
  have c3 : catT ([98, 97, 114, 32] ++ nT xs ++ [32, 98, 121, 32]) (nT ys) = some (bT xs ys) := by
    rw [catT_ok (by simp; omega)]
    simp [bT]
  constructor
  · unfold p_show_bar
    rw [show_n h, bind_ok, c1, ofO_some, bind_ok, c2, ofO_some, bind_ok, show_n k, bind_ok, c3, ofO_some, bind_ok]
  · unfold p__law_bar_text
    rw [law_n h, bind_ok, c1, ofO_some, bind_ok, c2, ofO_some, bind_ok, law_n k, bind_ok, c3, ofO_some, bind_ok]
theorem bT_sm {xs ys : List Int} (h : Sh xs) (k : Sh ys) : Sm 540 (bT xs ys) := by
  have := (⟨by decide, by simp⟩ : Sm 4 [98, 97, 114, 32]).app ((nT_sm6 h).app ((⟨by decide, by simp⟩ : Sm 4 [32, 98, 121, 32]).app (nT_sm6 k)))
  exact this.mono (by decide)
theorem lT_sm {l : Lead} (h : ShL l) : Sm (44 * l.1.length + 47) (lT l) := by
  have := (nT_sm h.1).app ((⟨by decide, by simp⟩ : Sm 4 [32, 116, 111, 32]).app (iT_ok h.2).2)
  exact this.mono (by omega)
theorem lT_sm6 {l : Lead} (h : ShL l) : Sm 311 (lT l) := (lT_sm h).mono (by have := h.1.1; omega)
theorem sum_le {B : Nat} : ∀ {ys : List (List Nat)}, (∀ y ∈ ys, y.length ≤ B) → (ys.map (·.length)).sum ≤ B * ys.length
  | [], _ => by simp
  | y :: ys, h => by
    have h1 := h y (by simp)
    have h2 := sum_le (B := B) (ys := ys) fun x hx => h x (by simp [hx])
    simp only [List.map_cons, List.sum_cons, List.length_cons, Nat.mul_add, Nat.mul_one]
    omega
theorem join_len {Sp : List Nat} : ∀ {ys : List (List Nat)}, (TL.joinL Sp ys).length ≤ (ys.map (·.length)).sum + ys.length * Sp.length
  | [] => by simp [TL.joinL]
  | [y] => by simp [TL.joinL]
  | y :: z :: ys => by
    have h2 := join_len (Sp := Sp) (ys := z :: ys)
    rw [join_cons (by simp)]
    simp only [List.map_cons, List.sum_cons, List.length_cons, List.length_append, Nat.add_mul, Nat.one_mul] at h2 ⊢
    omega
theorem join_okT {Sp : List Nat} (hS : okT Sp = true) {ys : List (List Nat)} (h : ∀ y ∈ ys, okT y = true) : okT (TL.joinL Sp ys) = true := okT_iff.mpr fun c hc => by
  rcases join_mem hc with hc | ⟨w, hw, hc⟩
  · exact okT_iff.mp hS c hc
  · exact okT_iff.mp (h w hw) c hc
theorem leads_lc {n : List Int → X (List Nat)} (hn : ∀ {xs}, Sh xs → n xs = X.ok (nT xs)) : ∀ {ls : List Lead}, (∀ l ∈ ls, ShL l) → X.lcM (fun (x6 : List Int × Int) => X.bind (X.nx (n x6.1)) fun r8 => X.bind (X.ofO (catT r8 ([32, 116, 111, 32] : List Nat))) fun x9 => X.bind (X.ofO (strT x6.2)) fun x10 => X.bind (X.ofO (catT x9 x10)) fun x11 => X.ok x11) ls = X.ok (ls.map lT)
  | [], _ => rfl
  | l :: ls, h => by
    have hl := h l (by simp)
    have s1 := (nT_sm6 hl.1).len
    obtain ⟨e2, s2⟩ := iT_ok hl.2
    have s2 := s2.len
    have c1 : catT (nT l.1) [32, 116, 111, 32] = some (nT l.1 ++ [32, 116, 111, 32]) := catT_ok (by simp; omega)
    have c2 : catT (nT l.1 ++ [32, 116, 111, 32]) (iT l.2) = some (lT l) := by
      rw [catT_ok (by simp; omega)]
      simp [lT]
    have nx : X.nx (X.ok (nT l.1)) = X.ok (nT l.1) := rfl
    simp only [X.lcM, hn hl.1, nx, bind_ok, c1, ofO_some, e2, c2, leads_lc hn (ls := ls) fun x hx => h x (by simp [hx]), List.map_cons]
theorem leads_join {ls : List Lead} (h : ∀ l ∈ ls, ShL l) (h6 : ls.length ≤ 6) : joinT [44, 32] (ls.map lT) = some (TL.joinL [44, 32] (ls.map lT)) ∧ Sm (313 * ls.length) (TL.joinL [44, 32] (ls.map lT)) := by
  have h1 := sum_le (B := 311) (ys := ls.map lT) fun y hy => by
    obtain ⟨l, hl, rfl⟩ := List.mem_map.mp hy
    exact (lT_sm6 (h l hl)).len
  have h2 := join_len (Sp := [44, 32]) (ys := ls.map lT)
  simp only [List.length_map, List.length_cons, List.length_nil] at h1 h2
  refine ⟨?_, join_okT (by decide) fun y hy => ?_, by omega⟩
  · unfold joinT
    rw [if_pos (by simp only [List.length_map, List.length_cons, List.length_nil]; omega)]
  · obtain ⟨l, hl, rfl⟩ := List.mem_map.mp hy
    exact (lT_sm6 (h l hl)).ok
theorem rT_nil {r : Row} (h : r.2.2 = []) : rT r = nT r.1 ++ ([32, 105, 115, 32] ++ iT r.2.1) := by
  unfold rT
  rw [if_pos h, List.append_nil]
theorem rT_cons {r : Row} (h : r.2.2 ≠ []) : rT r = nT r.1 ++ ([32, 105, 115, 32] ++ (iT r.2.1 ++ ([58, 32] ++ TL.joinL [44, 32] (r.2.2.map lT)))) := by
  unfold rT
  rw [if_neg h]
theorem rT_sm {r : Row} (h : ShR r) : Sm 2200 (rT r) := by
  obtain ⟨h1, h2, h6, h3⟩ := h
  have a := (nT_sm6 h1).app ((⟨by decide, by simp⟩ : Sm 4 [32, 105, 115, 32]).app (iT_ok h2).2)
  by_cases c : r.2.2 = []
  · rw [rT_nil c]
    exact a.mono (by decide)
  · rw [rT_cons c]
    have j := (leads_join h3 h6).2
    have := (nT_sm6 h1).app ((⟨by decide, by simp⟩ : Sm 4 [32, 105, 115, 32]).app ((iT_ok h2).2.app ((⟨by decide, by simp⟩ : Sm 2 [58, 32]).app j)))
    exact this.mono (by omega)
theorem show_r {r : Row} (h : ShR r) : p_show_row r = X.ok (rT r) ∧ p__law_row_text r = X.ok ([59, 32] ++ rT r) := by
  obtain ⟨h1, h2, h6, h3⟩ := h
  have s1 := (nT_sm6 h1).len
  obtain ⟨e2, s2⟩ := iT_ok h2
  have s2 := s2.len
  obtain ⟨ej, sj⟩ := leads_join h3 h6
  have sj := sj.len
  have c1 : catT (nT r.1) [32, 105, 115, 32] = some (nT r.1 ++ [32, 105, 115, 32]) := catT_ok (by simp; omega)
  have c2 : catT (nT r.1 ++ [32, 105, 115, 32]) (iT r.2.1) = some (nT r.1 ++ [32, 105, 115, 32] ++ iT r.2.1) := catT_ok (by simp; omega)
  have c3 : catT (nT r.1 ++ [32, 105, 115, 32] ++ iT r.2.1) [58, 32] = some (nT r.1 ++ [32, 105, 115, 32] ++ iT r.2.1 ++ [58, 32]) := catT_ok (by simp; omega)
  have c4 : catT (nT r.1 ++ [32, 105, 115, 32] ++ iT r.2.1 ++ [58, 32]) (TL.joinL [44, 32] (r.2.2.map lT)) = some (nT r.1 ++ [32, 105, 115, 32] ++ iT r.2.1 ++ [58, 32] ++ TL.joinL [44, 32] (r.2.2.map lT)) := catT_ok (by simp; omega)
  have d0 : catT [59, 32] (nT r.1) = some ([59, 32] ++ nT r.1) := catT_ok (by simp; omega)
  have d1 : catT ([59, 32] ++ nT r.1) [32, 105, 115, 32] = some ([59, 32] ++ nT r.1 ++ [32, 105, 115, 32]) := catT_ok (by simp; omega)
  have d2 : catT ([59, 32] ++ nT r.1 ++ [32, 105, 115, 32]) (iT r.2.1) = some ([59, 32] ++ nT r.1 ++ [32, 105, 115, 32] ++ iT r.2.1) := catT_ok (by simp; omega)
  have d3 : catT ([59, 32] ++ nT r.1 ++ [32, 105, 115, 32] ++ iT r.2.1) [58, 32] = some ([59, 32] ++ nT r.1 ++ [32, 105, 115, 32] ++ iT r.2.1 ++ [58, 32]) := catT_ok (by simp; omega)
  have d4 : catT ([59, 32] ++ nT r.1 ++ [32, 105, 115, 32] ++ iT r.2.1 ++ [58, 32]) (TL.joinL [44, 32] (r.2.2.map lT)) = some ([59, 32] ++ nT r.1 ++ [32, 105, 115, 32] ++ iT r.2.1 ++ [58, 32] ++ TL.joinL [44, 32] (r.2.2.map lT)) := catT_ok (by simp; omega)
  constructor
  · unfold p_show_row
    rw [show_n h1, bind_ok, c1, ofO_some, bind_ok, e2, ofO_some, bind_ok, c2, ofO_some, bind_ok]
    by_cases c : r.2.2 = []
    · rw [if_pos (decide_eq_true c), rT_nil c]
      simp
    · rw [if_neg (by simpa using c), c3, ofO_some, bind_ok, lcX_M (by omega), leads_lc show_n h3, bind_ok, ej, ofO_some, bind_ok, c4, ofO_some, bind_ok, rT_cons c]
      simp
  · unfold p__law_row_text
    rw [law_n h1, bind_ok, d0, ofO_some, bind_ok, d1, ofO_some, bind_ok, e2, ofO_some, bind_ok, d2, ofO_some, bind_ok]
    by_cases c : r.2.2 = []
    · rw [if_pos (decide_eq_true c), rT_nil c]
      simp
    · rw [if_neg (by simpa using c), d3, ofO_some, bind_ok, lcX_M (by omega), leads_lc law_n h3, bind_ok, ej, ofO_some, bind_ok, d4, ofO_some, bind_ok, rT_cons c]
      simp
end LW
set_option maxHeartbeats 4000000
namespace LW
open PySem AM TY
inductive Pap where
  | wd (a : Bool)
  | tm (xs : List Int)
  | md (m : Int) (xs : List Int)
  | br (xs ys : List Int)
  | ls (l xs ys : List Int)
  | rw (xs : List Int) (rs : List Row)
def wdT (a : Bool) : List Nat := if a = true then [97, 110, 121] else [115, 117, 109]
abbrev wRo : List Nat := [114, 111, 119, 115]
abbrev tRow : Row → D := t3 (tL tI) tI (tL (t2 (tL tI) tI))
def Pap.ds : Pap → List D
  | .wd a => [tT (wdT a)]
  | .tm xs => [tL tI xs]
  | .md m xs => [tI m, tL tI xs]
  | .br xs ys => [tL tI xs, tL tI ys]
  | .ls l xs ys => [tL tI l, tL tI xs, tL tI ys]
  | .rw xs rs => [tT wRo, tL tI xs, tL tRow rs]
def Pap.d (p : Pap) : D := .tup p.ds
def Pap.t : Pap → List Nat
  | .wd a => wdT a
  | .tm xs => [116, 105, 109, 101, 115, 32] ++ nT xs
  | .md m xs => [109, 111, 100, 32] ++ (iT m ++ ([32, 98, 121, 32] ++ nT xs))
  | .br xs ys => bT xs ys
  | .ls l xs ys => [108, 111, 115, 115, 32] ++ (nT l ++ ([32] ++ bT xs ys))
  | .rw xs rs => TL.joinL [59, 32] (([114, 111, 119, 115, 32] ++ nT xs) :: rs.map rT)
def Pap.Sh : Pap → Prop
  | .wd _ => True
  | .tm xs => LW.Sh xs
  | .md m xs => m.natAbs < 10 ^ 41 ∧ LW.Sh xs
  | .br xs ys => LW.Sh xs ∧ LW.Sh ys
  | .ls l xs ys => LW.Sh l ∧ LW.Sh xs ∧ LW.Sh ys
  | .rw xs rs => LW.Sh xs ∧ (∀ r ∈ rs, ShR r) ∧ rs.length ≤ 1000 ∧ ((rs.map rT).map (·.length)).sum + rs.length * 2 ≤ 79000
theorem join_flat (Sp a : List Nat) : ∀ ys : List (List Nat), TL.joinL Sp (a :: ys) = a ++ TL.joinL [] (ys.map (Sp ++ ·))
  | [] => by simp [TL.joinL]
  | y :: ys => by
    rw [join_cons (by simp), join_flat Sp y ys, List.map_cons]
    cases ys with
    | nil => simp [TL.joinL]
    | cons z ys =>
      rw [join_cons (Sp := []) (by simp)]
      simp
theorem as_lead (l : Lead) : as2 (asL asI) asI (t2 (tL tI) tI l) = some l := by
  have e : asL asI (tL tI l.1) = some l.1 := asLI_tL l.1
  have e1 : asI (tI l.2) = some l.2 := rfl
  simp only [as2, t2, e, e1]
theorem asAll_row (r : Row) : as3 (asL asI) asI (asL (as2 (asL asI) asI)) (tRow r) = some r := by
  have e : asL asI (tL tI r.1) = some r.1 := asLI_tL r.1
  have e1 : asI (tI r.2.1) = some r.2.1 := rfl
  have e2 : asL (as2 (asL asI) asI) (tL (t2 (tL tI) tI) r.2.2) = some r.2.2 := asAll_map as_lead r.2.2
  simp only [tRow, as3, t3, e, e1, e2]
theorem rowsP_lc : ∀ {rs : List Row}, (∀ r ∈ rs, ShR r) → X.lcM (fun (x33 : D) => X.bind (X.ofO ((as3 (asL asI) asI (asL (as2 (asL asI) asI))) x33)) fun x35 => X.bind (X.nx (p_show_row x35)) fun r36 => X.ok r36) (rs.map tRow) = X.ok (rs.map rT)
  | [], _ => rfl
  | r :: rs, h => by
    have e : (as3 (asL asI) asI (asL (as2 (asL asI) asI))) (tRow r) = some r := asAll_row r
    have nx : X.nx (X.ok (rT r)) = X.ok (rT r) := rfl
    simp only [List.map_cons, X.lcM, e, ofO_some, bind_ok, (show_r (h r (by simp))).1, nx, rowsP_lc (rs := rs) fun x hx => h x (by simp [hx])]
theorem rowsL_lc : ∀ {rs : List Row}, (∀ r ∈ rs, ShR r) → X.lcM (fun (x11 : D) => X.bind (X.ofO ((as3 (asL asI) asI (asL (as2 (asL asI) asI))) x11)) fun x13 => X.bind (X.nx (p__law_row_text x13)) fun r14 => X.ok r14) (rs.map tRow) = X.ok (rs.map fun r => [59, 32] ++ rT r)
  | [], _ => rfl
  | r :: rs, h => by
    have e : (as3 (asL asI) asI (asL (as2 (asL asI) asI))) (tRow r) = some r := asAll_row r
    have nx : X.nx (X.ok ([59, 32] ++ rT r)) = X.ok ([59, 32] ++ rT r) := rfl
    simp only [List.map_cons, X.lcM, e, ofO_some, bind_ok, (show_r (h r (by simp))).2, nx, rowsL_lc (rs := rs) fun x hx => h x (by simp [hx])]
theorem ix0a {a : D} : wsD (gIx (eD tD (.tup [a]), eD tI 0)) = some a := rfl
theorem ix0b {a b : D} : wsD (gIx (eD tD (.tup [a, b]), eD tI 0)) = some a := rfl
theorem ix0c {a b c : D} : wsD (gIx (eD tD (.tup [a, b, c]), eD tI 0)) = some a := rfl
theorem ix1b {a b : D} : wsD (gIx (eD tD (.tup [a, b]), eD tI 1)) = some b := rfl
theorem ix1c {a b c : D} : wsD (gIx (eD tD (.tup [a, b, c]), eD tI 1)) = some b := rfl
theorem ix2c {a b c : D} : wsD (gIx (eD tD (.tup [a, b, c]), eD tI 2)) = some c := rfl
theorem len_tup (ds : List D) : wsI (gLen [eD tD (.tup ds)]) = some (ds.length : Int) := rfl
theorem iss_T (w : List Nat) : wsB (gIs "str" (eD tD (tT w))) = some true := rfl
theorem iss_L (l : List Int) : wsB (gIs "str" (eD tD (tL tI l))) = some false := rfl
theorem isl_L (l : List Int) : wsB (gIs "list" (eD tD (tL tI l))) = some true := rfl
theorem isl_I (v : Int) : wsB (gIs "list" (eD tD (tI v))) = some false := rfl
theorem asI_I (v : Int) : asI (tI v) = some v := rfl
theorem dEls_L {α : Type} (t : α → D) (l : List α) : dEls (tL t l) = some (l.map t) := rfl
theorem show_p {p : Pap} (h : p.Sh) : p_show_paper p.d = X.ok p.t := by
  cases p with
  | wd a =>
    unfold p_show_paper Pap.d Pap.ds
    simp only [ix0a, ofO_some, bind_ok, len_tup, List.length_cons, List.length_nil, iss_T, asT_tT]
    rfl
  | tm xs =>
    have s1 := (nT_sm6 h).len
    have c : catT [116, 105, 109, 101, 115, 32] (nT xs) = some (Pap.t (.tm xs)) := catT_ok (by simp; omega)
    unfold p_show_paper Pap.d Pap.ds
    simp only [ix0a, ofO_some, bind_ok, len_tup, List.length_cons, List.length_nil, iss_L, asLI_tL, show_n h, c]
    rfl
  | md m xs =>
    obtain ⟨hm, h⟩ := h
    have s1 := (nT_sm6 h).len
    obtain ⟨e2, s2⟩ := iT_ok hm
    have s2 := s2.len
    have c1 : catT [109, 111, 100, 32] (iT m) = some ([109, 111, 100, 32] ++ iT m) := catT_ok (by simp; omega)
    have c2 : catT ([109, 111, 100, 32] ++ iT m) [32, 98, 121, 32] = some ([109, 111, 100, 32] ++ iT m ++ [32, 98, 121, 32]) := catT_ok (by simp; omega)
    have c3 : catT ([109, 111, 100, 32] ++ iT m ++ [32, 98, 121, 32]) (nT xs) = some (Pap.t (.md m xs)) := by
      rw [catT_ok (by simp; omega)]
      simp [Pap.t]
    unfold p_show_paper Pap.d Pap.ds
    simp only [ix0b, ix1b, ofO_some, bind_ok, len_tup, List.length_cons, List.length_nil, isl_I, asI_I, asLI_tL, e2, c1, c2, c3, show_n h]
    rfl
  | br xs ys =>
    unfold p_show_paper Pap.d Pap.ds
    simp only [ix0b, ix1b, ofO_some, bind_ok, len_tup, List.length_cons, List.length_nil, isl_L, asLI_tL, (show_b h.1 h.2).1]
    rfl
  | ls l xs ys =>
    obtain ⟨h1, h2, h3⟩ := h
    have s1 := (nT_sm6 h1).len
    have s2 := (bT_sm h2 h3).len
    have c1 : catT [108, 111, 115, 115, 32] (nT l) = some ([108, 111, 115, 115, 32] ++ nT l) := catT_ok (by simp; omega)
    have c2 : catT ([108, 111, 115, 115, 32] ++ nT l) [32] = some ([108, 111, 115, 115, 32] ++ nT l ++ [32]) := catT_ok (by simp; omega)
    have c3 : catT ([108, 111, 115, 115, 32] ++ nT l ++ [32]) (bT xs ys) = some (Pap.t (.ls l xs ys)) := by
      rw [catT_ok (by simp; omega)]
      simp [Pap.t]
    unfold p_show_paper Pap.d Pap.ds
    simp only [ix0c, ix1c, ix2c, ofO_some, bind_ok, len_tup, List.length_cons, List.length_nil, iss_L, asLI_tL, c1, c2, c3, show_n h1, (show_b h2 h3).1]
    rfl
  | rw xs rs =>
    obtain ⟨h1, h2, h3, h4⟩ := h
    have s1 := (nT_sm6 h1).len
    have c1 : catT [114, 111, 119, 115, 32] (nT xs) = some ([114, 111, 119, 115, 32] ++ nT xs) := catT_ok (by simp; omega)
    have c2 : catO [[114, 111, 119, 115, 32] ++ nT xs] (rs.map rT) = some (([114, 111, 119, 115, 32] ++ nT xs) :: rs.map rT) := by
      unfold catO
      rw [if_pos (by simp; omega)]
      rfl
    have c3 : joinT [59, 32] (([114, 111, 119, 115, 32] ++ nT xs) :: rs.map rT) = some (Pap.t (.rw xs rs)) := by
      unfold joinT
      rw [if_pos (by simp at h4 ⊢; omega)]
      rfl
    unfold p_show_paper Pap.d Pap.ds
    simp only [ix0c, ix1c, ix2c, ofO_some, bind_ok, len_tup, List.length_cons, List.length_nil, iss_T, asLI_tL, dEls_L, c1, show_n h1]
    rw [lcX_M (by simp; omega), rowsP_lc h2]
    simp only [bind_ok, c2, ofO_some, c3]
    rfl
end LW
set_option maxHeartbeats 4000000
namespace LW
open PySem AM TY
abbrev wAny : List Nat := [97, 110, 121]
abbrev wSum : List Nat := [115, 117, 109]
theorem pd_words : wPd (eD (t2 tT tT) (wAny, wSum)) = some (.tuple [.str (SX.S wAny), .str (SX.S wSum)]) := by kernel_rfl
theorem pd_rows : wPd (eD tT wRo) = some (.str (SX.S wRo)) := by kernel_rfl
theorem pd_L (xs : List Int) : ∃ ps, wPd (eD tD (tL tI xs)) = some (.list ps) := by
  obtain ⟨x, e1, e2, _⟩ := wPd_pn (pn_dues xs) (by decide)
  have e3 : D.pd (tL tI xs) = (D.pds (xs.map D.int)).map PyData.list := by
    show D.pd (.lst (xs.map D.int)) = _
    simp only [D.pd]
  rw [e3, Option.map_eq_some_iff] at e2
  obtain ⟨ps, _, rfl⟩ := e2
  exact ⟨ps, e1⟩
theorem pd_I (z : Int) : wPd (eD tD (tI z)) = some (.int z) := by
  obtain ⟨x, e1, e2, _⟩ := wPd_pn (pn_int z) (by decide)
  have e3 : D.pd (tI z) = some (.int z) := rfl
  rw [e3] at e2
  cases e2
  exact e1
theorem inQ_L (xs : List Int) : wsB (gInQ (eD tD (tL tI xs), eD (t2 tT tT) (wAny, wSum))) = some false := by
  obtain ⟨ps, e⟩ := pd_L xs
  unfold gInQ gDD
  dsimp only
  rw [e, pd_words]
  simp [fInQ, PyData.eqv, wsB]
theorem inQ_I (z : Int) : wsB (gInQ (eD tD (tI z), eD (t2 tT tT) (wAny, wSum))) = some false := by
  unfold gInQ gDD
  dsimp only
  rw [pd_I, pd_words]
  simp [fInQ, PyData.eqv, wsB]
theorem inQ_w (a : Bool) : wsB (gInQ (eD tD (tT (wdT a)), eD (t2 tT tT) (wAny, wSum))) = some true := by cases a <;> kernel_rfl
theorem inQ_r : wsB (gInQ (eD tD (tT wRo), eD (t2 tT tT) (wAny, wSum))) = some false := by kernel_rfl
theorem eqR_L (xs : List Int) : wsB (gEq (eD tD (tL tI xs), eD tT wRo)) = some false := by
  obtain ⟨ps, e⟩ := pd_L xs
  unfold gEq gDD
  dsimp only
  rw [e, pd_rows]
  simp [fEq, PyData.eqv, wsB]
theorem eqR_I (z : Int) : wsB (gEq (eD tD (tI z), eD tT wRo)) = some false := by
  unfold gEq gDD
  dsimp only
  rw [pd_I, pd_rows]
  simp [fEq, PyData.eqv, wsB]
theorem eqR_r : wsB (gEq (eD tD (tT wRo), eD tT wRo)) = some true := by kernel_rfl
theorem law_p64 {p : Pap} (h : p.Sh) : p__law_paper_text p.d = X.ok p.t := by
  cases p with
  | wd a =>
    unfold p__law_paper_text Pap.d Pap.ds
    simp only [ix0a, ofO_some, bind_ok, asT_tT]
    rw [inQ_w]
    rfl
  | tm xs =>
    have s1 := (nT_sm6 h).len
    have c : catT [116, 105, 109, 101, 115, 32] (nT xs) = some (Pap.t (.tm xs)) := catT_ok (by simp; omega)
    unfold p__law_paper_text Pap.d Pap.ds
    simp only [ix0a, ofO_some, bind_ok, len_tup, List.length_cons, List.length_nil, asLI_tL, law_n h, c]
    rw [inQ_L, ofO_some, bind_ok, if_neg (by decide), eqR_L, ofO_some, bind_ok, if_neg (by decide)]
    rfl
  | md m xs =>
    obtain ⟨hm, h⟩ := h
    have s1 := (nT_sm6 h).len
    obtain ⟨e2, s2⟩ := iT_ok hm
    have s2 := s2.len
    have c1 : catT [109, 111, 100, 32] (iT m) = some ([109, 111, 100, 32] ++ iT m) := catT_ok (by simp; omega)
    have c2 : catT ([109, 111, 100, 32] ++ iT m) [32, 98, 121, 32] = some ([109, 111, 100, 32] ++ iT m ++ [32, 98, 121, 32]) := catT_ok (by simp; omega)
    have c3 : catT ([109, 111, 100, 32] ++ iT m ++ [32, 98, 121, 32]) (nT xs) = some (Pap.t (.md m xs)) := by
      rw [catT_ok (by simp; omega)]
      simp [Pap.t]
    unfold p__law_paper_text Pap.d Pap.ds
    simp only [ix0b, ix1b, ofO_some, bind_ok, len_tup, List.length_cons, List.length_nil, isl_I, asI_I, asLI_tL, e2, c1, c2, c3, law_n h]
    rw [inQ_I, ofO_some, bind_ok, if_neg (by decide), eqR_I, ofO_some, bind_ok, if_neg (by decide)]
    rfl
  | br xs ys =>
    unfold p__law_paper_text Pap.d Pap.ds
    simp only [ix0b, ix1b, ofO_some, bind_ok, len_tup, List.length_cons, List.length_nil, isl_L, asLI_tL, (show_b h.1 h.2).2]
    rw [inQ_L, ofO_some, bind_ok, if_neg (by decide), eqR_L, ofO_some, bind_ok, if_neg (by decide)]
    rfl
  | ls l xs ys =>
    obtain ⟨h1, h2, h3⟩ := h
    have s1 := (nT_sm6 h1).len
    have s2 := (bT_sm h2 h3).len
    have c1 : catT [108, 111, 115, 115, 32] (nT l) = some ([108, 111, 115, 115, 32] ++ nT l) := catT_ok (by simp; omega)
    have c2 : catT ([108, 111, 115, 115, 32] ++ nT l) [32] = some ([108, 111, 115, 115, 32] ++ nT l ++ [32]) := catT_ok (by simp; omega)
    have c3 : catT ([108, 111, 115, 115, 32] ++ nT l ++ [32]) (bT xs ys) = some (Pap.t (.ls l xs ys)) := by
      rw [catT_ok (by simp; omega)]
      simp [Pap.t]
    unfold p__law_paper_text Pap.d Pap.ds
    simp only [ix0c, ix1c, ix2c, ofO_some, bind_ok, len_tup, List.length_cons, List.length_nil, asLI_tL, c1, c2, c3, law_n h1, (show_b h2 h3).2]
    rw [inQ_L, ofO_some, bind_ok, if_neg (by decide), eqR_L, ofO_some, bind_ok, if_neg (by decide)]
    rfl
  | rw xs rs =>
    obtain ⟨h1, h2, h3, h4⟩ := h
    have s1 := (nT_sm6 h1).len
    have c1 : catT [114, 111, 119, 115, 32] (nT xs) = some ([114, 111, 119, 115, 32] ++ nT xs) := catT_ok (by simp; omega)
    have hsum : ((rs.map fun r => [59, 32] ++ rT r).map (·.length)).sum = ((rs.map rT).map (·.length)).sum + rs.length * 2 := by
      clear h2 h3 h4
      induction rs with
      | nil => rfl
      | cons r rs ih =>
        simp only [List.map_cons, List.sum_cons, List.length_append, List.length_cons, List.length_nil] at ih ⊢
        omega
    have c2 : joinT [] (rs.map fun r => [59, 32] ++ rT r) = some (TL.joinL [] (rs.map fun r => [59, 32] ++ rT r)) := by
      unfold joinT
      rw [if_pos (by rw [hsum]; simp only [List.length_nil, Nat.mul_zero]; omega)]
    have hl := join_len (Sp := []) (ys := rs.map fun r => [59, 32] ++ rT r)
    rw [hsum] at hl
    simp only [List.length_nil, Nat.mul_zero, Nat.add_zero] at hl
    have c3 : catT ([114, 111, 119, 115, 32] ++ nT xs) (TL.joinL [] (rs.map fun r => [59, 32] ++ rT r)) = some (Pap.t (.rw xs rs)) := by
      rw [catT_ok (by simp only [List.length_append, List.length_cons, List.length_nil]; omega)]
      have e : Pap.t (.rw xs rs) = TL.joinL [59, 32] (([114, 111, 119, 115, 32] ++ nT xs) :: rs.map rT) := rfl
      rw [e, join_flat, List.map_map]
      rfl
    unfold p__law_paper_text Pap.d Pap.ds
    simp only [ix0c, ix1c, ix2c, ofO_some, bind_ok, len_tup, List.length_cons, List.length_nil, asLI_tL, dEls_L, c1, law_n h1]
    rw [inQ_r, ofO_some, bind_ok, if_neg (by decide), eqR_r, ofO_some, bind_ok, if_pos rfl, lcX_M (by simp; omega), rowsL_lc h2]
    simp only [bind_ok, c2, ofO_some, c3]
end LW
set_option maxHeartbeats 4000000
namespace LW
open PySem AM TY
theorem pre_mark {c : Nat} {S2 p q : List Nat} (hc : c ≠ 32) (h : c ∉ p) : ∀ i, i < p.length → TL.pre (32 :: c :: S2) ((p ++ (32 :: c :: S2 ++ q)).drop i) = false := fun i hi => by
  have hd : (p ++ (32 :: c :: S2 ++ q)).drop i = p.drop i ++ (32 :: c :: S2 ++ q) := by rw [List.drop_append_of_le_length (by omega)]
  rw [hd]
  obtain ⟨x, e⟩ := TL.getElem_drop_cons hi
  obtain ⟨x, r, e, hx, hr⟩ : ∃ x r, p.drop i = x :: r ∧ x ∈ p ∧ (∀ y ∈ r, y ∈ p) := ⟨x, _, e, List.mem_of_mem_drop (by rw [e]; simp), fun y hy => List.mem_of_mem_drop hy⟩
  rw [e]
  cases r with
  | nil =>
    simp only [TL.pre, List.cons_append, List.nil_append, List.length_cons, List.take_succ_cons]
    simp [hc.symm]
  | cons y r =>
    have hy := hr y (by simp)
    have : y ≠ c := fun z => h (by rw [← z]; exact hy)
    simp only [TL.pre, List.cons_append, List.length_cons, List.take_succ_cons]
    simp [this]
theorem spl_mark {c : Nat} {S2 p q : List Nat} (hc : c ≠ 32) (h : c ∉ p) : TL.spl (32 :: c :: S2) 0 [] (p ++ (32 :: c :: S2 ++ q)) = p :: TL.spl (32 :: c :: S2) 0 [] q := by
  have := TL.spl_part (S := 32 :: c :: S2) (p := p) (rest := q) (acc := []) (by simp) (pre_mark hc h)
  simpa using this
theorem par_word {w r : List Nat} (h : 32 ∉ w) : TL.par [32] [] (w ++ ([32] ++ r)) = some (w, r) := by
  have := SX.par_head (sep := []) r h
  simpa using this
def Gn (xs : List Int) : Prop := xs ≠ [] ∧ xs.length ≤ 6 ∧ ∀ z ∈ xs, z.natAbs < 10 ^ 40
def G0 (xs : List Int) : Prop := Gn xs ∧ ∀ z ∈ xs, 0 ≤ z
def GL (l : Lead) : Prop := Gn l.1 ∧ l.2.natAbs < 10 ^ 40 ∧ 0 ≤ l.2
def GR (r : Row) : Prop := Gn r.1 ∧ (r.2.1.natAbs < 10 ^ 40 ∧ 0 ≤ r.2.1) ∧ r.2.2.length ≤ 6 ∧ ∀ l ∈ r.2.2, GL l
theorem lt41 {z : Int} (h : z.natAbs < 10 ^ 40) : z.natAbs < 10 ^ 41 := Nat.lt_of_lt_of_le h (by decide)
theorem Gn.sh {xs : List Int} (h : Gn xs) : Sh xs := ⟨h.2.1, fun z hz => lt41 (h.2.2 z hz)⟩
theorem GL.sh {l : Lead} (h : GL l) : ShL l := ⟨h.1.sh, lt41 h.2.1⟩
theorem GR.sh {r : Row} (h : GR r) : ShR r := ⟨h.1.sh, lt41 h.2.1.1, h.2.2.1, fun l hl => (h.2.2.2 l hl).sh⟩
def NoS (c : Nat) : Prop := c ≠ 45 ∧ ¬ (48 ≤ c ∧ c ≤ 57)
theorem iT_num {z : Int} (h : z.natAbs < 10 ^ 40) : numI (iT z) = some z ∧ ∀ c ∈ iT z, c = 45 ∨ (48 ≤ c ∧ c ≤ 57) := by
  obtain ⟨t, e, n, _⟩ := int_text h
  rw [(iT_ok (lt41 h)).1] at e
  cases e
  exact ⟨n, numI_mem n⟩
theorem iT_free {z : Int} (h : z.natAbs < 10 ^ 40) {c : Nat} (hc : NoS c) : c ∉ iT z := fun hz => by
  rcases (iT_num h).2 c hz with z | z
  · exact hc.1 z
  · exact hc.2 z
theorem nT_free {xs : List Int} (h : Gn xs) {c : Nat} (hc : NoS c) (h32 : c ≠ 32) : c ∉ nT xs := fun hz => by
  rcases join_mem hz with hz | ⟨w, hw, hz⟩
  · exact h32 (by simpa using hz)
  · obtain ⟨z, hz2, rfl⟩ := List.mem_map.mp hw
    exact iT_free (h.2.2 z hz2) hc hz
theorem nT_allI : ∀ {xs : List Int}, (∀ z ∈ xs, z.natAbs < 10 ^ 40) → allI ((xs.map iT).map numI) = some xs
  | [], _ => rfl
  | x :: xs, h => by
    have ih := nT_allI (xs := xs) fun z hz => h z (by simp [hz])
    simp only [List.map_cons, allI, (iT_num (h x (by simp))).1, ih]
theorem read_n {xs : List Int} (h : Gn xs) : p_numbers_in (nT xs) = X.ok xs := by
  rw [p_nums ((nT_sm6 h.sh).tx (by decide))]
  have e : wds (nT xs) = xs.map iT := wds_of (by simp [h.1]) fun p hp => by
    obtain ⟨z, hz, rfl⟩ := List.mem_map.mp hp
    exact iT_free (h.2.2 z hz) ⟨by decide, by decide⟩
  unfold numsI numsW
  rw [e, if_neg (by have := h.2.1; simp; omega), nT_allI h.2.2]
  rfl
theorem minO_ne64 {xs : List Int} (h : xs ≠ []) : ∃ k, minO xs = some k ∧ k ∈ xs := by
  refine ⟨minI xs, ?_, (minI_spec h).1⟩
  unfold minO
  rw [if_neg fun z => h (List.length_eq_zero_iff.mp z)]
theorem read_n0 {xs : List Int} (h : G0 xs) : p_numbers_from (nT xs) = X.ok xs := by
  unfold p_numbers_from
  obtain ⟨k, e, hk⟩ := minO_ne64 h.1.1
  have := h.2 k hk
  rw [read_n h.1, bind_ok, e, ofO_some, bind_ok, if_neg (by simp; omega)]
theorem read_i {z : Int} (h : z.natAbs < 10 ^ 40) (h0 : 0 ≤ z) : p_number_from (iT z) 0 = X.ok z := by
  rw [p_numf ((iT_ok (lt41 h)).2.tx (by decide)), (iT_num h).1]
  simp only
  rw [if_neg (by omega)]
theorem pre_no {S l : List Nat} {c : Nat} (hc : c ∈ S) (h : c ∉ l) : TL.pre S l = false := by
  unfold TL.pre
  rw [beq_eq_false_iff_ne]
  intro e
  exact h (List.mem_of_mem_take (e ▸ hc))
theorem spl_no64 {S l : List Nat} {c : Nat} (hc : c ∈ S) (h : c ∉ l) : TL.spl S 0 [] l = [l] := by
  have := TL.spl_last (S := S) (p := l) (acc := []) fun i _ => pre_no hc fun z => h (List.mem_of_mem_drop z)
  simpa using this
theorem halves_ok {m a b : List Nat} (ht : Tx (a ++ (m ++ b))) (h1 : m ≠ []) (h2 : m.all (· < 256) = true) (e : TL.spl m 0 [] (a ++ (m ++ b)) = [a, b]) : p_halves (a ++ (m ++ b)) m = X.ok (a, b) := by
  unfold p_halves
  rw [splitT_ok ht h1 h2, ofO_some, bind_ok, e, if_neg (by simp), at_0, ofO_some, bind_ok, at_1, ofO_some, bind_ok]
theorem halves_mark {c d : Nat} {S2 a b : List Nat} (ht : Tx (a ++ (32 :: c :: S2 ++ b))) (h2 : (32 :: c :: S2).all (· < 256) = true) (hc : c ≠ 32) (ha : c ∉ a) (hd : d ∈ 32 :: c :: S2) (hb : d ∉ b) : p_halves (a ++ (32 :: c :: S2 ++ b)) (32 :: c :: S2) = X.ok (a, b) :=
  halves_ok ht (by simp) h2 (by rw [spl_mark hc ha, spl_no64 hd hb])
theorem tx4 {L M : Nat} {m a b : List Nat} (ha : Sm L a) (hm : Sm 5 m) (hb : Sm M b) (h : L + (5 + M) ≤ 80000) : Tx (a ++ (m ++ b)) := (ha.app (hm.app hb)).tx h
theorem read_b {xs ys : List Int} (h : Gn xs) (k : G0 ys) : p_bar_in (nT xs ++ ([32, 98, 121, 32] ++ nT ys)) = X.ok (xs, ys) := by
  unfold p_bar_in
  rw [halves_mark (c := 98) (d := 98) (S2 := [121, 32]) (tx4 (nT_sm6 h.sh) ⟨by decide, by decide⟩ (nT_sm6 k.1.sh) (by decide)) (by decide) (by decide) (nT_free h ⟨by decide, by decide⟩ (by decide)) (by decide) (nT_free k.1 ⟨by decide, by decide⟩ (by decide)), bind_ok, read_n h, bind_ok, read_n0 k, bind_ok]
theorem read_l {l : Lead} (h : GL l) : p_lead_in (lT l) = X.ok l := by
  unfold p_lead_in lT
  rw [halves_mark (c := 116) (d := 116) (S2 := [111, 32]) (tx4 (nT_sm6 h.1.sh) ⟨by decide, by decide⟩ (iT_ok (lt41 h.2.1)).2 (by decide)) (by decide) (by decide) (nT_free h.1 ⟨by decide, by decide⟩ (by decide)) (by decide) (iT_free h.2.1 ⟨by decide, by decide⟩), bind_ok, read_n h.1, bind_ok, read_i h.2.1 h.2.2, bind_ok]
theorem reads_l : ∀ {ls : List Lead}, (∀ l ∈ ls, GL l) → X.lcM (fun (x5 : List Nat) => X.bind (p_lead_in x5) fun r7 => X.ok r7) (ls.map lT) = X.ok ls
  | [], _ => rfl
  | l :: ls, h => by
    simp only [List.map_cons, X.lcM, read_l (h l (by simp)), bind_ok, reads_l (ls := ls) fun x hx => h x (by simp [hx])]
theorem lT_free {l : Lead} (h : GL l) {c : Nat} (hc : NoS c) (h1 : c ∉ [32, 116, 111, 32]) : c ∉ lT l := fun hz => by
  unfold lT at hz
  rcases List.mem_append.mp hz with hz | hz
  · exact nT_free h.1 hc (fun z => h1 (by simp [z])) hz
  · rcases List.mem_append.mp hz with hz | hz
    · exact h1 hz
    · exact iT_free h.2.1 hc hz
theorem head_free {r : Row} (h : GR r) {c : Nat} (hc : NoS c) (h1 : c ∉ [32, 105, 115, 32]) : c ∉ nT r.1 ++ ([32, 105, 115, 32] ++ iT r.2.1) := fun hz => by
  rcases List.mem_append.mp hz with hz | hz
  · exact nT_free h.1 hc (fun z => h1 (by simp [z])) hz
  · rcases List.mem_append.mp hz with hz | hz
    · exact h1 hz
    · exact iT_free h.2.1.1 hc hz
theorem rT_free {r : Row} (h : GR r) {c : Nat} (hc : NoS c) (h1 : c ∉ [32, 105, 115, 116, 111, 58, 44]) : c ∉ rT r := fun hz => by
  have q1 : c ∉ [32, 105, 115, 32] := fun z => h1 (by simp at z ⊢; omega)
  have q2 : c ∉ [32, 116, 111, 32] := fun z => h1 (by simp at z ⊢; omega)
  by_cases e : r.2.2 = []
  · rw [rT_nil e] at hz
    exact head_free h hc q1 hz
  · rw [rT_cons e] at hz
    have : nT r.1 ++ ([32, 105, 115, 32] ++ (iT r.2.1 ++ ([58, 32] ++ TL.joinL [44, 32] (r.2.2.map lT)))) = (nT r.1 ++ ([32, 105, 115, 32] ++ iT r.2.1)) ++ ([58, 32] ++ TL.joinL [44, 32] (r.2.2.map lT)) := by simp
    rw [this] at hz
    rcases List.mem_append.mp hz with hz | hz
    · exact head_free h hc q1 hz
    · rcases List.mem_append.mp hz with hz | hz
      · exact h1 (by simp at hz ⊢; omega)
      · rcases join_mem hz with hz | ⟨w, hw, hz⟩
        · exact h1 (by simp at hz ⊢; omega)
        · obtain ⟨l, hl, rfl⟩ := List.mem_map.mp hw
          exact lT_free (h.2.2.2 l hl) hc q2 hz
theorem read_r {r : Row} (h : GR r) : p_row_in (rT r) = X.ok r := by
  have htx := (rT_sm h.sh).tx (by decide)
  have hh : p_halves (nT r.1 ++ ([32, 105, 115, 32] ++ iT r.2.1)) [32, 105, 115, 32] = X.ok (nT r.1, iT r.2.1) :=
    halves_mark (c := 105) (d := 105) (S2 := [115, 32]) (tx4 (nT_sm6 h.1.sh) ⟨by decide, by decide⟩ (iT_ok (lt41 h.2.1.1)).2 (by decide)) (by decide) (by decide) (nT_free h.1 ⟨by decide, by decide⟩ (by decide)) (by decide) (iT_free h.2.1.1 ⟨by decide, by decide⟩)
  unfold p_row_in
  rw [partT_ok htx (by decide), ofO_some, bind_ok]
  by_cases e : r.2.2 = []
  · rw [rT_nil e, TL.par_none1 (head_free h ⟨by decide, by decide⟩ (by decide))]
    dsimp only
    rw [hh, bind_ok, show neT ([] : List Nat) [] = some false from rfl, ofO_some, bind_ok, if_neg (by decide), bind_ok]
    rw [if_neg (by simp)]
    dsimp only
    rw [read_n h.1, bind_ok, read_i h.2.1.1 h.2.1.2, bind_ok, ← e]
  · have eq : rT r = (nT r.1 ++ ([32, 105, 115, 32] ++ iT r.2.1)) ++ ([58, 32] ++ TL.joinL [44, 32] (r.2.2.map lT)) := by rw [rT_cons e]; simp
    have hp : TL.par [58, 32] [] (rT r) = some (nT r.1 ++ ([32, 105, 115, 32] ++ iT r.2.1), TL.joinL [44, 32] (r.2.2.map lT)) := by
      rw [eq]
      exact TL.par_part1 (s := 58) (S := [32]) (acc := []) (head_free h ⟨by decide, by decide⟩ (by decide))
    have htj : Tx (TL.joinL [44, 32] (r.2.2.map lT)) := (leads_join h.sh.2.2.2 h.2.2.1).2.tx (by have := h.2.2.1; omega)
    have hs : TL.spl [44, 32] 0 [] (TL.joinL [44, 32] (r.2.2.map lT)) = r.2.2.map lT := TL.spl_join (s := 44) (S := [32]) (by simpa using e) fun p hp => by
      obtain ⟨l, hl, rfl⟩ := List.mem_map.mp hp
      exact lT_free (h.2.2.2 l hl) ⟨by decide, by decide⟩ (by decide)
    rw [hp]
    dsimp only
    rw [hh, bind_ok, show neT ([58, 32] : List Nat) [] = some true from rfl, ofO_some, bind_ok, if_pos rfl, splitT_ok htj (by decide) (by decide), ofO_some, bind_ok, hs, lcX_M (by have := h.2.2.1; simp; omega), reads_l h.2.2.2, bind_ok, bind_ok]
    rw [if_neg (by have := h.2.2.1; simp; omega)]
    dsimp only
    rw [read_n h.1, bind_ok, read_i h.2.1.1 h.2.1.2, bind_ok]
theorem reads_r : ∀ {rs : List Row}, (∀ r ∈ rs, GR r) → X.lcM (fun (x19 : List Nat) => X.bind (p_row_in x19) fun r21 => X.ok r21) (rs.map rT) = X.ok rs
  | [], _ => rfl
  | r :: rs, h => by
    simp only [List.map_cons, X.lcM, read_r (h r (by simp)), bind_ok, reads_r (rs := rs) fun x hx => h x (by simp [hx])]
end LW
set_option maxHeartbeats 4000000
namespace LW
open PySem AM TY
def Pap.G : Pap → Prop
  | .wd _ => True
  | .tm xs => Gn xs
  | .md m xs => (m.natAbs < 10 ^ 40 ∧ 0 ≤ m) ∧ Gn xs
  | .br xs ys => Gn xs ∧ G0 ys
  | .ls l xs ys => G0 l ∧ Gn xs ∧ G0 ys
  | .rw xs rs => Gn xs ∧ (∀ r ∈ rs, GR r) ∧ rs.length ≤ 1000 ∧ ((rs.map rT).map (·.length)).sum + rs.length * 2 ≤ 79000
theorem Pap.G.sh {p : Pap} (h : p.G) : p.Sh := by
  cases p with
  | wd a => trivial
  | tm xs => exact Gn.sh h
  | md m xs => exact ⟨lt41 h.1.1, h.2.sh⟩
  | br xs ys => exact ⟨h.1.sh, h.2.1.sh⟩
  | ls l xs ys => exact ⟨h.1.1.sh, h.2.1.sh, h.2.2.1.sh⟩
  | rw xs rs => exact ⟨h.1.sh, fun r hr => (h.2.1 r hr).sh, h.2.2⟩
def Pap.r : Pap → W
  | .wd a => eD (t1 tT) (wdT a)
  | .tm xs => o1 (eO (eD tI)) xs
  | .md m xs => o2 (eD tI) (eO (eD tI)) (m, xs)
  | .br xs ys => o2 (eO (eD tI)) (eO (eD tI)) (xs, ys)
  | .ls l xs ys => o3 (eO (eD tI)) (eO (eD tI)) (eO (eD tI)) (l, xs, ys)
  | .rw xs rs => o3 (eD tT) (eO (eD tI)) (eO (o3 (eO (eD tI)) (eD tI) (eO (o2 (eO (eD tI)) (eD tI))))) (wRo, xs, rs)
theorem join_head (Sp a b : List Nat) (ys : List (List Nat)) : TL.joinL Sp ((a ++ b) :: ys) = a ++ TL.joinL Sp (b :: ys) := by
  cases ys with
  | nil => simp [TL.joinL]
  | cons y ys => rw [join_cons (p := a ++ b) (ws := y :: ys) (by simp), join_cons (p := b) (ws := y :: ys) (by simp)]; simp
theorem inW {w : List Nat} (hw : okT w = true) (h1 : w ≠ wAny) (h2 : w ≠ wSum) : wsB (gIn (eD tT w, eD (t2 tT tT) (wAny, wSum))) = some false := by
  rw [gIn2 hw (by decide) (by decide), decide_eq_false h1, decide_eq_false h2]
  rfl
theorem rows_tx {xs : List Int} {rs : List Row} (h : Sh xs) (h2 : ∀ r ∈ rs, ShR r) (h3 : rs.length ≤ 1000) (h4 : ((rs.map rT).map (·.length)).sum + rs.length * 2 ≤ 79000) {a : List Nat} (ha : Sm 20 a) : Tx (TL.joinL [59, 32] ((a ++ nT xs) :: rs.map rT)) := by
  have l1 := (nT_sm6 h).len
  have l2 := ha.len
  have hl := join_len (Sp := [59, 32]) (ys := (a ++ nT xs) :: rs.map rT)
  simp only [List.map_cons, List.sum_cons, List.length_cons, List.length_append, List.length_map, List.length_nil] at hl
  refine ⟨join_okT (by decide) fun y hy => ?_, by omega⟩
  rcases List.mem_cons.mp hy with rfl | hy
  · exact (ha.app (nT_sm6 h)).ok
  · obtain ⟨r, hr, rfl⟩ := List.mem_map.mp hy
    exact (rT_sm (h2 r hr)).ok
theorem par_w {w r : List Nat} (h : 32 ∉ w) : TL.par [32] [] (w ++ (32 :: r)) = some (w, r) := par_word h
theorem cutL_tail64 {α : Type} (x : α) (xs : List α) : cutL (x :: xs) (some 1) none = xs := by
  unfold cutL
  rw [HT.sIx_none]
  have e : (x :: xs).length = xs.length + 1 := rfl
  rw [show ((some 1 : Option Int)) = some ((1 : Nat) : Int) from rfl, HT.sIx_nat, e, Nat.min_eq_left (by omega)]
  simp
theorem read_p {p : Pap} (h : p.G) : p_read_paper p.t = X.ok p.r := by
  cases p with
  | wd a =>
    have e : wsB (gIn (eD tT (wdT a), eD (t2 tT tT) (wAny, wSum))) = some true := by
      cases a
      · rw [gIn2 (by decide) (by decide) (by decide)]; rfl
      · rw [gIn2 (by decide) (by decide) (by decide)]; rfl
    have et : Pap.t (.wd a) = wdT a := rfl
    unfold p_read_paper
    rw [et, e, ofO_some, bind_ok, if_pos rfl]
    rfl
  | tm xs =>
    have ht : Tx (Pap.t (.tm xs)) := ((⟨by decide, by decide⟩ : Sm 6 [116, 105, 109, 101, 115, 32]).app (nT_sm6 (Gn.sh h))).tx (by decide)
    have e : Pap.t (.tm xs) = [116, 105, 109, 101, 115] ++ (32 :: nT xs) := rfl
    have n1 : Pap.t (.tm xs) ≠ wAny := fun z => by rw [e] at z; simp [wAny] at z
    have n2 : Pap.t (.tm xs) ≠ wSum := fun z => by rw [e] at z; simp [wSum] at z
    have hp : TL.par [32] [] (Pap.t (.tm xs)) = some ([116, 105, 109, 101, 115], nT xs) := by rw [e]; exact par_w (by decide)
    unfold p_read_paper
    rw [inW ht.ok n1 n2, ofO_some, bind_ok, if_neg (by decide), partT_ok ht (by decide), ofO_some, bind_ok, hp]
    dsimp only
    rw [show eqT [116, 105, 109, 101, 115] ([116, 105, 109, 101, 115] : List Nat) = some true from rfl, ofO_some, bind_ok, if_pos rfl, read_n h, bind_ok]
    rfl
  | md m xs =>
    obtain ⟨⟨hm, hm0⟩, h⟩ := h
    have sb : Sm 350 (iT m ++ ([32, 98, 121, 32] ++ nT xs)) := ((iT_ok (lt41 hm)).2.app ((⟨by decide, by decide⟩ : Sm 4 [32, 98, 121, 32]).app (nT_sm6 h.sh))).mono (by decide)
    have ht : Tx (Pap.t (.md m xs)) := ((⟨by decide, by decide⟩ : Sm 4 [109, 111, 100, 32]).app sb).tx (by decide)
    have e : Pap.t (.md m xs) = [109, 111, 100] ++ (32 :: (iT m ++ ([32, 98, 121, 32] ++ nT xs))) := rfl
    have n1 : Pap.t (.md m xs) ≠ wAny := fun z => by rw [e] at z; simp [wAny] at z
    have n2 : Pap.t (.md m xs) ≠ wSum := fun z => by rw [e] at z; simp [wSum] at z
    have hp : TL.par [32] [] (Pap.t (.md m xs)) = some ([109, 111, 100], iT m ++ ([32, 98, 121, 32] ++ nT xs)) := by rw [e]; exact par_w (by decide)
    have hh : p_halves (iT m ++ ([32, 98, 121, 32] ++ nT xs)) [32, 98, 121, 32] = X.ok (iT m, nT xs) := halves_mark (c := 98) (d := 98) (S2 := [121, 32]) (sb.tx (by decide)) (by decide) (by decide) (iT_free hm ⟨by decide, by decide⟩) (by decide) (nT_free h ⟨by decide, by decide⟩ (by decide))
    unfold p_read_paper
    rw [inW ht.ok n1 n2, ofO_some, bind_ok, if_neg (by decide), partT_ok ht (by decide), ofO_some, bind_ok, hp]
    dsimp only
    rw [show eqT [109, 111, 100] ([116, 105, 109, 101, 115] : List Nat) = some false from rfl, ofO_some, bind_ok, if_neg (by decide), show eqT [109, 111, 100] ([109, 111, 100] : List Nat) = some true from rfl, ofO_some, bind_ok, if_pos rfl, hh, bind_ok]
    dsimp only
    rw [read_i hm hm0, bind_ok, read_n h, bind_ok]
    rfl
  | br xs ys =>
    obtain ⟨h, k⟩ := h
    have ht : Tx (Pap.t (.br xs ys)) := (bT_sm h.sh k.1.sh).tx (by decide)
    have e : Pap.t (.br xs ys) = [98, 97, 114] ++ (32 :: (nT xs ++ ([32, 98, 121, 32] ++ nT ys))) := rfl
    have n1 : Pap.t (.br xs ys) ≠ wAny := fun z => by rw [e] at z; simp [wAny] at z
    have n2 : Pap.t (.br xs ys) ≠ wSum := fun z => by rw [e] at z; simp [wSum] at z
    have hp : TL.par [32] [] (Pap.t (.br xs ys)) = some ([98, 97, 114], nT xs ++ ([32, 98, 121, 32] ++ nT ys)) := by rw [e]; exact par_w (by decide)
    unfold p_read_paper
    rw [inW ht.ok n1 n2, ofO_some, bind_ok, if_neg (by decide), partT_ok ht (by decide), ofO_some, bind_ok, hp]
    dsimp only
    rw [show eqT [98, 97, 114] ([116, 105, 109, 101, 115] : List Nat) = some false from rfl, ofO_some, bind_ok, if_neg (by decide), show eqT [98, 97, 114] ([109, 111, 100] : List Nat) = some false from rfl, ofO_some, bind_ok, if_neg (by decide), show eqT [98, 97, 114] ([98, 97, 114] : List Nat) = some true from rfl, ofO_some, bind_ok, if_pos rfl, read_b h k, bind_ok]
    rfl
  | ls l xs ys =>
    obtain ⟨h, h2, k⟩ := h
    have sb : Sm 900 (nT l ++ ([32, 98, 97, 114, 32] ++ (nT xs ++ ([32, 98, 121, 32] ++ nT ys)))) := ((nT_sm6 h.1.sh).app ((⟨by decide, by decide⟩ : Sm 5 [32, 98, 97, 114, 32]).app ((nT_sm6 h2.sh).app ((⟨by decide, by decide⟩ : Sm 4 [32, 98, 121, 32]).app (nT_sm6 k.1.sh))))).mono (by decide)
    have e : Pap.t (.ls l xs ys) = [108, 111, 115, 115] ++ (32 :: (nT l ++ ([32, 98, 97, 114, 32] ++ (nT xs ++ ([32, 98, 121, 32] ++ nT ys))))) := rfl
    have ht : Tx (Pap.t (.ls l xs ys)) := by
      rw [e]
      exact ((⟨by decide, by decide⟩ : Sm 5 [108, 111, 115, 115, 32]).app sb).tx (by decide)
    have n1 : Pap.t (.ls l xs ys) ≠ wAny := fun z => by rw [e] at z; simp [wAny] at z
    have n2 : Pap.t (.ls l xs ys) ≠ wSum := fun z => by rw [e] at z; simp [wSum] at z
    have hp : TL.par [32] [] (Pap.t (.ls l xs ys)) = some ([108, 111, 115, 115], nT l ++ ([32, 98, 97, 114, 32] ++ (nT xs ++ ([32, 98, 121, 32] ++ nT ys)))) := by rw [e]; exact par_w (by decide)
    have a97 : 97 ∉ nT xs ++ ([32, 98, 121, 32] ++ nT ys) := fun z => by
      rcases List.mem_append.mp z with z | z
      · exact nT_free h2 ⟨by decide, by decide⟩ (by decide) z
      · rcases List.mem_append.mp z with z | z
        · simp at z
        · exact nT_free k.1 ⟨by decide, by decide⟩ (by decide) z
    have hh : p_halves (nT l ++ ([32, 98, 97, 114, 32] ++ (nT xs ++ ([32, 98, 121, 32] ++ nT ys)))) [32, 98, 97, 114, 32] = X.ok (nT l, nT xs ++ ([32, 98, 121, 32] ++ nT ys)) := halves_mark (c := 98) (d := 97) (S2 := [97, 114, 32]) (sb.tx (by decide)) (by decide) (by decide) (nT_free h.1 ⟨by decide, by decide⟩ (by decide)) (by decide) a97
    unfold p_read_paper
    rw [inW ht.ok n1 n2, ofO_some, bind_ok, if_neg (by decide), partT_ok ht (by decide), ofO_some, bind_ok, hp]
    dsimp only
    rw [show eqT [108, 111, 115, 115] ([116, 105, 109, 101, 115] : List Nat) = some false from rfl, ofO_some, bind_ok, if_neg (by decide), show eqT [108, 111, 115, 115] ([109, 111, 100] : List Nat) = some false from rfl, ofO_some, bind_ok, if_neg (by decide), show eqT [108, 111, 115, 115] ([98, 97, 114] : List Nat) = some false from rfl, ofO_some, bind_ok, if_neg (by decide), show eqT [108, 111, 115, 115] ([108, 111, 115, 115] : List Nat) = some true from rfl, ofO_some, bind_ok, if_pos rfl, hh, bind_ok]
    dsimp only
    rw [read_b h2 k, bind_ok, read_n0 h, bind_ok]
    rfl
  | rw xs rs =>
    obtain ⟨h, h2, h3, h4⟩ := h
    have ht : Tx (Pap.t (.rw xs rs)) := rows_tx (a := [114, 111, 119, 115, 32]) h.sh (fun r hr => (h2 r hr).sh) h3 h4 ⟨by decide, by decide⟩
    have ht2 : Tx (TL.joinL [59, 32] (nT xs :: rs.map rT)) := rows_tx (a := []) h.sh (fun r hr => (h2 r hr).sh) h3 h4 ⟨by decide, by decide⟩
    have e : Pap.t (.rw xs rs) = wRo ++ (32 :: TL.joinL [59, 32] (nT xs :: rs.map rT)) := by
      show TL.joinL [59, 32] (([114, 111, 119, 115, 32] ++ nT xs) :: rs.map rT) = _
      rw [join_head]
      rfl
    have n1 : Pap.t (.rw xs rs) ≠ wAny := fun z => by rw [e] at z; simp [wAny, wRo] at z
    have n2 : Pap.t (.rw xs rs) ≠ wSum := fun z => by rw [e] at z; simp [wSum, wRo] at z
    have hp : TL.par [32] [] (Pap.t (.rw xs rs)) = some (wRo, TL.joinL [59, 32] (nT xs :: rs.map rT)) := by rw [e]; exact par_w (by decide)
    have hs : TL.spl [59, 32] 0 [] (TL.joinL [59, 32] (nT xs :: rs.map rT)) = nT xs :: rs.map rT := TL.spl_join (s := 59) (S := [32]) (by simp) fun p hp => by
      rcases List.mem_cons.mp hp with rfl | hp
      · exact nT_free h ⟨by decide, by decide⟩ (by decide)
      · obtain ⟨r, hr, rfl⟩ := List.mem_map.mp hp
        exact rT_free (h2 r hr) ⟨by decide, by decide⟩ (by decide)
    unfold p_read_paper
    rw [inW ht.ok n1 n2, ofO_some, bind_ok, if_neg (by decide), partT_ok ht (by decide), ofO_some, bind_ok, hp]
    dsimp only
    rw [show eqT wRo ([116, 105, 109, 101, 115] : List Nat) = some false from rfl, ofO_some, bind_ok, if_neg (by decide), show eqT wRo ([109, 111, 100] : List Nat) = some false from rfl, ofO_some, bind_ok, if_neg (by decide), show eqT wRo ([98, 97, 114] : List Nat) = some false from rfl, ofO_some, bind_ok, if_neg (by decide), show eqT wRo ([108, 111, 115, 115] : List Nat) = some false from rfl, ofO_some, bind_ok, if_neg (by decide), show neT wRo ([114, 111, 119, 115] : List Nat) = some false from rfl, ofO_some, bind_ok, if_neg (by decide), splitT_ok ht2 (by decide) (by decide), ofO_some, bind_ok, hs, at_0, ofO_some, bind_ok, read_n h, bind_ok, cutL_tail64, lcX_M (by simp; omega), reads_r h2, bind_ok]
    rfl
end LW
set_option maxHeartbeats 4000000
namespace LW
open PySem AM TY
theorem yk2_64 {dep p q : Nat} {x y : D} (h : Yk dep p x) (k : Yk dep q y) : Yk (dep + 1) (p + q + 2) (.tup [x, y]) := by
  obtain ⟨a, a1, a2, a3, a4, a5, a6⟩ := h.ex
  obtain ⟨b, b1, b2, b3, b4, b5, b6⟩ := k.ex
  refine ⟨.tuple [a, b], by simp [D.pd, D.pds, a1, b1], ?_, ?_, ?_, ?_, ?_⟩
  · simp [plY, plYs, a2, b2]
  · simp [PyData.showable, PyData.showableAll, a3, b3]
  · simp [PyData.canLay0, PyData.canLayAll0, a4, b4]
  · simp only [PyData.depth, PyData.depthAll]
    omega
  · simp only [PyData.weight, PyData.weightAll]
    omega
theorem yk3_64 {dep p q r : Nat} {x y z : D} (h : Yk dep p x) (k : Yk dep q y) (l : Yk dep r z) : Yk (dep + 1) (p + q + r + 3) (.tup [x, y, z]) := by
  obtain ⟨a, a1, a2, a3, a4, a5, a6⟩ := h.ex
  obtain ⟨b, b1, b2, b3, b4, b5, b6⟩ := k.ex
  obtain ⟨c, c1, c2, c3, c4, c5, c6⟩ := l.ex
  refine ⟨.tuple [a, b, c], by simp [D.pd, D.pds, a1, b1, c1], ?_, ?_, ?_, ?_, ?_⟩
  · simp [plY, plYs, a2, b2, c2]
  · simp [PyData.showable, PyData.showableAll, a3, b3, c3]
  · simp [PyData.canLay0, PyData.canLayAll0, a4, b4, c4]
  · simp only [PyData.depth, PyData.depthAll]
    omega
  · simp only [PyData.weight, PyData.weightAll]
    omega
theorem ykR : Yk 0 60 (tT wRo) := ⟨_, rfl, by decide +kernel, by decide +kernel, by decide +kernel, by decide +kernel, by decide +kernel⟩
theorem ykW (a : Bool) : Yk 0 60 (tT (wdT a)) := by
  cases a
  · exact ⟨_, rfl, by decide +kernel, by decide +kernel, by decide +kernel, by decide +kernel, by decide +kernel⟩
  · exact ⟨_, rfl, by decide +kernel, by decide +kernel, by decide +kernel, by decide +kernel, by decide +kernel⟩
theorem b137 {z : Int} (h : z.natAbs < 10 ^ 41) : z.natAbs < 2 ^ 137 := Nat.lt_of_lt_of_le h (by decide)
theorem ykI {z : Int} (h : z.natAbs < 10 ^ 41) : Yk 1 137 (tI z) := (yk_I (b137 h) (by decide)).mono (by decide) (by decide)
theorem ykN {xs : List Int} (h : Sh xs) : Yk 1 828 (tL tI xs) := (yk_ints (b := 137) (fun x hx => b137 (h.2 x hx)) (by decide)).mono (by decide) (by have := h.1; omega)
theorem ykL {l : Lead} (h : ShL l) : Yk 2 967 (t2 (tL tI) tI l) := yk2_64 (ykN h.1) (ykI h.2)
theorem ykRow {r : Row} (h : ShR r) : Yk 4 6776 (tRow r) := by
  have h3 : Yk 3 5808 (tL (t2 (tL tI) tI) r.2.2) := by
    have := yk_lst (dep := 2) (n := 967) (ds := r.2.2.map (t2 (tL tI) tI)) fun d hd => by
      obtain ⟨l, hl, rfl⟩ := List.mem_map.mp hd
      exact ykL (h.2.2.2 l hl)
    refine this.mono (by decide) ?_
    have := h.2.2.1
    simp only [List.length_map]
    omega
  exact (yk3_64 ((ykN h.1).mono (by decide : 1 ≤ 3) (Nat.le_refl _)) ((ykI h.2.1).mono (by decide : 1 ≤ 3) (Nat.le_refl _)) h3).mono (by decide) (by decide)
def Pap.few : Pap → Prop
  | .rw _ rs => rs.length ≤ 100
  | _ => True
theorem yk_one {n dep : Nat} {d : D} (h : Yk dep n d) : Yk (dep + 1) (n + 1) (.tup [d]) := by
  have := yk_tup (dep := dep) (n := n) (ds := [d]) fun x hx => by
    obtain rfl : x = d := by simpa using hx
    exact h
  exact this.mono (by omega) (by simp)
theorem yk64 {p : Pap} (h : p.Sh) (hf : p.few) : Yk 6 700000 p.d := by
  cases p with
  | wd a => exact (yk_one (ykW a)).mono (by decide) (by decide)
  | tm xs => exact (yk_one (ykN h)).mono (by decide) (by decide)
  | md m xs => exact (yk2_64 (ykI h.1) (ykN h.2)).mono (by decide) (by decide)
  | br xs ys => exact (yk2_64 (ykN h.1) (ykN h.2)).mono (by decide) (by decide)
  | ls l xs ys => exact (yk3_64 (ykN h.1) (ykN h.2.1) (ykN h.2.2)).mono (by decide) (by decide)
  | rw xs rs =>
    have h3 : Yk 5 677700 (tL tRow rs) := by
      have := yk_lst (dep := 4) (n := 6776) (ds := rs.map tRow) fun d hd => by
        obtain ⟨r, hr, rfl⟩ := List.mem_map.mp hd
        exact ykRow (h.2.1 r hr)
      refine this.mono (by decide) ?_
      have : rs.length ≤ 100 := hf
      simp only [List.length_map]
      omega
    exact (yk3_64 (ykR.mono (by decide : 0 ≤ 5) (Nat.le_refl _)) ((ykN h.1).mono (by decide : 1 ≤ 5) (Nat.le_refl _)) h3).mono (by decide) (by decide)
theorem Yk.pn {dep n : Nat} {d : D} (h : Yk dep n d) : Pn dep d := by
  obtain ⟨p, a1, a2, a3, a4, a5, a6⟩ := h.ex
  exact ⟨p, a1, a4, a5⟩
theorem str64 {p : Pap} (h : p.Sh) (hf : p.few) : ∃ T, strY p.d = some T ∧ PyData.strOk T = true := strY_tup (yk64 h hf) (by decide) (by decide)
end LW
set_option maxHeartbeats 4000000
namespace LW
open PySem AM TY
mutual
def vis : D → List D
  | .la a ds => .la a ds :: visR ds
  | .lst ds => .lst ds :: visR ds
  | .tup ds => visR ds
  | _ => []
def visR : List D → List D
  | [] => []
  | d :: ds => visR ds ++ vis d
end
mutual
def cntD : D → Nat
  | .la _ ds => 1 + cntDs ds
  | .lst ds => 1 + cntDs ds
  | .tup ds => 1 + cntDs ds
  | _ => 1
def cntDs : List D → Nat
  | [] => 0
  | d :: ds => cntD d + cntDs ds
end
theorem visR_app : ∀ a b : List D, visR (a ++ b) = visR b ++ visR a
  | [], b => by simp [visR]
  | d :: a, b => by simp only [List.cons_append, visR, visR_app a b, List.append_assoc]
theorem cntDs_app : ∀ a b : List D, cntDs (a ++ b) = cntDs a + cntDs b
  | [], b => by simp [cntDs]
  | d :: a, b => by simp only [List.cons_append, cntDs, cntDs_app a b]; omega
theorem cnt_pos : ∀ d : D, 1 ≤ cntD d := fun d => by cases d <;> simp [cntD] <;> omega
theorem cnt_len : ∀ l : List D, l.length ≤ cntDs l
  | [] => by simp [cntDs]
  | d :: l => by
    have := cnt_len l
    have := cnt_pos d
    simp only [List.length_cons, cntDs]
    omega
def Dk : Nat → D → Prop
  | 0, d => (∃ i, d = .int i) ∨ ∃ s, d = .str s ∧ Pn 0 (.str s)
  | k + 1, d => Dk k d ∨ (∃ a ds, d = .la a ds ∧ ∀ x ∈ ds, Dk k x) ∨ (∃ ds, d = .lst ds ∧ ∀ x ∈ ds, Dk k x) ∨ ∃ ds, d = .tup ds ∧ ∀ x ∈ ds, Dk k x
theorem Dk.pn : ∀ {k : Nat} {d : D}, Dk k d → Pn k d
  | 0, d, h => by
    rcases h with ⟨i, rfl⟩ | ⟨s, rfl, h⟩
    · exact pn_int i
    · exact h
  | k + 1, d, h => by
    rcases h with h | ⟨a, ds, rfl, h⟩ | ⟨ds, rfl, h⟩ | ⟨ds, rfl, h⟩
    · exact h.pn.mono (Nat.le_succ k)
    · have := (pn_lst (k := k) (ds := ds) fun d hd => (h d hd).pn).h
      exact ⟨this⟩
    · exact pn_lst fun d hd => (h d hd).pn
    · exact pn_tup fun d hd => (h d hd).pn
theorem Dk.cases {k : Nat} {d : D} (h : Dk (k + 1) d) : (wTyp (.sh d) = some "int" ∧ vis d = [] ∧ cntD d = 1 ∨ wTyp (.sh d) = some "str" ∧ vis d = [] ∧ cntD d = 1) ∨ ∃ ds, AM.wSeq (.sh d) = some ds ∧ (∀ x ∈ ds, Dk k x) ∧ cntD d = 1 + cntDs ds ∧ (wTyp (.sh d) = some "list" ∧ vis d = d :: visR ds ∨ wTyp (.sh d) = some "tuple" ∧ vis d = visR ds) := by
  have up : ∀ {k : Nat} {x : D}, Dk k x → Dk (k + 1) x := fun h => .inl h
  induction k with
  | zero =>
    rcases h with h | ⟨a, ds, rfl, h⟩ | ⟨ds, rfl, h⟩ | ⟨ds, rfl, h⟩
    · rcases h with ⟨i, rfl⟩ | ⟨s, rfl, h⟩
      · exact .inl (.inl ⟨rfl, by simp [vis], by simp [cntD]⟩)
      · exact .inl (.inr ⟨rfl, by simp [vis], by simp [cntD]⟩)
    · exact .inr ⟨ds, rfl, h, by simp [cntD], .inl ⟨rfl, by simp [vis]⟩⟩
    · exact .inr ⟨ds, rfl, h, by simp [cntD], .inl ⟨rfl, by simp [vis]⟩⟩
    · exact .inr ⟨ds, rfl, h, by simp [cntD], .inr ⟨rfl, by simp [vis]⟩⟩
  | succ k ih =>
    rcases h with h | ⟨a, ds, rfl, h⟩ | ⟨ds, rfl, h⟩ | ⟨ds, rfl, h⟩
    · rcases ih h with h | ⟨ds, h1, h2, h3⟩
      · exact .inl h
      · exact .inr ⟨ds, h1, fun x hx => up (h2 x hx), h3⟩
    · exact .inr ⟨ds, rfl, h, by simp [cntD], .inl ⟨rfl, by simp [vis]⟩⟩
    · exact .inr ⟨ds, rfl, h, by simp [cntD], .inl ⟨rfl, by simp [vis]⟩⟩
    · exact .inr ⟨ds, rfl, h, by simp [cntD], .inr ⟨rfl, by simp [vis]⟩⟩
theorem toDs_shL : ∀ l : List D, W.toDs (l.map W.sh) = some l
  | [] => by simp [W.toDs]
  | d :: l => by simp [W.toDs, W.toD, toDs_shL l]
theorem shsOf_mapL : ∀ l : List D, AM.shsOf (l.map W.sh) = some l
  | [] => rfl
  | d :: l => by simp [AM.shsOf, shsOf_mapL l]
theorem gAdd_olL (a b : List D) (h : a.length + b.length ≤ 100000) : AM.gAdd (.ol (a.map W.sh), .ol (b.map W.sh)) = some (.ol ((a ++ b).map W.sh)) := by
  show ((AM.gAddI (.ol (a.map W.sh), .ol (b.map W.sh))).or ((AM.gAddS (.ol (a.map W.sh), .ol (b.map W.sh))).or (AM.gCat (.ol (a.map W.sh), .ol (b.map W.sh))))) = _
  have e1 : AM.gAddI (.ol (a.map W.sh), .ol (b.map W.sh)) = none := rfl
  have e2 : AM.gAddS (.ol (a.map W.sh), .ol (b.map W.sh)) = none := rfl
  rw [e1, e2]
  show AM.gCat _ = _
  unfold AM.gCat
  simp only [AM.wEls, shsOf_mapL]
  rw [if_pos h]
theorem gNe_emp {k : Nat} {l : List D} (h : ∀ d ∈ l, Pn k d) (hk : k + 1 ≤ 64) : AM.gNe (.ol (l.map W.sh), .ol []) = some (.sh (.bl (!l.isEmpty))) := by
  obtain ⟨x, e1, e2, _⟩ := wPd_pn (pn_lst h) hk
  have e3 : wPd (.ol (l.map W.sh)) = some x := by
    unfold wPd at e1 ⊢
    simp only [W.toD, toDs_shL, Option.map_some] at e1 ⊢
    exact e1
  obtain ⟨xs, e4, _, _, e5⟩ := pds_ok h
  simp only [D.pd, e4, Option.map_some, Option.some.injEq] at e2
  subst e2
  have e6 : wPd (.ol []) = some (.list []) := by kernel_rfl
  unfold AM.gNe AM.gDD
  simp only [e3, e6, AM.fNe, Option.map_some]
  cases l with
  | nil =>
    obtain rfl : xs = [] := by simpa using e5
    simp [PyData.eqv, PyData.eqvAll]
  | cons d l =>
    cases xs with
    | nil => simp at e5
    | cons x xs => simp [PyData.eqv, PyData.eqvAll]
abbrev llCond : ME Bool := AM.mB (AM.mOp2 AM.gNe (AM.mVar 2) (AM.mLst AM.mNil))
abbrev llBody : MS := AM.mSeq (AM.mAsg (AM.mFz (AM.mIn (AM.onL AM.gPop) (AM.lChk AM.isOl (AM.lVar 2)) AM.mNil)) (AM.gSet 3)) (AM.mSeq (AM.mIfS (AM.mB (AM.mOp1 (AM.gIs "list") (AM.mVarS 3))) (AM.mDrop (AM.mIn (AM.onL AM.gApp) (AM.lChk AM.isOl (AM.lVar 1)) (AM.mCons (AM.mVarS 3) AM.mNil))) AM.mNx) (AM.mIfS (AM.mB (AM.mOp1 (AM.gIs2 "list" "tuple") (AM.mVarS 3))) (AM.mAsg (AM.mOp2 AM.gAdd (AM.mVar 2) (AM.mBi AM.gList (AM.mCons (AM.mVarS 3) AM.mNil))) (AM.gSet 2)) AM.mNx))
theorem ll_cond {P F : Option W} {l : List D} {o : Option W} {k : Nat} (h : ∀ d ∈ l, Pn k d) (hk : k + 1 ≤ 64) : llCond [P, F, some (.ol (l.map W.sh)), o] = some (.ok (!l.isEmpty), [P, F, some (.ol (l.map W.sh)), o]) := by
  have e1 : AM.mVar 2 [P, F, some (.ol (l.map W.sh)), o] = some (.ok (.ol (l.map W.sh)), [P, F, some (.ol (l.map W.sh)), o]) := rfl
  have e2 : AM.mLst AM.mNil [P, F, some (.ol (l.map W.sh)), o] = some (.ok (.ol []), [P, F, some (.ol (l.map W.sh)), o]) := rfl
  simp only [llCond, AM.mB, AM.mOp2, ME.bind, e1, e2, ME.op, ME.pure, gNe_emp h hk, Option.map_some]
  rfl
theorem ll_turn {P : Option W} {f l : List D} {d : D} {o : Option W} {k : Nat} (h : Dk (k + 1) d) (hf : f.length < 100000) (hl : l.length + cntD d ≤ 100000) : ∃ ds f', f' ++ visR (l ++ ds) = f ++ visR (l ++ [d]) ∧ (∀ x ∈ ds, Dk k x) ∧ 1 + cntDs ds = cntD d ∧ f'.length ≤ f.length + 1 ∧
    llBody [P, some (.ol (f.map W.sh)), some (.ol ((l ++ [d]).map W.sh)), o] = some (.ok .nx, [P, some (.ol (f'.map W.sh)), some (.ol ((l ++ ds).map W.sh)), some (.sh d)]) := by
  have p1 : AM.lChk AM.isOl (AM.lVar 2) [P, some (.ol (f.map W.sh)), some (.ol ((l ++ [d]).map W.sh)), o] = some (.ok (2, []), [P, some (.ol (f.map W.sh)), some (.ol ((l ++ [d]).map W.sh)), o]) := rfl
  have p2 : AM.gPop ((l ++ [d]).map W.sh) [] = some (l.map W.sh, .sh d) := by
    unfold AM.gPop
    simp [List.map_append]
  have p3 : AM.mIn (AM.onL AM.gPop) (AM.lChk AM.isOl (AM.lVar 2)) AM.mNil [P, some (.ol (f.map W.sh)), some (.ol ((l ++ [d]).map W.sh)), o] = some (.ok (.sh d), [P, some (.ol (f.map W.sh)), some (.ol (l.map W.sh)), o]) := by
    unfold AM.mIn
    rw [p1]
    have q1 : AM.mNil [P, some (.ol (f.map W.sh)), some (.ol ((l ++ [d]).map W.sh)), o] = some (.ok [], [P, some (.ol (f.map W.sh)), some (.ol ((l ++ [d]).map W.sh)), o]) := rfl
    have q2 : AM.getE [P, some (.ol (f.map W.sh)), some (.ol ((l ++ [d]).map W.sh)), o] (2, []) = some (.ol ((l ++ [d]).map W.sh)) := rfl
    have q3 : AM.onL AM.gPop (.ol ((l ++ [d]).map W.sh)) [] = some (.ol (l.map W.sh), .sh d) := by
      show (AM.gPop ((l ++ [d]).map W.sh) []).map _ = _
      rw [p2]
      rfl
    simp only [q1, q2, Option.bind_some, q3]
    rfl
  have p4 : AM.mAsg (AM.mFz (AM.mIn (AM.onL AM.gPop) (AM.lChk AM.isOl (AM.lVar 2)) AM.mNil)) (AM.gSet 3) [P, some (.ol (f.map W.sh)), some (.ol ((l ++ [d]).map W.sh)), o] = some (.ok .nx, [P, some (.ol (f.map W.sh)), some (.ol (l.map W.sh)), some (.sh d)]) := by
    simp only [AM.mAsg, AM.mFz, ME.bind, p3, ME.op, W.toD, Option.map_some]
    rfl
  have hv : ∀ A B : Option W, AM.mVarS 3 [P, A, B, some (.sh d)] = some (.ok (.sh d), [P, A, B, some (.sh d)]) := fun A B => rfl
  have is1 : ∀ (A B : Option W) (b : Bool), AM.gIs "list" (.sh d) = some (.sh (.bl b)) → AM.mB (AM.mOp1 (AM.gIs "list") (AM.mVarS 3)) [P, A, B, some (.sh d)] = some (.ok b, [P, A, B, some (.sh d)]) := fun A B b e => by
    simp only [AM.mB, AM.mOp1, ME.bind, hv, ME.op, e, Option.map_some]
    rfl
  have is2 : ∀ (A B : Option W) (b : Bool), AM.gIs2 "list" "tuple" (.sh d) = some (.sh (.bl b)) → AM.mB (AM.mOp1 (AM.gIs2 "list" "tuple") (AM.mVarS 3)) [P, A, B, some (.sh d)] = some (.ok b, [P, A, B, some (.sh d)]) := fun A B b e => by
    simp only [AM.mB, AM.mOp1, ME.bind, hv, ME.op, e, Option.map_some]
    rfl
  have nx : ∀ e : AM.Env, AM.mNx e = some (.ok .nx, e) := fun e => rfl
  have app : ∀ B : Option W, AM.mDrop (AM.mIn (AM.onL AM.gApp) (AM.lChk AM.isOl (AM.lVar 1)) (AM.mCons (AM.mVarS 3) AM.mNil)) [P, some (.ol (f.map W.sh)), B, some (.sh d)] = some (.ok .nx, [P, some (.ol ((f ++ [d]).map W.sh)), B, some (.sh d)]) := fun B => by
    have q0 : AM.lChk AM.isOl (AM.lVar 1) [P, some (.ol (f.map W.sh)), B, some (.sh d)] = some (.ok (1, []), [P, some (.ol (f.map W.sh)), B, some (.sh d)]) := rfl
    have q1 : AM.mCons (AM.mVarS 3) AM.mNil [P, some (.ol (f.map W.sh)), B, some (.sh d)] = some (.ok [.sh d], [P, some (.ol (f.map W.sh)), B, some (.sh d)]) := rfl
    have q2 : AM.getE [P, some (.ol (f.map W.sh)), B, some (.sh d)] (1, []) = some (.ol (f.map W.sh)) := rfl
    have q3 : AM.onL AM.gApp (.ol (f.map W.sh)) [.sh d] = some (.ol ((f ++ [d]).map W.sh), .sh .non) := by
      show (AM.gApp (f.map W.sh) [.sh d]).map _ = _
      unfold AM.gApp
      simp only [List.length_map, if_pos hf]
      simp
    unfold AM.mDrop ME.bind AM.mIn
    rw [q0]
    simp only [q1, q2, Option.bind_some, q3]
    rfl
  rcases h.cases with h | ⟨ds, h1, h2, h3, h4⟩
  · have v0 : vis d = [] := by rcases h with h | h <;> exact h.2.1
    have c1 : cntD d = 1 := by rcases h with h | h <;> exact h.2.2
    refine ⟨[], f, by rw [visR_app l [d]]; simp [visR, v0], by simp, by simp [cntDs, c1], by omega, ?_⟩
    have g1 : AM.gIs "list" (.sh d) = some (.sh (.bl false)) := by
      unfold AM.gIs
      rcases h with h | h <;> rw [h.1] <;> rfl
    have g2 : AM.gIs2 "list" "tuple" (.sh d) = some (.sh (.bl false)) := by
      unfold AM.gIs2
      rcases h with h | h <;> rw [h.1] <;> rfl
    unfold llBody
    simp only [AM.mSeq, p4, AM.mIfS, ME.bind, is1 _ _ _ g1, is2 _ _ _ g2, Bool.false_eq_true, if_false, nx, List.append_nil]
  · have hb : l.length + ds.length ≤ 100000 := by
      have := cnt_len ds
      omega
    have lst : ∀ A : Option W, AM.mAsg (AM.mOp2 AM.gAdd (AM.mVar 2) (AM.mBi AM.gList (AM.mCons (AM.mVarS 3) AM.mNil))) (AM.gSet 2) [P, A, some (.ol (l.map W.sh)), some (.sh d)] = some (.ok .nx, [P, A, some (.ol ((l ++ ds).map W.sh)), some (.sh d)]) := fun A => by
      have q1 : AM.mVar 2 [P, A, some (.ol (l.map W.sh)), some (.sh d)] = some (.ok (.ol (l.map W.sh)), [P, A, some (.ol (l.map W.sh)), some (.sh d)]) := rfl
      have q2 : AM.mCons (AM.mVarS 3) AM.mNil [P, A, some (.ol (l.map W.sh)), some (.sh d)] = some (.ok [.sh d], [P, A, some (.ol (l.map W.sh)), some (.sh d)]) := rfl
      have q3 : AM.gList [.sh d] = some (.ol (ds.map W.sh)) := by
        unfold AM.gList
        simp only [h1, Option.map_some]
      simp only [AM.mAsg, AM.mOp2, AM.mBi, ME.bind, q1, q2, ME.op, ME.pure, q3, Option.map_some, gAdd_olL l ds hb]
      rfl
    have g2 : AM.gIs2 "list" "tuple" (.sh d) = some (.sh (.bl true)) := by
      unfold AM.gIs2
      rcases h4 with h | h <;> rw [h.1] <;> rfl
    rcases h4 with ⟨t, v⟩ | ⟨t, v⟩
    · have g1 : AM.gIs "list" (.sh d) = some (.sh (.bl true)) := by
        unfold AM.gIs
        rw [t]
        rfl
      refine ⟨ds, f ++ [d], by rw [visR_app, visR_app]; simp [visR, v], h2, h3.symm, by simp, ?_⟩
      unfold llBody
      simp only [AM.mSeq, p4, AM.mIfS, ME.bind, is1 _ _ _ g1, if_true, app, is2 _ _ _ g2, lst]
    · have g1 : AM.gIs "list" (.sh d) = some (.sh (.bl false)) := by
        unfold AM.gIs
        rw [t]
        rfl
      refine ⟨ds, f, by rw [visR_app, visR_app]; simp [visR, v], h2, h3.symm, by omega, ?_⟩
      unfold llBody
      simp only [AM.mSeq, p4, AM.mIfS, ME.bind, is1 _ _ _ g1, Bool.false_eq_true, if_false, nx, is2 _ _ _ g2, if_true, lst]
theorem ll_loop {P : Option W} {k : Nat} (hk : k + 2 ≤ 64) : ∀ (n : Nat) (l f : List D) (o : Option W), (∀ d ∈ l, Dk (k + 1) d) → cntDs l < n → f.length + cntDs l ≤ 100000 → ∃ o', AM.mWhile llCond llBody n [P, some (.ol (f.map W.sh)), some (.ol (l.map W.sh)), o] = some (.ok .nx, [P, some (.ol ((f ++ visR l).map W.sh)), some (.ol []), o'])
  | 0, l, f, o, _, h, _ => by omega
  | n + 1, l, f, o, hd, hn, hb => by
    have c := ll_cond (P := P) (F := some (.ol (f.map W.sh))) (o := o) (fun d h => (hd d h).pn) hk
    rcases List.eq_nil_or_concat l with rfl | ⟨l, d, rfl⟩
    · refine ⟨o, ?_⟩
      rw [AM.mWhile]
      dsimp only
      rw [c]
      simp [visR]
    · rw [List.concat_eq_append] at *
      rw [cntDs_app] at hn hb
      have c1 : cntDs [d] = cntD d := by simp [cntDs]
      rw [c1] at hn hb
      have := cnt_len l
      have := cnt_pos d
      obtain ⟨ds, f', h1, h2, h3, h4, h5⟩ := ll_turn (P := P) (f := f) (l := l) (o := o) (hd d (by simp)) (by omega) (by omega)
      obtain ⟨o', ih⟩ := ll_loop (P := P) hk n (l ++ ds) f' (some (.sh d)) (fun x hx => by
        rcases List.mem_append.mp hx with hx | hx
        · exact hd x (by simp [hx])
        · exact .inl (h2 x hx)) (by rw [cntDs_app]; omega) (by rw [cntDs_app]; omega)
      refine ⟨o', ?_⟩
      rw [AM.mWhile]
      dsimp only
      rw [c]
      have ne : (!(l ++ [d]).isEmpty) = true := by simp
      rw [ne]
      dsimp only
      rw [h5]
      dsimp only
      rw [ih, h1]
theorem lists64 {fu k : Nat} {d : D} (hk : k + 2 ≤ 64) (h : Dk (k + 1) d) (hc : cntD d ≤ 100000) (hf : cntD d < fu) : m__law_lists fu [.sh d] = some (.ok (.ol ((vis d).map W.sh)), [none]) := by
  obtain ⟨o', e⟩ := ll_loop (P := some (.sh d)) hk fu [d] [] none (fun x hx => by
    obtain rfl : x = d := by simpa using hx
    exact h) (by simpa [cntDs] using hf) (by simpa [cntDs] using hc)
  have ev : visR [d] = vis d := by simp [visR]
  rw [ev, List.nil_append] at e
  have e5 : b__law_lists fu [some (.sh d), none, none, none] = some (.ok (.rt (.ol ((vis d).map W.sh))), [some (.sh d), none, some (.ol []), o']) := by
    unfold b__law_lists
    have s1 : AM.mAsg (AM.mLst AM.mNil) (AM.gSet 1) [some (.sh d), none, none, none] = some (.ok .nx, [some (.sh d), some (.ol (([] : List D).map W.sh)), none, none]) := rfl
    have s2 : AM.mAsg (AM.mLst (AM.mCons (AM.mVarS 0) AM.mNil)) (AM.gSet 2) [some (.sh d), some (.ol (([] : List D).map W.sh)), none, none] = some (.ok .nx, [some (.sh d), some (.ol (([] : List D).map W.sh)), some (.ol ([d].map W.sh)), none]) := rfl
    rw [AM.mSeq, s1]
    dsimp only
    rw [AM.mSeq, s2]
    dsimp only
    rw [AM.mSeq]
    rw [show AM.mWhile _ _ fu [some (.sh d), some (.ol (([] : List D).map W.sh)), some (.ol ([d].map W.sh)), none] = _ from e]
    rfl
  unfold m__law_lists AM.fnM
  rw [if_pos (by rfl)]
  have e6 : ([W.sh d].map some ++ List.replicate (4 - 1) none : AM.Env) = [some (.sh d), none, none, none] := rfl
  rw [e6, e5]
  dsimp only
  rfl
end LW
set_option maxHeartbeats 4000000
namespace LW
open PySem AM TY
mutual
def lensW : W → List Nat
  | .ol ws => ws.length :: lensR ws
  | .ot ws => lensR ws
  | _ => []
def lensR : List W → List Nat
  | [] => []
  | w :: ws => lensR ws ++ lensW w
end
mutual
def cntW : W → Nat
  | .ol ws => 1 + cntWs ws
  | .ot ws => 1 + cntWs ws
  | .sh d => cntD d
  | _ => 1
def cntWs : List W → Nat
  | [] => 0
  | w :: ws => cntW w + cntWs ws
end
def Ow : Nat → W → Prop
  | 0, w => (∃ i, w = .sh (.int i)) ∨ ∃ s, w = .sh (.str s) ∧ Pn 0 (.str s)
  | k + 1, w => Ow k w ∨ (∃ ws, w = .ol ws ∧ ∀ x ∈ ws, Ow k x) ∨ (∃ ws, w = .ot ws ∧ ∀ x ∈ ws, Ow k x) ∨ ∃ s, w = .sh (.tup [.str s]) ∧ Pn 0 (.str s)
abbrev Rs := List (PySem.Addr × List D)
abbrev laOf (q : PySem.Addr × List D) : D := .la q.1 q.2
structure LaP (k : Nat) (w : W) (as rest : List PySem.Addr) (d : D) (rs : Rs) : Prop where
  la : AM.laW w (as ++ rest) = some (d, rest)
  dk : Dk k d
  vs : vis d = rs.map laOf
  pm : (rs.map Prod.fst).Perm as
  ln : rs.map (fun q => q.2.length) = lensW w
  nn : ∀ q ∈ rs, ∀ x ∈ q.2, AM.wNon (.sh x) = false
  n0 : AM.wNon (.sh d) = false
  ct : cntD d = cntW w
structure LaPs (k : Nat) (ws : List W) (as rest : List PySem.Addr) (ds : List D) (rs : Rs) : Prop where
  la : AM.laWs ws (as ++ rest) = some (ds, rest)
  dk : ∀ d ∈ ds, Dk k d
  vs : visR ds = rs.map laOf
  pm : (rs.map Prod.fst).Perm as
  ln : rs.map (fun q => q.2.length) = lensR ws
  nn : ∀ q ∈ rs, ∀ x ∈ q.2, AM.wNon (.sh x) = false
  n0 : ∀ d ∈ ds, AM.wNon (.sh d) = false
  ct : cntDs ds = cntWs ws
  le : ds.length = ws.length
theorem laps_of {k : Nat} : ∀ {ws : List W}, (∀ w ∈ ws, ∀ as : List PySem.Addr, as.length = AM.nL w → ∀ rest, ∃ d rs, LaP k w as rest d rs) → ∀ as : List PySem.Addr, as.length = AM.nLs ws → ∀ rest, ∃ ds rs, LaPs k ws as rest ds rs
  | [], _, as, h, rest => by
    obtain rfl : as = [] := by simpa [AM.nLs] using h
    exact ⟨[], [], by simp [AM.laWs], by simp, by simp [visR], by simp, by simp [lensR], by simp, by simp, by simp [cntDs, cntWs], rfl⟩
  | w :: ws, H, as, h, rest => by
    simp only [AM.nLs] at h
    obtain ⟨a1, a2, rfl, h1, h2⟩ : ∃ a1 a2, as = a1 ++ a2 ∧ a1.length = AM.nL w ∧ a2.length = AM.nLs ws := ⟨as.take (AM.nL w), as.drop (AM.nL w), (List.take_append_drop ..).symm, by
      rw [List.length_take]
      omega, by
      rw [List.length_drop]
      omega⟩
    obtain ⟨d, rs1, q⟩ := H w (by simp) a1 h1 (a2 ++ rest)
    obtain ⟨ds, rs2, r⟩ := laps_of (ws := ws) (fun x hx => H x (by simp [hx])) a2 h2 rest
    refine ⟨d :: ds, rs2 ++ rs1, ?_, ?_, ?_, ?_, ?_, ?_, ?_, ?_, ?_⟩
    · simp only [AM.laWs, List.append_assoc, q.la, Option.bind_some, r.la, Option.map_some]
    · intro x hx
      rcases List.mem_cons.mp hx with rfl | hx
      · exact q.dk
      · exact r.dk x hx
    · simp only [visR, q.vs, r.vs, List.map_append]
    · rw [List.map_append]
      exact (r.pm.append q.pm).trans List.perm_append_comm
    · simp only [List.map_append, q.ln, r.ln, lensR]
    · intro x hx
      rcases List.mem_append.mp hx with hx | hx
      · exact r.nn x hx
      · exact q.nn x hx
    · intro x hx
      rcases List.mem_cons.mp hx with rfl | hx
      · exact q.n0
      · exact r.n0 x hx
    · simp only [cntDs, cntWs, q.ct, r.ct]
    · simp [r.le]
theorem la_ex : ∀ {k : Nat} {w : W}, Ow k w → ∀ as : List PySem.Addr, as.length = AM.nL w → ∀ rest, ∃ d rs, LaP k w as rest d rs
  | 0, w, h, as, hl, rest => by
    rcases h with ⟨i, rfl⟩ | ⟨s, rfl, h⟩
    · obtain rfl : as = [] := by simpa [AM.nL] using hl
      exact ⟨.int i, [], by simp [AM.laW], .inl ⟨i, rfl⟩, by simp [vis], by simp, by simp [lensW], by simp, rfl, by simp [cntD, cntW]⟩
    · obtain rfl : as = [] := by simpa [AM.nL] using hl
      exact ⟨.str s, [], by simp [AM.laW], .inr ⟨s, rfl, h⟩, by simp [vis], by simp, by simp [lensW], by simp, rfl, by simp [cntD, cntW]⟩
  | k + 1, w, h, as, hl, rest => by
    rcases h with h | ⟨ws, rfl, h⟩ | ⟨ws, rfl, h⟩ | ⟨s, rfl, h⟩
    rotate_left 3
    · obtain rfl : as = [] := by simpa [AM.nL] using hl
      have up : ∀ k, Dk k (.str s) := fun k => by
        induction k with
        | zero => exact .inr ⟨s, rfl, h⟩
        | succ k ih => exact .inl ih
      exact ⟨.tup [.str s], [], by simp [AM.laW], .inr (.inr (.inr ⟨_, rfl, fun x hx => by
        obtain rfl : x = .str s := by simpa using hx
        exact up k⟩)), by simp [vis, visR], by simp, by simp [lensW], by simp, rfl, by simp [cntW]⟩
    · obtain ⟨d, rs, q⟩ := la_ex h as hl rest
      exact ⟨d, rs, q.la, .inl q.dk, q.vs, q.pm, q.ln, q.nn, q.n0, q.ct⟩
    · simp only [AM.nL] at hl
      cases as with
      | nil => simp at hl; omega
      | cons a as =>
        obtain ⟨ds, rs, q⟩ := laps_of (k := k) (ws := ws) (fun x hx => la_ex (h x hx)) as (by simp at hl; omega) rest
        refine ⟨.la a ds, (a, ds) :: rs, ?_, ?_, ?_, ?_, ?_, ?_, rfl, ?_⟩
        · simp only [List.cons_append, AM.laW, q.la, Option.map_some]
        · exact .inr (.inl ⟨a, ds, rfl, q.dk⟩)
        · simp only [vis, q.vs, List.map_cons]
        · simpa using q.pm
        · simp [lensW, q.ln, q.le]
        · intro x hx
          rcases List.mem_cons.mp hx with rfl | hx
          · exact q.n0
          · exact q.nn x hx
        · simp only [cntD, cntW, q.ct]
    · simp only [AM.nL] at hl
      obtain ⟨ds, rs, q⟩ := laps_of (k := k) (ws := ws) (fun x hx => la_ex (h x hx)) as hl rest
      refine ⟨.tup ds, rs, ?_, ?_, ?_, q.pm, ?_, q.nn, rfl, ?_⟩
      · simp only [AM.laW, q.la, Option.map_some]
      · exact .inr (.inr (.inr ⟨ds, rfl, q.dk⟩))
      · simp only [vis, q.vs]
      · simp [lensW, q.ln]
      · simp only [cntD, cntW, q.ct]
theorem Ow.pl : ∀ {k : Nat} {w : W}, Ow k w → AM.plW w = true
  | 0, w, h => by rcases h with ⟨i, rfl⟩ | ⟨s, rfl, h⟩ <;> simp [AM.plW]
  | k + 1, w, h => by
    have all : ∀ ws : List W, (∀ x ∈ ws, Ow k x) → AM.plWs ws = true := by
      intro ws
      induction ws with
      | nil => intro _; simp [AM.plWs]
      | cons x ws ih =>
        intro h
        simp only [AM.plWs, Bool.and_eq_true]
        exact ⟨(h x (by simp)).pl, ih fun y hy => h y (by simp [hy])⟩
    rcases h with h | ⟨ws, rfl, h⟩ | ⟨ws, rfl, h⟩ | ⟨s, rfl, h⟩
    · exact h.pl
    · simp only [AM.plW]; exact all ws h
    · simp only [AM.plW]; exact all ws h
    · simp [AM.plW]
theorem dis64 {fu k r : Nat} {w : W} {env : AM.Env} (hk : k + 2 ≤ 64) (h : Ow (k + 1) w) (hc : cntW w ≤ 100000) (hf : cntW w < fu) (e : env[r]? = some (some w)) : AM.mDis r (AM.mK0 (m__law_lists fu) (AM.wOwn (AM.mVarS r) AM.wNil)) env = some (.ok (.ol ((lensW w).map AM.anyL)), env.set r none) := by
  refine AM.mDis_ok e ⟨h.pl, fun as hl nd => ?_⟩
  obtain ⟨d, rs, q⟩ := la_ex h as hl []
  refine ⟨d, rs, (AM.strip env).set r (some (.sh d)), by simpa using q.la, ?_, q.ln, q.pm.nodup_iff.mpr nd, fun x hx => q.pm.subset (List.mem_map_of_mem hx), q.nn⟩
  have hv : AM.mVarS r ((AM.strip env).set r (some (.sh d))) = some (.ok (.sh d), (AM.strip env).set r (some (.sh d))) := by
    unfold AM.mVarS
    rw [List.getElem?_set_self (by rw [AM.strip_length]; exact (List.getElem?_eq_some_iff.mp e).1)]
  have hcall := lists64 (fu := fu) hk q.dk (by rw [q.ct]; exact hc) (by rw [q.ct]; exact hf)
  simp only [AM.mK0, AM.wOwn, ME.bind, hv, AM.wNil, ME.pure, AM.callK0, AM.ioOf, Option.map_none, AM.argWs, Option.map_some]
  rw [hcall, q.vs]
  simp [AM.hasBor, Function.comp_def]
end LW
set_option maxHeartbeats 4000000
namespace LW
open PySem AM TY
section
variable {e0 : AM.Env}
theorem gLen_lst {ds : List D} : AM.gLen [.sh (.lst ds)] = some (.sh (.int ds.length)) := rfl
def cells (L : List (List D)) : List W := L.map fun ds => .ol (ds.map W.sh)
theorem cells_toDs : ∀ L : List (List D), W.toDs (cells L) = some (L.map D.lst)
  | [] => by simp [cells, W.toDs]
  | ds :: L => by
    have ih := cells_toDs L
    unfold cells at ih ⊢
    simp only [List.map_cons, W.toDs, W.toD, toDs_shL, Option.map_some, ih]
theorem any_cells (ns : List Nat) : ns.map AM.anyL = cells (ns.map fun n => List.replicate n D.any) := by
  unfold cells
  rw [List.map_map]
  refine List.map_congr_left fun n _ => ?_
  simp [AM.anyL, Function.comp_def]
abbrev clBody : MS := AM.mDrop (AM.mIn (AM.onL AM.gClr) (AM.lChk AM.isOl (AM.lVar 4)) AM.mNil)
theorem clr_turn {x0 x1 x2 x3 o4 x5 x6 x7 x8 x9 x10 : Option W} {us : List W} : clBody [x0, x1, x2, x3, some (.ol us), x5, x6, x7, x8, x9, x10] = some (.ok .nx, [x0, x1, x2, x3, some (.ol []), x5, x6, x7, x8, x9, x10]) := rfl
theorem clr_loop {x0 x1 x2 x3 x5 x6 x7 x8 x9 x10 : Option W} : ∀ (ns : List Nat) (o4 : Option W), ∃ o4', AM.mLoopO (AM.gSet 4) clBody (ns.map AM.anyL) [x0, x1, x2, x3, o4, x5, x6, x7, x8, x9, x10] = some (.ok .nx, [x0, x1, x2, x3, o4', x5, x6, x7, x8, x9, x10])
  | [], o4 => ⟨o4, rfl⟩
  | n :: ns, o4 => by
    obtain ⟨o4', ih⟩ := clr_loop (x0 := x0) (x1 := x1) (x2 := x2) (x3 := x3) (x5 := x5) (x6 := x6) (x7 := x7) (x8 := x8) (x9 := x9) (x10 := x10) ns (some (.ol []))
    refine ⟨o4', ?_⟩
    simp only [List.map_cons, AM.mLoopO]
    have g1 : AM.gSet 4 (AM.anyL n) [x0, x1, x2, x3, o4, x5, x6, x7, x8, x9, x10] = some (.ok (), [x0, x1, x2, x3, some (AM.anyL n), x5, x6, x7, x8, x9, x10]) := rfl
    rw [g1]
    dsimp only
    rw [show clBody [x0, x1, x2, x3, some (AM.anyL n), x5, x6, x7, x8, x9, x10] = _ from clr_turn (o4 := none)]
    exact ih
abbrev lenC : ME W := AM.mCompP (AM.mItL (AM.mVarS 8)) (AM.gSet 4) (ME.pure true) (AM.mBi AM.gLen (AM.mCons (AM.mVarS 4) AM.mNil)) [4]
theorem len_clp {env : AM.Env} (h4 : 4 < env.length) : ∀ (L : List (List D)) (acc : List W), acc.length + L.length ≤ 100000 → AM.mCLP (AM.gSet 4) (ME.pure true) (AM.mBi AM.gLen (AM.mCons (AM.mVarS 4) AM.mNil)) env (L.map D.lst) acc = some (acc ++ L.map fun ds => W.sh (.int (ds.length : Nat)))
  | [], acc, _ => by simp [AM.mCLP]
  | ds :: L, acc, h => by
    simp only [List.map_cons, AM.mCLP]
    have g1 : AM.gSet 4 (.sh (.lst ds)) env = some (.ok (), env.set 4 (some (.sh (.lst ds)))) := by
      unfold AM.gSet
      rw [if_pos h4]
    have g2 : (ME.pure true : ME Bool) (env.set 4 (some (.sh (.lst ds)))) = some (.ok true, env.set 4 (some (.sh (.lst ds)))) := rfl
    have g3 : AM.mBi AM.gLen (AM.mCons (AM.mVarS 4) AM.mNil) (env.set 4 (some (.sh (.lst ds)))) = some (.ok (.sh (.int (ds.length : Nat))), env.set 4 (some (.sh (.lst ds)))) := by
      have hv : AM.mVarS 4 (env.set 4 (some (.sh (.lst ds)))) = some (.ok (.sh (.lst ds)), env.set 4 (some (.sh (.lst ds)))) := by
        unfold AM.mVarS
        rw [List.getElem?_set_self h4]
      simp only [AM.mBi, AM.mCons, AM.mNil, ME.bind, hv, ME.pure, ME.op, Option.map_some, gLen_lst]
    rw [g1]
    dsimp only
    rw [g2]
    dsimp only
    rw [g3]
    dsimp only
    simp only [List.length_cons] at h
    rw [if_pos (by omega), len_clp h4 L _ (by simp; omega)]
    simp
theorem look_len {env : AM.Env} {L : List (List D)} (h8 : 8 < env.length) (e : env[8]? = some (some (.ol (cells L)))) (hl : L.length ≤ 100000) : AM.mLook 8 lenC env = some (.ok (.ol (L.map fun ds => W.sh (.int (ds.length : Nat)))), env) := by
  obtain ⟨E, hE⟩ : ∃ E, E = (AM.strip env).set 8 (some (.sh (.lst (L.map D.lst)))) := ⟨_, rfl⟩
  have hlen : E.length = env.length := by rw [hE, List.length_set, AM.strip_length]
  have e1 : AM.mItL (AM.mVarS 8) E = some (.ok (L.map D.lst), E) := by
    have hv : AM.mVarS 8 E = some (.ok (.sh (.lst (L.map D.lst))), E) := by
      unfold AM.mVarS
      rw [hE, List.getElem?_set_self (by rw [AM.strip_length]; exact h8)]
    simp only [AM.mItL, ME.bind, hv, ME.op]
    rfl
  have e2 : lenC E = some (.ok (.ol (L.map fun ds => W.sh (.int (ds.length : Nat)))), E) := by
    unfold lenC AM.mCompP
    rw [e1]
    dsimp only
    rw [len_clp (by simp [AM.wipeE]; omega) L [] (by simp; omega)]
    rfl
  unfold AM.mLook
  rw [e]
  simp only [W.toD, cells_toDs, Option.map_some]
  rw [← hE, e2]
  have cl : (W.ol (L.map fun ds => W.sh (.int (ds.length : Nat)))).closed = true := by
    have : ∀ M : List (List D), W.closeds (M.map fun ds => W.sh (.int (ds.length : Nat))) = true := by
      intro M
      induction M with
      | nil => simp [W.closeds]
      | cons x M ih => simp [W.closeds, W.closed, D.imm, ih]
    simp only [W.closed, this]
  dsimp only
  rw [if_pos cl]
abbrev apBody : MS := AM.mDrop (AM.mIn (AM.onL AM.gApp) (AM.lChk AM.isOl (AM.lVar 4)) (AM.mCons (AM.mC (.int 7)) AM.mNil))
section
variable {x0 x1 x2 x3 x5 x6 x7 x9 x10 : Option W}
theorem app_body {us : List W} {x8 : Option W} (h : us.length < 100000) : apBody [x0, x1, x2, x3, some (.ol us), x5, x6, x7, x8, x9, x10] = some (.ok .nx, [x0, x1, x2, x3, some (.ol (us ++ [.sh (.int 7)])), x5, x6, x7, x8, x9, x10]) := by
  have q0 : AM.lChk AM.isOl (AM.lVar 4) [x0, x1, x2, x3, some (.ol us), x5, x6, x7, x8, x9, x10] = some (.ok (4, []), [x0, x1, x2, x3, some (.ol us), x5, x6, x7, x8, x9, x10]) := rfl
  have q1 : AM.mCons (AM.mC (.int 7)) AM.mNil [x0, x1, x2, x3, some (.ol us), x5, x6, x7, x8, x9, x10] = some (.ok [.sh (.int 7)], [x0, x1, x2, x3, some (.ol us), x5, x6, x7, x8, x9, x10]) := rfl
  have q2 : AM.getE [x0, x1, x2, x3, some (.ol us), x5, x6, x7, x8, x9, x10] (4, []) = some (.ol us) := rfl
  have q3 : AM.onL AM.gApp (.ol us) [.sh (.int 7)] = some (.ol (us ++ [.sh (.int 7)]), .sh .non) := by
    show (AM.gApp us [.sh (.int 7)]).map _ = _
    unfold AM.gApp
    simp only [if_pos h]
    rfl
  unfold apBody AM.mDrop ME.bind AM.mIn
  rw [q0]
  simp only [q1, q2, Option.bind_some, q3]
  rfl
theorem app_at {ws1 ws2 us : List W} {o4 : Option W} (h : us.length < 100000) : AM.mAt 8 4 apBody [ws1.length] [x0, x1, x2, x3, o4, x5, x6, x7, some (.ol (ws1 ++ .ol us :: ws2)), x9, x10] = some (.ok (), [x0, x1, x2, x3, none, x5, x6, x7, some (.ol (ws1 ++ .ol (us ++ [.sh (.int 7)]) :: ws2)), x9, x10]) := by
  have kid : (ws1 ++ .ol us :: ws2)[ws1.length]? = some (.ol us) := by
    rw [List.getElem?_append_right (Nat.le_refl _), Nat.sub_self]
    rfl
  have g1 : AM.getP (.ol (ws1 ++ .ol us :: ws2)) [ws1.length] = some (.ol us) := by
    simp only [AM.getP, AM.kids, Option.bind_some, kid]
  have g2 : AM.putP (.ol (ws1 ++ .ol us :: ws2)) [ws1.length] (.ol (us ++ [.sh (.int 7)])) = some (.ol (ws1 ++ .ol (us ++ [.sh (.int 7)]) :: ws2)) := by
    simp only [AM.putP, AM.kids, Option.bind_some, kid, Option.map_some, AM.setKid]
    simp
  unfold AM.mAt
  have r0 : (([x0, x1, x2, x3, o4, x5, x6, x7, some (.ol (ws1 ++ .ol us :: ws2)), x9, x10] : AM.Env).set 4 none)[8]? = some (some (.ol (ws1 ++ .ol us :: ws2))) := rfl
  rw [r0]
  dsimp only
  rw [g1]
  dsimp only
  have r1 : (((([x0, x1, x2, x3, o4, x5, x6, x7, some (.ol (ws1 ++ .ol us :: ws2)), x9, x10] : AM.Env).set 4 none).set 8 none).set 4 (some (.ol us))) = [x0, x1, x2, x3, some (.ol us), x5, x6, x7, none, x9, x10] := rfl
  rw [r1, app_body h]
  dsimp only
  have r2 : ([x0, x1, x2, x3, some (.ol (us ++ [.sh (.int 7)])), x5, x6, x7, none, x9, x10] : AM.Env)[4]? = some (some (.ol (us ++ [.sh (.int 7)]))) := rfl
  rw [r2]
  dsimp only
  rw [g2]
  rfl
theorem app_loop : ∀ (L : List (List D)) (ws1 : List W) (o4 : Option W), (∀ ds ∈ L, ds.length < 100000) → ∃ o4', AM.mLoopB 8 4 apBody ((List.range' ws1.length L.length).map fun k => [k]) [x0, x1, x2, x3, o4, x5, x6, x7, some (.ol (ws1 ++ cells L)), x9, x10] = some (.ok .nx, [x0, x1, x2, x3, o4', x5, x6, x7, some (.ol (ws1 ++ cells (L.map (· ++ [D.int 7])))), x9, x10])
  | [], ws1, o4, _ => ⟨o4, rfl⟩
  | ds :: L, ws1, o4, h => by
    obtain ⟨o4', ih⟩ := app_loop L (ws1 ++ [W.ol ((ds ++ [D.int 7]).map W.sh)]) none fun x hx => h x (by simp [hx])
    refine ⟨o4', ?_⟩
    rw [List.length_cons, List.range'_succ, List.map_cons, AM.mLoopB]
    dsimp only
    have hc : cells (ds :: L) = .ol (ds.map W.sh) :: cells L := rfl
    rw [hc, app_at (by rw [List.length_map]; exact h ds (by simp))]
    dsimp only
    simp only [List.length_append, List.length_cons, List.length_nil, Nat.zero_add, List.append_assoc, List.cons_append, List.nil_append, List.map_append, List.map_cons, List.map_nil] at ih
    rw [ih]
    simp [cells]
theorem app_all {L : List (List D)} {o4 : Option W} (h : ∀ ds ∈ L, ds.length < 100000) : ∃ o4', AM.mForB 8 4 (AM.bLst 8) apBody [x0, x1, x2, x3, o4, x5, x6, x7, some (.ol (cells L)), x9, x10] = some (.ok .nx, [x0, x1, x2, x3, o4', x5, x6, x7, some (.ol (cells (L.map (· ++ [D.int 7])))), x9, x10]) := by
  have e1 : AM.bLst 8 [x0, x1, x2, x3, o4, x5, x6, x7, some (.ol (cells L)), x9, x10] = some ((List.range (cells L).length).map fun k => [k]) := rfl
  have hl : (cells L).length = L.length := by simp [cells]
  obtain ⟨o4', e2⟩ := app_loop (x0 := x0) (x1 := x1) (x2 := x2) (x3 := x3) (x5 := x5) (x6 := x6) (x7 := x7) (x9 := x9) (x10 := x10) L [] o4 h
  refine ⟨o4', ?_⟩
  unfold AM.mForB
  rw [e1]
  dsimp only
  rw [if_pos (by simp), hl, List.range_eq_range']
  exact e2
end
abbrev oneC : ME W := AM.mCompP (AM.mItL (AM.mVarS 9)) (AM.gSet 10) (ME.pure true) (AM.mOp2 AM.gAdd (AM.mVarS 10) (AM.mC (.int 1))) [10]
theorem gAdd_int (a b : Int) : AM.gAdd (.sh (.int a), .sh (.int b)) = some (.sh (.int (a + b))) := rfl
theorem one_clp {env : AM.Env} (h : 10 < env.length) : ∀ (ns : List Int) (acc : List W), acc.length + ns.length ≤ 100000 → AM.mCLP (AM.gSet 10) (ME.pure true) (AM.mOp2 AM.gAdd (AM.mVarS 10) (AM.mC (.int 1))) env (ns.map D.int) acc = some (acc ++ ns.map fun n => W.sh (.int (n + 1)))
  | [], acc, _ => by simp [AM.mCLP]
  | n :: ns, acc, hb => by
    simp only [List.map_cons, AM.mCLP]
    have g1 : AM.gSet 10 (.sh (.int n)) env = some (.ok (), env.set 10 (some (.sh (.int n)))) := by
      unfold AM.gSet
      rw [if_pos h]
    have g2 : (ME.pure true : ME Bool) (env.set 10 (some (.sh (.int n)))) = some (.ok true, env.set 10 (some (.sh (.int n)))) := rfl
    have g3 : AM.mOp2 AM.gAdd (AM.mVarS 10) (AM.mC (.int 1)) (env.set 10 (some (.sh (.int n)))) = some (.ok (.sh (.int (n + 1))), env.set 10 (some (.sh (.int n)))) := by
      have hv : AM.mVarS 10 (env.set 10 (some (.sh (.int n)))) = some (.ok (.sh (.int n)), env.set 10 (some (.sh (.int n)))) := by
        unfold AM.mVarS
        rw [List.getElem?_set_self h]
      have hc : AM.mC (.int 1) (env.set 10 (some (.sh (.int n)))) = some (.ok (.sh (.int 1)), env.set 10 (some (.sh (.int n)))) := rfl
      simp only [AM.mOp2, ME.bind, hv, hc, ME.pure, ME.op, Option.map_some, gAdd_int]
    rw [g1]
    dsimp only
    rw [g2]
    dsimp only
    rw [g3]
    dsimp only
    simp only [List.length_cons] at hb
    rw [if_pos (by omega), one_clp h ns _ (by simp; omega)]
    simp
theorem one_ok {env : AM.Env} {ns : List Int} (h : 10 < env.length) (e : env[9]? = some (some (.sh (.lst (ns.map D.int))))) (hl : ns.length ≤ 100000) : oneC env = some (.ok (.ol (ns.map fun n => W.sh (.int (n + 1)))), env) := by
  have e1 : AM.mItL (AM.mVarS 9) env = some (.ok (ns.map D.int), env) := by
    have hv : AM.mVarS 9 env = some (.ok (.sh (.lst (ns.map D.int))), env) := by
      unfold AM.mVarS
      rw [e]
    simp only [AM.mItL, ME.bind, hv, ME.op]
    rfl
  unfold oneC AM.mCompP
  rw [e1]
  dsimp only
  rw [one_clp (by simp [AM.wipeE]; omega) ns [] (by simp; omega)]
  rfl
end
end LW
set_option maxHeartbeats 4000000
namespace LW
open PySem AM TY
section
variable {E : AM.Env} {m a b : ME W} {x y z : W}
theorem m_mB {m : ME W} {c : Bool} (h : m E = some (.ok (.sh (.bl c)), E)) : AM.mB m E = some (.ok c, E) := by
  simp only [AM.mB, ME.bind, h, ME.op]
  rfl
theorem m_op2 {g : W × W → Option W} (h1 : a E = some (.ok x, E)) (h2 : b E = some (.ok y, E)) (h3 : g (x, y) = some z) : AM.mOp2 g a b E = some (.ok z, E) := by
  simp only [AM.mOp2, ME.bind, h1, h2, ME.pure, ME.op, h3, Option.map_some]
theorem m_op1 {g : W → Option W} (h1 : a E = some (.ok x, E)) (h3 : g x = some z) : AM.mOp1 g a E = some (.ok z, E) := by
  simp only [AM.mOp1, ME.bind, h1, ME.op, h3, Option.map_some]
theorem m_or {p q : ME Bool} {c : Bool} (h1 : p E = some (.ok false, E)) (h2 : q E = some (.ok c, E)) : AM.mOr p q E = some (.ok c, E) := by
  simp only [AM.mOr, ME.bind, h1, Bool.false_eq_true, if_false, h2]
theorem m_not {p : ME Bool} {c : Bool} (h1 : p E = some (.ok c, E)) : AM.mNot p E = some (.ok (!c), E) := by
  simp only [AM.mNot, ME.bind, h1, ME.op, Option.map_some]
theorem m_ifF {p : ME Bool} {s t : MS} (h : p E = some (.ok false, E)) : AM.mIfS p s t E = t E := by
  simp only [AM.mIfS, ME.bind, h, Bool.false_eq_true, if_false]
theorem m_fz {d : D} (h : m E = some (.ok x, E)) (hd : W.toD x = some d) : AM.mFz m E = some (.ok (.sh d), E) := by
  simp only [AM.mFz, ME.bind, h, ME.op, hd, Option.map_some]
theorem m_asg {g : AM.MG} {E' : AM.Env} (h : m E = some (.ok x, E)) (hg : g x E = some (.ok (), E')) : AM.mAsg m g E = some (.ok .nx, E') := by
  simp only [AM.mAsg, ME.bind, h, hg]
  (try rfl)
theorem m_seq {s t : MS} {E' : AM.Env} (h : s E = some (.ok .nx, E')) : AM.mSeq s t E = t E' := by
  unfold AM.mSeq
  rw [h]
theorem m_own {mf : MF} {outs : List (Option W)} (h : m E = some (.ok x, E)) (c : mf [x] = some (.ok y, outs)) : AM.mK0 mf (AM.wOwn m AM.wNil) E = some (.ok y, E) := by
  simp only [AM.mK0, AM.wOwn, ME.bind, h, AM.wNil, ME.pure, AM.callK0, AM.ioOf, Option.map_none, AM.argWs, Option.map_some, c, AM.hasBor, Bool.false_and, Bool.false_eq_true, if_false]
theorem m_bor {mf : MF} {outs : List (Option W)} {i : Nat} {p : W} {dp : D} (h : E[i]? = some (some p)) (hd : W.toD p = some dp) (c : mf [.sh dp] = some (.ok y, outs)) (hc : y.closed = true) : AM.mK0 mf (AM.wBor (AM.lVar i) AM.wNil) E = some (.ok y, E) := by
  have e1 : AM.lVar i E = some (.ok (i, []), E) := by
    unfold AM.lVar
    rw [h]
  have e2 : AM.getE E (i, []) = some p := by
    unfold AM.getE
    rw [h]
    rfl
  have e3 : AM.wBor (AM.lVar i) AM.wNil E = some (.ok [.bor (i, [])], E) := by
    unfold AM.wBor AM.wLoc
    rw [e1]
    rfl
  unfold AM.mK0 ME.bind
  rw [e3]
  simp only [AM.callK0, AM.ioOf, Option.map_none, AM.argWs, e2, Option.bind_some, hd, c, AM.hasBor, AM.resClosed, hc, Bool.true_and, Bool.not_true, Bool.false_eq_true, if_false]
theorem m_bor2 {mf : MF} {outs : List (Option W)} {i j : Nat} {p q : W} {dp dq : D} (h : E[i]? = some (some p)) (hd : W.toD p = some dp) (h' : E[j]? = some (some q)) (hd' : W.toD q = some dq) (c : mf [.sh dp, .sh dq] = some (.ok y, outs)) (hc : y.closed = true) : AM.mK0 mf (AM.wBor (AM.lVar i) (AM.wBor (AM.lVar j) AM.wNil)) E = some (.ok y, E) := by
  have e1 : ∀ {i : Nat} {p : W}, E[i]? = some (some p) → AM.lVar i E = some (.ok (i, []), E) := fun h => by
    unfold AM.lVar
    rw [h]
  have e2 : ∀ {i : Nat} {p : W}, E[i]? = some (some p) → AM.getE E (i, []) = some p := fun h => by
    unfold AM.getE
    rw [h]
    rfl
  have e3 : AM.wBor (AM.lVar i) (AM.wBor (AM.lVar j) AM.wNil) E = some (.ok [.bor (i, []), .bor (j, [])], E) := by
    unfold AM.wBor AM.wLoc
    simp only [e1 h, ME.bind, e1 h', AM.wNil, ME.pure]
  unfold AM.mK0 ME.bind
  rw [e3]
  simp only [AM.callK0, AM.ioOf, Option.map_none, AM.argWs, e2 h, e2 h', Option.bind_some, hd, hd', c, AM.hasBor, AM.resClosed, hc, Bool.true_and, Bool.not_true, Bool.false_eq_true, if_false]
theorem m_varS {i : Nat} {d : D} (h : E[i]? = some (some (.sh d))) : AM.mVarS i E = some (.ok (.sh d), E) := by
  unfold AM.mVarS
  rw [h]
end
theorem gNe_eq {k : Nat} {a b : W} {d : D} (ha : W.toD a = some d) (hb : W.toD b = some d) (h : Pn k d) (hk : k ≤ 64) : AM.gNe (a, b) = some (.sh (.bl false)) := by
  obtain ⟨x, w1, _, cl⟩ := wPd_pn h hk
  have wa : wPd a = some x := by
    unfold wPd at w1 ⊢
    rw [ha]
    exact w1
  have wb : wPd b = some x := by
    unfold wPd at w1 ⊢
    rw [hb]
    exact w1
  unfold AM.gNe AM.gDD
  dsimp only
  rw [wa, wb]
  simp [AM.fNe, PySem.SeqAt.eqv_refl x cl]
structure Kp (fu : Nat) (p : W) (dp : D) (S T : Str) (wr : W) : Prop where
  pd : W.toD p = some dp
  tx : ∃ o, m__law_paper_text [.sh dp] = some (.ok (.sh (.str S)), o)
  sw : ∃ o, m_show_paper [.sh dp] = some (.ok (.sh (.str S)), o)
  pS : Pn 0 (.str S)
  rd : ∃ o, m_read_paper [.sh (.str S)] = some (.ok wr, o)
  wd : W.toD wr = some dp
  kd : ∃ o, m__law_kinds 8 [.sh dp, .sh dp] = some (.ok (.sh (.bl true)), o)
  pn : ∃ k, k ≤ 60 ∧ Pn k dp
  ow : ∃ k, k ≤ 60 ∧ Ow (k + 1) wr
  ct : cntW wr ≤ 100000
  fl : cntW wr < fu
  nl : (lensW wr).length ≤ 100000 ∧ ∀ n ∈ lensW wr, n < 100000
  st : AM.gStrY [p] = some (.sh (.str T))
  pT : Pn 0 (.str T)
  r12 : ∃ o, m_read_paper [.sh (.str "times 1 2")] = some (.ok (.ot [.ol [.sh (.int 1), .sh (.int 2)]]), o)
noncomputable abbrev t64 {fu : Nat} : MS := (AM.mSeq (AM.mAsg (AM.mFz (AM.mK0 m_show_paper (AM.wBor (AM.lVar 0) AM.wNil))) (AM.gSet 5))
    (AM.mSeq (AM.mAsg (AM.mK0 m_read_paper (AM.wOwn (AM.mVarS 1) AM.wNil)) (AM.gSet 6))
    (AM.mSeq (AM.mIfS (AM.mOr (AM.mNot (AM.mB (AM.mOp1 (AM.gIs "str") (AM.mVarS 5)))) (AM.mOr (AM.mB (AM.mOp2 AM.gNe (AM.mVarS 5) (AM.mVarS 1))) (AM.mOr (AM.mB (AM.mOp2 AM.gNe (AM.mVar 6) (AM.mVar 0))) (AM.mNot (AM.mB (AM.mK0 (m__law_kinds 8) (AM.wBor (AM.lVar 6) (AM.wBor (AM.lVar 0) AM.wNil)))))))) (AM.mRet (AM.mC (.bl false))) AM.mNx)
    (AM.mSeq (AM.mAsg (AM.mK0 m_read_paper (AM.wOwn (AM.mVarS 1) AM.wNil)) (AM.gSet 7))
    (AM.mSeq (AM.mForO (AM.mDis 7 (AM.mK0 (m__law_lists fu) (AM.wOwn (AM.mVarS 7) AM.wNil))) (AM.gSet 4) clBody)
    (AM.mSeq (AM.mIfS (AM.mOr (AM.mB (AM.mOp2 AM.gNe (AM.mVar 6) (AM.mVar 0))) (AM.mB (AM.mOp2 AM.gNe (AM.mK0 m_read_paper (AM.wOwn (AM.mC (.str "times 1 2")) AM.wNil)) (AM.mTup (AM.mCons (AM.mLst (AM.mCons (AM.mC (.int 1)) (AM.mCons (AM.mC (.int 2)) AM.mNil))) AM.mNil))))) (AM.mRet (AM.mC (.bl false))) AM.mNx)
    (AM.mSeq (AM.mAsg (AM.mDis 6 (AM.mK0 (m__law_lists fu) (AM.wOwn (AM.mVarS 6) AM.wNil))) (AM.gSet 8))
    (AM.mSeq (AM.mAsg (AM.mFz (AM.mLook 8 lenC)) (AM.gSet 9))
    (AM.mSeq (AM.mForB 8 4 (AM.bLst 8) apBody)
    (AM.mIfS (AM.mOr (AM.mB (AM.mOp2 AM.gNe (AM.mLook 8 lenC) oneC)) (AM.mB (AM.mOp2 AM.gNe (AM.mBi AM.gStrY (AM.mCons (AM.mVar 0) AM.mNil)) (AM.mVarS 2)))) (AM.mRet (AM.mC (.bl false))) AM.mNx))))))))))
theorem ints_toDs (ns : List Int) : W.toDs (ns.map fun n => W.sh (.int n)) = some (ns.map D.int) := by
  have : (ns.map fun n => W.sh (.int n)) = (ns.map D.int).map W.sh := by simp [Function.comp_def]
  rw [this, toDs_shL]
theorem pn_intsL (ns : List Int) : Pn 1 (.lst (ns.map D.int)) := pn_lst (k := 0) fun d hd => by
  obtain ⟨z, _, rfl⟩ := List.mem_map.mp hd
  exact pn_int z
theorem turn64 {fu : Nat} {p : W} {dp : D} {S T : Str} {wr : W} (h : Kp fu p dp S T wr) {o3 o4 o5 o6 o7 o8 o9 o10 : Option W} :
    ∃ o4' o5' o6' o7' o8' o9' o10', t64 (fu := fu) [some p, some (.sh (.str S)), some (.sh (.str T)), o3, o4, o5, o6, o7, o8, o9, o10] = some (.ok .nx, [some p, some (.sh (.str S)), some (.sh (.str T)), o3, o4', o5', o6', o7', o8', o9', o10']) := by
  obtain ⟨ot, htx⟩ := h.tx
  obtain ⟨os, hsw⟩ := h.sw
  obtain ⟨or, hrd⟩ := h.rd
  obtain ⟨ok, hkd⟩ := h.kd
  obtain ⟨o12, hr12⟩ := h.r12
  obtain ⟨kn, hkn, hpn⟩ := h.pn
  obtain ⟨kw, hkw, how⟩ := h.ow
  obtain ⟨hnl, hnb⟩ := h.nl
  obtain ⟨c4, hclr⟩ := clr_loop (x0 := some p) (x1 := some (.sh (.str S))) (x2 := some (.sh (.str T))) (x3 := o3) (x5 := some (.sh (.str S))) (x6 := some wr) (x7 := none) (x8 := o8) (x9 := o9) (x10 := o10) (lensW wr) o4
  obtain ⟨L, hL⟩ : ∃ L : List (List D), L = (lensW wr).map fun n => List.replicate n D.any := ⟨_, rfl⟩
  have hLl : L.length = (lensW wr).length := by rw [hL, List.length_map]
  have hcel : (lensW wr).map AM.anyL = cells L := by rw [hL, any_cells]
  obtain ⟨ns, hns⟩ : ∃ ns : List Int, ns = L.map fun ds => ((ds.length : Nat) : Int) := ⟨_, rfl⟩
  have hm : (L.map fun ds => W.sh (.int (ds.length : Nat))) = ns.map fun n => W.sh (.int n) := by rw [hns, List.map_map]; rfl
  obtain ⟨a4, happ⟩ := app_all (x0 := some p) (x1 := some (.sh (.str S))) (x2 := some (.sh (.str T))) (x3 := o3) (x5 := some (.sh (.str S))) (x6 := none) (x7 := none) (x9 := some (.sh (.lst (ns.map D.int)))) (x10 := o10) (L := L) (o4 := c4) (fun ds hd => by
    rw [hL] at hd
    obtain ⟨n, hn, rfl⟩ := List.mem_map.mp hd
    rw [List.length_replicate]
    exact hnb n hn)
  refine ⟨a4, some (.sh (.str S)), none, none, some (.ol (cells (L.map (· ++ [D.int 7])))), some (.sh (.lst (ns.map D.int))), o10, ?_⟩
  unfold t64
  refine (m_seq (m_asg (m_fz (m_bor (i := 0) (p := p) (dp := dp) (y := .sh (.str S)) rfl h.pd hsw rfl) rfl) (E' := [some p, some (.sh (.str S)), some (.sh (.str T)), o3, o4, some (.sh (.str S)), o6, o7, o8, o9, o10]) rfl)).trans ?_
  refine (m_seq (m_asg (m_own (x := .sh (.str S)) (y := wr) rfl hrd) (E' := [some p, some (.sh (.str S)), some (.sh (.str T)), o3, o4, some (.sh (.str S)), some wr, o7, o8, o9, o10]) rfl)).trans ?_
  refine (m_seq (E' := [some p, some (.sh (.str S)), some (.sh (.str T)), o3, o4, some (.sh (.str S)), some wr, o7, o8, o9, o10]) ((m_ifF (m_or (m_not (c := true) (m_mB (m_op1 (x := .sh (.str S)) rfl rfl))) (m_or (m_mB (m_op2 (x := .sh (.str S)) (y := .sh (.str S)) rfl rfl (gNe_eq rfl rfl h.pS (by decide)))) (m_or (m_mB (m_op2 (x := wr) (y := p) rfl rfl (gNe_eq h.wd h.pd hpn (by omega)))) (m_not (c := true) (m_mB (m_bor2 (i := 6) (j := 0) (p := wr) (q := p) rfl h.wd rfl h.pd hkd rfl))))))).trans rfl)).trans ?_
  refine (m_seq (m_asg (m_own (x := .sh (.str S)) (y := wr) rfl hrd) (E' := [some p, some (.sh (.str S)), some (.sh (.str T)), o3, o4, some (.sh (.str S)), some wr, some wr, o8, o9, o10]) rfl)).trans ?_
  have f1 : AM.mForO (AM.mDis 7 (AM.mK0 (m__law_lists fu) (AM.wOwn (AM.mVarS 7) AM.wNil))) (AM.gSet 4) clBody [some p, some (.sh (.str S)), some (.sh (.str T)), o3, o4, some (.sh (.str S)), some wr, some wr, o8, o9, o10] = some (.ok .nx, [some p, some (.sh (.str S)), some (.sh (.str T)), o3, c4, some (.sh (.str S)), some wr, none, o8, o9, o10]) := by
    unfold AM.mForO ME.bind
    rw [dis64 (fu := fu) (by omega) how h.ct h.fl rfl]
    exact hclr
  refine (m_seq f1).trans ?_
  have tt : AM.mTup (AM.mCons (AM.mLst (AM.mCons (AM.mC (.int 1)) (AM.mCons (AM.mC (.int 2)) AM.mNil))) AM.mNil) [some p, some (.sh (.str S)), some (.sh (.str T)), o3, c4, some (.sh (.str S)), some wr, none, o8, o9, o10] = some (.ok (.ot [.ol [.sh (.int 1), .sh (.int 2)]]), [some p, some (.sh (.str S)), some (.sh (.str T)), o3, c4, some (.sh (.str S)), some wr, none, o8, o9, o10]) := rfl
  have g12 : AM.gNe (.ot [.ol [.sh (.int 1), .sh (.int 2)]], .ot [.ol [.sh (.int 1), .sh (.int 2)]]) = some (.sh (.bl false)) := by kernel_rfl
  refine (m_seq (E' := [some p, some (.sh (.str S)), some (.sh (.str T)), o3, c4, some (.sh (.str S)), some wr, none, o8, o9, o10]) ((m_ifF (m_or (m_mB (m_op2 (x := wr) (y := p) rfl rfl (gNe_eq h.wd h.pd hpn (by omega)))) (m_mB (m_op2 (m_own (x := .sh (.str "times 1 2")) rfl hr12) tt g12)))).trans rfl)).trans ?_
  have f2 : AM.mAsg (AM.mDis 6 (AM.mK0 (m__law_lists fu) (AM.wOwn (AM.mVarS 6) AM.wNil))) (AM.gSet 8) [some p, some (.sh (.str S)), some (.sh (.str T)), o3, c4, some (.sh (.str S)), some wr, none, o8, o9, o10] = some (.ok .nx, [some p, some (.sh (.str S)), some (.sh (.str T)), o3, c4, some (.sh (.str S)), none, none, some (.ol (cells L)), o9, o10]) := by
    unfold AM.mAsg ME.bind
    rw [dis64 (fu := fu) (by omega) how h.ct h.fl rfl, hcel]
    rfl
  refine (m_seq f2).trans ?_
  have k1 := look_len (env := [some p, some (.sh (.str S)), some (.sh (.str T)), o3, c4, some (.sh (.str S)), none, none, some (.ol (cells L)), o9, o10]) (L := L) (by simp) rfl (by omega)
  rw [hm] at k1
  refine (m_seq (m_asg (m_fz (d := .lst (ns.map D.int)) k1 (by simp only [W.toD, ints_toDs, Option.map_some])) (E' := [some p, some (.sh (.str S)), some (.sh (.str T)), o3, c4, some (.sh (.str S)), none, none, some (.ol (cells L)), some (.sh (.lst (ns.map D.int))), o10]) rfl)).trans ?_
  refine (m_seq happ).trans ?_
  have k2 := look_len (env := [some p, some (.sh (.str S)), some (.sh (.str T)), o3, a4, some (.sh (.str S)), none, none, some (.ol (cells (L.map (· ++ [D.int 7])))), some (.sh (.lst (ns.map D.int))), o10]) (L := L.map (· ++ [D.int 7])) (by simp) rfl (by simp; omega)
  have hm2 : ((L.map (· ++ [D.int 7])).map fun ds => W.sh (.int (ds.length : Nat))) = (ns.map (· + 1)).map fun n => W.sh (.int n) := by
    rw [hns, List.map_map, List.map_map, List.map_map]
    refine List.map_congr_left fun ds _ => ?_
    simp
  rw [hm2] at k2
  have k3 := one_ok (env := [some p, some (.sh (.str S)), some (.sh (.str T)), o3, a4, some (.sh (.str S)), none, none, some (.ol (cells (L.map (· ++ [D.int 7])))), some (.sh (.lst (ns.map D.int))), o10]) (ns := ns) (by simp) rfl (by rw [hns, List.length_map]; omega)
  have hm3 : (ns.map fun n => W.sh (.int (n + 1))) = (ns.map (· + 1)).map fun n => W.sh (.int n) := by rw [List.map_map]; rfl
  rw [hm3] at k3
  have td : W.toD (.ol ((ns.map (· + 1)).map fun n => W.sh (.int n))) = some (.lst ((ns.map (· + 1)).map D.int)) := by simp only [W.toD, ints_toDs, Option.map_some]
  have k4 : AM.mBi AM.gStrY (AM.mCons (AM.mVar 0) AM.mNil) [some p, some (.sh (.str S)), some (.sh (.str T)), o3, a4, some (.sh (.str S)), none, none, some (.ol (cells (L.map (· ++ [D.int 7])))), some (.sh (.lst (ns.map D.int))), o10] = some (.ok (.sh (.str T)), [some p, some (.sh (.str S)), some (.sh (.str T)), o3, a4, some (.sh (.str S)), none, none, some (.ol (cells (L.map (· ++ [D.int 7])))), some (.sh (.lst (ns.map D.int))), o10]) := by
    have hc : AM.mCons (AM.mVar 0) AM.mNil [some p, some (.sh (.str S)), some (.sh (.str T)), o3, a4, some (.sh (.str S)), none, none, some (.ol (cells (L.map (· ++ [D.int 7])))), some (.sh (.lst (ns.map D.int))), o10] = some (.ok [p], [some p, some (.sh (.str S)), some (.sh (.str T)), o3, a4, some (.sh (.str S)), none, none, some (.ol (cells (L.map (· ++ [D.int 7])))), some (.sh (.lst (ns.map D.int))), o10]) := rfl
    unfold AM.mBi ME.bind
    rw [hc]
    simp only [ME.op, h.st, Option.map_some]
  exact (m_ifF (m_or (m_mB (m_op2 k2 k3 (gNe_eq td td (pn_intsL _) (by decide)))) (m_mB (m_op2 (x := .sh (.str T)) (y := .sh (.str T)) k4 rfl (gNe_eq rfl rfl h.pT (by decide)))))).trans rfl
end LW
set_option maxHeartbeats 4000000
namespace LW
open PySem AM TY
def Kd : Nat → D → Prop
  | 0, d => (∃ i, d = .int i) ∨ ∃ s, d = .str s
  | k + 1, d => Kd k d ∨ (∃ ds, d = .lst ds ∧ ds.length ≤ 100000 ∧ ∀ x ∈ ds, Kd k x) ∨ ∃ ds, d = .tup ds ∧ ds.length ≤ 100000 ∧ ∀ x ∈ ds, Kd k x
theorem clp_no64 {g : AM.MG} {c : ME Bool} {e : ME W} {env0 : AM.Env} : ∀ {ds : List D} {acc : List W}, (∀ d ∈ ds, ∃ e1 e2, g (.sh d) env0 = some (.ok (), e1) ∧ c e1 = some (.ok false, e2)) → AM.mCLP g c e env0 ds acc = some acc
  | [], acc, _ => rfl
  | d :: ds, acc, h => by
    obtain ⟨e1, e2, h1, h2⟩ := h d (by simp)
    rw [AM.mCLP, h1]
    dsimp only
    rw [h2]
    exact clp_no64 fun y hy => h y (by simp [hy])
theorem gEq_nil : AM.gEq (.ol [], .ol []) = some (.sh (.bl true)) := by kernel_rfl
theorem zip_self : ∀ ds : List D, (ds.zip ds).map (fun p => D.tup [p.1, p.2]) = ds.map fun x => D.tup [x, x]
  | [] => rfl
  | d :: ds => by simp [zip_self ds]
theorem kinds_fn {f : MF} {d : D} {o2 o3 : Option W} (h : b__law_kinds f [some (.sh d), some (.sh d), none, none] = some (.ok (.rt (.sh (.bl true))), [some (.sh d), some (.sh d), o2, o3])) : AM.fnM 2 4 [0, 1] (b__law_kinds f) [.sh d, .sh d] = some (.ok (.sh (.bl true)), [none, none]) := by
  unfold AM.fnM
  rw [if_pos (by rfl)]
  have e6 : ([W.sh d, W.sh d].map some ++ List.replicate (4 - 2) none : AM.Env) = [some (.sh d), some (.sh d), none, none] := rfl
  rw [e6, h]
  rfl
theorem kinds_leaf {f : MF} {d : D} (h : (∃ i, d = .int i) ∨ ∃ s, d = .str s) : b__law_kinds f [some (.sh d), some (.sh d), none, none] = some (.ok (.rt (.sh (.bl true))), [some (.sh d), some (.sh d), none, none]) := by
  have hb : ∀ b : Bool, AM.gEq (.sh (.bl b), .sh (.bl b)) = some (.sh (.bl true)) := fun b => by cases b <;> kernel_rfl
  rcases h with ⟨i, rfl⟩ | ⟨s, rfl⟩
  · have c1 : AM.mB (AM.mOp1 (AM.gIs2 "list" "tuple") (AM.mVarS 1)) [some (.sh (.int i)), some (.sh (.int i)), none, none] = some (.ok false, [some (.sh (.int i)), some (.sh (.int i)), none, none]) := rfl
    have c2 : AM.mOp1 (AM.gIs "str") (AM.mVarS 0) [some (.sh (.int i)), some (.sh (.int i)), none, none] = some (.ok (.sh (.bl false)), [some (.sh (.int i)), some (.sh (.int i)), none, none]) := rfl
    have c3 : AM.mOp1 (AM.gIs "str") (AM.mVarS 1) [some (.sh (.int i)), some (.sh (.int i)), none, none] = some (.ok (.sh (.bl false)), [some (.sh (.int i)), some (.sh (.int i)), none, none]) := rfl
    have c4 := m_op2 c2 c3 (hb false)
    have c5 : m__law_whole [.sh (.int i)] = some (.ok (.sh (.bl true)), [none]) := rfl
    have c6 : AM.mFz (AM.mK0 m__law_whole (AM.wOwn (AM.mVarS 0) AM.wNil)) [some (.sh (.int i)), some (.sh (.int i)), none, none] = some (.ok (.sh (.bl true)), [some (.sh (.int i)), some (.sh (.int i)), none, none]) := m_fz (m_own (x := .sh (.int i)) rfl c5) rfl
    unfold b__law_kinds
    refine (m_seq (E' := [some (.sh (.int i)), some (.sh (.int i)), none, none]) ((m_ifF c1).trans rfl)).trans ?_
    simp only [AM.mRet, AM.mAndV, AM.mOrV, AM.mFz, ME.bind, c4, c3]
    simp only [AM.mFz] at c6
    simp only [AM.mK0, AM.wOwn, AM.mVarS]
    rfl
  · have c1 : AM.mB (AM.mOp1 (AM.gIs2 "list" "tuple") (AM.mVarS 1)) [some (.sh (.str s)), some (.sh (.str s)), none, none] = some (.ok false, [some (.sh (.str s)), some (.sh (.str s)), none, none]) := rfl
    have c2 : AM.mOp1 (AM.gIs "str") (AM.mVarS 0) [some (.sh (.str s)), some (.sh (.str s)), none, none] = some (.ok (.sh (.bl true)), [some (.sh (.str s)), some (.sh (.str s)), none, none]) := rfl
    have c3 : AM.mOp1 (AM.gIs "str") (AM.mVarS 1) [some (.sh (.str s)), some (.sh (.str s)), none, none] = some (.ok (.sh (.bl true)), [some (.sh (.str s)), some (.sh (.str s)), none, none]) := rfl
    have c4 := m_op2 c2 c3 (hb true)
    unfold b__law_kinds
    refine (m_seq (E' := [some (.sh (.str s)), some (.sh (.str s)), none, none]) ((m_ifF c1).trans rfl)).trans ?_
    simp only [AM.mRet, AM.mAndV, AM.mOrV, AM.mFz, ME.bind, c4, c3]
    rfl
theorem kinds_node {f : MF} {d : D} {b : Bool} {ds : List D} (hz : AM.gZipQ [.sh d, .sh d] = some (ds.map fun x => D.tup [x, x])) (h1 : AM.gIs "list" (.sh d) = some (.sh (.bl b))) (h2 : AM.gIs2 "list" "tuple" (.sh d) = some (.sh (.bl true))) (hf : ∀ x ∈ ds, f [.sh x, .sh x] = some (.ok (.sh (.bl true)), [none, none])) : b__law_kinds f [some (.sh d), some (.sh d), none, none] = some (.ok (.rt (.sh (.bl true))), [some (.sh d), some (.sh d), none, none]) := by
  have hb : ∀ b : Bool, AM.gNe (.sh (.bl b), .sh (.bl b)) = some (.sh (.bl false)) := fun b => by cases b <;> kernel_rfl
  obtain ⟨E, hE⟩ : ∃ E : AM.Env, E = [some (.sh d), some (.sh d), none, none] := ⟨_, rfl⟩
  have v0 : AM.mVarS 0 E = some (.ok (.sh d), E) := by rw [hE]; rfl
  have v1 : AM.mVarS 1 E = some (.ok (.sh d), E) := by rw [hE]; rfl
  have c1 : AM.mB (AM.mOp1 (AM.gIs2 "list" "tuple") (AM.mVarS 1)) E = some (.ok true, E) := m_mB (m_op1 v1 h2)
  have c2 : AM.mB (AM.mOp1 (AM.gIs2 "list" "tuple") (AM.mVarS 0)) E = some (.ok true, E) := m_mB (m_op1 v0 h2)
  have c3 : AM.mOr (AM.mB (AM.mOp2 AM.gNe (AM.mOp1 (AM.gIs "list") (AM.mVarS 0)) (AM.mOp1 (AM.gIs "list") (AM.mVarS 1)))) (AM.mNot (AM.mB (AM.mOp1 (AM.gIs2 "list" "tuple") (AM.mVarS 0)))) E = some (.ok false, E) := m_or (m_mB (m_op2 (m_op1 v0 h1) (m_op1 v1 h1) (hb b))) (m_not (c := true) c2)
  have c4 : AM.mItR AM.gZipQ (AM.mCons (AM.mVarS 0) (AM.mCons (AM.mVarS 1) AM.mNil)) E = some (.ok (ds.map fun x => D.tup [x, x]), E) := by
    simp only [AM.mItR, AM.mCons, AM.mNil, ME.bind, v0, v1, ME.pure, ME.op, Option.map_some, hz]
  have c5 : AM.mCompP (AM.mItR AM.gZipQ (AM.mCons (AM.mVarS 0) (AM.mCons (AM.mVarS 1) AM.mNil))) (AM.gUn 2 (AM.gsCons (AM.gSet 2) (AM.gsCons (AM.gSet 3) AM.gsNil))) (AM.mNot (AM.mB (AM.mK0 f (AM.wOwn (AM.mVarS 2) (AM.wOwn (AM.mVarS 3) AM.wNil))))) (AM.mC (.int 1)) [2, 3] E = some (.ok (.ol []), E) := by
    unfold AM.mCompP
    rw [c4]
    dsimp only
    rw [clp_no64 fun y hy => ?_]
    · rfl
    · obtain ⟨x, hx, rfl⟩ := List.mem_map.mp hy
      refine ⟨[some (.sh d), some (.sh d), some (.sh x), some (.sh x)], [some (.sh d), some (.sh d), some (.sh x), some (.sh x)], by rw [hE]; rfl, ?_⟩
      refine m_not (c := true) (m_mB ?_)
      have q2 : AM.mVarS 2 [some (.sh d), some (.sh d), some (.sh x), some (.sh x)] = some (.ok (.sh x), [some (.sh d), some (.sh d), some (.sh x), some (.sh x)]) := rfl
      have q3 : AM.mVarS 3 [some (.sh d), some (.sh d), some (.sh x), some (.sh x)] = some (.ok (.sh x), [some (.sh d), some (.sh d), some (.sh x), some (.sh x)]) := rfl
      simp only [AM.mK0, AM.wOwn, ME.bind, q2, q3, AM.wNil, ME.pure, AM.callK0, AM.ioOf, Option.map_none, AM.argWs, Option.map_some, hf x hx, AM.hasBor, Bool.false_and, Bool.false_eq_true, if_false]
  have c6 : AM.mLst AM.mNil E = some (.ok (.ol []), E) := rfl
  rw [← hE]
  have r1 : AM.mRet (AM.mOp2 AM.gEq (AM.mCompP (AM.mItR AM.gZipQ (AM.mCons (AM.mVarS 0) (AM.mCons (AM.mVarS 1) AM.mNil))) (AM.gUn 2 (AM.gsCons (AM.gSet 2) (AM.gsCons (AM.gSet 3) AM.gsNil))) (AM.mNot (AM.mB (AM.mK0 f (AM.wOwn (AM.mVarS 2) (AM.wOwn (AM.mVarS 3) AM.wNil))))) (AM.mC (.int 1)) [2, 3]) (AM.mLst AM.mNil)) E = some (.ok (.rt (.sh (.bl true))), E) := by
    simp only [AM.mRet, ME.bind, m_op2 c5 c6 gEq_nil]
    rfl
  unfold b__law_kinds AM.mSeq
  simp only [AM.mIfS, ME.bind, c1, if_true, c3, Bool.false_eq_true, if_false]
  simp only [AM.mNx, ME.pure, r1]
theorem kinds64 : ∀ {k j : Nat} {d : D}, Kd k d → m__law_kinds (j + k + 1) [.sh d, .sh d] = some (.ok (.sh (.bl true)), [none, none])
  | 0, j, d, h => kinds_fn (kinds_leaf h)
  | k + 1, j, d, h => by
    rcases h with h | ⟨ds, rfl, hl, h⟩ | ⟨ds, rfl, hl, h⟩
    · have := kinds64 (k := k) (j := j + 1) h
      rw [show j + (k + 1) + 1 = j + 1 + k + 1 by omega]
      exact this
    · exact kinds_fn (kinds_node (ds := ds) (b := true) (by unfold AM.gZipQ; simp [AM.wEls, AM.wTEls, zip_self]) rfl rfl fun x hx => kinds64 (k := k) (j := j) (h x hx))
    · exact kinds_fn (kinds_node (ds := ds) (b := false) (by unfold AM.gZipQ; simp [AM.wEls, AM.wTEls, zip_self]) rfl rfl fun x hx => kinds64 (k := k) (j := j) (h x hx))
end LW
set_option maxHeartbeats 4000000
namespace LW
open PySem AM TY
abbrev fstC : ME W := AM.mSl (AM.mCompP (AM.mItT (AM.mVarS 0)) (AM.gSet 4) (AM.mB (AM.mOp1 (AM.gIs "list") (AM.mVarS 4))) (AM.mVarS 4) [4]) AM.mNoPart (AM.mPart (AM.mC (.int 1)))
def isL : D → Bool
  | .lst _ => true
  | .la _ _ => true
  | _ => false
theorem fst_clp {env : AM.Env} (h4 : 4 < env.length) : ∀ (ds : List D) (acc : List D), (∀ d ∈ ds, AM.gIs "list" (.sh d) = some (.sh (.bl (isL d)))) → acc.length + ds.length ≤ 100000 → AM.mCLP (AM.gSet 4) (AM.mB (AM.mOp1 (AM.gIs "list") (AM.mVarS 4))) (AM.mVarS 4) env ds (acc.map W.sh) = some ((acc ++ ds.filter isL).map W.sh)
  | [], acc, _, _ => by simp [AM.mCLP]
  | d :: ds, acc, h, hb => by
    simp only [List.length_cons] at hb
    have g1 : AM.gSet 4 (.sh d) env = some (.ok (), env.set 4 (some (.sh d))) := by
      unfold AM.gSet
      rw [if_pos h4]
    have hv : AM.mVarS 4 (env.set 4 (some (.sh d))) = some (.ok (.sh d), env.set 4 (some (.sh d))) := m_varS (List.getElem?_set_self h4)
    have g2 : AM.mB (AM.mOp1 (AM.gIs "list") (AM.mVarS 4)) (env.set 4 (some (.sh d))) = some (.ok (isL d), env.set 4 (some (.sh d))) := m_mB (m_op1 hv (h d (by simp)))
    rw [AM.mCLP, g1]
    dsimp only
    rw [g2]
    cases c : isL d with
    | true =>
      dsimp only
      rw [hv]
      dsimp only
      rw [if_pos (by simp; omega)]
      have := fst_clp h4 ds (acc ++ [d]) (fun x hx => h x (by simp [hx])) (by simp; omega)
      simp only [List.map_append, List.map_cons, List.map_nil, List.append_assoc, List.cons_append, List.nil_append] at this
      rw [this]
      simp [c]
    | false =>
      dsimp only
      rw [fst_clp h4 ds acc (fun x hx => h x (by simp [hx])) (by omega)]
      simp [c]
theorem cutL_one {α : Type} (xs : List α) : cutL xs none (some 1) = xs.take 1 := by
  unfold cutL
  rw [HT.sIx_none, show ((some 1 : Option Int)) = some ((1 : Nat) : Int) from rfl, HT.sIx_nat]
  cases xs with
  | nil => simp
  | cons x xs => simp
theorem fst_mc {E : AM.Env} {ds : List D} (h0 : E[0]? = some (some (.sh (.tup ds)))) (hl : 4 < E.length) (hd : ∀ d ∈ ds, AM.gIs "list" (.sh d) = some (.sh (.bl (isL d)))) (hn : ds.length ≤ 100000) : fstC E = some (.ok (.ol (((ds.filter isL).take 1).map W.sh)), E) := by
  have e1 : AM.mItT (AM.mVarS 0) E = some (.ok ds, E) := by
    simp only [AM.mItT, ME.bind, m_varS h0, ME.op]
    rfl
  have e2 : AM.mCompP (AM.mItT (AM.mVarS 0)) (AM.gSet 4) (AM.mB (AM.mOp1 (AM.gIs "list") (AM.mVarS 4))) (AM.mVarS 4) [4] E = some (.ok (.ol ((ds.filter isL).map W.sh)), E) := by
    unfold AM.mCompP
    rw [e1]
    dsimp only
    have := fst_clp (env := AM.wipeE E [4]) (by simp [AM.wipeE]; omega) ds [] hd (by simp; omega)
    simp only [List.map_nil, List.nil_append] at this
    rw [this]
    rfl
  have e3 : AM.gSl (.ol ((ds.filter isL).map W.sh), (none, some 1)) = some (.ol (((ds.filter isL).take 1).map W.sh)) := by
    show (AM.wEls (.ol ((ds.filter isL).map W.sh))).map _ = _
    simp only [AM.wEls, shsOf_mapL, Option.map_some, cutL_one]
  have e4 : AM.mPart (AM.mC (.int 1)) E = some (.ok (some 1), E) := rfl
  simp only [fstC, AM.mSl, ME.bind, e2, AM.mNoPart, ME.pure, e4, ME.op, e3, Option.map_some]
abbrev nl (xs : List Int) : W := .ol (xs.map fun i => W.sh (.int i))
theorem la_ints : ∀ (xs : List Int) (as : List PySem.Addr), AM.laWs (xs.map fun i => W.sh (.int i)) as = some (xs.map D.int, as)
  | [], as => by simp [AM.laWs]
  | x :: xs, as => by simp [AM.laWs, AM.laW, la_ints xs as]
theorem nL_ints : ∀ xs : List Int, AM.nLs (xs.map fun i => W.sh (.int i)) = 0
  | [] => by simp [AM.nLs]
  | x :: xs => by simp [AM.nLs, AM.nL, nL_ints xs]
theorem pl_ints : ∀ xs : List Int, AM.plWs (xs.map fun i => W.sh (.int i)) = true
  | [] => by simp [AM.plWs]
  | x :: xs => by simp [AM.plWs, AM.plW, pl_ints xs]
theorem fst_no {r : Nat} {mc : ME W} {env : AM.Env} {w : W} (h : AM.nL w = 0) : ¬ AM.FstOk r mc env w true := by
  rintro ⟨_, k⟩
  obtain ⟨d, ds, e', _, _, h3⟩ := k [] (by rw [h]; rfl) List.nodup_nil
  exact h3 rfl rfl
theorem fst_ok {env : AM.Env} {ws : List W} {b : Bool} (hl : 4 < env.length) (hp : AM.plWs ws = true) (h : ∀ as : List PySem.Addr, as.length = AM.nLs ws → ∃ (d ds : List D), AM.laWs ws as = some (d, []) ∧ (∀ x ∈ d, AM.gIs "list" (.sh x) = some (.sh (.bl (isL x)))) ∧ d.length ≤ 100000 ∧ (d.filter isL).take 1 = (if b = true then (as.take 1).map (fun a => D.la a ds) else []) ∧ (b = true → as ≠ [])) : AM.FstOk 0 fstC env (.ot ws) b := by
  refine ⟨by simpa [AM.plW] using hp, fun as has _ => ?_⟩
  obtain ⟨d, ds, h1, h2, h3, h4, h5⟩ := h as (by simpa [AM.nL] using has)
  refine ⟨.tup d, ds, (AM.strip env).set 0 (some (.sh (.tup d))), by simp [AM.laW, h1], (fst_mc (ds := d) (List.getElem?_set_self (by rw [AM.strip_length]; omega)) (by rw [List.length_set, AM.strip_length]; exact hl) h2 h3).trans ?_, h5⟩
  rw [h4]
  cases b <;> simp [Function.comp_def]
abbrev fB1 : MS := AM.mAsg (AM.mOp2 AM.gAdd (AM.mIx (AM.mVar 4) (AM.mC (.int 0))) (AM.mC (.int 1))) (AM.gSetI (AM.lVar 4) (AM.mC (.int 0)))
abbrev fB2 : MS := AM.mIfS (AM.mB (AM.mOp2 AM.gNe (AM.mK0 m_show_paper (AM.wBor (AM.lVar 0) AM.wNil)) (AM.mK0 m__law_paper_text (AM.wBor (AM.lVar 0) AM.wNil)))) (AM.mRet (AM.mC (.bl false))) AM.mNx
section
variable {x0 x1 x2 x3 o4 x5 x6 x7 x8 x9 x10 : Option W}
theorem fB1_ok {x : Int} {xs : List Int} : fB1 [x0, x1, x2, x3, some (nl (x :: xs)), x5, x6, x7, x8, x9, x10] = some (.ok .nx, [x0, x1, x2, x3, some (nl ((x + 1) :: xs)), x5, x6, x7, x8, x9, x10]) := by
  have e1 : AM.mIx (AM.mVar 4) (AM.mC (.int 0)) [x0, x1, x2, x3, some (nl (x :: xs)), x5, x6, x7, x8, x9, x10] = some (.ok (.sh (.int x)), [x0, x1, x2, x3, some (nl (x :: xs)), x5, x6, x7, x8, x9, x10]) := by
    have v : AM.mVar 4 [x0, x1, x2, x3, some (nl (x :: xs)), x5, x6, x7, x8, x9, x10] = some (.ok (nl (x :: xs)), [x0, x1, x2, x3, some (nl (x :: xs)), x5, x6, x7, x8, x9, x10]) := rfl
    have c : AM.mC (.int 0) [x0, x1, x2, x3, some (nl (x :: xs)), x5, x6, x7, x8, x9, x10] = some (.ok (.sh (.int 0)), [x0, x1, x2, x3, some (nl (x :: xs)), x5, x6, x7, x8, x9, x10]) := rfl
    have g : AM.gIx (nl (x :: xs), .sh (.int 0)) = some (.sh (.int x)) := by
      unfold AM.gIx
      simp [L2.ixN, AM.wInt]
      try rfl
    simp only [AM.mIx, ME.bind, v, c, ME.pure, ME.op, g, Option.map_some]
  have c1 : AM.mC (.int 1) [x0, x1, x2, x3, some (nl (x :: xs)), x5, x6, x7, x8, x9, x10] = some (.ok (.sh (.int 1)), [x0, x1, x2, x3, some (nl (x :: xs)), x5, x6, x7, x8, x9, x10]) := rfl
  have e2 := m_op2 (g := AM.gAdd) e1 c1 (gAdd_int x 1)
  refine m_asg e2 ?_
  have p1 : AM.lVar 4 [x0, x1, x2, x3, some (nl (x :: xs)), x5, x6, x7, x8, x9, x10] = some (.ok (4, []), [x0, x1, x2, x3, some (nl (x :: xs)), x5, x6, x7, x8, x9, x10]) := rfl
  have p2 : AM.mC (.int 0) [x0, x1, x2, x3, some (nl (x :: xs)), x5, x6, x7, x8, x9, x10] = some (.ok (.sh (.int 0)), [x0, x1, x2, x3, some (nl (x :: xs)), x5, x6, x7, x8, x9, x10]) := rfl
  have p3 : AM.getE [x0, x1, x2, x3, some (nl (x :: xs)), x5, x6, x7, x8, x9, x10] (4, []) = some (nl (x :: xs)) := rfl
  have p4 : L2.ixN ((x :: xs).map fun i => W.sh (.int i)).length 0 = some 0 := by
    simp [L2.ixN]
  unfold AM.gSetI
  rw [p1]
  dsimp only
  rw [p2]
  dsimp only
  rw [p3]
  simp only [AM.wInt, p4]
  rw [if_pos (by simp)]
  rfl
theorem fB2_ok {p : W} {dp : D} {S : Str} {E : AM.Env} (h0 : E[0]? = some (some p)) (pd : W.toD p = some dp) (tx : ∃ o, m__law_paper_text [.sh dp] = some (.ok (.sh (.str S)), o)) (sw : ∃ o, m_show_paper [.sh dp] = some (.ok (.sh (.str S)), o)) (pS : Pn 0 (.str S)) : fB2 E = some (.ok .nx, E) := by
  obtain ⟨o1, h1⟩ := tx
  obtain ⟨o2, h2⟩ := sw
  exact (m_ifF (m_mB (m_op2 (m_bor h0 pd h2 rfl) (m_bor h0 pd h1 rfl) (gNe_eq rfl rfl pS (by decide))))).trans rfl
theorem fst_run {ws ws' : List W} {j : Nat} {x : Int} {xs : List Int} {dp' : D} {S' : Str} (hf : AM.FstOk 0 fstC [some (.ot ws), x1, x2, x3, o4, x5, x6, x7, x8, x9, x10] (.ot ws) true) (hj : AM.fstL ws = some j) (hg : ws[j]? = some (nl (x :: xs))) (hs : ws.set j (nl ((x + 1) :: xs)) = ws') (pd : W.toD (.ot ws') = some dp') (tx : ∃ o, m__law_paper_text [.sh dp'] = some (.ok (.sh (.str S')), o)) (sw : ∃ o, m_show_paper [.sh dp'] = some (.ok (.sh (.str S')), o)) (pS : Pn 0 (.str S')) :
    AM.mFst 0 4 fstC fB1 fB2 [some (.ot ws), x1, x2, x3, o4, x5, x6, x7, x8, x9, x10] = some (.ok .nx, [some (.ot ws'), x1, x2, x3, none, x5, x6, x7, x8, x9, x10]) := by
  have r0 : ([some (.ot ws), x1, x2, x3, o4, x5, x6, x7, x8, x9, x10] : AM.Env)[0]? = some (some (.ot ws)) := rfl
  have gp : AM.getP (.ot ws) [j] = some (nl (x :: xs)) := by
    simp only [AM.getP, AM.kids, Option.bind_some, hg]
  have pp : AM.putP (.ot ws) [j] (nl ((x + 1) :: xs)) = some (.ot ws') := by
    simp only [AM.putP, AM.kids, Option.bind_some, hg, Option.map_some, AM.setKid, hs]
  have at1 : AM.mAt 0 4 fB1 [j] [some (.ot ws), x1, x2, x3, o4, x5, x6, x7, x8, x9, x10] = some (.ok (), [some (.ot ws'), x1, x2, x3, none, x5, x6, x7, x8, x9, x10]) := by
    unfold AM.mAt
    have r1 : (([some (.ot ws), x1, x2, x3, o4, x5, x6, x7, x8, x9, x10] : AM.Env).set 4 none)[0]? = some (some (.ot ws)) := rfl
    rw [r1]
    dsimp only
    rw [gp]
    dsimp only
    have r2 : (((([some (.ot ws), x1, x2, x3, o4, x5, x6, x7, x8, x9, x10] : AM.Env).set 4 none).set 0 none).set 4 (some (nl (x :: xs)))) = [none, x1, x2, x3, some (nl (x :: xs)), x5, x6, x7, x8, x9, x10] := rfl
    rw [r2, fB1_ok]
    dsimp only
    have r3 : ([none, x1, x2, x3, some (nl ((x + 1) :: xs)), x5, x6, x7, x8, x9, x10] : AM.Env)[4]? = some (some (nl ((x + 1) :: xs))) := rfl
    rw [r3]
    dsimp only
    rw [pp]
    rfl
  unfold AM.mFst
  rw [r0]
  dsimp only
  rw [if_pos hf, hj]
  dsimp only
  rw [if_pos (by simp), at1]
  dsimp only
  rw [fB2_ok (p := .ot ws') rfl pd tx sw pS]
end
theorem kept64 {fu : Nat} {p : W} {dp : D} {S T : Str} {wr : W} (h : Kp fu p dp S T wr) (hF : ∀ o3 o4 o5 o6 o7 o8 o9 o10 : Option W, ∃ p' o4', AM.mFst 0 4 fstC fB1 fB2 [some p, some (.sh (.str S)), some (.sh (.str T)), o3, o4, o5, o6, o7, o8, o9, o10] = some (.ok .nx, [some p', some (.sh (.str S)), some (.sh (.str T)), o3, o4', o5, o6, o7, o8, o9, o10])) :
    ∃ p', m__law_kept fu [p] = some (.ok (.sh (.bl true)), [some p']) := by
  obtain ⟨ot, htx⟩ := h.tx
  have s1 : AM.mAsg (AM.mFz (AM.mK0 m__law_paper_text (AM.wBor (AM.lVar 0) AM.wNil))) (AM.gSet 1) [some p, none, none, none, none, none, none, none, none, none, none] = some (.ok .nx, [some p, some (.sh (.str S)), none, none, none, none, none, none, none, none, none]) := m_asg (m_fz (m_bor (i := 0) (p := p) (dp := dp) (y := .sh (.str S)) rfl h.pd htx rfl) rfl) rfl
  have s2 : AM.mAsg (AM.mBi AM.gStrY (AM.mCons (AM.mVar 0) AM.mNil)) (AM.gSet 2) [some p, some (.sh (.str S)), none, none, none, none, none, none, none, none, none] = some (.ok .nx, [some p, some (.sh (.str S)), some (.sh (.str T)), none, none, none, none, none, none, none, none]) := by
    refine m_asg (x := .sh (.str T)) ?_ rfl
    have hc : AM.mCons (AM.mVar 0) AM.mNil [some p, some (.sh (.str S)), none, none, none, none, none, none, none, none, none] = some (.ok [p], [some p, some (.sh (.str S)), none, none, none, none, none, none, none, none, none]) := rfl
    unfold AM.mBi ME.bind
    rw [hc]
    simp only [ME.op, h.st, Option.map_some]
  obtain ⟨a4, a5, a6, a7, a8, a9, a10, t1⟩ := turn64 h (o3 := some (.sh (.int 0))) (o4 := none) (o5 := none) (o6 := none) (o7 := none) (o8 := none) (o9 := none) (o10 := none)
  obtain ⟨b4, b5, b6, b7, b8, b9, b10, t2⟩ := turn64 h (o3 := some (.sh (.int 1))) (o4 := a4) (o5 := a5) (o6 := a6) (o7 := a7) (o8 := a8) (o9 := a9) (o10 := a10)
  obtain ⟨p', c4, f⟩ := hF (some (.sh (.int 1))) b4 b5 b6 b7 b8 b9 b10
  have s3 : AM.mFor (AM.mItR AM.gRg1 (AM.mCons (AM.mC (.int 2)) AM.mNil)) (AM.gSet 3) (t64 (fu := fu)) [some p, some (.sh (.str S)), some (.sh (.str T)), none, none, none, none, none, none, none, none] = some (.ok .nx, [some p, some (.sh (.str S)), some (.sh (.str T)), some (.sh (.int 1)), b4, b5, b6, b7, b8, b9, b10]) := by
    have e1 : AM.mItR AM.gRg1 (AM.mCons (AM.mC (.int 2)) AM.mNil) [some p, some (.sh (.str S)), some (.sh (.str T)), none, none, none, none, none, none, none, none] = some (.ok [.int 0, .int 1], [some p, some (.sh (.str S)), some (.sh (.str T)), none, none, none, none, none, none, none, none]) := rfl
    unfold AM.mFor ME.bind
    rw [e1]
    dsimp only
    rw [AM.mLoop]
    have g1 : AM.gSet 3 (.sh (.int 0)) [some p, some (.sh (.str S)), some (.sh (.str T)), none, none, none, none, none, none, none, none] = some (.ok (), [some p, some (.sh (.str S)), some (.sh (.str T)), some (.sh (.int 0)), none, none, none, none, none, none, none]) := rfl
    dsimp only
    rw [g1]
    dsimp only
    rw [t1]
    dsimp only
    rw [AM.mLoop]
    have g2 : AM.gSet 3 (.sh (.int 1)) [some p, some (.sh (.str S)), some (.sh (.str T)), some (.sh (.int 0)), a4, a5, a6, a7, a8, a9, a10] = some (.ok (), [some p, some (.sh (.str S)), some (.sh (.str T)), some (.sh (.int 1)), a4, a5, a6, a7, a8, a9, a10]) := rfl
    dsimp only
    rw [g2]
    dsimp only
    rw [t2]
    rfl
  have e : b__law_kept fu [some p, none, none, none, none, none, none, none, none, none, none] = some (.ok (.rt (.sh (.bl true))), [some p', some (.sh (.str S)), some (.sh (.str T)), some (.sh (.int 1)), c4, b5, b6, b7, b8, b9, b10]) := by
    unfold b__law_kept
    refine (m_seq s1).trans ?_
    refine (m_seq s2).trans ?_
    refine (m_seq s3).trans ?_
    exact (m_seq f).trans rfl
  refine ⟨p', ?_⟩
  unfold m__law_kept AM.fnM
  rw [if_pos (by rfl)]
  have e6 : ([p].map some ++ List.replicate (11 - 1) none : AM.Env) = [some p, none, none, none, none, none, none, none, none, none, none] := rfl
  rw [e6, e]
  rfl
end LW
set_option maxHeartbeats 4000000
namespace LW
open PySem AM TY
def Pap.w : Pap → W
  | .wd a => eD (t1 tT) (wdT a)
  | .tm xs => .ot [nl xs]
  | .md m xs => .ot [.sh (tI m), nl xs]
  | .br xs ys => .ot [nl xs, nl ys]
  | .ls l xs ys => .ot [nl l, nl xs, nl ys]
  | .rw xs rs => .ot [.sh (tT wRo), nl xs, .sh (tL tRow rs)]
theorem toDs_map64 {α : Type} {f : α → W} {g : α → D} : ∀ {l : List α}, (∀ x ∈ l, W.toD (f x) = some (g x)) → W.toDs (l.map f) = some (l.map g)
  | [], _ => by simp [W.toDs]
  | x :: l, h => by
    have ih := toDs_map64 (f := f) (g := g) (l := l) fun y hy => h y (List.mem_cons_of_mem _ hy)
    simp only [List.map_cons, W.toDs, h x (by simp), ih]
theorem Pap.w_toD (p : Pap) : W.toD p.w = some p.d := by
  cases p with
  | wd a => rfl
  | tm xs => simp only [Pap.w, W.toD, W.toDs, ints_toDs, Option.map_some]; rfl
  | md m xs => simp only [Pap.w, W.toD, W.toDs, ints_toDs, Option.map_some]; rfl
  | br xs ys => simp only [Pap.w, W.toD, W.toDs, ints_toDs, Option.map_some]; rfl
  | ls l xs ys => simp only [Pap.w, W.toD, W.toDs, ints_toDs, Option.map_some]; rfl
  | rw xs rs => simp only [Pap.w, W.toD, W.toDs, ints_toDs, Option.map_some]; rfl
def leadW (l : Lead) : W := .ot [nl l.1, .sh (tI l.2)]
def rowW (r : Row) : W := .ot [nl r.1, .sh (tI r.2.1), .ol (r.2.2.map leadW)]
theorem leadW_toD (l : Lead) : W.toD (leadW l) = some (t2 (tL tI) tI l) := by
  simp only [leadW, W.toD, W.toDs, ints_toDs, Option.map_some]; rfl
theorem rowW_toD (r : Row) : W.toD (rowW r) = some (tRow r) := by
  have h : W.toDs (r.2.2.map leadW) = some (r.2.2.map (t2 (tL tI) tI)) := toDs_map64 fun l _ => leadW_toD l
  simp only [rowW, W.toD, W.toDs, ints_toDs, h, Option.map_some]; rfl
theorem Pap.r_rw (xs : List Int) (rs : List Row) : Pap.r (.rw xs rs) = .ot [.sh (tT wRo), nl xs, .ol (rs.map rowW)] := rfl
theorem Pap.r_toD (p : Pap) : W.toD p.r = some p.d := by
  cases p with
  | wd a => rfl
  | tm xs => exact Pap.w_toD (.tm xs)
  | md m xs => exact Pap.w_toD (.md m xs)
  | br xs ys => exact Pap.w_toD (.br xs ys)
  | ls l xs ys => exact Pap.w_toD (.ls l xs ys)
  | rw xs rs =>
    have h : W.toDs (rs.map rowW) = some (rs.map tRow) := toDs_map64 fun r _ => rowW_toD r
    rw [Pap.r_rw]
    simp only [W.toD, W.toDs, ints_toDs, h, Option.map_some]; rfl
theorem Ow.mono {k : Nat} {w : W} (h : Ow k w) : ∀ {l : Nat}, k ≤ l → Ow l w := by
  intro l hl
  obtain ⟨m, rfl⟩ : ∃ m, l = k + m := ⟨l - k, by omega⟩
  induction m with
  | zero => exact h
  | succ m ih => exact .inl (ih (by omega))
theorem ow_I (z : Int) : Ow 0 (.sh (tI z)) := .inl ⟨z, rfl⟩
theorem ow_nl (xs : List Int) : Ow 1 (nl xs) := .inr (.inl ⟨_, rfl, fun x hx => by
  obtain ⟨z, _, rfl⟩ := List.mem_map.mp hx
  exact ow_I z⟩)
theorem ow_ot {k : Nat} {ws : List W} (h : ∀ w ∈ ws, Ow k w) : Ow (k + 1) (.ot ws) := .inr (.inr (.inl ⟨ws, rfl, h⟩))
theorem ow_ol {k : Nat} {ws : List W} (h : ∀ w ∈ ws, Ow k w) : Ow (k + 1) (.ol ws) := .inr (.inl ⟨ws, rfl, h⟩)
theorem ow_lead (l : Lead) : Ow 2 (leadW l) := ow_ot fun w hw => by
  simp at hw
  rcases hw with rfl | rfl
  · exact ow_nl _
  · exact (ow_I _).mono (by decide)
theorem ow_row (r : Row) : Ow 4 (rowW r) := ow_ot fun w hw => by
  simp at hw
  rcases hw with rfl | rfl | rfl
  · exact (ow_nl _).mono (by decide)
  · exact (ow_I _).mono (by decide)
  · exact ow_ol fun w hw => by
      obtain ⟨l, _, rfl⟩ := List.mem_map.mp hw
      exact ow_lead l
theorem ow_str {w : List Nat} (h : okT w = true) : Ow 0 (.sh (tT w)) := .inr ⟨SX.S w, rfl, pn_str h⟩
theorem Pap.ow (p : Pap) : Ow 7 p.r := by
  have n2 : ∀ {xs : List Int}, Ow 6 (nl xs) := fun {xs} => (ow_nl xs).mono (by decide)
  cases p with
  | wd a =>
    have h : Pn 0 (.str (SX.S (wdT a))) := pn_str (by cases a <;> decide)
    exact (show Ow 1 _ from .inr (.inr (.inr ⟨SX.S (wdT a), rfl, h⟩))).mono (by decide)
  | tm xs =>
    exact ow_ot fun w hw => by
      simp at hw
      rw [hw]
      exact n2
  | md m xs =>
    exact ow_ot fun w hw => by
      simp at hw
      rcases hw with rfl | rfl
      · exact (ow_I _).mono (by decide)
      · exact n2
  | br xs ys =>
    exact ow_ot fun w hw => by
      simp at hw
      rcases hw with rfl | rfl <;> exact n2
  | ls l xs ys =>
    exact ow_ot fun w hw => by
      simp at hw
      rcases hw with rfl | rfl | rfl <;> exact n2
  | rw xs rs =>
    rw [Pap.r_rw]
    exact ow_ot fun w hw => by
      simp at hw
      rcases hw with rfl | rfl | rfl
      · exact (ow_str (by decide)).mono (by decide)
      · exact n2
      · exact (ow_ol fun w hw => by
          obtain ⟨r, _, rfl⟩ := List.mem_map.mp hw
          exact ow_row r : Ow 5 _).mono (by decide)
theorem cntWs_le {B : Nat} : ∀ {ws : List W}, (∀ w ∈ ws, cntW w ≤ B) → cntWs ws ≤ B * ws.length
  | [], _ => by simp [cntWs]
  | w :: ws, h => by
    have h1 := h w (by simp)
    have h2 := cntWs_le (B := B) (ws := ws) fun x hx => h x (by simp [hx])
    simp only [cntWs, List.length_cons, Nat.mul_add, Nat.mul_one]
    omega
theorem lensR_len {B : Nat} : ∀ {ws : List W}, (∀ w ∈ ws, (lensW w).length ≤ B) → (lensR ws).length ≤ B * ws.length
  | [], _ => by simp [lensR]
  | w :: ws, h => by
    have h1 := h w (by simp)
    have h2 := lensR_len (B := B) (ws := ws) fun x hx => h x (by simp [hx])
    simp only [lensR, List.length_append, List.length_cons, Nat.mul_add, Nat.mul_one]
    omega
theorem lensR_mem : ∀ {ws : List W} {n : Nat}, n ∈ lensR ws → ∃ w ∈ ws, n ∈ lensW w
  | [], n, h => by simp [lensR] at h
  | w :: ws, n, h => by
    simp only [lensR] at h
    rcases List.mem_append.mp h with h | h
    · obtain ⟨x, hx, h⟩ := lensR_mem h
      exact ⟨x, by simp [hx], h⟩
    · exact ⟨w, by simp, h⟩
structure Sz (c l : Nat) (w : W) : Prop where
  ct : cntW w ≤ c
  ln : (lensW w).length ≤ l
  mx : ∀ n ∈ lensW w, n ≤ 1000
theorem sz_sh {d : D} (h : cntD d ≤ 2) : Sz 2 0 (.sh d) := ⟨by simpa [cntW] using h, by simp [lensW], by simp [lensW]⟩
theorem szs {c l : Nat} {ws : List W} (h : ∀ w ∈ ws, Sz c l w) : cntWs ws ≤ c * ws.length ∧ (lensR ws).length ≤ l * ws.length ∧ ∀ n ∈ lensR ws, n ≤ 1000 :=
  ⟨cntWs_le fun w hw => (h w hw).ct, lensR_len fun w hw => (h w hw).ln, fun n hn => by
    obtain ⟨w, hw, h2⟩ := lensR_mem hn
    exact (h w hw).mx n h2⟩
theorem sz_ol {c l n : Nat} {ws : List W} (h : ∀ w ∈ ws, Sz c l w) (hn : ws.length ≤ n) (h1 : n ≤ 1000) : Sz (1 + c * n) (1 + l * n) (.ol ws) := by
  obtain ⟨a, b, d⟩ := szs h
  have m1 := Nat.mul_le_mul_left c hn
  have m2 := Nat.mul_le_mul_left l hn
  refine ⟨by simp only [cntW]; omega, by simp only [lensW, List.length_cons]; omega, fun k hk => ?_⟩
  simp only [lensW, List.mem_cons] at hk
  rcases hk with rfl | hk
  · omega
  · exact d k hk
theorem sz_ot {c l n : Nat} {ws : List W} (h : ∀ w ∈ ws, Sz c l w) (hn : ws.length ≤ n) : Sz (1 + c * n) (l * n) (.ot ws) := by
  obtain ⟨a, b, d⟩ := szs h
  have m1 := Nat.mul_le_mul_left c hn
  have m2 := Nat.mul_le_mul_left l hn
  exact ⟨by simp only [cntW]; omega, by simp only [lensW]; omega, fun k hk => d k (by simpa only [lensW] using hk)⟩
theorem Sz.mono {c l c' l' : Nat} {w : W} (h : Sz c l w) (hc : c ≤ c') (hl : l ≤ l') : Sz c' l' w := ⟨Nat.le_trans h.ct hc, Nat.le_trans h.ln hl, h.mx⟩
theorem sz_I (z : Int) : Sz 2 0 (.sh (tI z)) := sz_sh (by show cntD (.int z) ≤ 2; simp [cntD])
theorem sz_T (w : List Nat) : Sz 2 0 (.sh (tT w)) := sz_sh (by show cntD (.str (SX.S w)) ≤ 2; simp [cntD])
theorem sz_nl {xs : List Int} (h : xs.length ≤ 6) : Sz 13 1 (nl xs) := (sz_ol (c := 2) (l := 0) (n := 6) (fun w hw => by
  obtain ⟨z, _, rfl⟩ := List.mem_map.mp hw
  exact sz_I z) (by simpa using h) (by decide)).mono (by decide) (by decide)
theorem sz_lead {l : Lead} (h : GL l) : Sz 27 2 (leadW l) := (sz_ot (c := 13) (l := 1) (n := 2) (fun w hw => by
  simp at hw
  rcases hw with rfl | rfl
  · exact sz_nl h.1.2.1
  · exact (sz_I _).mono (by decide) (by decide)) (by simp)).mono (by decide) (by decide)
theorem sz_row {r : Row} (h : GR r) : Sz 490 39 (rowW r) := (sz_ot (c := 163) (l := 13) (n := 3) (fun w hw => by
  simp at hw
  rcases hw with rfl | rfl | rfl
  · exact (sz_nl h.1.2.1).mono (by decide) (by decide)
  · exact (sz_I _).mono (by decide) (by decide)
  · exact (sz_ol (c := 27) (l := 2) (n := 6) (fun w hw => by
      obtain ⟨l, hl, rfl⟩ := List.mem_map.mp hw
      exact sz_lead (h.2.2.2 l hl)) (by simpa using h.2.2.1) (by decide)).mono (by decide) (by decide)) (by simp)).mono (by decide) (by decide)
theorem Pap.sz {p : Pap} (h : p.G) (hf : p.few) : Sz 99000 20000 p.r := by
  have three : ∀ {ws : List W}, ws.length ≤ 3 → (∀ w ∈ ws, Sz 13 1 w) → Sz 99000 20000 (.ot ws) := fun hl hw => (sz_ot (n := 3) hw hl).mono (by decide) (by decide)
  cases p with
  | wd a => exact (sz_sh (by show cntD (.tup [.str (SX.S (wdT a))]) ≤ 2; simp [cntD, cntDs])).mono (by decide) (by decide)
  | tm xs =>
    exact three (by simp) fun w hw => by
      simp at hw
      rw [hw]
      exact sz_nl h.2.1
  | md m xs =>
    exact three (by simp) fun w hw => by
      simp at hw
      rcases hw with rfl | rfl
      · exact (sz_I _).mono (by decide) (by decide)
      · exact sz_nl h.2.2.1
  | br xs ys =>
    exact three (by simp) fun w hw => by
      simp at hw
      rcases hw with rfl | rfl
      · exact sz_nl h.1.2.1
      · exact sz_nl h.2.1.2.1
  | ls l xs ys =>
    exact three (by simp) fun w hw => by
      simp at hw
      rcases hw with rfl | rfl | rfl
      · exact sz_nl h.1.1.2.1
      · exact sz_nl h.2.1.2.1
      · exact sz_nl h.2.2.1.2.1
  | rw xs rs =>
    rw [Pap.r_rw]
    have hr : Sz 49001 3901 (.ol (rs.map rowW)) := (sz_ol (c := 490) (l := 39) (n := 100) (fun w hw => by
      obtain ⟨r, hr, rfl⟩ := List.mem_map.mp hw
      exact sz_row (h.2.1 r hr)) (by have : rs.length ≤ 100 := hf; simpa using this) (by decide)).mono (by decide) (by decide)
    have c1 := (sz_T wRo).ct
    have c2 := (sz_nl h.1.2.1).ct
    have c3 := hr.ct
    have l1 := (sz_T wRo).ln
    have l2 := (sz_nl h.1.2.1).ln
    have l3 := hr.ln
    refine ⟨by simp only [cntW, cntWs] at c1 c2 c3 ⊢; omega, by simp only [lensW, lensR, List.length_append, List.length_nil, List.nil_append, List.append_nil] at l1 l2 l3 ⊢; omega, fun n hn => ?_⟩
    simp only [lensW] at hn
    obtain ⟨w, hw, hn⟩ := lensR_mem hn
    simp at hw
    rcases hw with rfl | rfl | rfl
    · exact (sz_T wRo).mx n hn
    · exact (sz_nl h.1.2.1).mx n hn
    · exact hr.mx n hn
end LW
set_option maxHeartbeats 4000000
namespace LW
open PySem AM TY
theorem Pap.tx {p : Pap} (h : p.Sh) : Tx p.t := by
  cases p with
  | wd a => exact ⟨by cases a <;> decide, by cases a <;> decide⟩
  | tm xs => exact ((⟨by decide, by decide⟩ : Sm 6 [116, 105, 109, 101, 115, 32]).app (nT_sm6 h)).tx (by decide)
  | md m xs => exact ((⟨by decide, by decide⟩ : Sm 4 [109, 111, 100, 32]).app ((iT_ok h.1).2.app ((⟨by decide, by decide⟩ : Sm 4 [32, 98, 121, 32]).app (nT_sm6 h.2)))).tx (by decide)
  | br xs ys => exact (bT_sm h.1 h.2).tx (by decide)
  | ls l xs ys => exact ((⟨by decide, by decide⟩ : Sm 5 [108, 111, 115, 115, 32]).app ((nT_sm6 h.1).app ((⟨by decide, by decide⟩ : Sm 1 [32]).app (bT_sm h.2.1 h.2.2)))).tx (by decide)
  | rw xs rs => exact rows_tx (a := [114, 111, 119, 115, 32]) h.1 h.2.1 h.2.2.1 h.2.2.2 ⟨by decide, by decide⟩
theorem Kd.mono {k : Nat} {d : D} (h : Kd k d) : ∀ {l : Nat}, k ≤ l → Kd l d := by
  intro l hl
  obtain ⟨m, rfl⟩ : ∃ m, l = k + m := ⟨l - k, by omega⟩
  induction m with
  | zero => exact h
  | succ m ih => exact .inl (ih (by omega))
theorem kd_I (z : Int) : Kd 0 (tI z) := .inl ⟨z, rfl⟩
theorem kd_T (w : List Nat) : Kd 0 (tT w) := .inr ⟨SX.S w, rfl⟩
theorem kd_tup {k : Nat} {ds : List D} (hl : ds.length ≤ 100000) (h : ∀ d ∈ ds, Kd k d) : Kd (k + 1) (.tup ds) := .inr (.inr ⟨ds, rfl, hl, h⟩)
theorem kd_lst {k : Nat} {ds : List D} (hl : ds.length ≤ 100000) (h : ∀ d ∈ ds, Kd k d) : Kd (k + 1) (.lst ds) := .inr (.inl ⟨ds, rfl, hl, h⟩)
theorem kd_nl {xs : List Int} (h : Sh xs) : Kd 1 (tL tI xs) := kd_lst (ds := xs.map tI) (by have := h.1; simp; omega) fun d hd => by
  obtain ⟨z, _, rfl⟩ := List.mem_map.mp hd
  exact kd_I z
theorem kd_lead {l : Lead} (h : ShL l) : Kd 2 (t2 (tL tI) tI l) := kd_tup (ds := [tL tI l.1, tI l.2]) (by simp) fun d hd => by
  simp at hd
  rcases hd with rfl | rfl
  · exact kd_nl h.1
  · exact (kd_I _).mono (by decide)
theorem kd_row {r : Row} (h : ShR r) : Kd 4 (tRow r) := kd_tup (ds := [tL tI r.1, tI r.2.1, tL (t2 (tL tI) tI) r.2.2]) (by simp) fun d hd => by
  simp at hd
  rcases hd with rfl | rfl | rfl
  · exact (kd_nl h.1).mono (by decide)
  · exact (kd_I _).mono (by decide)
  · exact kd_lst (ds := r.2.2.map (t2 (tL tI) tI)) (by have := h.2.2.1; simp; omega) fun d hd => by
      obtain ⟨l, hl, rfl⟩ := List.mem_map.mp hd
      exact kd_lead (h.2.2.2 l hl)
theorem Pap.kd {p : Pap} (h : p.Sh) : Kd 6 p.d := by
  cases p with
  | wd a =>
    exact kd_tup (by simp [Pap.ds]) fun d hd => by
      simp [Pap.ds] at hd
      rw [hd]
      exact (kd_T _).mono (by decide)
  | tm xs =>
    exact kd_tup (by simp [Pap.ds]) fun d hd => by
      simp [Pap.ds] at hd
      rw [hd]
      exact (kd_nl h).mono (by decide)
  | md m xs =>
    exact kd_tup (by simp [Pap.ds]) fun d hd => by
      simp [Pap.ds] at hd
      rcases hd with rfl | rfl
      · exact (kd_I _).mono (by decide)
      · exact (kd_nl h.2).mono (by decide)
  | br xs ys =>
    exact kd_tup (by simp [Pap.ds]) fun d hd => by
      simp [Pap.ds] at hd
      rcases hd with rfl | rfl
      · exact (kd_nl h.1).mono (by decide)
      · exact (kd_nl h.2).mono (by decide)
  | ls l xs ys =>
    exact kd_tup (by simp [Pap.ds]) fun d hd => by
      simp [Pap.ds] at hd
      rcases hd with rfl | rfl | rfl
      · exact (kd_nl h.1).mono (by decide)
      · exact (kd_nl h.2.1).mono (by decide)
      · exact (kd_nl h.2.2).mono (by decide)
  | rw xs rs =>
    exact kd_tup (by simp [Pap.ds]) fun d hd => by
      simp [Pap.ds] at hd
      rcases hd with rfl | rfl | rfl
      · exact (kd_T _).mono (by decide)
      · exact (kd_nl h.1).mono (by decide)
      · exact (kd_lst (ds := rs.map tRow) (by have := h.2.2.1; simp; omega) fun d hd => by
          obtain ⟨r, hr, rfl⟩ := List.mem_map.mp hd
          exact kd_row (h.2.1 r hr))
theorem law_m {p : Pap} (h : p.Sh) : ∃ o, m__law_paper_text [.sh p.d] = some (.ok (.sh (.str (SX.S p.t))), o) := by
  have e := t__law_paper_text p.d
  rw [law_p64 h] at e
  exact ⟨_, e.h⟩
theorem show_m {p : Pap} (h : p.Sh) : ∃ o, m_show_paper [.sh p.d] = some (.ok (.sh (.str (SX.S p.t))), o) := by
  have e := t_show_paper p.d
  rw [show_p h] at e
  exact ⟨_, e.h⟩
theorem read_m {p : Pap} (h : p.G) : ∃ o, m_read_paper [.sh (.str (SX.S p.t))] = some (.ok p.r, o) := by
  have e := t_read_paper p.t
  rw [read_p h] at e
  exact ⟨_, e.h⟩
theorem t12 : SX.S (Pap.t (.tm [1, 2])) = ("times 1 2" : Str) := by kernel_rfl
theorem kp64 {fu : Nat} (hfu : 2 ^ 60 < fu) {p : Pap} (h : p.G) (hf : p.few) : ∃ T, Kp fu p.w p.d (SX.S p.t) T p.r := by
  obtain ⟨T, eT, kT⟩ := str64 h.sh hf
  have z := Pap.sz h hf
  have h60 : (99000 : Nat) < 2 ^ 60 := by decide
  refine ⟨T, p.w_toD, law_m h.sh, show_m h.sh, pn_str (Pap.tx h.sh).ok, read_m h, p.r_toD, ⟨_, kinds64 (k := 6) (j := 1) (Pap.kd h.sh)⟩, ⟨6, by decide, LW.Yk.pn (yk64 h.sh hf)⟩, ⟨6, by decide, p.ow⟩, by have := z.ct; omega, by have := z.ct; omega, ⟨by have := z.ln; omega, fun n hn => by have := z.mx n hn; omega⟩, ?_, ?_, ?_⟩
  · have e : AM.gStrY [p.w] = ((W.toD p.w).bind strY).map (eD tS) := str_W p.w
    rw [e, p.w_toD, Option.bind_some, eT]
    rfl
  · exact ⟨.str T, rfl, by simpa [PyData.canLay0] using kT, by simp [PyData.depth]⟩
  · have := read_m (p := .tm [1, 2]) ⟨by decide, by decide, by decide⟩
    rw [t12] at this
    exact this
end LW
set_option maxHeartbeats 4000000
namespace LW
open PySem AM TY
def up1 : List Int → List Int
  | [] => []
  | x :: xs => (x + 1) :: xs
def Pap.up : Pap → Pap
  | .wd a => .wd a
  | .tm xs => .tm (up1 xs)
  | .md m xs => .md m (up1 xs)
  | .br xs ys => .br (up1 xs) ys
  | .ls l xs ys => .ls (up1 l) xs ys
  | .rw xs rs => .rw (up1 xs) rs
theorem up1_sh {xs : List Int} (h : Gn xs) : Sh (up1 xs) := by
  cases xs with
  | nil => exact ⟨by simp [up1], by simp [up1]⟩
  | cons x xs =>
    refine ⟨by simpa [up1] using h.2.1, fun z hz => ?_⟩
    simp only [up1, List.mem_cons] at hz
    have h41 : (10 : Nat) ^ 40 + 1 < 10 ^ 41 := by decide
    rcases hz with rfl | hz
    · have := h.2.2 x (by simp)
      omega
    · have := h.2.2 z (by simp [hz])
      omega
theorem Pap.up_sh {p : Pap} (h : p.G) : p.up.Sh := by
  cases p with
  | wd a => trivial
  | tm xs => exact up1_sh h
  | md m xs => exact ⟨lt41 h.1.1, up1_sh h.2⟩
  | br xs ys => exact ⟨up1_sh h.1, h.2.1.sh⟩
  | ls l xs ys => exact ⟨up1_sh h.1.1, h.2.1.sh, h.2.2.1.sh⟩
  | rw xs rs => exact ⟨up1_sh h.1, fun r hr => (h.2.1 r hr).sh, h.2.2⟩
theorem la_nl (xs : List Int) (a : PySem.Addr) (as : List PySem.Addr) (ws : List W) : AM.laWs (nl xs :: ws) (a :: as) = (AM.laWs ws as).map fun q => (.la a (xs.map D.int) :: q.1, q.2) := by
  simp [AM.laWs, AM.laW, la_ints]
theorem la_sh (d : D) (as : List PySem.Addr) (ws : List W) : AM.laWs (.sh d :: ws) as = (AM.laWs ws as).map fun q => (d :: q.1, q.2) := by
  simp [AM.laWs, AM.laW]
theorem la_nil (as : List PySem.Addr) : AM.laWs [] as = some ([], as) := by simp [AM.laWs]
theorem nL_nl (xs : List Int) : AM.nL (nl xs) = 1 := by simp [AM.nL, nL_ints]
theorem pl_nl (xs : List Int) : AM.plW (nl xs) = true := by simp [AM.plW, pl_ints]
section
variable {x1 x2 x3 o4 x5 x6 x7 x8 x9 x10 : Option W}
theorem f_tm (xs : List Int) : AM.FstOk 0 fstC [some (.ot [nl xs]), x1, x2, x3, o4, x5, x6, x7, x8, x9, x10] (.ot [nl xs]) true := by
  refine fst_ok (by simp) (by simp [AM.plWs, pl_nl]) fun as hl => ?_
  simp only [AM.nLs, nL_nl] at hl
  match as, hl with
  | [a], _ =>
    refine ⟨[.la a (xs.map D.int)], xs.map D.int, by rw [la_nl, la_nil]; rfl, fun x hx => ?_, by simp, rfl, by simp⟩
    simp at hx
    rw [hx]
    rfl
theorem f_md (m : D) (hm : ∃ z, m = .int z) (xs : List Int) : AM.FstOk 0 fstC [some (.ot [.sh m, nl xs]), x1, x2, x3, o4, x5, x6, x7, x8, x9, x10] (.ot [.sh m, nl xs]) true := by
  obtain ⟨z, rfl⟩ := hm
  refine fst_ok (by simp) (by simp [AM.plWs, AM.plW, pl_ints]) fun as hl => ?_
  simp only [AM.nLs, AM.nL, nL_ints] at hl
  match as, hl with
  | [a], _ =>
    refine ⟨[.int z, .la a (xs.map D.int)], xs.map D.int, by rw [la_sh, la_nl, la_nil]; rfl, fun x hx => ?_, by simp, rfl, by simp⟩
    simp at hx
    rcases hx with rfl | rfl <;> rfl
theorem f_br (xs ys : List Int) : AM.FstOk 0 fstC [some (.ot [nl xs, nl ys]), x1, x2, x3, o4, x5, x6, x7, x8, x9, x10] (.ot [nl xs, nl ys]) true := by
  refine fst_ok (by simp) (by simp [AM.plWs, pl_nl]) fun as hl => ?_
  simp only [AM.nLs, nL_nl] at hl
  match as, hl with
  | [a, b], _ =>
    refine ⟨[.la a (xs.map D.int), .la b (ys.map D.int)], xs.map D.int, by rw [la_nl, la_nl, la_nil]; rfl, fun x hx => ?_, by simp, rfl, by simp⟩
    simp at hx
    rcases hx with rfl | rfl <;> rfl
theorem f_ls (l xs ys : List Int) : AM.FstOk 0 fstC [some (.ot [nl l, nl xs, nl ys]), x1, x2, x3, o4, x5, x6, x7, x8, x9, x10] (.ot [nl l, nl xs, nl ys]) true := by
  refine fst_ok (by simp) (by simp [AM.plWs, pl_nl]) fun as hl => ?_
  simp only [AM.nLs, nL_nl] at hl
  match as, hl with
  | [a, b, c], _ =>
    refine ⟨[.la a (l.map D.int), .la b (xs.map D.int), .la c (ys.map D.int)], l.map D.int, by rw [la_nl, la_nl, la_nl, la_nil]; rfl, fun x hx => ?_, by simp, rfl, by simp⟩
    simp at hx
    rcases hx with rfl | rfl | rfl <;> rfl
theorem f_rw (xs : List Int) (w : List Nat) (rs : List D) : AM.FstOk 0 fstC [some (.ot [.sh (tT w), nl xs, .sh (.lst rs)]), x1, x2, x3, o4, x5, x6, x7, x8, x9, x10] (.ot [.sh (tT w), nl xs, .sh (.lst rs)]) true := by
  refine fst_ok (by simp) (by simp [AM.plWs, AM.plW, pl_ints]) fun as hl => ?_
  simp only [AM.nLs, AM.nL, nL_ints] at hl
  match as, hl with
  | [a], _ =>
    refine ⟨[tT w, .la a (xs.map D.int), .lst rs], xs.map D.int, by rw [la_sh, la_nl, la_sh, la_nil]; rfl, fun x hx => ?_, by simp, rfl, by simp⟩
    simp at hx
    rcases hx with rfl | rfl | rfl <;> rfl
theorem f_wd (s : Str) : AM.mFst 0 4 fstC fB1 fB2 [some (.sh (.tup [.str s])), x1, x2, x3, o4, x5, x6, x7, x8, x9, x10] = some (.ok .nx, [some (.sh (.tup [.str s])), x1, x2, x3, o4, x5, x6, x7, x8, x9, x10]) := by
  have r0 : ([some (.sh (.tup [.str s])), x1, x2, x3, o4, x5, x6, x7, x8, x9, x10] : AM.Env)[0]? = some (some (.sh (.tup [.str s]))) := rfl
  have hf : AM.FstOk 0 fstC [some (.sh (.tup [.str s])), x1, x2, x3, o4, x5, x6, x7, x8, x9, x10] (.sh (.tup [.str s])) false := by
    refine ⟨by simp [AM.plW], fun as hl _ => ?_⟩
    obtain rfl : as = [] := by simpa [AM.nL] using hl
    refine ⟨.tup [.str s], [], (AM.strip [some (.sh (.tup [.str s])), x1, x2, x3, o4, x5, x6, x7, x8, x9, x10]).set 0 (some (.sh (.tup [.str s]))), by simp [AM.laW], (fst_mc (ds := [.str s]) (List.getElem?_set_self (by rw [AM.strip_length]; simp)) (by rw [List.length_set, AM.strip_length]; simp) (fun d hd => by
      simp at hd
      rw [hd]
      rfl) (by simp)).trans ?_, fun h => by cases h⟩
    rfl
  unfold AM.mFst
  rw [r0]
  dsimp only
  rw [if_neg (fst_no (by simp [AM.nL])), if_pos hf]
theorem fst_pap {p : Pap} (h : p.G) : ∃ p' o4', AM.mFst 0 4 fstC fB1 fB2 [some p.w, x1, x2, x3, o4, x5, x6, x7, x8, x9, x10] = some (.ok .nx, [some p', x1, x2, x3, o4', x5, x6, x7, x8, x9, x10]) := by
  have u := Pap.up_sh h
  have pS := pn_str (Pap.tx u).ok
  have hd := p.up.w_toD
  have tx := law_m u
  have sw := show_m u
  cases p with
  | wd a => exact ⟨_, _, f_wd (SX.S (wdT a))⟩
  | tm xs =>
    obtain ⟨x, xs, rfl⟩ := List.exists_cons_of_ne_nil h.1
    exact ⟨_, _, fst_run (ws := [nl (x :: xs)]) (j := 0) (f_tm _) rfl rfl rfl hd tx sw pS⟩
  | md m xs =>
    obtain ⟨x, xs, rfl⟩ := List.exists_cons_of_ne_nil h.2.1
    exact ⟨_, _, fst_run (ws := [.sh (tI m), nl (x :: xs)]) (j := 1) (f_md _ ⟨m, rfl⟩ _) rfl rfl rfl hd tx sw pS⟩
  | br xs ys =>
    obtain ⟨x, xs, rfl⟩ := List.exists_cons_of_ne_nil h.1.1
    exact ⟨_, _, fst_run (ws := [nl (x :: xs), nl ys]) (j := 0) (f_br _ _) rfl rfl rfl hd tx sw pS⟩
  | ls l xs ys =>
    obtain ⟨x, l, rfl⟩ := List.exists_cons_of_ne_nil h.1.1.1
    exact ⟨_, _, fst_run (ws := [nl (x :: l), nl xs, nl ys]) (j := 0) (f_ls _ _ _) rfl rfl rfl hd tx sw pS⟩
  | rw xs rs =>
    obtain ⟨x, xs, rfl⟩ := List.exists_cons_of_ne_nil h.1.1
    exact ⟨_, _, fst_run (ws := [.sh (tT wRo), nl (x :: xs), .sh (tL tRow rs)]) (j := 1) (f_rw _ _ _) rfl rfl rfl hd tx sw pS⟩
end
theorem kept_pap {fu : Nat} (hfu : 2 ^ 60 < fu) {p : Pap} (h : p.G) (hf : p.few) : ∃ p', m__law_kept fu [p.w] = some (.ok (.sh (.bl true)), [some p']) := by
  obtain ⟨T, k⟩ := kp64 hfu h hf
  exact kept64 k fun o3 o4 o5 o6 o7 o8 o9 o10 => fst_pap h
end LW
set_option maxHeartbeats 4000000
namespace LW
open PySem AM TY
theorem abs_lt {v : Int} (h : v.natAbs < 10 ^ 40) : (absI v).natAbs < 10 ^ 40 ∧ 0 ≤ absI v := by
  unfold absI
  (try split) <;> omega
theorem list_ok {N : Nat} {p : List Int} {l : Option Int} (h : PileOk N p) (hN : N ≤ 2 ^ 46) : ∃ xs p', p__law_list p l = X.ok (xs, p') ∧ Gn xs ∧ (l = some 0 → G0 xs) ∧ PileOk (N + 100) p' := by
  unfold p__law_list
  obtain ⟨r, p1, e1, r0, r1, o1⟩ := take_ok (m := 6) h (by omega) (by decide) (by decide)
  rw [e1, bind_ok]
  (try dsimp only)
  rw [rg1_ok (by omega) (by omega), ofO_some, bind_ok]
  obtain ⟨⟨p3, xs⟩, e3, o3, t1, t2⟩ := forP_ok (b := fun (x3 : Int) (s4 : List Int × List Int) => X.bind (p__law_signed s4.1) fun r6 => X.bind (X.ofO (at_  [r6.1, (absI r6.1)] (b2i (decide (l = some 0))))) fun x7 => X.bind (X.ofO (appO s4.2 x7)) fun x8 => X.ok (r6.2, x8)) (xs := rgT 0 1 (1 + r).toNat) (s := (p1, []))
    (fun i s => PileOk (N + 1 + 4 * i) s.1 ∧ s.2.length = i ∧ ∀ z ∈ s.2, z.natAbs < 10 ^ 40 ∧ (l = some 0 → 0 ≤ z)) ⟨o1, rfl, by simp⟩ (fun i x s hx hs => by
      obtain ⟨q, zs⟩ := s
      obtain ⟨q1, q2, q3⟩ := hs
      simp only at q1 q2 q3
      have hi : i < (1 + r).toNat := by
        have := (List.getElem?_eq_some_iff.mp hx).1
        simpa using this
      obtain ⟨v, p4, e4, h4, o4⟩ := signed_ok q1 (by omega)
      obtain ⟨w, hw, hw2⟩ : ∃ w, at_ [v, absI v] (b2i (decide (l = some 0))) = some w ∧ w.natAbs < 10 ^ 40 ∧ (l = some 0 → 0 ≤ w) := by
        by_cases c : l = some 0
        · rw [decide_eq_true c]
          exact ⟨absI v, at_1, (abs_lt h4).1, fun _ => (abs_lt h4).2⟩
        · rw [decide_eq_false c]
          exact ⟨v, at_0, h4, fun z => absurd z c⟩
      refine ⟨(p4, zs ++ [w]), ?_, o4.mono (by omega), by simp [q2], fun z hz => ?_⟩
      · simp only [e4, bind_ok, hw, ofO_some, appO_ok (xs := zs) (by omega)]
      · rcases List.mem_append.mp hz with hz | hz
        · exact q3 z hz
        · simp only [List.mem_singleton] at hz
          rw [hz]; exact hw2)
  rw [e3, bind_ok]
  simp only [rgT_len] at o3 t1
  have g : Gn xs := ⟨fun z => by rw [z] at t1; simp at t1; omega, by omega, fun z hz => (t2 z hz).1⟩
  exact ⟨xs, p3, rfl, g, fun c => ⟨g, fun z hz => (t2 z hz).2 c⟩, o3.mono (by omega)⟩
theorem takes9 {N : Nat} {c : Int} {p : List Int} (h : PileOk N p) (hN : N ≤ 2 ^ 46) (h0 : 1 ≤ c) (h6 : c ≤ 6) : ∃ xs p', X.lcSX (fun (x11 : Int) (s9 : List Int) => X.bind (X.nx (p__law_take s9 9)) fun r12 => X.ok ((r12.1 - 4), r12.2)) (rgT 0 1 c.toNat) p = X.ok (xs, p') ∧ Gn xs ∧ PileOk (N + 6) p' := by
  obtain ⟨ts, p5, e5, q1, q2, q3⟩ := lcSX_ok (f := fun (x11 : Int) (s9 : List Int) => X.bind (X.nx (p__law_take s9 9)) fun r12 => X.ok ((r12.1 - 4), r12.2)) (xs := rgT 0 1 c.toNat) (s := p)
    (fun i zs s => zs.length = i ∧ PileOk (N + i) s ∧ ∀ z ∈ zs, z.natAbs < 10 ^ 40) (by simp; omega) ⟨rfl, h, by simp⟩ (fun i x acc s hx hs => by
      have hi : i < c.toNat := by
        have := (List.getElem?_eq_some_iff.mp hx).1
        simpa using this
      obtain ⟨q1, q2, q3⟩ := hs
      obtain ⟨r2, p3, e2, r20, r21, o3⟩ := take_ok (m := 9) q2 (by omega) (by decide) (by decide)
      refine ⟨r2 - 4, p3, by simp only [e2, nx_ok, bind_ok], by simp [q1], o3.mono (by omega), fun z hz => ?_⟩
      rcases List.mem_append.mp hz with hz | hz
      · exact q3 z hz
      · simp only [List.mem_singleton] at hz
        rw [hz]; omega)
  rw [rgT_len] at q1 q2
  exact ⟨ts, p5, e5, ⟨fun z => by rw [z] at q1; simp at q1; omega, by omega, q3⟩, q2.mono (by omega)⟩
theorem rowd_ok {N : Nat} {p : List Int} (h : PileOk N p) (hN : N ≤ 2 ^ 45) : ∃ r p', p__law_row p = X.ok (r, p') ∧ GR r ∧ PileOk (N + 200) p' := by
  unfold p__law_row
  obtain ⟨xs, p1, e1, n1, _, o1⟩ := list_ok (l := none) h (by omega)
  rw [e1, bind_ok]
  (try dsimp only)
  obtain ⟨k, p2, e2, k0, k1, o2⟩ := take_ok (m := 7) o1 (by omega) (by decide) (by decide)
  rw [e2, bind_ok]
  (try dsimp only)
  rw [rg1_ok (by omega) (by omega), ofO_some, bind_ok]
  obtain ⟨⟨p3, ls⟩, e3, o3, t1, t2⟩ := forP_ok (b := fun (x4 : Int) (s5 : List Int × (List (List Int × Int))) => X.bind (p__law_take s5.1 6) fun r7 => X.bind (X.ofO (rg1 (1 + r7.1))) fun x8 => X.bind (X.lcSX (fun (x11 : Int) (s9 : List Int) => X.bind (X.nx (p__law_take s9 9)) fun r12 => X.ok ((r12.1 - 4), r12.2)) x8 r7.2) fun x13 => X.bind (p__law_take x13.2 99) fun r14 => X.bind (X.ofO (appO s5.2 (x13.1, r14.1))) fun x15 => X.ok (r14.2, x15)) (xs := rgT 0 1 k.toNat) (s := (p2, []))
    (fun i s => PileOk (N + 101 + 8 * i) s.1 ∧ s.2.length = i ∧ ∀ t ∈ s.2, GL t) ⟨o2, rfl, by simp⟩ (fun i x s hx hs => by
      obtain ⟨q, zs⟩ := s
      obtain ⟨q1, q2, q3⟩ := hs
      simp only at q1 q2 q3
      have hi : i < k.toNat := by
        have := (List.getElem?_eq_some_iff.mp hx).1
        simpa using this
      obtain ⟨r, p4, e4, r0, r1, o4⟩ := take_ok (m := 6) q1 (by omega) (by decide) (by decide)
      obtain ⟨ys, p5, e5, n5, o5⟩ := takes9 (c := 1 + r) o4 (by omega) (by omega) (by omega)
      obtain ⟨v, p6, e6, v0, v1, o6⟩ := take_ok (m := 99) o5 (by omega) (by decide) (by decide)
      refine ⟨(p6, zs ++ [(ys, v)]), ?_, o6.mono (by omega), by simp [q2], fun z hz => ?_⟩
      · simp only [e4, bind_ok, rg1_ok (show -2 ^ 62 ≤ 1 + r by omega) (show 1 + r < 2 ^ 62 by omega), ofO_some, e5, e6, appO_ok (xs := zs) (by omega)]
      · rcases List.mem_append.mp hz with hz | hz
        · exact q3 z hz
        · simp only [List.mem_singleton] at hz
          rw [hz]
          exact ⟨n5, by simp only; omega, by simp only; omega⟩)
  rw [e3, bind_ok]
  simp only [rgT_len] at o3 t1
  obtain ⟨g, p7, e7, g0, g1, o7⟩ := great_ok o3 (by omega)
  rw [e7, bind_ok]
  refine ⟨(xs, g, ls), p7, rfl, ⟨n1, ⟨by simp only; omega, by simp only; omega⟩, by simp only; omega, t2⟩, o7.mono (by omega)⟩
theorem few_sum {rs : List Row} (h : ∀ r ∈ rs, GR r) (n : rs.length ≤ 30) : ((rs.map rT).map (·.length)).sum + rs.length * 2 ≤ 79000 := by
  have := sum_le (B := 2200) (ys := rs.map rT) fun y hy => by
    obtain ⟨r, hr, rfl⟩ := List.mem_map.mp hy
    exact (rT_sm (h r hr).sh).len
  rw [List.length_map] at this
  omega
theorem paper_ok {N : Nat} {p : List Int} (h : PileOk N p) (hN : N ≤ 2 ^ 44) : ∃ (q : Pap) (p' : List Int), p__law_paper p = X.ok (q.w, p') ∧ q.G ∧ q.few ∧ PileOk (N + 1000) p' := by
  unfold p__law_paper
  obtain ⟨w, p1, e1, w0, w1, o1⟩ := take_ok (m := 8) h (by omega) (by decide) (by decide)
  rw [e1, bind_ok]
  (try dsimp only)
  by_cases c1 : w < 2
  · rw [if_pos (by simpa using c1)]
    obtain ⟨u, hu, a, rfl⟩ : ∃ u, at_ [([97, 110, 121] : List Nat), ([115, 117, 109] : List Nat)] w = some u ∧ ∃ a, u = wdT a := by
      rcases (show w = 0 ∨ w = 1 by omega) with rfl | rfl
      · exact ⟨_, at_0, true, rfl⟩
      · exact ⟨_, at_1, false, rfl⟩
    rw [hu, ofO_some, bind_ok]
    exact ⟨.wd a, p1, rfl, trivial, trivial, o1.mono (by omega)⟩
  rw [if_neg (by simpa using c1)]
  obtain ⟨xs, p2, e2, n2, _, o2⟩ := list_ok (l := none) o1 (by omega)
  rw [e2, bind_ok]
  (try dsimp only)
  by_cases c2 : w = 2
  · rw [if_pos (decide_eq_true c2)]
    exact ⟨.tm xs, p2, rfl, n2, trivial, o2.mono (by omega)⟩
  rw [if_neg (by simpa using c2)]
  by_cases c3 : w = 3
  · rw [if_pos (decide_eq_true c3)]
    obtain ⟨g, p3, e3, g0, g1, o3⟩ := great_ok o2 (by omega)
    rw [e3, bind_ok]
    exact ⟨.md g xs, p3, rfl, ⟨⟨by omega, g0⟩, n2⟩, trivial, o3.mono (by omega)⟩
  rw [if_neg (by simpa using c3)]
  by_cases c4 : w = 4
  · rw [if_pos (decide_eq_true c4)]
    obtain ⟨ys, p3, e3, n3, k3, o3⟩ := list_ok (l := some 0) o2 (by omega)
    rw [e3, bind_ok]
    exact ⟨.br xs ys, p3, rfl, ⟨n2, k3 rfl⟩, trivial, o3.mono (by omega)⟩
  rw [if_neg (by simpa using c4)]
  by_cases c5 : w = 5
  · rw [if_pos (decide_eq_true c5)]
    obtain ⟨ls, p3, e3, n3, k3, o3⟩ := list_ok (l := some 0) o2 (by omega)
    rw [e3, bind_ok]
    (try dsimp only)
    obtain ⟨ys, p4, e4, n4, k4, o4⟩ := list_ok (l := some 0) o3 (by omega)
    rw [e4, bind_ok]
    exact ⟨.ls ls xs ys, p4, rfl, ⟨k3 rfl, n2, k4 rfl⟩, trivial, o4.mono (by omega)⟩
  rw [if_neg (by simpa using c5)]
  obtain ⟨k, p3, e3, k0, k1, o3⟩ := take_ok (m := 4) o2 (by omega) (by decide) (by decide)
  rw [e3, bind_ok]
  (try dsimp only)
  rw [rg1_ok (by omega) (by omega), ofO_some, bind_ok]
  obtain ⟨rs, p5, e5, q1, q2, q3⟩ := lcSX_ok (f := fun (x12 : Int) (s10 : List Int) => X.bind (X.nx (p__law_row s10)) fun r13 => X.ok (r13.1, r13.2)) (xs := rgT 0 1 k.toNat) (s := p3)
    (fun i (zs : List Row) s => zs.length = i ∧ PileOk (N + 102 + 200 * i) s ∧ ∀ z ∈ zs, GR z) (by simp; omega) ⟨rfl, o3, by simp⟩ (fun i x acc s hx hs => by
      have hi : i < k.toNat := by
        have := (List.getElem?_eq_some_iff.mp hx).1
        simpa using this
      obtain ⟨q1, q2, q3⟩ := hs
      obtain ⟨r2, p4, e4, g4, o4⟩ := rowd_ok q2 (by omega)
      refine ⟨r2, p4, by simp only [e4, nx_ok, bind_ok], by simp [q1], o4.mono (by omega), fun z hz => ?_⟩
      rcases List.mem_append.mp hz with hz | hz
      · exact q3 z hz
      · simp only [List.mem_singleton] at hz
        rw [hz]; exact g4)
  rw [rgT_len] at q1 q2
  rw [e5, bind_ok]
  exact ⟨.rw xs rs, p5, rfl, ⟨n2, q3, by omega, few_sum q3 (by omega)⟩, (show rs.length ≤ 100 by omega), q2.mono (by omega)⟩
end LW
set_option maxHeartbeats 4000000
namespace LW
open PySem AM TY
def gG : Int := 10 ^ 40 - 2
def edges : List Pap := [.rw [0] [], .rw [0, 0] [([1, 1], 0, []), ([1, 1], 0, [])], .tm [0], .md 0 [0], .br [0] [0], .ls [0] [0] [0],
  .rw [0] [([0], 1, List.replicate 6 ([0], 0)), ([0], 0, [([0], 0)])], .tm (List.replicate 6 (-1)),
  .rw [0] ((List.range 60).map fun (k : Nat) => ([(k : Int)], (k : Int), List.replicate (k % 7) ([(k : Int)], (k : Int)))),
  .rw [0] [([0], 1, [([gG, -gG], gG)])], .ls (List.replicate 6 gG) (List.replicate 6 (-gG)) (List.replicate 6 gG), .md (10 ^ 40 - 1) [1 - 10 ^ 40], .rw [0] [([5], 0, [])]]
theorem edges_m : m__law_edges [] = some (.ok (.ol (edges.map Pap.w)), []) := by kernel_rfl
instance (xs : List Int) : Decidable (Gn xs) := by unfold Gn; infer_instance
instance (xs : List Int) : Decidable (G0 xs) := by unfold G0; infer_instance
instance (l : Lead) : Decidable (GL l) := by unfold GL; infer_instance
instance (r : Row) : Decidable (GR r) := by unfold GR; infer_instance
instance (xs : List Int) : Decidable (Sh xs) := by unfold Sh; infer_instance
instance (l : Lead) : Decidable (ShL l) := by unfold ShL; infer_instance
instance (r : Row) : Decidable (ShR r) := by unfold ShR; infer_instance
instance (p : Pap) : Decidable p.G := by cases p <;> (simp only [Pap.G]; infer_instance)
instance (p : Pap) : Decidable p.few := by cases p <;> (simp only [Pap.few]; infer_instance)
instance (p : Pap) : Decidable p.Sh := by cases p <;> (simp only [Pap.Sh]; infer_instance)
theorem edges_G : ∀ p ∈ edges, p.G ∧ p.few := by decide +kernel
def longP : Pap := .rw (List.replicate 6 0) ((List.range 60).map fun (k : Nat) => (List.replicate 6 1, 2, List.replicate 6 ([(k : Int), 0, 0, 0, 0, 0 - (k : Int)], (k : Int))))
theorem longP_sh : longP.Sh := by decide +kernel
theorem longP_few : longP.few := by decide +kernel
theorem gEq_eq {k : Nat} {a b : W} {d : D} (ha : W.toD a = some d) (hb : W.toD b = some d) (h : Pn k d) (hk : k ≤ 64) : AM.gEq (a, b) = some (.sh (.bl true)) := by
  obtain ⟨x, w1, _, cl⟩ := wPd_pn h hk
  have wa : wPd a = some x := by
    unfold wPd at w1 ⊢
    rw [ha]
    exact w1
  have wb : wPd b = some x := by
    unfold wPd at w1 ⊢
    rw [hb]
    exact w1
  unfold AM.gEq AM.gDD
  dsimp only
  rw [wa, wb]
  simp [AM.fEq, PySem.SeqAt.eqv_refl x cl]
abbrev lt1 : MS := AM.mAsg (AM.mFz (AM.mCompP (AM.mItR AM.gRg1 (AM.mCons (AM.mC (.int 60)) AM.mNil)) (AM.gSet 3) (ME.pure true) (AM.mTup (AM.mCons (AM.mOp2 AM.gMul (AM.mLst (AM.mCons (AM.mC (.int 1)) AM.mNil)) (AM.mC (.int 6))) (AM.mCons (AM.mC (.int 2)) (AM.mCons (AM.mCompP (AM.mItR AM.gRg1 (AM.mCons (AM.mC (.int 6)) AM.mNil)) (AM.gSet 4) (ME.pure true) (AM.mTup (AM.mCons (AM.mLst (AM.mCons (AM.mVarS 3) (AM.mCons (AM.mC (.int 0)) (AM.mCons (AM.mC (.int 0)) (AM.mCons (AM.mC (.int 0)) (AM.mCons (AM.mC (.int 0)) (AM.mCons (AM.mOp2 AM.gSub (AM.mC (.int 0)) (AM.mVarS 3)) AM.mNil))))))) (AM.mCons (AM.mVarS 3) AM.mNil))) [4]) AM.mNil)))) [3])) (AM.gSet 0)
abbrev lt2 : MS := AM.mAsg (AM.mFz (AM.mTup (AM.mCons (AM.mC (.str "rows")) (AM.mCons (AM.mOp2 AM.gMul (AM.mLst (AM.mCons (AM.mC (.int 0)) AM.mNil)) (AM.mC (.int 6))) (AM.mCons (AM.mVarS 0) AM.mNil))))) (AM.gSet 1)
theorem long12 : AM.mSeq lt1 lt2 [none, none, none, none, none] = some (.ok .nx, [some (.sh (longP.ds.getD 2 (tI 0))), some (.sh longP.d), none, none, none]) := by kernel_rfl
theorem seq_assoc64 {a b c : MS} {e e' : AM.Env} (h : AM.mSeq a b e = some (.ok .nx, e')) : AM.mSeq a (AM.mSeq b c) e = c e' := by
  unfold AM.mSeq at *
  cases ha : a e with
  | none => rw [ha] at h; cases h
  | some r =>
    obtain ⟨r, e1⟩ := r
    rw [ha] at h
    cases r with
    | ex x => cases h
    | ok f =>
      cases f with
      | nx =>
        dsimp only at h ⊢
        rw [h]
      | ct => cases h
      | bk => cases h
      | rt w => cases h
theorem long_m : m__law_long_text [] = some (.ok (.sh (.bl true)), []) := by
  obtain ⟨T, eT, kT⟩ := str64 longP_sh longP_few
  obtain ⟨o1, hl⟩ := law_m longP_sh
  obtain ⟨o2, hs⟩ := show_m longP_sh
  have pS := pn_str (Pap.tx longP_sh).ok
  have pT : Pn 0 (.str T) := ⟨.str T, rfl, by simpa [PyData.canLay0] using kT, by simp [PyData.depth]⟩
  have h12 := long12
  obtain ⟨d, hd⟩ : ∃ d, d = longP.d := ⟨_, rfl⟩
  obtain ⟨r, hr⟩ : ∃ r, r = longP.ds.getD 2 (tI 0) := ⟨_, rfl⟩
  obtain ⟨S, hS⟩ : ∃ S, S = SX.S longP.t := ⟨_, rfl⟩
  have pS : Pn 0 (.str S) := by rw [hS]; exact pS
  rw [← hd] at eT hl hs h12
  rw [← hr] at h12
  rw [← hS] at hl hs
  have gs : AM.gStrY [.sh d] = some (.sh (.str T)) := by
    have e : AM.gStrY [.sh d] = ((W.toD (.sh d)).bind strY).map (eD tS) := str_W (.sh d)
    rw [e, show W.toD (.sh d) = some d from rfl, Option.bind_some, eT]
    rfl
  have s3 : AM.mAsg (AM.mBi AM.gStrY (AM.mCons (AM.mVarS 1) AM.mNil)) (AM.gSet 2) [some (.sh r), some (.sh d), none, none, none] = some (.ok .nx, [some (.sh r), some (.sh d), some (.sh (.str T)), none, none]) := by
    refine m_asg (x := .sh (.str T)) ?_ rfl
    have hc : AM.mCons (AM.mVarS 1) AM.mNil [some (.sh r), some (.sh d), none, none, none] = some (.ok [.sh d], [some (.sh r), some (.sh d), none, none, none]) := rfl
    unfold AM.mBi ME.bind
    rw [hc]
    simp only [ME.op, gs, Option.map_some]
  obtain ⟨E, hE⟩ : ∃ E : AM.Env, E = [some (.sh r), some (.sh d), some (.sh (.str T)), none, none] := ⟨_, rfl⟩
  have v1 : AM.mVarS 1 E = some (.ok (.sh d), E) := by rw [hE]; rfl
  have v2 : AM.mVarS 2 E = some (.ok (.sh (.str T)), E) := by rw [hE]; rfl
  have q1 : AM.mOp2 AM.gEq (AM.mK0 m_show_paper (AM.wOwn (AM.mVarS 1) AM.wNil)) (AM.mK0 m__law_paper_text (AM.wOwn (AM.mVarS 1) AM.wNil)) E = some (.ok (.sh (.bl true)), E) := m_op2 (m_own v1 hs) (m_own v1 hl) (gEq_eq rfl rfl pS (by decide))
  have q2 : AM.mOp2 AM.gEq (AM.mBi AM.gStrY (AM.mCons (AM.mVarS 1) AM.mNil)) (AM.mVarS 2) E = some (.ok (.sh (.bl true)), E) := by
    refine m_op2 (x := .sh (.str T)) (y := .sh (.str T)) ?_ v2 (gEq_eq rfl rfl pT (by decide))
    simp only [AM.mBi, AM.mCons, AM.mNil, ME.bind, v1, ME.pure, ME.op, Option.map_some, gs]
  have s4 : AM.mRet (AM.mAndV (AM.mOp2 AM.gEq (AM.mK0 m_show_paper (AM.wOwn (AM.mVarS 1) AM.wNil)) (AM.mK0 m__law_paper_text (AM.wOwn (AM.mVarS 1) AM.wNil))) (AM.mOp2 AM.gEq (AM.mBi AM.gStrY (AM.mCons (AM.mVarS 1) AM.mNil)) (AM.mVarS 2))) E = some (.ok (.rt (.sh (.bl true))), E) := by
    simp only [AM.mRet, AM.mAndV, ME.bind, m_mB q1, if_true, q2]
    rfl
  have e : b__law_long_text [none, none, none, none, none] = some (.ok (.rt (.sh (.bl true))), E) := by
    unfold b__law_long_text
    refine (seq_assoc64 h12).trans ?_
    refine (m_seq s3).trans ?_
    rw [← hE]
    exact s4
  unfold m__law_long_text AM.fnM
  rw [if_pos (by rfl)]
  have e6 : (([] : List W).map some ++ List.replicate (5 - 0) none : AM.Env) = [none, none, none, none, none] := rfl
  rw [e6, e, hE]
  rfl
end LW
set_option maxHeartbeats 4000000
namespace LW
open PySem AM TY
theorem nx64 {m : ME W} {E : AM.Env} {w : W} (h : m E = some (.ok w, E)) : AM.mNoX m E = some (.ok w, E) := by
  unfold AM.mNoX
  rw [h]
theorem call_n {mf : MF} {E : AM.Env} {w : W} {o : List (Option W)} (h : mf [] = some (.ok w, o)) : AM.mNoX (AM.mK0 mf AM.wNil) E = some (.ok w, E) := nx64 (by
  simp only [AM.mK0, AM.wNil, ME.bind, ME.pure, AM.callK0, AM.ioOf, AM.argWs, h, AM.hasBor, Bool.false_and, Bool.false_eq_true, if_false])
noncomputable abbrev kBody (fu : Nat) : MS := AM.mIfS (AM.mNot (AM.mB (AM.mK0 (m__law_kept fu) (AM.wOwn (AM.mK0 m__law_paper (AM.wOwn (AM.mK0 m__law_pile (AM.wOwn (AM.mVarS 0) (AM.wOwn (AM.mVarS 1) AM.wNil))) AM.wNil)) AM.wNil)))) (AM.mRet (AM.mC (.bl false))) AM.mNx
theorem turn_law {fu : Nat} (hfu : 2 ^ 60 < fu) (ns : List Int) {k : Int} (h0 : 0 ≤ k) (h1 : k < 16) (o2 : Option W) : kBody fu [some (.sh (.scr ns)), some (.sh (.int k)), o2] = some (.ok .nx, [some (.sh (.scr ns)), some (.sh (.int k)), o2]) := by
  obtain ⟨p, e1, hp⟩ := pile_ok ns k h0 (by omega)
  obtain ⟨q, p', e2, hG, hf, _⟩ := paper_ok hp (by decide)
  obtain ⟨w', e3⟩ := kept_pap hfu hG hf
  have m1 := t__law_pile ns k
  rw [e1] at m1
  have m2 := t__law_paper p
  rw [e2] at m2
  obtain ⟨E, hE⟩ : ∃ E : AM.Env, E = [some (.sh (.scr ns)), some (.sh (.int k)), o2] := ⟨_, rfl⟩
  have v0 : AM.mVarS 0 E = some (.ok (.sh (.scr ns)), E) := by rw [hE]; rfl
  have v1 : AM.mVarS 1 E = some (.ok (.sh (.int k)), E) := by rw [hE]; rfl
  have m1' : m__law_pile [.sh (.scr ns), .sh (.int k)] = some (.ok ((eO (eD tI)) p), [none, none]) := m1.h
  have q1 : AM.mK0 m__law_pile (AM.wOwn (AM.mVarS 0) (AM.wOwn (AM.mVarS 1) AM.wNil)) E = some (.ok ((eO (eD tI)) p), E) := by
    simp only [AM.mK0, AM.wOwn, ME.bind, v0, v1, AM.wNil, ME.pure, AM.callK0, AM.ioOf, Option.map_none, AM.argWs, Option.map_some, m1', AM.hasBor, Bool.false_and, Bool.false_eq_true, if_false]
  have m2' : m__law_paper [(eO (eD tI)) p] = some (.ok q.w, [some ((eO (eD tI)) p')]) := m2.h
  have q2 := m_own q1 m2'
  have q3 := m_own q2 e3
  rw [← hE]
  exact (m_ifF (m_not (c := true) (m_mB q3))).trans rfl
theorem loop_law {fu : Nat} (hfu : 2 ^ 60 < fu) (ns : List Int) : ∀ (ks : List Int) (o1 o2 : Option W), (∀ k ∈ ks, 0 ≤ k ∧ k < 16) → ∃ o1', AM.mLoop (AM.gSet 1) (kBody fu) (ks.map D.int) [some (.sh (.scr ns)), o1, o2] = some (.ok .nx, [some (.sh (.scr ns)), o1', o2])
  | [], o1, o2, _ => ⟨o1, rfl⟩
  | k :: ks, o1, o2, h => by
    obtain ⟨o1', ih⟩ := loop_law hfu ns ks (some (.sh (.int k))) o2 fun x hx => h x (by simp [hx])
    refine ⟨o1', ?_⟩
    have hk := h k (by simp)
    rw [List.map_cons, AM.mLoop]
    have g1 : AM.gSet 1 (.sh (.int k)) [some (.sh (.scr ns)), o1, o2] = some (.ok (), [some (.sh (.scr ns)), some (.sh (.int k)), o2]) := rfl
    dsimp only
    rw [g1]
    dsimp only
    rw [turn_law hfu ns hk.1 hk.2 o2]
    exact ih
theorem io_ok {mf : MF} {x0 x1 : Option W} {p p' w : W} (e : mf [p] = some (.ok w, [some p'])) : AM.mK1 mf (AM.wIo (AM.lVar 2) AM.wNil) [x0, x1, some p] = some (.ok w, [x0, x1, some p']) := by
  show AM.callK1 mf [.io (2, [])] 0 (2, []) [x0, x1, some p] = _
  have g : AM.getE [x0, x1, some p] (2, []) = some p := rfl
  unfold AM.callK1
  rw [g]
  simp only [AM.argWs, Option.map_some, e, AM.hasBor, Bool.false_and, Bool.false_eq_true, if_false, List.getElem?_cons_zero]
  rfl
noncomputable abbrev eC (fu : Nat) : ME Bool := AM.mNot (AM.mB (AM.mK1 (m__law_kept fu) (AM.wIo (AM.lVar 2) AM.wNil)))
theorem edge_turn {fu : Nat} (hfu : 2 ^ 60 < fu) {p : Pap} (h : p.G) (hf : p.few) (x0 x1 : Option W) : ∃ p', eC fu [x0, x1, some p.w] = some (.ok false, [x0, x1, some p']) := by
  obtain ⟨p', e⟩ := kept_pap hfu h hf
  refine ⟨p', ?_⟩
  have k : AM.mK1 (m__law_kept fu) (AM.wIo (AM.lVar 2) AM.wNil) [x0, x1, some p.w] = some (.ok (.sh (.bl true)), [x0, x1, some p']) := io_ok e
  simp only [eC, AM.mNot, AM.mB, ME.bind, k, ME.op]
  rfl
theorem edge_loop {fu : Nat} (hfu : 2 ^ 60 < fu) (x0 x1 : Option W) : ∀ (ps : List Pap) (o : Option W), (∀ p ∈ ps, p.G ∧ p.few) → ∃ o', AM.loopN 2 (eC fu) (ps.map Pap.w) [x0, x1, o] = some [x0, x1, o']
  | [], o, _ => ⟨o, rfl⟩
  | p :: ps, o, h => by
    obtain ⟨o', ih⟩ := edge_loop hfu x0 x1 ps none fun q hq => h q (by simp [hq])
    have hp := h p (by simp)
    obtain ⟨p', e⟩ := edge_turn hfu hp.1 hp.2 x0 x1
    refine ⟨o', ?_⟩
    rw [List.map_cons, AM.loopN]
    rw [if_pos (by simp)]
    have s : ([x0, x1, o] : AM.Env).set 2 (some p.w) = [x0, x1, some p.w] := rfl
    rw [s, e]
    exact ih
theorem law_ok : ∀ ns : List Int, ns.length ≤ 63 → ∃ fu outs, m_law fu [.sh (.scr ns)] = some (.ok (.sh (.bl true)), outs) := fun ns _ => by
  have hfu : 2 ^ 60 < 2 ^ 61 := by decide
  refine ⟨2 ^ 61, [none], ?_⟩
  obtain ⟨fu, hf⟩ : ∃ fu, fu = 2 ^ 61 := ⟨_, rfl⟩
  rw [← hf] at hfu ⊢
  obtain ⟨E, hE⟩ : ∃ E : AM.Env, E = [some (.sh (.scr ns)), none, none] := ⟨_, rfl⟩
  have l1 : AM.mNoX (AM.mK0 m__law_long_text AM.wNil) E = some (.ok (.sh (.bl true)), E) := call_n long_m
  have s1 : AM.mIfS (AM.mNot (AM.mB (AM.mNoX (AM.mK0 m__law_long_text AM.wNil)))) (AM.mRet (AM.mC (.bl false))) AM.mNx E = some (.ok .nx, E) := (m_ifF (m_not (c := true) (m_mB l1))).trans rfl
  obtain ⟨o1', e2⟩ := loop_law hfu ns [0, 1, 2, 3, 4, 5, 6, 7, 8, 9, 10, 11, 12, 13, 14, 15] none none (by decide)
  have s2 : AM.mFor (AM.mItR AM.gRg1 (AM.mCons (AM.mC (.int 16)) AM.mNil)) (AM.gSet 1) (kBody fu) E = some (.ok .nx, [some (.sh (.scr ns)), o1', none]) := by
    have e1 : AM.mItR AM.gRg1 (AM.mCons (AM.mC (.int 16)) AM.mNil) E = some (.ok ([0, 1, 2, 3, 4, 5, 6, 7, 8, 9, 10, 11, 12, 13, 14, 15].map D.int), E) := rfl
    unfold AM.mFor ME.bind
    rw [e1, hE]
    exact e2
  obtain ⟨E2, hE2⟩ : ∃ E2 : AM.Env, E2 = [some (.sh (.scr ns)), o1', none] := ⟨_, rfl⟩
  have l2 : AM.mNoX (AM.mK0 m__law_edges AM.wNil) E2 = some (.ok (.ol (edges.map Pap.w)), E2) := call_n edges_m
  obtain ⟨o', e3⟩ := edge_loop hfu (some (.sh (.scr ns))) o1' edges none edges_G
  have s3 : AM.mCompN (AM.mNoX (AM.mK0 m__law_edges AM.wNil)) 2 (eC fu) E2 = some (.ok (.ol []), [some (.sh (.scr ns)), o1', o']) := by
    unfold AM.mCompN ME.bind
    rw [l2]
    dsimp only [AM.wOl]
    have st : E2.set 2 none = [some (.sh (.scr ns)), o1', none] := by rw [hE2]; rfl
    rw [st, e3]
    rfl
  have s4 : AM.mRet (AM.mOp2 AM.gEq (AM.mCompN (AM.mNoX (AM.mK0 m__law_edges AM.wNil)) 2 (eC fu)) (AM.mLst AM.mNil)) E2 = some (.ok (.rt (.sh (.bl true))), [some (.sh (.scr ns)), o1', o']) := by
    have ll : AM.mLst AM.mNil [some (.sh (.scr ns)), o1', o'] = some (.ok (.ol []), [some (.sh (.scr ns)), o1', o']) := rfl
    simp only [AM.mRet, AM.mOp2, ME.bind, s3, ll, ME.pure, ME.op, gEq_nil, Option.map_some]
    try rfl
  have e : b_law fu E = some (.ok (.rt (.sh (.bl true))), [some (.sh (.scr ns)), o1', o']) := by
    unfold b_law
    refine (m_seq s1).trans ?_
    refine (m_seq s2).trans ?_
    rw [← hE2]
    exact s4
  unfold m_law AM.fnM
  rw [if_pos (by rfl)]
  have e6 : ([W.sh (.scr ns)].map some ++ List.replicate (3 - 1) none : AM.Env) = E := by rw [hE]; rfl
  rw [e6, e]
  rfl
end LW
set_option maxHeartbeats 4000000
namespace LW
open PySem PySem.Spec PyProof.Rows L2 AM
def topS (i : Nat) : Stmt := PySem.Challenge.pw_standloss_k64_papers_as_texts.main.body.getD i (.Pass ⟨0, 0, 0, 0⟩)
abbrev s_show_numbers : Stmt := topS 12
abbrev s_show_bar : Stmt := topS 14
abbrev s_show_row : Stmt := topS 15
abbrev s_show_paper : Stmt := topS 16
abbrev s__law_numbers_text : Stmt := topS 31
abbrev s__law_row_text : Stmt := topS 32
abbrev s__law_bar_text : Stmt := topS 33
abbrev s__law_paper_text : Stmt := topS 34
abbrev s__law_long_text : Stmt := topS 39
abbrev s_number_in : Stmt := topS 7
abbrev s_numbers_in : Stmt := topS 9
abbrev s_halves : Stmt := topS 11
abbrev s_number_from : Stmt := topS 8
abbrev s_numbers_from : Stmt := topS 10
abbrev s_bar_in : Stmt := topS 17
abbrev s_lead_in : Stmt := topS 18
abbrev s_row_in : Stmt := topS 19
abbrev s_read_paper : Stmt := topS 20
abbrev s__law_whole : Stmt := topS 25
abbrev s__law_kinds : Stmt := topS 37
abbrev s__law_lists : Stmt := topS 36
abbrev s__law_kept : Stmt := topS 38
abbrev s__law_mixed : Stmt := topS 22
abbrev s__law_take : Stmt := topS 24
abbrev s__law_great : Stmt := topS 26
abbrev s__law_signed : Stmt := topS 27
abbrev s__law_list : Stmt := topS 28
abbrev s__law_row : Stmt := topS 29
abbrev s__law_paper : Stmt := topS 30
abbrev s__law_pile : Stmt := topS 23
abbrev s__law_edges : Stmt := topS 35
abbrev s_law : Stmt := topS 40
structure Facts (w : World) (K : PySem.W.Frag) (mg : Str → Option Value) : Prop where
  f_show_numbers : ∃ (f : Addr) (fd : FuncData), Fun K "show_numbers" "show_numbers" s_show_numbers f fd ∧ mg "show_numbers" = some (.ref f)
  f_show_bar : ∃ (f : Addr) (fd : FuncData), Fun K "show_bar" "show_bar" s_show_bar f fd ∧ mg "show_bar" = some (.ref f)
  f_show_row : ∃ (f : Addr) (fd : FuncData), Fun K "show_row" "show_row" s_show_row f fd ∧ mg "show_row" = some (.ref f)
  f_show_paper : ∃ (f : Addr) (fd : FuncData), Fun K "show_paper" "show_paper" s_show_paper f fd ∧ mg "show_paper" = some (.ref f)
  f__law_numbers_text : ∃ (f : Addr) (fd : FuncData), Fun K "_law_numbers_text" "_law_numbers_text" s__law_numbers_text f fd ∧ mg "_law_numbers_text" = some (.ref f)
  f__law_row_text : ∃ (f : Addr) (fd : FuncData), Fun K "_law_row_text" "_law_row_text" s__law_row_text f fd ∧ mg "_law_row_text" = some (.ref f)
  f__law_bar_text : ∃ (f : Addr) (fd : FuncData), Fun K "_law_bar_text" "_law_bar_text" s__law_bar_text f fd ∧ mg "_law_bar_text" = some (.ref f)
  f__law_paper_text : ∃ (f : Addr) (fd : FuncData), Fun K "_law_paper_text" "_law_paper_text" s__law_paper_text f fd ∧ mg "_law_paper_text" = some (.ref f)
  f__law_long_text : ∃ (f : Addr) (fd : FuncData), Fun K "_law_long_text" "_law_long_text" s__law_long_text f fd ∧ mg "_law_long_text" = some (.ref f)
  f_number_in : ∃ (f : Addr) (fd : FuncData), Fun K "number_in" "number_in" s_number_in f fd ∧ mg "number_in" = some (.ref f)
  f_numbers_in : ∃ (f : Addr) (fd : FuncData), Fun K "numbers_in" "numbers_in" s_numbers_in f fd ∧ mg "numbers_in" = some (.ref f)
  f_halves : ∃ (f : Addr) (fd : FuncData), Fun K "halves" "halves" s_halves f fd ∧ mg "halves" = some (.ref f)
  f_number_from : ∃ (f : Addr) (fd : FuncData), Fun K "number_from" "number_from" s_number_from f fd ∧ mg "number_from" = some (.ref f)
  f_numbers_from : ∃ (f : Addr) (fd : FuncData), Fun K "numbers_from" "numbers_from" s_numbers_from f fd ∧ mg "numbers_from" = some (.ref f)
  f_bar_in : ∃ (f : Addr) (fd : FuncData), Fun K "bar_in" "bar_in" s_bar_in f fd ∧ mg "bar_in" = some (.ref f)
  f_lead_in : ∃ (f : Addr) (fd : FuncData), Fun K "lead_in" "lead_in" s_lead_in f fd ∧ mg "lead_in" = some (.ref f)
  f_row_in : ∃ (f : Addr) (fd : FuncData), Fun K "row_in" "row_in" s_row_in f fd ∧ mg "row_in" = some (.ref f)
  f_read_paper : ∃ (f : Addr) (fd : FuncData), Fun K "read_paper" "read_paper" s_read_paper f fd ∧ mg "read_paper" = some (.ref f)
  f__law_whole : ∃ (f : Addr) (fd : FuncData), Fun K "_law_whole" "_law_whole" s__law_whole f fd ∧ mg "_law_whole" = some (.ref f)
  f__law_kinds : ∃ (f : Addr) (fd : FuncData), Fun K "_law_kinds" "_law_kinds" s__law_kinds f fd ∧ mg "_law_kinds" = some (.ref f)
  f__law_lists : ∃ (f : Addr) (fd : FuncData), Fun K "_law_lists" "_law_lists" s__law_lists f fd ∧ mg "_law_lists" = some (.ref f)
  f__law_kept : ∃ (f : Addr) (fd : FuncData), Fun K "_law_kept" "_law_kept" s__law_kept f fd ∧ mg "_law_kept" = some (.ref f)
  f__law_mixed : ∃ (f : Addr) (fd : FuncData), Fun K "_law_mixed" "_law_mixed" s__law_mixed f fd ∧ mg "_law_mixed" = some (.ref f)
  f__law_take : ∃ (f : Addr) (fd : FuncData), Fun K "_law_take" "_law_take" s__law_take f fd ∧ mg "_law_take" = some (.ref f)
  f__law_great : ∃ (f : Addr) (fd : FuncData), Fun K "_law_great" "_law_great" s__law_great f fd ∧ mg "_law_great" = some (.ref f)
  f__law_signed : ∃ (f : Addr) (fd : FuncData), Fun K "_law_signed" "_law_signed" s__law_signed f fd ∧ mg "_law_signed" = some (.ref f)
  f__law_list : ∃ (f : Addr) (fd : FuncData), Fun K "_law_list" "_law_list" s__law_list f fd ∧ mg "_law_list" = some (.ref f)
  f__law_row : ∃ (f : Addr) (fd : FuncData), Fun K "_law_row" "_law_row" s__law_row f fd ∧ mg "_law_row" = some (.ref f)
  f__law_paper : ∃ (f : Addr) (fd : FuncData), Fun K "_law_paper" "_law_paper" s__law_paper f fd ∧ mg "_law_paper" = some (.ref f)
  f__law_pile : ∃ (f : Addr) (fd : FuncData), Fun K "_law_pile" "_law_pile" s__law_pile f fd ∧ mg "_law_pile" = some (.ref f)
  f__law_edges : ∃ (f : Addr) (fd : FuncData), Fun K "_law_edges" "_law_edges" s__law_edges f fd ∧ mg "_law_edges" = some (.ref f)
  f_law : ∃ (f : Addr) (fd : FuncData), Fun K "law" "law" s_law f fd ∧ mg "law" = some (.ref f)
  b_abs : mg "abs" = none
  b_bool : mg "bool" = none
  b_int : mg "int" = none
  b_isinstance : mg "isinstance" = none
  b_len : mg "len" = none
  b_list : mg "list" = none
  b_min : mg "min" = none
  b_range : mg "range" = none
  b_str : mg "str" = none
  b_tuple : mg "tuple" = none
  b_zip : mg "zip" = none
  e_NoText : ExC K mg "NoText"
  c_FIGURES : ∃ u, mg "FIGURES" = some u ∧ RelV (.str "0123456789") u
  c_MOST_FIGURES : ∃ u, mg "MOST_FIGURES" = some u ∧ RelV (.int 40) u
  c_MOST_NUMBERS : ∃ u, mg "MOST_NUMBERS" = some u ∧ RelV (.int 6) u
section
variable {P : Program} {w : World} {K : PySem.W.Frag} {mg : Str → Option Value} {base : Heap}
theorem sc_show_numbers : FnScope ["numbers", "number"] ["numbers"] (defScope s_show_numbers) := ⟨rfl, rfl, rfl, by decide +kernel, rfl, by decide +kernel, by decide +kernel⟩
theorem d_show_numbers (V : Facts w K mg) : Df P w K mg base "show_numbers" 1 (m_show_numbers) 1 := by
  obtain ⟨f, fd, F, hm⟩ := V.f_show_numbers
  refine ⟨⟨f, fd, ["numbers"], fn_ok F sc_show_numbers rfl (by decide) (fun cdv A outer s H E hr => ?_), hm, F.kp, F.binds fun _ _ _ _ _ _ us hl => match us, hl with | [_], _ => rfl⟩, fnM_len⟩
  have nd := (sc_show_numbers).nd
  have tk : Takes (cxOf (L2.CX P w) P w K mg base ["numbers", "number"] "show_numbers" (defScope s_show_numbers) f cdv A outer s H E) (fun cls d _ H' => E cls d H') := takes_of rfl rfl rfl rfl
  exact (sss_one (ss_ret (se_ms PySem.F.slot_str_join PySem.F.type_str_join mt_join ops_join se_str (sa_cons (se_lcP rfl nd (si_list (se_varS 0 (pv 0))) (blkOk_by (own := [("number", 1)]) (by kernel_rfl)) (fun b => (sg_name nd rfl (.inl rfl) rfl)) (fun b => sts_nil) (fun b => (se_ty call_str_int ops_str (by rfl) V.b_str PyProof.Rows.boot_str (sa_cons (se_varS 1 (pv 1)) sa_nil)))) sa_nil))))
theorem sc_show_bar : FnScope ["times", "order"] ["times", "order"] (defScope s_show_bar) := ⟨rfl, rfl, rfl, by decide +kernel, rfl, by decide +kernel, by decide +kernel⟩
theorem d_show_bar (V : Facts w K mg) : Df P w K mg base "show_bar" 2 (m_show_bar) 2 := by
  obtain ⟨f, fd, F, hm⟩ := V.f_show_bar
  refine ⟨⟨f, fd, ["times", "order"], fn_ok F sc_show_bar rfl (by decide) (fun cdv A outer s H E hr => ?_), hm, F.kp, F.binds fun _ _ _ _ _ _ us hl => match us, hl with | [_, _], _ => rfl⟩, fnM_len⟩
  have nd := (sc_show_bar).nd
  have tk : Takes (cxOf (L2.CX P w) P w K mg base ["times", "order"] "show_bar" (defScope s_show_bar) f cdv A outer s H E) (fun cls d _ H' => E cls d H') := takes_of rfl rfl rfl rfl
  exact (sss_one (ss_ret (se_add (se_add (se_add se_str (se_call0 tk (d_show_numbers V) (hr.mono (by decide)) (by rfl) (sw_own (se_varS 0 (pv 0)) sw_nil))) se_str) (se_call0 tk (d_show_numbers V) (hr.mono (by decide)) (by rfl) (sw_own (se_varS 1 (pv 1)) sw_nil)))))
theorem sc_show_row : FnScope ["row", "text", "dues", "number", "leads", "times", "other"] ["row"] (defScope s_show_row) := ⟨rfl, rfl, rfl, by decide +kernel, rfl, by decide +kernel, by decide +kernel⟩
theorem d_show_row (V : Facts w K mg) : Df P w K mg base "show_row" 1 (m_show_row) 2 := by
  obtain ⟨f, fd, F, hm⟩ := V.f_show_row
  refine ⟨⟨f, fd, ["row"], fn_ok F sc_show_row rfl (by decide) (fun cdv A outer s H E hr => ?_), hm, F.kp, F.binds fun _ _ _ _ _ _ us hl => match us, hl with | [_], _ => rfl⟩, fnM_len⟩
  have nd := (sc_show_row).nd
  have tk : Takes (cxOf (L2.CX P w) P w K mg base ["row", "text", "dues", "number", "leads", "times", "other"] "show_row" (defScope s_show_row) f cdv A outer s H E) (fun cls d _ H' => E cls d H') := takes_of rfl rfl rfl rfl
  exact (sss_cons (ss_asg (qq := false) (se_varS 0 (pv 0)) (sg_tup rfl (sgs_cons (sg_name nd rfl (.inl rfl) rfl) (sgs_cons (sg_name nd rfl (.inl rfl) rfl) (sgs_cons (sg_name nd rfl (.inl rfl) rfl) sgs_nil)))))
    (sss_cons (ss_set (i := 1) nd rfl (.inl rfl) rfl (se_fz (se_add (se_add (se_call0 tk (d_show_numbers V) (hr.mono (by decide)) (by rfl) (sw_own (se_varS 2 (pv 2)) sw_nil)) se_str) (se_ty call_str_int ops_str (by rfl) V.b_str PyProof.Rows.boot_str (sa_cons (se_varS 3 (pv 3)) sa_nil)))))
    (sss_cons (ss_if (st_c (cr_eq hr.units) (se_varS 4 (pv 4)) (se_lst sa_nil)) (sss_one (ss_ret (se_varS 1 (pv 1)))) sss_nil)
    (sss_one (ss_ret (se_add (se_add (se_varS 1 (pv 1)) se_str) (se_ms PySem.F.slot_str_join PySem.F.type_str_join mt_join ops_join se_str (sa_cons (se_lcP rfl nd (si_list (se_varS 4 (pv 4))) (blkOk_by (own := [("times", 5), ("other", 6)]) (by kernel_rfl)) (fun b => (sg_tup rfl (sgs_cons (sg_name nd rfl (.inl rfl) rfl) (sgs_cons (sg_name nd rfl (.inl rfl) rfl) sgs_nil)))) (fun b => sts_nil) (fun b => (se_add (se_add (se_call0 takes0 (d_show_numbers V) (hr.mono (by decide)) (by rfl) (sw_own (se_varS 5 (pv 5)) sw_nil)) se_str) (se_ty call_str_int ops_str (by rfl) V.b_str PyProof.Rows.boot_str (sa_cons (se_varS 6 (pv 6)) sa_nil))))) sa_nil))))))))
theorem sc_show_paper : FnScope ["paper", "first", "row"] ["paper"] (defScope s_show_paper) := ⟨rfl, rfl, rfl, by decide +kernel, rfl, by decide +kernel, by decide +kernel⟩
theorem d_show_paper (V : Facts w K mg) : Df P w K mg base "show_paper" 1 (m_show_paper) 3 := by
  obtain ⟨f, fd, F, hm⟩ := V.f_show_paper
  refine ⟨⟨f, fd, ["paper"], fn_ok F sc_show_paper rfl (by decide) (fun cdv A outer s H E hr => ?_), hm, F.kp, F.binds fun _ _ _ _ _ _ us hl => match us, hl with | [_], _ => rfl⟩, fnM_len⟩
  have nd := (sc_show_paper).nd
  have tk : Takes (cxOf (L2.CX P w) P w K mg base ["paper", "first", "row"] "show_paper" (defScope s_show_paper) f cdv A outer s H E) (fun cls d _ H' => E cls d H') := takes_of rfl rfl rfl rfl
  exact (sss_cons (ss_set (i := 1) nd rfl (.inl rfl) rfl (se_fz (se_ix (se_varS 0 (pv 0)) se_int (fun _ _ => rfl))))
    (sss_cons (ss_if (st_w (sw_and (st_c (cr_eq hr.units) (se_bi call_len ops_len (by rfl) V.b_len PySem.boot_len (sa_cons (se_varS 0 (pv 0)) sa_nil)) se_int) (sw_and1 (st_val (se_isi kit_str (by rfl) V.b_isinstance (by rfl) V.b_str PyProof.Rows.boot_str (se_varS 1 (pv 1))))))) (sss_one (ss_ret (se_varS 1 (pv 1)))) sss_nil)
    (sss_cons (ss_if (st_c (cr_eq hr.units) (se_bi call_len ops_len (by rfl) V.b_len PySem.boot_len (sa_cons (se_varS 0 (pv 0)) sa_nil)) se_int) (sss_one (ss_ret (se_add se_str (se_call0 tk (d_show_numbers V) (hr.mono (by decide)) (by rfl) (sw_own (se_varS 1 (pv 1)) sw_nil))))) sss_nil)
    (sss_cons (ss_if (st_w (sw_and (st_c (cr_eq hr.units) (se_bi call_len ops_len (by rfl) V.b_len PySem.boot_len (sa_cons (se_varS 0 (pv 0)) sa_nil)) se_int) (sw_and1 (st_val (se_isi kit_list (by rfl) V.b_isinstance (by rfl) V.b_list PyProof.Rows.boot_list (se_varS 1 (pv 1))))))) (sss_one (ss_ret (se_call0 tk (d_show_bar V) (hr.mono (by decide)) (by rfl) (sw_own (se_varS 1 (pv 1)) (sw_own (se_fz (se_ix (se_varS 0 (pv 0)) se_int (fun _ _ => rfl))) sw_nil))))) sss_nil)
    (sss_cons (ss_if (st_c (cr_eq hr.units) (se_bi call_len ops_len (by rfl) V.b_len PySem.boot_len (sa_cons (se_varS 0 (pv 0)) sa_nil)) se_int) (sss_one (ss_ret (se_add (se_add (se_add se_str (se_ty call_str_int ops_str (by rfl) V.b_str PyProof.Rows.boot_str (sa_cons (se_varS 1 (pv 1)) sa_nil))) se_str) (se_call0 tk (d_show_numbers V) (hr.mono (by decide)) (by rfl) (sw_own (se_fz (se_ix (se_varS 0 (pv 0)) se_int (fun _ _ => rfl))) sw_nil))))) sss_nil)
    (sss_cons (ss_if (st_val (se_isi kit_str (by rfl) V.b_isinstance (by rfl) V.b_str PyProof.Rows.boot_str (se_varS 1 (pv 1)))) (sss_one (ss_ret (se_ms PySem.F.slot_str_join PySem.F.type_str_join mt_join ops_join se_str (sa_cons (se_add (se_lst (sa_cons (se_add se_str (se_call0 tk (d_show_numbers V) (hr.mono (by decide)) (by rfl) (sw_own (se_fz (se_ix (se_varS 0 (pv 0)) se_int (fun _ _ => rfl))) sw_nil))) sa_nil)) (se_lcP rfl nd (si_list (se_ix (se_varS 0 (pv 0)) se_int (fun _ _ => rfl))) (blkOk_by (own := [("row", 2)]) (by kernel_rfl)) (fun b => (sg_name nd rfl (.inl rfl) rfl)) (fun b => sts_nil) (fun b => (se_call0 takes0 (d_show_row V) (hr.mono (by decide)) (by rfl) (sw_own (se_varS 2 (pv 2)) sw_nil))))) sa_nil)))) sss_nil)
    (sss_one (ss_ret (se_add (se_add (se_add se_str (se_call0 tk (d_show_numbers V) (hr.mono (by decide)) (by rfl) (sw_own (se_varS 1 (pv 1)) sw_nil))) se_str) (se_call0 tk (d_show_bar V) (hr.mono (by decide)) (by rfl) (sw_own (se_fz (se_ix (se_varS 0 (pv 0)) se_int (fun _ _ => rfl))) (sw_own (se_fz (se_ix (se_varS 0 (pv 0)) se_int (fun _ _ => rfl))) sw_nil))))))))))))
theorem sc__law_numbers_text : FnScope ["_law_numbers", "_law_number"] ["_law_numbers"] (defScope s__law_numbers_text) := ⟨rfl, rfl, rfl, by decide +kernel, rfl, by decide +kernel, by decide +kernel⟩
theorem d__law_numbers_text (V : Facts w K mg) : Df P w K mg base "_law_numbers_text" 1 (m__law_numbers_text) 1 := by
  obtain ⟨f, fd, F, hm⟩ := V.f__law_numbers_text
  refine ⟨⟨f, fd, ["_law_numbers"], fn_ok F sc__law_numbers_text rfl (by decide) (fun cdv A outer s H E hr => ?_), hm, F.kp, F.binds fun _ _ _ _ _ _ us hl => match us, hl with | [_], _ => rfl⟩, fnM_len⟩
  have nd := (sc__law_numbers_text).nd
  have tk : Takes (cxOf (L2.CX P w) P w K mg base ["_law_numbers", "_law_number"] "_law_numbers_text" (defScope s__law_numbers_text) f cdv A outer s H E) (fun cls d _ H' => E cls d H') := takes_of rfl rfl rfl rfl
  exact (sss_one (ss_ret (se_ms PySem.F.slot_str_join PySem.F.type_str_join mt_join ops_join se_str (sa_cons (se_lcP rfl nd (si_list (se_varS 0 (pv 0))) (blkOk_by (own := [("_law_number", 1)]) (by kernel_rfl)) (fun b => (sg_name nd rfl (.inl rfl) rfl)) (fun b => sts_nil) (fun b => (se_ty call_str_int ops_str (by rfl) V.b_str PyProof.Rows.boot_str (sa_cons (se_varS 1 (pv 1)) sa_nil)))) sa_nil))))
theorem sc__law_row_text : FnScope ["_law_row_here", "_law_text", "_law_times", "_law_other"] ["_law_row_here"] (defScope s__law_row_text) := ⟨rfl, rfl, rfl, by decide +kernel, rfl, by decide +kernel, by decide +kernel⟩
theorem d__law_row_text (V : Facts w K mg) : Df P w K mg base "_law_row_text" 1 (m__law_row_text) 2 := by
  obtain ⟨f, fd, F, hm⟩ := V.f__law_row_text
  refine ⟨⟨f, fd, ["_law_row_here"], fn_ok F sc__law_row_text rfl (by decide) (fun cdv A outer s H E hr => ?_), hm, F.kp, F.binds fun _ _ _ _ _ _ us hl => match us, hl with | [_], _ => rfl⟩, fnM_len⟩
  have nd := (sc__law_row_text).nd
  have tk : Takes (cxOf (L2.CX P w) P w K mg base ["_law_row_here", "_law_text", "_law_times", "_law_other"] "_law_row_text" (defScope s__law_row_text) f cdv A outer s H E) (fun cls d _ H' => E cls d H') := takes_of rfl rfl rfl rfl
  exact (sss_cons (ss_set (i := 1) nd rfl (.inl rfl) rfl (se_fz (se_add (se_add (se_add se_str (se_call0 tk (d__law_numbers_text V) (hr.mono (by decide)) (by rfl) (sw_own (se_fz (se_ix (se_varS 0 (pv 0)) se_int (fun _ _ => rfl))) sw_nil))) se_str) (se_ty call_str_int ops_str (by rfl) V.b_str PyProof.Rows.boot_str (sa_cons (se_ix (se_varS 0 (pv 0)) se_int (fun _ _ => rfl)) sa_nil)))))
    (sss_cons (ss_if (st_c (cr_eq hr.units) (se_ix (se_varS 0 (pv 0)) se_int (fun _ _ => rfl)) (se_lst sa_nil)) (sss_one (ss_ret (se_varS 1 (pv 1)))) sss_nil)
    (sss_one (ss_ret (se_add (se_add (se_varS 1 (pv 1)) se_str) (se_ms PySem.F.slot_str_join PySem.F.type_str_join mt_join ops_join se_str (sa_cons (se_lcP rfl nd (si_list (se_ix (se_varS 0 (pv 0)) se_int (fun _ _ => rfl))) (blkOk_by (own := [("_law_times", 2), ("_law_other", 3)]) (by kernel_rfl)) (fun b => (sg_tup rfl (sgs_cons (sg_name nd rfl (.inl rfl) rfl) (sgs_cons (sg_name nd rfl (.inl rfl) rfl) sgs_nil)))) (fun b => sts_nil) (fun b => (se_add (se_add (se_call0 takes0 (d__law_numbers_text V) (hr.mono (by decide)) (by rfl) (sw_own (se_varS 2 (pv 2)) sw_nil)) se_str) (se_ty call_str_int ops_str (by rfl) V.b_str PyProof.Rows.boot_str (sa_cons (se_varS 3 (pv 3)) sa_nil))))) sa_nil)))))))
theorem sc__law_bar_text : FnScope ["_law_times", "_law_order"] ["_law_times", "_law_order"] (defScope s__law_bar_text) := ⟨rfl, rfl, rfl, by decide +kernel, rfl, by decide +kernel, by decide +kernel⟩
theorem d__law_bar_text (V : Facts w K mg) : Df P w K mg base "_law_bar_text" 2 (m__law_bar_text) 2 := by
  obtain ⟨f, fd, F, hm⟩ := V.f__law_bar_text
  refine ⟨⟨f, fd, ["_law_times", "_law_order"], fn_ok F sc__law_bar_text rfl (by decide) (fun cdv A outer s H E hr => ?_), hm, F.kp, F.binds fun _ _ _ _ _ _ us hl => match us, hl with | [_, _], _ => rfl⟩, fnM_len⟩
  have nd := (sc__law_bar_text).nd
  have tk : Takes (cxOf (L2.CX P w) P w K mg base ["_law_times", "_law_order"] "_law_bar_text" (defScope s__law_bar_text) f cdv A outer s H E) (fun cls d _ H' => E cls d H') := takes_of rfl rfl rfl rfl
  exact (sss_one (ss_ret (se_add (se_add (se_add se_str (se_call0 tk (d__law_numbers_text V) (hr.mono (by decide)) (by rfl) (sw_own (se_varS 0 (pv 0)) sw_nil))) se_str) (se_call0 tk (d__law_numbers_text V) (hr.mono (by decide)) (by rfl) (sw_own (se_varS 1 (pv 1)) sw_nil)))))
theorem sc__law_paper_text : FnScope ["_law_paper_here", "_law_first", "_law_row_here"] ["_law_paper_here"] (defScope s__law_paper_text) := ⟨rfl, rfl, rfl, by decide +kernel, rfl, by decide +kernel, by decide +kernel⟩
theorem d__law_paper_text (V : Facts w K mg) : Df P w K mg base "_law_paper_text" 1 (m__law_paper_text) 3 := by
  obtain ⟨f, fd, F, hm⟩ := V.f__law_paper_text
  refine ⟨⟨f, fd, ["_law_paper_here"], fn_ok F sc__law_paper_text rfl (by decide) (fun cdv A outer s H E hr => ?_), hm, F.kp, F.binds fun _ _ _ _ _ _ us hl => match us, hl with | [_], _ => rfl⟩, fnM_len⟩
  have nd := (sc__law_paper_text).nd
  have tk : Takes (cxOf (L2.CX P w) P w K mg base ["_law_paper_here", "_law_first", "_law_row_here"] "_law_paper_text" (defScope s__law_paper_text) f cdv A outer s H E) (fun cls d _ H' => E cls d H') := takes_of rfl rfl rfl rfl
  exact (sss_cons (ss_set (i := 1) nd rfl (.inl rfl) rfl (se_fz (se_ix (se_varS 0 (pv 0)) se_int (fun _ _ => rfl))))
    (sss_cons (ss_if (st_c (cr_inQ (r65 hr) (by rfl)) (se_varS 1 (pv 1)) (se_tup (sa_cons se_str (sa_cons se_str sa_nil)))) (sss_one (ss_ret (se_varS 1 (pv 1)))) sss_nil)
    (sss_cons (ss_if (st_c (cr_eq hr.units) (se_varS 1 (pv 1)) se_str) (sss_one (ss_ret (se_add (se_add se_str (se_call0 tk (d__law_numbers_text V) (hr.mono (by decide)) (by rfl) (sw_own (se_fz (se_ix (se_varS 0 (pv 0)) se_int (fun _ _ => rfl))) sw_nil))) (se_ms PySem.F.slot_str_join PySem.F.type_str_join mt_join ops_join se_str (sa_cons (se_lcP rfl nd (si_list (se_ix (se_varS 0 (pv 0)) se_int (fun _ _ => rfl))) (blkOk_by (own := [("_law_row_here", 2)]) (by kernel_rfl)) (fun b => (sg_name nd rfl (.inl rfl) rfl)) (fun b => sts_nil) (fun b => (se_call0 takes0 (d__law_row_text V) (hr.mono (by decide)) (by rfl) (sw_own (se_varS 2 (pv 2)) sw_nil)))) sa_nil))))) sss_nil)
    (sss_cons (ss_if (st_c (cr_eq hr.units) (se_bi call_len ops_len (by rfl) V.b_len PySem.boot_len (sa_cons (se_varS 0 (pv 0)) sa_nil)) se_int) (sss_one (ss_ret (se_add se_str (se_call0 tk (d__law_numbers_text V) (hr.mono (by decide)) (by rfl) (sw_own (se_varS 1 (pv 1)) sw_nil))))) sss_nil)
    (sss_cons (ss_if (st_c (cr_eq hr.units) (se_bi call_len ops_len (by rfl) V.b_len PySem.boot_len (sa_cons (se_varS 0 (pv 0)) sa_nil)) se_int) (sss_one (ss_ret (se_add (se_add (se_add se_str (se_call0 tk (d__law_numbers_text V) (hr.mono (by decide)) (by rfl) (sw_own (se_varS 1 (pv 1)) sw_nil))) se_str) (se_call0 tk (d__law_bar_text V) (hr.mono (by decide)) (by rfl) (sw_own (se_fz (se_ix (se_varS 0 (pv 0)) se_int (fun _ _ => rfl))) (sw_own (se_fz (se_ix (se_varS 0 (pv 0)) se_int (fun _ _ => rfl))) sw_nil)))))) sss_nil)
    (sss_cons (ss_if (st_val (se_isi kit_list (by rfl) V.b_isinstance (by rfl) V.b_list PyProof.Rows.boot_list (se_varS 1 (pv 1)))) (sss_one (ss_ret (se_call0 tk (d__law_bar_text V) (hr.mono (by decide)) (by rfl) (sw_own (se_varS 1 (pv 1)) (sw_own (se_fz (se_ix (se_varS 0 (pv 0)) se_int (fun _ _ => rfl))) sw_nil))))) sss_nil)
    (sss_one (ss_ret (se_add (se_add (se_add se_str (se_ty call_str_int ops_str (by rfl) V.b_str PyProof.Rows.boot_str (sa_cons (se_varS 1 (pv 1)) sa_nil))) se_str) (se_call0 tk (d__law_numbers_text V) (hr.mono (by decide)) (by rfl) (sw_own (se_fz (se_ix (se_varS 0 (pv 0)) se_int (fun _ _ => rfl))) sw_nil)))))))))))
theorem sc__law_long_text : FnScope ["_law_rows", "_law_paper_here", "_law_before", "_law_k", "_law_j"] [] (defScope s__law_long_text) := ⟨rfl, rfl, rfl, by decide +kernel, rfl, by decide +kernel, by decide +kernel⟩
theorem d__law_long_text (V : Facts w K mg) : DfG P w K mg base "_law_long_text" 0 (m__law_long_text) 4 := by
  obtain ⟨f, fd, F, hm⟩ := V.f__law_long_text
  refine ⟨⟨f, fd, [], rfl, fun A hA hG => fn_law (k := 3) F sc__law_long_text rfl (by decide) hA hG (fun cdv outer s H E hr hG => ?_), hm, F.kp, F.binds fun _ _ _ _ _ _ us hl => match us, hl with | [], _ => rfl⟩, fnM_len⟩
  have nd := (sc__law_long_text).nd
  have tk : Takes (cxOf (L2.CX P w) P w K mg base ["_law_rows", "_law_paper_here", "_law_before", "_law_k", "_law_j"] "_law_long_text" (defScope s__law_long_text) f cdv A outer s H E) (fun cls d _ H' => E cls d H') := takes_of rfl rfl rfl rfl
  exact (sss_cons (ss_lcPZ (i := 0) rfl rfl nd rfl rfl (sw_true rfl rfl rfl (by decide +kernel)) (si_rg1 (by rfl) V.b_range (sa_cons se_int sa_nil)) (blkOk_by (own := [("_law_k", 3)]) (by kernel_rfl)) (fun b => (sg_name nd rfl (.inr rfl) rfl)) (fun b => sts_nil) (fun b => (se_tup (sa_cons (se_mul (se_lst (sa_cons se_int sa_nil)) se_int) (sa_cons se_int (sa_cons (se_lcP rfl nd (si_rg1 (by rfl) V.b_range (sa_cons se_int sa_nil)) (blkOk_by (own := [("_law_j", 4)]) (by kernel_rfl)) (fun b => (sg_name nd rfl (.inl rfl) rfl)) (fun b => sts_nil) (fun b => (se_tup (sa_cons (se_lst (sa_cons (se_varS 3 (pv 3)) (sa_cons se_int (sa_cons se_int (sa_cons se_int (sa_cons se_int (sa_cons (se_sub se_int (se_varS 3 (pv 3))) sa_nil))))))) (sa_cons (se_varS 3 (pv 3)) sa_nil))))) sa_nil))))))
    (sss_cons (ss_set (i := 1) nd rfl (.inl rfl) rfl (se_fz (se_tup (sa_cons se_str (sa_cons (se_mul (se_lst (sa_cons se_int sa_nil)) se_int) (sa_cons (se_varS 0 (pv 0)) sa_nil))))))
    (sss_cons (ss_set (i := 2) nd rfl (.inl rfl) rfl (se_ty (cr_strY hG hr.units) ops_strY (by rfl) V.b_str PyProof.Rows.boot_str (sa_cons (se_varS 1 (pv 1)) sa_nil)))
    (sss_one (ss_ret (se_andV (se_c (cr_eq hr.units) (se_call0 tk (d_show_paper V) (hr.mono (by decide)) (by rfl) (sw_own (se_varS 1 (pv 1)) sw_nil)) (se_call0 tk (d__law_paper_text V) (hr.mono (by decide)) (by rfl) (sw_own (se_varS 1 (pv 1)) sw_nil))) (se_one (se_c (cr_eq hr.units) (se_ty (cr_strY hG hr.units) ops_strY (by rfl) V.b_str PyProof.Rows.boot_str (sa_cons (se_varS 1 (pv 1)) sa_nil)) (se_varS 2 (pv 2))))))))))
theorem sc_number_in : FnScope ["word", "figures", "sign"] ["word"] (defScope s_number_in) := ⟨rfl, rfl, rfl, by decide +kernel, rfl, by decide +kernel, by decide +kernel⟩
theorem d_number_in (V : Facts w K mg) : Df P w K mg base "number_in" 1 (m_number_in) 1 := by
  obtain ⟨f, fd, F, hm⟩ := V.f_number_in
  refine ⟨⟨f, fd, ["word"], fn_ok F sc_number_in rfl (by decide) (fun cdv A outer s H E hr => ?_), hm, F.kp, F.binds fun _ _ _ _ _ _ us hl => match us, hl with | [_], _ => rfl⟩, fnM_len⟩
  have nd := (sc_number_in).nd
  have tk : Takes (cxOf (L2.CX P w) P w K mg base ["word", "figures", "sign"] "number_in" (defScope s_number_in) f cdv A outer s H E) (fun cls d _ H' => E cls d H') := takes_of rfl rfl rfl rfl
  exact (sss_cons (ss_set (i := 1) nd rfl (.inl rfl) rfl (se_fz (se_if (st_c (cr_eq hr.units) (se_sl (se_varS 0 (pv 0)) so_none (so_some se_int)) se_str) (se_fz (se_sl (se_varS 0 (pv 0)) (so_some se_int) so_none)) (se_varS 0 (pv 0)))))
    (sss_cons (ss_if (st_w (sw_or (st_c (cr_eq hr.units) (se_varS 1 (pv 1)) se_str) (sw_or (st_c cr_gt (se_bi call_len ops_len (by rfl) V.b_len PySem.boot_len (sa_cons (se_varS 1 (pv 1)) sa_nil)) (se_gintE (by rfl) V.c_MOST_FIGURES)) (sw_or1 (st_w (sw_and (st_c (cr_eq hr.units) (se_ix (se_varS 1 (pv 1)) se_int (fun _ _ => rfl)) se_str) (sw_and1 (st_c (cr_ne hr.units) (se_varS 0 (pv 0)) se_str)))))))) (sss_one (ss_raise rfl tk V.e_NoText (by rfl))) sss_nil)
    (sss_cons (ss_for (qq := false) (passes_of rfl) rfl (si_txt (se_varS 1 (pv 1))) (sg_name nd rfl (.inl rfl) rfl) (sss_one (ss_if (st_c (cr_notInC (by rfl)) (se_varS 2 (pv 2)) (se_gstrE (by rfl) V.c_FIGURES)) (sss_one (ss_raise rfl tk V.e_NoText (by rfl))) sss_nil)))
    (sss_one (ss_ret (se_ty (AM.CallR.or call_int1 call_int_str) ops_int (by rfl) V.b_int PyProof.Rows.boot_int (sa_cons (se_varS 0 (pv 0)) sa_nil)))))))
theorem sc_numbers_in : FnScope ["text", "words", "word"] ["text"] (defScope s_numbers_in) := ⟨rfl, rfl, rfl, by decide +kernel, rfl, by decide +kernel, by decide +kernel⟩
theorem d_numbers_in (V : Facts w K mg) : Df P w K mg base "numbers_in" 1 (m_numbers_in) 2 := by
  obtain ⟨f, fd, F, hm⟩ := V.f_numbers_in
  refine ⟨⟨f, fd, ["text"], fn_ok F sc_numbers_in rfl (by decide) (fun cdv A outer s H E hr => ?_), hm, F.kp, F.binds fun _ _ _ _ _ _ us hl => match us, hl with | [_], _ => rfl⟩, fnM_len⟩
  have nd := (sc_numbers_in).nd
  have tk : Takes (cxOf (L2.CX P w) P w K mg base ["text", "words", "word"] "numbers_in" (defScope s_numbers_in) f cdv A outer s H E) (fun cls d _ H' => E cls d H') := takes_of rfl rfl rfl rfl
  exact (sss_cons (ss_set (i := 1) nd rfl (.inl rfl) rfl (se_fz (se_ms PySem.F.slot_str_split PySem.F.type_str_split mt_split ops_split (se_varS 0 (pv 0)) (sa_cons se_str sa_nil))))
    (sss_cons (ss_if (st_c cr_gt (se_bi call_len ops_len (by rfl) V.b_len PySem.boot_len (sa_cons (se_varS 1 (pv 1)) sa_nil)) (se_gintE (by rfl) V.c_MOST_NUMBERS)) (sss_one (ss_raise rfl tk V.e_NoText (by rfl))) sss_nil)
    (sss_one (ss_ret (se_lcX rfl rfl tk rfl nd (si_list (se_varS 1 (pv 1))) (blkOk_by (own := [("word", 2)]) (by kernel_rfl)) (fun b xe => (sg_name nd rfl (.inl rfl) rfl)) (fun b xe => sts_nil) (fun b xe Wb hp => (se_callP hp (d_number_in V) (hr.mono (by decide)) (by rfl) (sw_own (se_varS 2 (pv 2)) sw_nil))))))))
theorem sc_halves : FnScope ["text", "mark", "parts"] ["text", "mark"] (defScope s_halves) := ⟨rfl, rfl, rfl, by decide +kernel, rfl, by decide +kernel, by decide +kernel⟩
theorem d_halves (V : Facts w K mg) : Df P w K mg base "halves" 2 (m_halves) 1 := by
  obtain ⟨f, fd, F, hm⟩ := V.f_halves
  refine ⟨⟨f, fd, ["text", "mark"], fn_ok F sc_halves rfl (by decide) (fun cdv A outer s H E hr => ?_), hm, F.kp, F.binds fun _ _ _ _ _ _ us hl => match us, hl with | [_, _], _ => rfl⟩, fnM_len⟩
  have nd := (sc_halves).nd
  have tk : Takes (cxOf (L2.CX P w) P w K mg base ["text", "mark", "parts"] "halves" (defScope s_halves) f cdv A outer s H E) (fun cls d _ H' => E cls d H') := takes_of rfl rfl rfl rfl
  exact (sss_cons (ss_set (i := 2) nd rfl (.inl rfl) rfl (se_fz (se_ms PySem.F.slot_str_split PySem.F.type_str_split mt_split ops_split (se_varS 0 (pv 0)) (sa_cons (se_varS 1 (pv 1)) sa_nil))))
    (sss_cons (ss_if (st_c (cr_ne hr.units) (se_bi call_len ops_len (by rfl) V.b_len PySem.boot_len (sa_cons (se_varS 2 (pv 2)) sa_nil)) se_int) (sss_one (ss_raise rfl tk V.e_NoText (by rfl))) sss_nil)
    (sss_one (ss_ret (se_tup (sa_cons (se_ix (se_varS 2 (pv 2)) se_int (fun _ _ => rfl)) (sa_cons (se_ix (se_varS 2 (pv 2)) se_int (fun _ _ => rfl)) sa_nil)))))))
theorem sc_number_from : FnScope ["word", "least", "number"] ["word", "least"] (defScope s_number_from) := ⟨rfl, rfl, rfl, by decide +kernel, rfl, by decide +kernel, by decide +kernel⟩
theorem d_number_from (V : Facts w K mg) : Df P w K mg base "number_from" 2 (m_number_from) 2 := by
  obtain ⟨f, fd, F, hm⟩ := V.f_number_from
  refine ⟨⟨f, fd, ["word", "least"], fn_ok F sc_number_from rfl (by decide) (fun cdv A outer s H E hr => ?_), hm, F.kp, F.binds fun _ _ _ _ _ _ us hl => match us, hl with | [_, _], _ => rfl⟩, fnM_len⟩
  have nd := (sc_number_from).nd
  have tk : Takes (cxOf (L2.CX P w) P w K mg base ["word", "least", "number"] "number_from" (defScope s_number_from) f cdv A outer s H E) (fun cls d _ H' => E cls d H') := takes_of rfl rfl rfl rfl
  exact (sss_cons (ss_set (i := 2) nd rfl (.inl rfl) rfl (se_call0 tk (d_number_in V) (hr.mono (by decide)) (by rfl) (sw_own (se_varS 0 (pv 0)) sw_nil)))
    (sss_cons (ss_if (st_c cr_lt (se_var 2 (pv 2)) (se_varS 1 (pv 1))) (sss_one (ss_raise rfl tk V.e_NoText (by rfl))) sss_nil)
    (sss_one (ss_ret (se_mov 2 (pv 2))))))
theorem sc_numbers_from : FnScope ["text", "found"] ["text"] (defScope s_numbers_from) := ⟨rfl, rfl, rfl, by decide +kernel, rfl, by decide +kernel, by decide +kernel⟩
theorem d_numbers_from (V : Facts w K mg) : Df P w K mg base "numbers_from" 1 (m_numbers_from) 3 := by
  obtain ⟨f, fd, F, hm⟩ := V.f_numbers_from
  refine ⟨⟨f, fd, ["text"], fn_ok F sc_numbers_from rfl (by decide) (fun cdv A outer s H E hr => ?_), hm, F.kp, F.binds fun _ _ _ _ _ _ us hl => match us, hl with | [_], _ => rfl⟩, fnM_len⟩
  have nd := (sc_numbers_from).nd
  have tk : Takes (cxOf (L2.CX P w) P w K mg base ["text", "found"] "numbers_from" (defScope s_numbers_from) f cdv A outer s H E) (fun cls d _ H' => E cls d H') := takes_of rfl rfl rfl rfl
  exact (sss_cons (ss_set (i := 1) nd rfl (.inl rfl) rfl (se_call0 tk (d_numbers_in V) (hr.mono (by decide)) (by rfl) (sw_own (se_varS 0 (pv 0)) sw_nil)))
    (sss_cons (ss_if (st_c cr_lt (se_bi (AM.CallR.or (cr_min rfl) (call_min2 rfl)) ops_min (by rfl) V.b_min PyProof.Rows.boot_min (sa_cons (se_var 1 (pv 1)) sa_nil)) se_int) (sss_one (ss_raise rfl tk V.e_NoText (by rfl))) sss_nil)
    (sss_one (ss_ret (se_mov 1 (pv 1))))))
theorem sc_bar_in : FnScope ["text", "times", "order"] ["text"] (defScope s_bar_in) := ⟨rfl, rfl, rfl, by decide +kernel, rfl, by decide +kernel, by decide +kernel⟩
theorem d_bar_in (V : Facts w K mg) : Df P w K mg base "bar_in" 1 (m_bar_in) 4 := by
  obtain ⟨f, fd, F, hm⟩ := V.f_bar_in
  refine ⟨⟨f, fd, ["text"], fn_ok F sc_bar_in rfl (by decide) (fun cdv A outer s H E hr => ?_), hm, F.kp, F.binds fun _ _ _ _ _ _ us hl => match us, hl with | [_], _ => rfl⟩, fnM_len⟩
  have nd := (sc_bar_in).nd
  have tk : Takes (cxOf (L2.CX P w) P w K mg base ["text", "times", "order"] "bar_in" (defScope s_bar_in) f cdv A outer s H E) (fun cls d _ H' => E cls d H') := takes_of rfl rfl rfl rfl
  exact (sss_cons (ss_asg (qq := false) (se_fz (se_call0 tk (d_halves V) (hr.mono (by decide)) (by rfl) (sw_own (se_varS 0 (pv 0)) (sw_own se_str sw_nil)))) (sg_tup rfl (sgs_cons (sg_name nd rfl (.inl rfl) rfl) (sgs_cons (sg_name nd rfl (.inl rfl) rfl) sgs_nil))))
    (sss_one (ss_ret (se_tup (sa_cons (se_call0 tk (d_numbers_in V) (hr.mono (by decide)) (by rfl) (sw_own (se_varS 1 (pv 1)) sw_nil)) (sa_cons (se_call0 tk (d_numbers_from V) (hr.mono (by decide)) (by rfl) (sw_own (se_varS 2 (pv 2)) sw_nil)) sa_nil))))))
theorem sc_lead_in : FnScope ["text", "times", "row"] ["text"] (defScope s_lead_in) := ⟨rfl, rfl, rfl, by decide +kernel, rfl, by decide +kernel, by decide +kernel⟩
theorem d_lead_in (V : Facts w K mg) : Df P w K mg base "lead_in" 1 (m_lead_in) 3 := by
  obtain ⟨f, fd, F, hm⟩ := V.f_lead_in
  refine ⟨⟨f, fd, ["text"], fn_ok F sc_lead_in rfl (by decide) (fun cdv A outer s H E hr => ?_), hm, F.kp, F.binds fun _ _ _ _ _ _ us hl => match us, hl with | [_], _ => rfl⟩, fnM_len⟩
  have nd := (sc_lead_in).nd
  have tk : Takes (cxOf (L2.CX P w) P w K mg base ["text", "times", "row"] "lead_in" (defScope s_lead_in) f cdv A outer s H E) (fun cls d _ H' => E cls d H') := takes_of rfl rfl rfl rfl
  exact (sss_cons (ss_asg (qq := false) (se_fz (se_call0 tk (d_halves V) (hr.mono (by decide)) (by rfl) (sw_own (se_varS 0 (pv 0)) (sw_own se_str sw_nil)))) (sg_tup rfl (sgs_cons (sg_name nd rfl (.inl rfl) rfl) (sgs_cons (sg_name nd rfl (.inl rfl) rfl) sgs_nil))))
    (sss_one (ss_ret (se_tup (sa_cons (se_call0 tk (d_numbers_in V) (hr.mono (by decide)) (by rfl) (sw_own (se_varS 1 (pv 1)) sw_nil)) (sa_cons (se_call0 tk (d_number_from V) (hr.mono (by decide)) (by rfl) (sw_own (se_varS 2 (pv 2)) (sw_own se_int sw_nil))) sa_nil))))))
theorem sc_row_in : FnScope ["text", "leads", "head", "mark", "rest", "dues", "number", "one"] ["text"] (defScope s_row_in) := ⟨rfl, rfl, rfl, by decide +kernel, rfl, by decide +kernel, by decide +kernel⟩
theorem d_row_in (V : Facts w K mg) : Df P w K mg base "row_in" 1 (m_row_in) 4 := by
  obtain ⟨f, fd, F, hm⟩ := V.f_row_in
  refine ⟨⟨f, fd, ["text"], fn_ok F sc_row_in rfl (by decide) (fun cdv A outer s H E hr => ?_), hm, F.kp, F.binds fun _ _ _ _ _ _ us hl => match us, hl with | [_], _ => rfl⟩, fnM_len⟩
  have nd := (sc_row_in).nd
  have tk : Takes (cxOf (L2.CX P w) P w K mg base ["text", "leads", "head", "mark", "rest", "dues", "number", "one"] "row_in" (defScope s_row_in) f cdv A outer s H E) (fun cls d _ H' => E cls d H') := takes_of rfl rfl rfl rfl
  exact (sss_cons (ss_asg (qq := false) (se_fz (se_ms PySem.F.slot_str_partition PySem.F.type_str_partition mt_partition ops_part (se_varS 0 (pv 0)) (sa_cons se_str sa_nil))) (sg_tup rfl (sgs_cons (sg_name nd rfl (.inl rfl) rfl) (sgs_cons (sg_name nd rfl (.inl rfl) rfl) (sgs_cons (sg_name nd rfl (.inl rfl) rfl) sgs_nil)))))
    (sss_cons (ss_asg (qq := false) (se_fz (se_call0 tk (d_halves V) (hr.mono (by decide)) (by rfl) (sw_own (se_varS 2 (pv 2)) (sw_own se_str sw_nil)))) (sg_tup rfl (sgs_cons (sg_name nd rfl (.inl rfl) rfl) (sgs_cons (sg_name nd rfl (.inl rfl) rfl) sgs_nil))))
    (sss_cons (ss_set (i := 1) nd rfl (.inl rfl) rfl (se_lst sa_nil))
    (sss_cons (ss_if (st_c (cr_ne hr.units) (se_varS 3 (pv 3)) se_str) (sss_one (ss_lcX (i := 1) rfl rfl rfl tk rfl nd rfl rfl (sw_true rfl rfl rfl (by decide +kernel)) (si_list (se_fz (se_ms PySem.F.slot_str_split PySem.F.type_str_split mt_split ops_split (se_varS 4 (pv 4)) (sa_cons se_str sa_nil)))) (blkOk_by (own := [("one", 7)]) (by kernel_rfl)) (fun b xe => (sg_name nd rfl (.inl rfl) rfl)) (fun b xe => sts_nil) (fun b xe Wb hp => (se_callP hp (d_lead_in V) (hr.mono (by decide)) (by rfl) (sw_own (se_varS 7 (pv 7)) sw_nil))))) sss_nil)
    (sss_cons (ss_if (st_c cr_gt (se_bi call_len ops_len (by rfl) V.b_len PySem.boot_len (sa_cons (se_var 1 (pv 1)) sa_nil)) se_int) (sss_one (ss_raise rfl tk V.e_NoText (by rfl))) sss_nil)
    (sss_one (ss_ret (se_tup (sa_cons (se_call0 tk (d_numbers_in V) (hr.mono (by decide)) (by rfl) (sw_own (se_varS 5 (pv 5)) sw_nil)) (sa_cons (se_call0 tk (d_number_from V) (hr.mono (by decide)) (by rfl) (sw_own (se_varS 6 (pv 6)) (sw_own se_int sw_nil))) (sa_cons (se_mov 1 (pv 1)) sa_nil)))))))))))
theorem sc_read_paper : FnScope ["text", "parts", "word", "mark", "rest", "modulus", "weights", "loss", "bar", "times", "order", "part"] ["text"] (defScope s_read_paper) := ⟨rfl, rfl, rfl, by decide +kernel, rfl, by decide +kernel, by decide +kernel⟩
theorem d_read_paper (V : Facts w K mg) : Df P w K mg base "read_paper" 1 (m_read_paper) 5 := by
  obtain ⟨f, fd, F, hm⟩ := V.f_read_paper
  refine ⟨⟨f, fd, ["text"], fn_ok F sc_read_paper rfl (by decide) (fun cdv A outer s H E hr => ?_), hm, F.kp, F.binds fun _ _ _ _ _ _ us hl => match us, hl with | [_], _ => rfl⟩, fnM_len⟩
  have nd := (sc_read_paper).nd
  have tk : Takes (cxOf (L2.CX P w) P w K mg base ["text", "parts", "word", "mark", "rest", "modulus", "weights", "loss", "bar", "times", "order", "part"] "read_paper" (defScope s_read_paper) f cdv A outer s H E) (fun cls d _ H' => E cls d H') := takes_of rfl rfl rfl rfl
  exact (sss_cons (ss_if (st_c (cr_in (r65 hr) (by rfl)) (se_varS 0 (pv 0)) (se_tup (sa_cons se_str (sa_cons se_str sa_nil)))) (sss_one (ss_ret (se_tup (sa_cons (se_varS 0 (pv 0)) sa_nil)))) sss_nil)
    (sss_cons (ss_asg (qq := false) (se_fz (se_ms PySem.F.slot_str_partition PySem.F.type_str_partition mt_partition ops_part (se_varS 0 (pv 0)) (sa_cons se_str sa_nil))) (sg_tup rfl (sgs_cons (sg_name nd rfl (.inl rfl) rfl) (sgs_cons (sg_name nd rfl (.inl rfl) rfl) (sgs_cons (sg_name nd rfl (.inl rfl) rfl) sgs_nil)))))
    (sss_cons (ss_if (st_c (cr_eq hr.units) (se_varS 2 (pv 2)) se_str) (sss_one (ss_ret (se_tup (sa_cons (se_call0 tk (d_numbers_in V) (hr.mono (by decide)) (by rfl) (sw_own (se_varS 4 (pv 4)) sw_nil)) sa_nil)))) sss_nil)
    (sss_cons (ss_if (st_c (cr_eq hr.units) (se_varS 2 (pv 2)) se_str) (sss_cons (ss_asg (qq := false) (se_fz (se_call0 tk (d_halves V) (hr.mono (by decide)) (by rfl) (sw_own (se_varS 4 (pv 4)) (sw_own se_str sw_nil)))) (sg_tup rfl (sgs_cons (sg_name nd rfl (.inl rfl) rfl) (sgs_cons (sg_name nd rfl (.inl rfl) rfl) sgs_nil))))
    (sss_one (ss_ret (se_tup (sa_cons (se_call0 tk (d_number_from V) (hr.mono (by decide)) (by rfl) (sw_own (se_varS 5 (pv 5)) (sw_own se_int sw_nil))) (sa_cons (se_call0 tk (d_numbers_in V) (hr.mono (by decide)) (by rfl) (sw_own (se_varS 6 (pv 6)) sw_nil)) sa_nil)))))) sss_nil)
    (sss_cons (ss_if (st_c (cr_eq hr.units) (se_varS 2 (pv 2)) se_str) (sss_one (ss_ret (se_call0 tk (d_bar_in V) (hr.mono (by decide)) (by rfl) (sw_own (se_varS 4 (pv 4)) sw_nil)))) sss_nil)
    (sss_cons (ss_if (st_c (cr_eq hr.units) (se_varS 2 (pv 2)) se_str) (sss_cons (ss_asg (qq := false) (se_fz (se_call0 tk (d_halves V) (hr.mono (by decide)) (by rfl) (sw_own (se_varS 4 (pv 4)) (sw_own se_str sw_nil)))) (sg_tup rfl (sgs_cons (sg_name nd rfl (.inl rfl) rfl) (sgs_cons (sg_name nd rfl (.inl rfl) rfl) sgs_nil))))
    (sss_cons (ss_asg (qq := false) (se_call0 tk (d_bar_in V) (hr.mono (by decide)) (by rfl) (sw_own (se_varS 8 (pv 8)) sw_nil)) (sg_tup rfl (sgs_cons (sg_name nd rfl (.inl rfl) rfl) (sgs_cons (sg_name nd rfl (.inl rfl) rfl) sgs_nil))))
    (sss_one (ss_ret (se_tup (sa_cons (se_call0 tk (d_numbers_from V) (hr.mono (by decide)) (by rfl) (sw_own (se_varS 7 (pv 7)) sw_nil)) (sa_cons (se_mov 9 (pv 9)) (sa_cons (se_mov 10 (pv 10)) sa_nil)))))))) sss_nil)
    (sss_cons (ss_if (st_c (cr_ne hr.units) (se_varS 2 (pv 2)) se_str) (sss_one (ss_raise rfl tk V.e_NoText (by rfl))) sss_nil)
    (sss_cons (ss_set (i := 1) nd rfl (.inl rfl) rfl (se_fz (se_ms PySem.F.slot_str_split PySem.F.type_str_split mt_split ops_split (se_varS 4 (pv 4)) (sa_cons se_str sa_nil))))
    (sss_one (ss_ret (se_tup (sa_cons se_str (sa_cons (se_call0 tk (d_numbers_in V) (hr.mono (by decide)) (by rfl) (sw_own (se_fz (se_ix (se_varS 1 (pv 1)) se_int (fun _ _ => rfl))) sw_nil)) (sa_cons (se_lcX rfl rfl tk rfl nd (si_list (se_sl (se_varS 1 (pv 1)) (so_some se_int) so_none)) (blkOk_by (own := [("part", 11)]) (by kernel_rfl)) (fun b xe => (sg_name nd rfl (.inl rfl) rfl)) (fun b xe => sts_nil) (fun b xe Wb hp => (se_callP hp (d_row_in V) (hr.mono (by decide)) (by rfl) (sw_own (se_varS 11 (pv 11)) sw_nil)))) sa_nil))))))))))))))
theorem sc__law_whole : FnScope ["_law_number"] ["_law_number"] (defScope s__law_whole) := ⟨rfl, rfl, rfl, by decide +kernel, rfl, by decide +kernel, by decide +kernel⟩
theorem d__law_whole (V : Facts w K mg) : Df P w K mg base "_law_whole" 1 (m__law_whole) 1 := by
  obtain ⟨f, fd, F, hm⟩ := V.f__law_whole
  refine ⟨⟨f, fd, ["_law_number"], fn_ok F sc__law_whole rfl (by decide) (fun cdv A outer s H E hr => ?_), hm, F.kp, F.binds fun _ _ _ _ _ _ us hl => match us, hl with | [_], _ => rfl⟩, fnM_len⟩
  have nd := (sc__law_whole).nd
  have tk : Takes (cxOf (L2.CX P w) P w K mg base ["_law_number"] "_law_whole" (defScope s__law_whole) f cdv A outer s H E) (fun cls d _ H' => E cls d H') := takes_of rfl rfl rfl rfl
  exact (sss_one (ss_ret (se_andV (se_isi kit_int (by rfl) V.b_isinstance (by rfl) V.b_int PyProof.Rows.boot_int (se_varS 0 (pv 0))) (se_one (se_not (se_isi kit_bool (by rfl) V.b_isinstance (by rfl) V.b_bool PyProof.Rows.boot_bool (se_varS 0 (pv 0))))))))
theorem sc__law_kinds : FnScope ["_law_told", "_law_paper_here", "_law_one", "_law_other"] ["_law_told", "_law_paper_here"] (defScope s__law_kinds) := ⟨rfl, rfl, rfl, by decide +kernel, rfl, by decide +kernel, by decide +kernel⟩
theorem d__law_kinds (V : Facts w K mg) : ∀ d : Nat, Df P w K mg base "_law_kinds" 2 (m__law_kinds d) (2 + d)
  | 0 => by
    obtain ⟨f, fd, F, hm⟩ := V.f__law_kinds
    exact ⟨⟨f, fd, ["_law_told", "_law_paper_here"], fn_none (k := 1) F sc__law_kinds rfl, hm, F.kp, F.binds fun _ _ _ _ _ _ us hl => match us, hl with | [_, _], _ => rfl⟩, fun _ _ h => nomatch h⟩
  | d + 1 => by
    have ih__law_kinds : Df P w K mg base "_law_kinds" 2 (m__law_kinds d) (2 + d) := d__law_kinds V d
    obtain ⟨f, fd, F, hm⟩ := V.f__law_kinds
    refine ⟨⟨f, fd, ["_law_told", "_law_paper_here"], fn_ok (k := 2 + d) F sc__law_kinds rfl (by decide) (fun cdv A outer s H E hr => ?_), hm, F.kp, F.binds fun _ _ _ _ _ _ us hl => match us, hl with | [_, _], _ => rfl⟩, fnM_len⟩
    have nd := (sc__law_kinds).nd
    have tk : Takes (cxOf (L2.CX P w) P w K mg base ["_law_told", "_law_paper_here", "_law_one", "_law_other"] "_law_kinds" (defScope s__law_kinds) f cdv A outer s H E) (fun cls d _ H' => E cls d H') := takes_of rfl rfl rfl rfl
    exact (sss_cons (ss_if (st_val (se_isi2 kit_list kit_tuple (by rfl) V.b_isinstance (by rfl) V.b_list PyProof.Rows.boot_list (by rfl) V.b_tuple PyProof.Rows.boot_tuple (se_varS 1 (pv 1)))) (sss_cons (ss_if (st_w (sw_or (st_c (cr_ne hr.units) (se_isi kit_list (by rfl) V.b_isinstance (by rfl) V.b_list PyProof.Rows.boot_list (se_varS 0 (pv 0))) (se_isi kit_list (by rfl) V.b_isinstance (by rfl) V.b_list PyProof.Rows.boot_list (se_varS 1 (pv 1)))) (sw_or1 (st_not (st_val (se_isi2 kit_list kit_tuple (by rfl) V.b_isinstance (by rfl) V.b_list PyProof.Rows.boot_list (by rfl) V.b_tuple PyProof.Rows.boot_tuple (se_varS 0 (pv 0)))))))) (sss_one (ss_ret se_bl)) sss_nil)
    (sss_one (ss_ret (se_c (cr_eq hr.units) (se_lcP rfl nd (si_zipQ (by rfl) V.b_zip (sa_cons (se_varS 0 (pv 0)) (sa_cons (se_varS 1 (pv 1)) sa_nil))) (blkOk_by (own := [("_law_one", 2), ("_law_other", 3)]) (by kernel_rfl)) (fun b => (sg_tup rfl (sgs_cons (sg_name nd rfl (.inl rfl) rfl) (sgs_cons (sg_name nd rfl (.inl rfl) rfl) sgs_nil)))) (fun b => (sts_one (st_not (st_val (se_call0 takes0 ih__law_kinds (hr.mono (by omega)) (by rfl) (sw_own (se_varS 2 (pv 2)) (sw_own (se_varS 3 (pv 3)) sw_nil))))))) (fun b => se_int)) (se_lst sa_nil))))) sss_nil)
    (sss_one (ss_ret (se_andV (se_c (cr_eq hr.units) (se_isi kit_str (by rfl) V.b_isinstance (by rfl) V.b_str PyProof.Rows.boot_str (se_varS 0 (pv 0))) (se_isi kit_str (by rfl) V.b_isinstance (by rfl) V.b_str PyProof.Rows.boot_str (se_varS 1 (pv 1)))) (se_one (se_fz (se_orV (se_isi kit_str (by rfl) V.b_isinstance (by rfl) V.b_str PyProof.Rows.boot_str (se_varS 1 (pv 1))) (se_one (se_fz (se_call0 tk (d__law_whole V) (hr.mono (by omega)) (by rfl) (sw_own (se_varS 0 (pv 0)) sw_nil)))))))))))
theorem sc__law_lists : FnScope ["_law_thing", "_law_found", "_law_left", "_law_one"] ["_law_thing"] (defScope s__law_lists) := ⟨rfl, rfl, rfl, by decide +kernel, rfl, by decide +kernel, by decide +kernel⟩
theorem d__law_lists (V : Facts w K mg) (fu : Nat) : Df P w K mg base "_law_lists" 1 (m__law_lists fu) 1 := by
  obtain ⟨f, fd, F, hm⟩ := V.f__law_lists
  refine ⟨⟨f, fd, ["_law_thing"], fn_ok F sc__law_lists rfl (by decide) (fun cdv A outer s H E hr => ?_), hm, F.kp, F.binds fun _ _ _ _ _ _ us hl => match us, hl with | [_], _ => rfl⟩, fnM_len⟩
  have nd := (sc__law_lists).nd
  have tk : Takes (cxOf (L2.CX P w) P w K mg base ["_law_thing", "_law_found", "_law_left", "_law_one"] "_law_lists" (defScope s__law_lists) f cdv A outer s H E) (fun cls d _ H' => E cls d H') := takes_of rfl rfl rfl rfl
  exact (sss_cons (ss_set (i := 1) nd rfl (.inl rfl) rfl (se_lst sa_nil))
    (sss_cons (ss_set (i := 2) nd rfl (.inl rfl) rfl (se_lst (sa_cons (se_varS 0 (pv 0)) sa_nil)))
    (sss_cons (ss_while fu (passes_of rfl) (st_c (cr_ne hr.units) (se_var 2 (pv 2)) (se_lst sa_nil)) (sss_cons (ss_set (i := 3) nd rfl (.inl rfl) rfl (se_fz (se_meth0 PySem.F.slot_list_pop PySem.F.type_list_pop mt_pop opi_pop (sl_var 2 (pv 2)))))
    (sss_cons (ss_if (st_val (se_isi kit_list (by rfl) V.b_isinstance (by rfl) V.b_list PyProof.Rows.boot_list (se_varS 3 (pv 3)))) (sss_one (ss_expr (se_meth PySem.F.slot_list_append PySem.F.type_list_append mt_append opi_app (sl_var 1 (pv 1)) (sa_cons (se_varS 3 (pv 3)) sa_nil) (.inl rfl)))) sss_nil)
    (sss_one (ss_if (st_val (se_isi2 kit_list kit_tuple (by rfl) V.b_isinstance (by rfl) V.b_list PyProof.Rows.boot_list (by rfl) V.b_tuple PyProof.Rows.boot_tuple (se_varS 3 (pv 3)))) (sss_one (ss_set (i := 2) nd rfl (.inl rfl) rfl (se_add (se_var 2 (pv 2)) (se_ty call_list_of ops_list (by rfl) V.b_list PyProof.Rows.boot_list (sa_cons (se_varS 3 (pv 3)) sa_nil))))) sss_nil)))))
    (sss_one (ss_ret (se_mov 1 (pv 1)))))))
theorem sc__law_kept : FnScope ["_law_paper_here", "_law_due", "_law_held", "_law_turn", "_law_one", "_law_text", "_law_told", "_law_other", "_law_lists_here", "_law_many", "_law_number"] ["_law_paper_here"] (defScope s__law_kept) := ⟨rfl, rfl, rfl, by decide +kernel, rfl, by decide +kernel, by decide +kernel⟩
theorem d__law_kept (V : Facts w K mg) (fu : Nat) : DfG P w K mg base "_law_kept" 1 (m__law_kept fu) 11 := by
  obtain ⟨f, fd, F, hm⟩ := V.f__law_kept
  refine ⟨⟨f, fd, ["_law_paper_here"], rfl, fun A hA hG => fn_law (k := 10) F sc__law_kept rfl (by decide) hA hG (fun cdv outer s H E hr hG => ?_), hm, F.kp, F.binds fun _ _ _ _ _ _ us hl => match us, hl with | [_], _ => rfl⟩, fnM_len⟩
  have nd := (sc__law_kept).nd
  have tk : Takes (cxOf (L2.CX P w) P w K mg base ["_law_paper_here", "_law_due", "_law_held", "_law_turn", "_law_one", "_law_text", "_law_told", "_law_other", "_law_lists_here", "_law_many", "_law_number"] "_law_kept" (defScope s__law_kept) f cdv A outer s H E) (fun cls d _ H' => E cls d H') := takes_of rfl rfl rfl rfl
  exact (sss_cons (ss_set (i := 1) nd rfl (.inl rfl) rfl (se_fz (se_call0 tk (d__law_paper_text V) (hr.mono (by decide)) (by rfl) (sw_bor (sl_var 0 (pv 0)) sw_nil (.inl rfl)))))
    (sss_cons (ss_set (i := 2) nd rfl (.inl rfl) rfl (se_ty (cr_strY hG hr.units) ops_strY (by rfl) V.b_str PyProof.Rows.boot_str (sa_cons (se_var 0 (pv 0)) sa_nil)))
    (sss_cons (ss_for (qq := false) (passes_of rfl) rfl (si_rg1 (by rfl) V.b_range (sa_cons se_int sa_nil)) (sg_name nd rfl (.inl rfl) rfl) (sss_cons (ss_set (i := 5) nd rfl (.inl rfl) rfl (se_fz (se_call0 tk (d_show_paper V) (hr.mono (by decide)) (by rfl) (sw_bor (sl_var 0 (pv 0)) sw_nil (.inl rfl)))))
    (sss_cons (ss_set (i := 6) nd rfl (.inl rfl) rfl (se_call0 tk (d_read_paper V) (hr.mono (by decide)) (by rfl) (sw_own (se_varS 1 (pv 1)) sw_nil)))
    (sss_cons (ss_if (st_w (sw_or (st_not (st_val (se_isi kit_str (by rfl) V.b_isinstance (by rfl) V.b_str PyProof.Rows.boot_str (se_varS 5 (pv 5))))) (sw_or (st_c (cr_ne hr.units) (se_varS 5 (pv 5)) (se_varS 1 (pv 1))) (sw_or (st_c (cr_ne hr.units) (se_var 6 (pv 6)) (se_var 0 (pv 0))) (sw_or1 (st_not (st_val (se_call0 tk (d__law_kinds V 8) (hr.mono (by decide)) (by rfl) (sw_bor (sl_var 6 (pv 6)) (sw_bor (sl_var 0 (pv 0)) sw_nil (.inl rfl)) (.inl rfl)))))))))) (sss_one (ss_ret se_bl)) sss_nil)
    (sss_cons (ss_set (i := 7) nd rfl (.inl rfl) rfl (se_call0 tk (d_read_paper V) (hr.mono (by decide)) (by rfl) (sw_own (se_varS 1 (pv 1)) sw_nil)))
    (sss_cons (ss_forO (qq := false) (passes_of rfl) rfl (se_dis 7 (se_call0 tk (d__law_lists V fu) (hr.mono (by decide)) (by rfl) (sw_own (se_varS 7 (pv 7)) sw_nil))) (sg_name nd rfl (.inl rfl) rfl) (sss_one (ss_expr (se_meth0 PySem.F.slot_list_clear PySem.F.type_list_clear mt_clear opi_clr (sl_var 4 (pv 4))))))
    (sss_cons (ss_if (st_w (sw_or (st_c (cr_ne hr.units) (se_var 6 (pv 6)) (se_var 0 (pv 0))) (sw_or1 (st_c (cr_ne hr.units) (se_call0 tk (d_read_paper V) (hr.mono (by decide)) (by rfl) (sw_own se_str sw_nil)) (se_tup (sa_cons (se_lst (sa_cons se_int (sa_cons se_int sa_nil))) sa_nil)))))) (sss_one (ss_ret se_bl)) sss_nil)
    (sss_cons (ss_set (i := 8) nd rfl (.inl rfl) rfl (se_dis 6 (se_call0 tk (d__law_lists V fu) (hr.mono (by decide)) (by rfl) (sw_own (se_varS 6 (pv 6)) sw_nil))))
    (sss_cons (ss_lcK 8 (i := 9) rfl rfl nd rfl rfl (sw_true rfl rfl rfl (by decide +kernel)) (si_list (se_varS 8 (pv 8))) (blkOk_by (own := [("_law_one", 4)]) (by kernel_rfl)) (fun b => (sg_name nd rfl (.inl rfl) rfl)) (fun b => sts_nil) (fun b => (se_bi call_len ops_len (by rfl) V.b_len PySem.boot_len (sa_cons (se_varS 4 (pv 4)) sa_nil))))
    (sss_cons (ss_forLst (passes_of rfl) rfl nd rfl (.inl rfl) (pv 8) (sss_one (ss_expr (se_meth PySem.F.slot_list_append PySem.F.type_list_append mt_append opi_app (sl_var 4 (pv 4)) (sa_cons se_int sa_nil) (.inl rfl)))) rfl rfl)
    (sss_one (ss_if (st_w (sw_or (st_c (cr_ne hr.units) (se_look 8 (se_lcP rfl nd (si_list (se_varS 8 (pv 8))) (blkOk_by (own := [("_law_one", 4)]) (by kernel_rfl)) (fun b => (sg_name nd rfl (.inl rfl) rfl)) (fun b => sts_nil) (fun b => (se_bi call_len ops_len (by rfl) V.b_len PySem.boot_len (sa_cons (se_varS 4 (pv 4)) sa_nil))))) (se_lcP rfl nd (si_list (se_varS 9 (pv 9))) (blkOk_by (own := [("_law_number", 10)]) (by kernel_rfl)) (fun b => (sg_name nd rfl (.inl rfl) rfl)) (fun b => sts_nil) (fun b => (se_add (se_varS 10 (pv 10)) se_int)))) (sw_or1 (st_c (cr_ne hr.units) (se_ty (cr_strY hG hr.units) ops_strY (by rfl) V.b_str PyProof.Rows.boot_str (sa_cons (se_var 0 (pv 0)) sa_nil)) (se_varS 2 (pv 2)))))) (sss_one (ss_ret se_bl)) sss_nil))))))))))))
    (sss_cons (ss_fst (r := 0) (passes_of rfl) rfl nd rfl (.inl rfl) (se_sl (se_lcP rfl nd (si_tup (se_varS 0 (pv 0))) (blkOk_by (own := [("_law_one", 4)]) (by kernel_rfl)) (fun b => (sg_name nd rfl (.inl rfl) rfl)) (fun b => (sts_one (st_val (se_isi kit_list (by rfl) V.b_isinstance (by rfl) V.b_list PyProof.Rows.boot_list (se_varS 4 (pv 4)))))) (fun b => (se_varS 4 (pv 4)))) so_none (so_some se_int)) (ss_asg (qq := false) (se_add (se_ix (se_var 4 (pv 4)) se_int (fun _ _ => rfl)) se_int) (sg_ix (Wx := W0) (sl_var 4 (pv 4)) se_int)) (sss_one (ss_if (st_c (cr_ne hr.units) (se_call0 tk (d_show_paper V) (hr.mono (by decide)) (by rfl) (sw_bor (sl_var 0 (pv 0)) sw_nil (.inl rfl))) (se_call0 tk (d__law_paper_text V) (hr.mono (by decide)) (by rfl) (sw_bor (sl_var 0 (pv 0)) sw_nil (.inl rfl)))) (sss_one (ss_ret se_bl)) sss_nil)) rfl rfl)
    (sss_one (ss_ret se_bl))))))
theorem sc__law_mixed : FnScope ["_law_cell", "_law_k", "_law_number"] ["_law_cell", "_law_k"] (defScope s__law_mixed) := ⟨rfl, rfl, rfl, by decide +kernel, rfl, by decide +kernel, by decide +kernel⟩
theorem d__law_mixed (V : Facts w K mg) : Df P w K mg base "_law_mixed" 2 (m__law_mixed) 1 := by
  obtain ⟨f, fd, F, hm⟩ := V.f__law_mixed
  refine ⟨⟨f, fd, ["_law_cell", "_law_k"], fn_ok F sc__law_mixed rfl (by decide) (fun cdv A outer s H E hr => ?_), hm, F.kp, F.binds fun _ _ _ _ _ _ us hl => match us, hl with | [_, _], _ => rfl⟩, fnM_len⟩
  have nd := (sc__law_mixed).nd
  have tk : Takes (cxOf (L2.CX P w) P w K mg base ["_law_cell", "_law_k", "_law_number"] "_law_mixed" (defScope s__law_mixed) f cdv A outer s H E) (fun cls d _ H' => E cls d H') := takes_of rfl rfl rfl rfl
  exact (sss_cons (ss_set (i := 2) nd rfl (.inl rfl) rfl (se_mod (se_add (se_add (se_mul (se_mod (se_varS 0 (pv 0)) se_int) se_int) (se_mul (se_varS 1 (pv 1)) se_int)) se_int) se_int))
    (sss_cons (ss_set (i := 2) nd rfl (.inl rfl) rfl (se_mod (se_mul (se_varS 2 (pv 2)) (se_varS 2 (pv 2))) se_int))
    (sss_one (ss_ret (se_fdiv (se_mod (se_mul (se_varS 2 (pv 2)) (se_varS 2 (pv 2))) se_int) se_int)))))
theorem sc__law_take : FnScope ["_law_pile_here", "_law_many", "_law_digit"] ["_law_pile_here", "_law_many"] (defScope s__law_take) := ⟨rfl, rfl, rfl, by decide +kernel, rfl, by decide +kernel, by decide +kernel⟩
theorem d__law_take (V : Facts w K mg) : Df P w K mg base "_law_take" 2 (m__law_take) 2 := by
  obtain ⟨f, fd, F, hm⟩ := V.f__law_take
  refine ⟨⟨f, fd, ["_law_pile_here", "_law_many"], fn_ok F sc__law_take rfl (by decide) (fun cdv A outer s H E hr => ?_), hm, F.kp, F.binds fun _ _ _ _ _ _ us hl => match us, hl with | [_, _], _ => rfl⟩, fnM_len⟩
  have nd := (sc__law_take).nd
  have tk : Takes (cxOf (L2.CX P w) P w K mg base ["_law_pile_here", "_law_many", "_law_digit"] "_law_take" (defScope s__law_take) f cdv A outer s H E) (fun cls d _ H' => E cls d H') := takes_of rfl rfl rfl rfl
  exact (sss_cons (ss_if (st_c (cr_in (r65 hr) (by rfl)) (se_ix (se_var 0 (pv 0)) se_int (fun _ _ => rfl)) (se_lst (sa_cons se_int (sa_cons (se_neg se_int) sa_nil)))) (sss_cons (ss_asg (qq := false) (se_add (se_ix (se_var 0 (pv 0)) se_int (fun _ _ => rfl)) se_int) (sg_ix (Wx := W0) (sl_var 0 (pv 0)) se_int))
    (sss_one (ss_ret (se_mod (se_call0 tk (d__law_mixed V) (hr.mono (by decide)) (by rfl) (sw_bor (sl_ix (Wx := W0) (sl_var 0 (pv 0)) se_int (fun _ _ => rfl)) (sw_bor (sl_ix (Wx := W0) (sl_var 0 (pv 0)) se_int (fun _ _ => rfl)) sw_nil (.inl rfl)) (.inl rfl))) (se_varS 1 (pv 1)))))) sss_nil)
    (sss_cons (ss_set (i := 2) nd rfl (.inl rfl) rfl (se_mod (se_ix (se_var 0 (pv 0)) se_int (fun _ _ => rfl)) (se_varS 1 (pv 1))))
    (sss_cons (ss_asg (qq := false) (se_fdiv (se_ix (se_var 0 (pv 0)) se_int (fun _ _ => rfl)) (se_varS 1 (pv 1))) (sg_ix (Wx := W0) (sl_var 0 (pv 0)) se_int))
    (sss_one (ss_ret (se_varS 2 (pv 2)))))))
theorem sc__law_great : FnScope ["_law_pile_here", "_law_number", "_law_way"] ["_law_pile_here"] (defScope s__law_great) := ⟨rfl, rfl, rfl, by decide +kernel, rfl, by decide +kernel, by decide +kernel⟩
theorem d__law_great (V : Facts w K mg) : Df P w K mg base "_law_great" 1 (m__law_great) 3 := by
  obtain ⟨f, fd, F, hm⟩ := V.f__law_great
  refine ⟨⟨f, fd, ["_law_pile_here"], fn_ok F sc__law_great rfl (by decide) (fun cdv A outer s H E hr => ?_), hm, F.kp, F.binds fun _ _ _ _ _ _ us hl => match us, hl with | [_], _ => rfl⟩, fnM_len⟩
  have nd := (sc__law_great).nd
  have tk : Takes (cxOf (L2.CX P w) P w K mg base ["_law_pile_here", "_law_number", "_law_way"] "_law_great" (defScope s__law_great) f cdv A outer s H E) (fun cls d _ H' => E cls d H') := takes_of rfl rfl rfl rfl
  exact (sss_cons (ss_set (i := 1) nd rfl (.inl rfl) rfl (se_fz (se_call1 tk (d__law_take V) (hr.mono (by decide)) (by rfl) (sw_io (sl_var 0 (pv 0)) (sw_own (se_pow se_int se_int) sw_nil) (.inl rfl)))))
    (sss_cons (ss_set (i := 2) nd rfl (.inl rfl) rfl (se_fz (se_call1 tk (d__law_take V) (hr.mono (by decide)) (by rfl) (sw_io (sl_var 0 (pv 0)) (sw_own se_int sw_nil) (.inl rfl)))))
    (sss_one (ss_ret (se_ix (se_lst (sa_cons (se_mod (se_varS 1 (pv 1)) se_int) (sa_cons (se_mod (se_varS 1 (pv 1)) se_int) (sa_cons (se_varS 1 (pv 1)) (sa_cons (se_add (se_mul (se_add (se_mul (se_varS 1 (pv 1)) (se_pow se_int se_int)) (se_call1 tk (d__law_take V) (hr.mono (by decide)) (by rfl) (sw_io (sl_var 0 (pv 0)) (sw_own (se_pow se_int se_int) sw_nil) (.inl rfl)))) se_int) (se_mod (se_varS 1 (pv 1)) se_int)) sa_nil))))) (se_varS 2 (pv 2)) (fun _ _ => rfl))))))
theorem sc__law_signed : FnScope ["_law_pile_here", "_law_number"] ["_law_pile_here"] (defScope s__law_signed) := ⟨rfl, rfl, rfl, by decide +kernel, rfl, by decide +kernel, by decide +kernel⟩
theorem d__law_signed (V : Facts w K mg) : Df P w K mg base "_law_signed" 1 (m__law_signed) 4 := by
  obtain ⟨f, fd, F, hm⟩ := V.f__law_signed
  refine ⟨⟨f, fd, ["_law_pile_here"], fn_ok F sc__law_signed rfl (by decide) (fun cdv A outer s H E hr => ?_), hm, F.kp, F.binds fun _ _ _ _ _ _ us hl => match us, hl with | [_], _ => rfl⟩, fnM_len⟩
  have nd := (sc__law_signed).nd
  have tk : Takes (cxOf (L2.CX P w) P w K mg base ["_law_pile_here", "_law_number"] "_law_signed" (defScope s__law_signed) f cdv A outer s H E) (fun cls d _ H' => E cls d H') := takes_of rfl rfl rfl rfl
  exact (sss_cons (ss_set (i := 1) nd rfl (.inl rfl) rfl (se_fz (se_call1 tk (d__law_great V) (hr.mono (by decide)) (by rfl) (sw_io (sl_var 0 (pv 0)) sw_nil (.inl rfl)))))
    (sss_one (ss_ret (se_ix (se_lst (sa_cons (se_varS 1 (pv 1)) (sa_cons (se_varS 1 (pv 1)) (sa_cons (se_neg (se_varS 1 (pv 1))) sa_nil)))) (se_call1 tk (d__law_take V) (hr.mono (by decide)) (by rfl) (sw_io (sl_var 0 (pv 0)) (sw_own se_int sw_nil) (.inl rfl))) (fun _ _ => rfl)))))
theorem sc__law_list : FnScope ["_law_pile_here", "_law_least", "_law_found", "_law_k", "_law_number"] ["_law_pile_here", "_law_least"] (defScope s__law_list) := ⟨rfl, rfl, rfl, by decide +kernel, rfl, by decide +kernel, by decide +kernel⟩
theorem d__law_list (V : Facts w K mg) : Df P w K mg base "_law_list" 2 (m__law_list) 5 := by
  obtain ⟨f, fd, F, hm⟩ := V.f__law_list
  refine ⟨⟨f, fd, ["_law_pile_here", "_law_least"], fn_ok F sc__law_list rfl (by decide) (fun cdv A outer s H E hr => ?_), hm, F.kp, F.binds fun _ _ _ _ _ _ us hl => match us, hl with | [_, _], _ => rfl⟩, fnM_len⟩
  have nd := (sc__law_list).nd
  have tk : Takes (cxOf (L2.CX P w) P w K mg base ["_law_pile_here", "_law_least", "_law_found", "_law_k", "_law_number"] "_law_list" (defScope s__law_list) f cdv A outer s H E) (fun cls d _ H' => E cls d H') := takes_of rfl rfl rfl rfl
  exact (sss_cons (ss_set (i := 2) nd rfl (.inl rfl) rfl (se_lst sa_nil))
    (sss_cons (ss_for (qq := false) (passes_of rfl) rfl (si_rg1 (by rfl) V.b_range (sa_cons (se_add se_int (se_call1 tk (d__law_take V) (hr.mono (by decide)) (by rfl) (sw_io (sl_var 0 (pv 0)) (sw_own se_int sw_nil) (.inl rfl)))) sa_nil)) (sg_name nd rfl (.inl rfl) rfl) (sss_cons (ss_set (i := 4) nd rfl (.inl rfl) rfl (se_fz (se_call1 tk (d__law_signed V) (hr.mono (by decide)) (by rfl) (sw_io (sl_var 0 (pv 0)) sw_nil (.inl rfl)))))
    (sss_one (ss_expr (se_meth PySem.F.slot_list_append PySem.F.type_list_append mt_append opi_app (sl_var 2 (pv 2)) (sa_cons (se_ix (se_lst (sa_cons (se_varS 4 (pv 4)) (sa_cons (se_bi call_abs ops_abs (by rfl) V.b_abs PyProof.Rows.boot_abs (sa_cons (se_varS 4 (pv 4)) sa_nil)) sa_nil))) (se_ty (AM.CallR.or call_int1 call_int_str) ops_int (by rfl) V.b_int PyProof.Rows.boot_int (sa_cons (se_c (cr_eq hr.units) (se_varS 1 (pv 1)) se_int) sa_nil)) (fun _ _ => rfl)) sa_nil) (.inl rfl))))))
    (sss_one (ss_ret (se_mov 2 (pv 2))))))
theorem sc__law_row : FnScope ["_law_pile_here", "_law_dues", "_law_leads", "_law_k"] ["_law_pile_here"] (defScope s__law_row) := ⟨rfl, rfl, rfl, by decide +kernel, rfl, by decide +kernel, by decide +kernel⟩
theorem d__law_row (V : Facts w K mg) : Df P w K mg base "_law_row" 1 (m__law_row) 6 := by
  obtain ⟨f, fd, F, hm⟩ := V.f__law_row
  refine ⟨⟨f, fd, ["_law_pile_here"], fn_ok F sc__law_row rfl (by decide) (fun cdv A outer s H E hr => ?_), hm, F.kp, F.binds fun _ _ _ _ _ _ us hl => match us, hl with | [_], _ => rfl⟩, fnM_len⟩
  have nd := (sc__law_row).nd
  have tk : Takes (cxOf (L2.CX P w) P w K mg base ["_law_pile_here", "_law_dues", "_law_leads", "_law_k"] "_law_row" (defScope s__law_row) f cdv A outer s H E) (fun cls d _ H' => E cls d H') := takes_of rfl rfl rfl rfl
  exact (sss_cons (ss_set (i := 1) nd rfl (.inl rfl) rfl (se_call1 tk (d__law_list V) (hr.mono (by decide)) (by rfl) (sw_io (sl_var 0 (pv 0)) (sw_own se_non sw_nil) (.inl rfl))))
    (sss_cons (ss_set (i := 2) nd rfl (.inl rfl) rfl (se_lst sa_nil))
    (sss_cons (ss_for (qq := false) (passes_of rfl) rfl (si_rg1 (by rfl) V.b_range (sa_cons (se_call1 tk (d__law_take V) (hr.mono (by decide)) (by rfl) (sw_io (sl_var 0 (pv 0)) (sw_own se_int sw_nil) (.inl rfl))) sa_nil)) (sg_name nd rfl (.inl rfl) rfl) (sss_one (ss_expr (se_meth PySem.F.slot_list_append PySem.F.type_list_append mt_append opi_app (sl_var 2 (pv 2)) (sa_cons (se_tup (sa_cons (se_lc (q := false) rfl nd (si_rg1 (by rfl) V.b_range (sa_cons (se_add se_int (se_call1 tk (d__law_take V) (hr.mono (by decide)) (by rfl) (sw_io (sl_var 0 (pv 0)) (sw_own se_int sw_nil) (.inl rfl)))) sa_nil)) (blkOk_by (own := [("_law_k", 3)]) (by kernel_rfl)) (fun b => (sg_name nd rfl (.inl rfl) rfl)) (fun b => (sts_p sts_nil)) (fun b => (se_sub (se_call1 takes0 (d__law_take V) (hr.mono (by decide)) (by rfl) (sw_io (sl_var 0 (pv 0)) (sw_own se_int sw_nil) (.inl rfl))) se_int))) (sa_cons (se_call1 tk (d__law_take V) (hr.mono (by decide)) (by rfl) (sw_io (sl_var 0 (pv 0)) (sw_own se_int sw_nil) (.inl rfl))) sa_nil))) sa_nil) (.inr root_var)))))
    (sss_one (ss_ret (se_tup (sa_cons (se_mov 1 (pv 1)) (sa_cons (se_call1 tk (d__law_great V) (hr.mono (by decide)) (by rfl) (sw_io (sl_var 0 (pv 0)) sw_nil (.inl rfl))) (sa_cons (se_mov 2 (pv 2)) sa_nil)))))))))
theorem sc__law_paper : FnScope ["_law_pile_here", "_law_way", "_law_times", "_law_k"] ["_law_pile_here"] (defScope s__law_paper) := ⟨rfl, rfl, rfl, by decide +kernel, rfl, by decide +kernel, by decide +kernel⟩
theorem d__law_paper (V : Facts w K mg) : Df P w K mg base "_law_paper" 1 (m__law_paper) 7 := by
  obtain ⟨f, fd, F, hm⟩ := V.f__law_paper
  refine ⟨⟨f, fd, ["_law_pile_here"], fn_ok F sc__law_paper rfl (by decide) (fun cdv A outer s H E hr => ?_), hm, F.kp, F.binds fun _ _ _ _ _ _ us hl => match us, hl with | [_], _ => rfl⟩, fnM_len⟩
  have nd := (sc__law_paper).nd
  have tk : Takes (cxOf (L2.CX P w) P w K mg base ["_law_pile_here", "_law_way", "_law_times", "_law_k"] "_law_paper" (defScope s__law_paper) f cdv A outer s H E) (fun cls d _ H' => E cls d H') := takes_of rfl rfl rfl rfl
  exact (sss_cons (ss_set (i := 1) nd rfl (.inl rfl) rfl (se_fz (se_call1 tk (d__law_take V) (hr.mono (by decide)) (by rfl) (sw_io (sl_var 0 (pv 0)) (sw_own se_int sw_nil) (.inl rfl)))))
    (sss_cons (ss_if (st_c cr_lt (se_varS 1 (pv 1)) se_int) (sss_one (ss_ret (se_tup (sa_cons (se_ix (se_lst (sa_cons se_str (sa_cons se_str sa_nil))) (se_varS 1 (pv 1)) (fun _ _ => rfl)) sa_nil)))) sss_nil)
    (sss_cons (ss_set (i := 2) nd rfl (.inl rfl) rfl (se_call1 tk (d__law_list V) (hr.mono (by decide)) (by rfl) (sw_io (sl_var 0 (pv 0)) (sw_own se_non sw_nil) (.inl rfl))))
    (sss_cons (ss_if (st_c (cr_eq hr.units) (se_varS 1 (pv 1)) se_int) (sss_one (ss_ret (se_tup (sa_cons (se_mov 2 (pv 2)) sa_nil)))) sss_nil)
    (sss_cons (ss_if (st_c (cr_eq hr.units) (se_varS 1 (pv 1)) se_int) (sss_one (ss_ret (se_tup (sa_cons (se_call1 tk (d__law_great V) (hr.mono (by decide)) (by rfl) (sw_io (sl_var 0 (pv 0)) sw_nil (.inl rfl))) (sa_cons (se_mov 2 (pv 2)) sa_nil))))) sss_nil)
    (sss_cons (ss_if (st_c (cr_eq hr.units) (se_varS 1 (pv 1)) se_int) (sss_one (ss_ret (se_tup (sa_cons (se_mov 2 (pv 2)) (sa_cons (se_call1 tk (d__law_list V) (hr.mono (by decide)) (by rfl) (sw_io (sl_var 0 (pv 0)) (sw_own se_int sw_nil) (.inl rfl))) sa_nil))))) sss_nil)
    (sss_cons (ss_if (st_c (cr_eq hr.units) (se_varS 1 (pv 1)) se_int) (sss_one (ss_ret (se_tup (sa_cons (se_call1 tk (d__law_list V) (hr.mono (by decide)) (by rfl) (sw_io (sl_var 0 (pv 0)) (sw_own se_int sw_nil) (.inl rfl))) (sa_cons (se_mov 2 (pv 2)) (sa_cons (se_call1 tk (d__law_list V) (hr.mono (by decide)) (by rfl) (sw_io (sl_var 0 (pv 0)) (sw_own se_int sw_nil) (.inl rfl))) sa_nil)))))) sss_nil)
    (sss_one (ss_ret (se_tup (sa_cons se_str (sa_cons (se_mov 2 (pv 2)) (sa_cons (se_fz (se_lc (q := false) rfl nd (si_rg1 (by rfl) V.b_range (sa_cons (se_call1 tk (d__law_take V) (hr.mono (by decide)) (by rfl) (sw_io (sl_var 0 (pv 0)) (sw_own se_int sw_nil) (.inl rfl))) sa_nil)) (blkOk_by (own := [("_law_k", 3)]) (by kernel_rfl)) (fun b => (sg_name nd rfl (.inl rfl) rfl)) (fun b => (sts_p sts_nil)) (fun b => (se_call1 takes0 (d__law_row V) (hr.mono (by decide)) (by rfl) (sw_io (sl_var 0 (pv 0)) sw_nil (.inl rfl)))))) sa_nil)))))))))))))
theorem sc__law_pile : FnScope ["_law_script", "_law_k", "_law_cell"] ["_law_script", "_law_k"] (defScope s__law_pile) := ⟨rfl, rfl, rfl, by decide +kernel, rfl, by decide +kernel, by decide +kernel⟩
theorem d__law_pile (V : Facts w K mg) : Df P w K mg base "_law_pile" 2 (m__law_pile) 1 := by
  obtain ⟨f, fd, F, hm⟩ := V.f__law_pile
  refine ⟨⟨f, fd, ["_law_script", "_law_k"], fn_ok F sc__law_pile rfl (by decide) (fun cdv A outer s H E hr => ?_), hm, F.kp, F.binds fun _ _ _ _ _ _ us hl => match us, hl with | [_, _], _ => rfl⟩, fnM_len⟩
  have nd := (sc__law_pile).nd
  have tk : Takes (cxOf (L2.CX P w) P w K mg base ["_law_script", "_law_k", "_law_cell"] "_law_pile" (defScope s__law_pile) f cdv A outer s H E) (fun cls d _ H' => E cls d H') := takes_of rfl rfl rfl rfl
  exact (sss_cons (ss_set (i := 2) nd rfl (.inl rfl) rfl se_int)
    (sss_cons (ss_if (st_c cr_lt (se_varS 1 (pv 1)) (se_bi call_len ops_len (by rfl) V.b_len PySem.boot_len (sa_cons (se_varS 0 (pv 0)) sa_nil))) (sss_one (ss_set (i := 2) nd rfl (.inl rfl) rfl (se_fz (se_ix (se_varS 0 (pv 0)) (se_varS 1 (pv 1)) (fun _ _ => rfl))))) sss_nil)
    (sss_one (ss_ret (se_lst (sa_cons (se_ix (se_lst (sa_cons se_int (sa_cons (se_mod (se_varS 2 (pv 2)) (se_mul (se_mul (se_pow se_int se_int) (se_pow se_int se_int)) (se_pow se_int se_int))) sa_nil))) (se_ty (AM.CallR.or call_int1 call_int_str) ops_int (by rfl) V.b_int PyProof.Rows.boot_int (sa_cons (se_c cr_ge (se_bi call_abs ops_abs (by rfl) V.b_abs PyProof.Rows.boot_abs (sa_cons (se_varS 2 (pv 2)) sa_nil)) (se_pow se_int se_int)) sa_nil)) (fun _ _ => rfl)) (sa_cons (se_mod (se_varS 2 (pv 2)) se_int) (sa_cons (se_mul se_int (se_varS 1 (pv 1))) sa_nil))))))))
theorem sc__law_edges : FnScope ["_law_found", "_law_great_here", "_law_k", "_law_j"] [] (defScope s__law_edges) := ⟨rfl, rfl, rfl, by decide +kernel, rfl, by decide +kernel, by decide +kernel⟩
theorem d__law_edges (V : Facts w K mg) : Df P w K mg base "_law_edges" 0 (m__law_edges) 1 := by
  obtain ⟨f, fd, F, hm⟩ := V.f__law_edges
  refine ⟨⟨f, fd, [], fn_ok F sc__law_edges rfl (by decide) (fun cdv A outer s H E hr => ?_), hm, F.kp, F.binds fun _ _ _ _ _ _ us hl => match us, hl with | [], _ => rfl⟩, fnM_len⟩
  have nd := (sc__law_edges).nd
  have tk : Takes (cxOf (L2.CX P w) P w K mg base ["_law_found", "_law_great_here", "_law_k", "_law_j"] "_law_edges" (defScope s__law_edges) f cdv A outer s H E) (fun cls d _ H' => E cls d H') := takes_of rfl rfl rfl rfl
  exact (sss_cons (ss_set (i := 0) nd rfl (.inl rfl) rfl (se_lst (sa_cons (se_tup (sa_cons se_str (sa_cons (se_lst (sa_cons se_int sa_nil)) (sa_cons (se_fz (se_lst sa_nil)) sa_nil)))) (sa_cons (se_tup (sa_cons se_str (sa_cons (se_lst (sa_cons se_int (sa_cons se_int sa_nil))) (sa_cons (se_fz (se_lst (sa_cons (se_fz (se_tup (sa_cons (se_lst (sa_cons se_int (sa_cons se_int sa_nil))) (sa_cons se_int (sa_cons (se_lst sa_nil) sa_nil))))) (sa_cons (se_fz (se_tup (sa_cons (se_lst (sa_cons se_int (sa_cons se_int sa_nil))) (sa_cons se_int (sa_cons (se_lst sa_nil) sa_nil))))) sa_nil)))) sa_nil)))) (sa_cons (se_tup (sa_cons (se_lst (sa_cons se_int sa_nil)) sa_nil)) (sa_cons (se_tup (sa_cons se_int (sa_cons (se_lst (sa_cons se_int sa_nil)) sa_nil))) (sa_cons (se_tup (sa_cons (se_lst (sa_cons se_int sa_nil)) (sa_cons (se_lst (sa_cons se_int sa_nil)) sa_nil))) sa_nil)))))))
    (sss_cons (ss_set (i := 0) nd rfl (.inl rfl) rfl (se_catO (se_mov 0 (pv 0)) (se_lst (sa_cons (se_tup (sa_cons (se_lst (sa_cons se_int sa_nil)) (sa_cons (se_lst (sa_cons se_int sa_nil)) (sa_cons (se_lst (sa_cons se_int sa_nil)) sa_nil)))) (sa_cons (se_tup (sa_cons se_str (sa_cons (se_lst (sa_cons se_int sa_nil)) (sa_cons (se_fz (se_lst (sa_cons (se_fz (se_tup (sa_cons (se_lst (sa_cons se_int sa_nil)) (sa_cons se_int (sa_cons (se_mul (se_lst (sa_cons (se_fz (se_tup (sa_cons (se_lst (sa_cons se_int sa_nil)) (sa_cons se_int sa_nil)))) sa_nil)) se_int) sa_nil))))) (sa_cons (se_fz (se_tup (sa_cons (se_lst (sa_cons se_int sa_nil)) (sa_cons se_int (sa_cons (se_lst (sa_cons (se_fz (se_tup (sa_cons (se_lst (sa_cons se_int sa_nil)) (sa_cons se_int sa_nil)))) sa_nil)) sa_nil))))) sa_nil)))) sa_nil)))) (sa_cons (se_tup (sa_cons (se_mul (se_lst (sa_cons (se_neg se_int) sa_nil)) se_int) sa_nil)) sa_nil))))))
    (sss_cons (ss_expr (se_meth PySem.F.slot_list_append PySem.F.type_list_append mt_append opi_app (sl_var 0 (pv 0)) (sa_cons (se_tup (sa_cons se_str (sa_cons (se_lst (sa_cons se_int sa_nil)) (sa_cons (se_fz (se_lcP rfl nd (si_rg1 (by rfl) V.b_range (sa_cons se_int sa_nil)) (blkOk_by (own := [("_law_k", 2)]) (by kernel_rfl)) (fun b => (sg_name nd rfl (.inr rfl) rfl)) (fun b => sts_nil) (fun b => (se_tup (sa_cons (se_lst (sa_cons (se_varS 2 (pv 2)) sa_nil)) (sa_cons (se_varS 2 (pv 2)) (sa_cons (se_lcP rfl nd (si_rg1 (by rfl) V.b_range (sa_cons (se_mod (se_varS 2 (pv 2)) se_int) sa_nil)) (blkOk_by (own := [("_law_j", 3)]) (by kernel_rfl)) (fun b => (sg_name nd rfl (.inl rfl) rfl)) (fun b => sts_nil) (fun b => (se_tup (sa_cons (se_lst (sa_cons (se_varS 2 (pv 2)) sa_nil)) (sa_cons (se_varS 2 (pv 2)) sa_nil))))) sa_nil))))))) sa_nil)))) sa_nil) (.inl rfl)))
    (sss_cons (ss_set (i := 1) nd rfl (.inl rfl) rfl (se_sub (se_pow se_int se_int) se_int))
    (sss_cons (ss_set (i := 0) nd rfl (.inl rfl) rfl (se_catO (se_mov 0 (pv 0)) (se_lst (sa_cons (se_tup (sa_cons se_str (sa_cons (se_lst (sa_cons se_int sa_nil)) (sa_cons (se_fz (se_lst (sa_cons (se_fz (se_tup (sa_cons (se_lst (sa_cons se_int sa_nil)) (sa_cons se_int (sa_cons (se_lst (sa_cons (se_fz (se_tup (sa_cons (se_lst (sa_cons (se_varS 1 (pv 1)) (sa_cons (se_neg (se_varS 1 (pv 1))) sa_nil))) (sa_cons (se_varS 1 (pv 1)) sa_nil)))) sa_nil)) sa_nil))))) sa_nil))) sa_nil)))) (sa_cons (se_tup (sa_cons (se_mul (se_lst (sa_cons (se_varS 1 (pv 1)) sa_nil)) se_int) (sa_cons (se_mul (se_lst (sa_cons (se_neg (se_varS 1 (pv 1))) sa_nil)) se_int) (sa_cons (se_mul (se_lst (sa_cons (se_varS 1 (pv 1)) sa_nil)) se_int) sa_nil)))) sa_nil)))))
    (sss_one (ss_ret (se_catO (se_mov 0 (pv 0)) (se_lst (sa_cons (se_tup (sa_cons (se_sub (se_pow se_int se_int) se_int) (sa_cons (se_lst (sa_cons (se_sub se_int (se_pow se_int se_int)) sa_nil)) sa_nil))) (sa_cons (se_tup (sa_cons se_str (sa_cons (se_lst (sa_cons se_int sa_nil)) (sa_cons (se_fz (se_lst (sa_cons (se_fz (se_tup (sa_cons (se_lst (sa_cons se_int sa_nil)) (sa_cons se_int (sa_cons (se_lst sa_nil) sa_nil))))) sa_nil))) sa_nil)))) sa_nil)))))))))))
theorem sc_law : FnScope ["_law_script", "_law_at", "_law_paper_here"] ["_law_script"] (defScope s_law) := ⟨rfl, rfl, rfl, by decide +kernel, rfl, by decide +kernel, by decide +kernel⟩
theorem ok_law (V : Facts w K mg) (fu : Nat) {f : Addr} {fd : FuncData} (F : Fun K "law" "law" s_law f fd) : RunAt P w K mg base (L2.CX P w) callerA f fd ["_law_script"] (spOf ⟨K, mg⟩ 1 (m_law fu)) := by
  have h__law_edges := d__law_edges (P := P) (base := base) V
  unfold m_law b_law
  generalize m__law_edges = mo__law_edges at h__law_edges ⊢
  have h__law_long_text := d__law_long_text (P := P) (base := base) V
  generalize m__law_long_text = mo__law_long_text at h__law_long_text ⊢
  refine fn_law (k := 11) F sc_law rfl (by decide) ⟨rfl, by decide, by decide⟩ rfl (fun cdv outer s H E hr hG => ?_)
  have nd := (sc_law).nd
  have tk : Takes (cxOf (L2.CX P w) P w K mg base ["_law_script", "_law_at", "_law_paper_here"] "law" (defScope s_law) f cdv callerA outer s H E) (fun cls d _ H' => E cls d H') := takes_of rfl rfl rfl rfl
  exact (sss_cons (ss_if (st_not (st_val (se_callNG hG h__law_long_text (hr.mono (by decide)) (by rfl)))) (sss_one (ss_ret se_bl)) sss_nil)
    (sss_cons (ss_for (qq := false) (passes_of rfl) rfl (si_rg1 (by rfl) V.b_range (sa_cons se_int sa_nil)) (sg_name nd rfl (.inl rfl) rfl) (sss_one (ss_if (st_not (st_val (se_callG0 hG tk (d__law_kept V fu) (hr.mono (by decide)) (by rfl) (sw_own (se_call0 tk (d__law_paper V) (hr.mono (by decide)) (by rfl) (sw_own (se_call0 tk (d__law_pile V) (hr.mono (by decide)) (by rfl) (sw_own (se_varS 0 (pv 0)) (sw_own (se_varS 1 (pv 1)) sw_nil))) sw_nil)) sw_nil)))) (sss_one (ss_ret se_bl)) sss_nil)))
    (sss_one (ss_ret (se_c (cr_eq hr.units) (se_lcN (j := 2) rfl nd (se_callN h__law_edges (hr.mono (by decide)) (by rfl)) (blkOk_by (own := [("_law_paper_here", 2)]) (by kernel_rfl)) (fun b => pg_name nd rfl (.inl rfl)) (fun b => (sts_one (st_not (st_val (se_callG1 hG takes0 (d__law_kept V fu) (hr.mono (by decide)) (by rfl) (sw_io (sl_var 2 (pv 2)) sw_nil (.inl rfl))))))) (fun b => (se_p2 (se_varS 2 (pv 2))))) (se_lst sa_nil))))))
end
theorem all_mk {P : Program} {w : World} {K : PySem.W.Frag} {h : Heap} {mg : Str → Option Value} {fa : Addr} (X : K.In h) (G : h.Ns mainGlobals mg) (hfa : mg "law" = some (.ref fa))
    {f0 : Addr} {od0 an0 : Option Addr} {sl0 : Array (Option Value)} {oc0 kV0 dc0 pm0 cd0 ct0 : Value} {f1 : Addr} {od1 an1 : Option Addr} {sl1 : Array (Option Value)} {oc1 kV1 dc1 pm1 cd1 ct1 : Value} {f2 : Addr} {od2 an2 : Option Addr} {sl2 : Array (Option Value)} {oc2 kV2 dc2 pm2 cd2 ct2 : Value} {f3 : Addr} {od3 an3 : Option Addr} {sl3 : Array (Option Value)} {oc3 kV3 dc3 pm3 cd3 ct3 : Value} {f4 : Addr} {od4 an4 : Option Addr} {sl4 : Array (Option Value)} {oc4 kV4 dc4 pm4 cd4 ct4 : Value} {f5 : Addr} {od5 an5 : Option Addr} {sl5 : Array (Option Value)} {oc5 kV5 dc5 pm5 cd5 ct5 : Value} {f6 : Addr} {od6 an6 : Option Addr} {sl6 : Array (Option Value)} {oc6 kV6 dc6 pm6 cd6 ct6 : Value} {f7 : Addr} {od7 an7 : Option Addr} {sl7 : Array (Option Value)} {oc7 kV7 dc7 pm7 cd7 ct7 : Value} {f8 : Addr} {od8 an8 : Option Addr} {sl8 : Array (Option Value)} {oc8 kV8 dc8 pm8 cd8 ct8 : Value} {f9 : Addr} {od9 an9 : Option Addr} {sl9 : Array (Option Value)} {oc9 kV9 dc9 pm9 cd9 ct9 : Value} {f10 : Addr} {od10 an10 : Option Addr} {sl10 : Array (Option Value)} {oc10 kV10 dc10 pm10 cd10 ct10 : Value} {f11 : Addr} {od11 an11 : Option Addr} {sl11 : Array (Option Value)} {oc11 kV11 dc11 pm11 cd11 ct11 : Value} {f12 : Addr} {od12 an12 : Option Addr} {sl12 : Array (Option Value)} {oc12 kV12 dc12 pm12 cd12 ct12 : Value} {f13 : Addr} {od13 an13 : Option Addr} {sl13 : Array (Option Value)} {oc13 kV13 dc13 pm13 cd13 ct13 : Value} {f14 : Addr} {od14 an14 : Option Addr} {sl14 : Array (Option Value)} {oc14 kV14 dc14 pm14 cd14 ct14 : Value} {f15 : Addr} {od15 an15 : Option Addr} {sl15 : Array (Option Value)} {oc15 kV15 dc15 pm15 cd15 ct15 : Value} {f16 : Addr} {od16 an16 : Option Addr} {sl16 : Array (Option Value)} {oc16 kV16 dc16 pm16 cd16 ct16 : Value} {f17 : Addr} {od17 an17 : Option Addr} {sl17 : Array (Option Value)} {oc17 kV17 dc17 pm17 cd17 ct17 : Value} {f18 : Addr} {od18 an18 : Option Addr} {sl18 : Array (Option Value)} {oc18 kV18 dc18 pm18 cd18 ct18 : Value} {f19 : Addr} {od19 an19 : Option Addr} {sl19 : Array (Option Value)} {oc19 kV19 dc19 pm19 cd19 ct19 : Value} {f20 : Addr} {od20 an20 : Option Addr} {sl20 : Array (Option Value)} {oc20 kV20 dc20 pm20 cd20 ct20 : Value} {f21 : Addr} {od21 an21 : Option Addr} {sl21 : Array (Option Value)} {oc21 kV21 dc21 pm21 cd21 ct21 : Value} {f22 : Addr} {od22 an22 : Option Addr} {sl22 : Array (Option Value)} {oc22 kV22 dc22 pm22 cd22 ct22 : Value} {f23 : Addr} {od23 an23 : Option Addr} {sl23 : Array (Option Value)} {oc23 kV23 dc23 pm23 cd23 ct23 : Value} {f24 : Addr} {od24 an24 : Option Addr} {sl24 : Array (Option Value)} {oc24 kV24 dc24 pm24 cd24 ct24 : Value} {f25 : Addr} {od25 an25 : Option Addr} {sl25 : Array (Option Value)} {oc25 kV25 dc25 pm25 cd25 ct25 : Value} {f26 : Addr} {od26 an26 : Option Addr} {sl26 : Array (Option Value)} {oc26 kV26 dc26 pm26 cd26 ct26 : Value} {f27 : Addr} {od27 an27 : Option Addr} {sl27 : Array (Option Value)} {oc27 kV27 dc27 pm27 cd27 ct27 : Value} {f28 : Addr} {od28 an28 : Option Addr} {sl28 : Array (Option Value)} {oc28 kV28 dc28 pm28 cd28 ct28 : Value} {f29 : Addr} {od29 an29 : Option Addr} {sl29 : Array (Option Value)} {oc29 kV29 dc29 pm29 cd29 ct29 : Value} {f30 : Addr} {od30 an30 : Option Addr} {sl30 : Array (Option Value)} {oc30 kV30 dc30 pm30 cd30 ct30 : Value} {f31 : Addr} {od31 an31 : Option Addr} {sl31 : Array (Option Value)} {oc31 kV31 dc31 pm31 cd31 ct31 : Value} {C0 : Addr} {tk0 : Tok} {tk1 : Tok} {tk2 : Tok}
    (a0 : PySem.W.nsIn K mainGlobals "show_numbers" = some (some (.ref f0)))
    (l0 : K.lookup f0 = some ⟨oc0, od0, .func (PySem.W.fnOf "show_numbers" "show_numbers" (defArgs s_show_numbers) (defBody s_show_numbers) (defScope s_show_numbers) .none kV0 dc0 pm0 an0 cd0 ct0), sl0⟩)
    (c0 : PySem.W.codeIn K cd0 "show_numbers" = true) (k0 : PySem.W.keepIn K (.ref f0) = true)
    (a1 : PySem.W.nsIn K mainGlobals "show_bar" = some (some (.ref f1)))
    (l1 : K.lookup f1 = some ⟨oc1, od1, .func (PySem.W.fnOf "show_bar" "show_bar" (defArgs s_show_bar) (defBody s_show_bar) (defScope s_show_bar) .none kV1 dc1 pm1 an1 cd1 ct1), sl1⟩)
    (c1 : PySem.W.codeIn K cd1 "show_bar" = true) (k1 : PySem.W.keepIn K (.ref f1) = true)
    (a2 : PySem.W.nsIn K mainGlobals "show_row" = some (some (.ref f2)))
    (l2 : K.lookup f2 = some ⟨oc2, od2, .func (PySem.W.fnOf "show_row" "show_row" (defArgs s_show_row) (defBody s_show_row) (defScope s_show_row) .none kV2 dc2 pm2 an2 cd2 ct2), sl2⟩)
    (c2 : PySem.W.codeIn K cd2 "show_row" = true) (k2 : PySem.W.keepIn K (.ref f2) = true)
    (a3 : PySem.W.nsIn K mainGlobals "show_paper" = some (some (.ref f3)))
    (l3 : K.lookup f3 = some ⟨oc3, od3, .func (PySem.W.fnOf "show_paper" "show_paper" (defArgs s_show_paper) (defBody s_show_paper) (defScope s_show_paper) .none kV3 dc3 pm3 an3 cd3 ct3), sl3⟩)
    (c3 : PySem.W.codeIn K cd3 "show_paper" = true) (k3 : PySem.W.keepIn K (.ref f3) = true)
    (a4 : PySem.W.nsIn K mainGlobals "_law_numbers_text" = some (some (.ref f4)))
    (l4 : K.lookup f4 = some ⟨oc4, od4, .func (PySem.W.fnOf "_law_numbers_text" "_law_numbers_text" (defArgs s__law_numbers_text) (defBody s__law_numbers_text) (defScope s__law_numbers_text) .none kV4 dc4 pm4 an4 cd4 ct4), sl4⟩)
    (c4 : PySem.W.codeIn K cd4 "_law_numbers_text" = true) (k4 : PySem.W.keepIn K (.ref f4) = true)
    (a5 : PySem.W.nsIn K mainGlobals "_law_row_text" = some (some (.ref f5)))
    (l5 : K.lookup f5 = some ⟨oc5, od5, .func (PySem.W.fnOf "_law_row_text" "_law_row_text" (defArgs s__law_row_text) (defBody s__law_row_text) (defScope s__law_row_text) .none kV5 dc5 pm5 an5 cd5 ct5), sl5⟩)
    (c5 : PySem.W.codeIn K cd5 "_law_row_text" = true) (k5 : PySem.W.keepIn K (.ref f5) = true)
    (a6 : PySem.W.nsIn K mainGlobals "_law_bar_text" = some (some (.ref f6)))
    (l6 : K.lookup f6 = some ⟨oc6, od6, .func (PySem.W.fnOf "_law_bar_text" "_law_bar_text" (defArgs s__law_bar_text) (defBody s__law_bar_text) (defScope s__law_bar_text) .none kV6 dc6 pm6 an6 cd6 ct6), sl6⟩)
    (c6 : PySem.W.codeIn K cd6 "_law_bar_text" = true) (k6 : PySem.W.keepIn K (.ref f6) = true)
    (a7 : PySem.W.nsIn K mainGlobals "_law_paper_text" = some (some (.ref f7)))
    (l7 : K.lookup f7 = some ⟨oc7, od7, .func (PySem.W.fnOf "_law_paper_text" "_law_paper_text" (defArgs s__law_paper_text) (defBody s__law_paper_text) (defScope s__law_paper_text) .none kV7 dc7 pm7 an7 cd7 ct7), sl7⟩)
    (c7 : PySem.W.codeIn K cd7 "_law_paper_text" = true) (k7 : PySem.W.keepIn K (.ref f7) = true)
    (a8 : PySem.W.nsIn K mainGlobals "_law_long_text" = some (some (.ref f8)))
    (l8 : K.lookup f8 = some ⟨oc8, od8, .func (PySem.W.fnOf "_law_long_text" "_law_long_text" (defArgs s__law_long_text) (defBody s__law_long_text) (defScope s__law_long_text) .none kV8 dc8 pm8 an8 cd8 ct8), sl8⟩)
    (c8 : PySem.W.codeIn K cd8 "_law_long_text" = true) (k8 : PySem.W.keepIn K (.ref f8) = true)
    (a9 : PySem.W.nsIn K mainGlobals "number_in" = some (some (.ref f9)))
    (l9 : K.lookup f9 = some ⟨oc9, od9, .func (PySem.W.fnOf "number_in" "number_in" (defArgs s_number_in) (defBody s_number_in) (defScope s_number_in) .none kV9 dc9 pm9 an9 cd9 ct9), sl9⟩)
    (c9 : PySem.W.codeIn K cd9 "number_in" = true) (k9 : PySem.W.keepIn K (.ref f9) = true)
    (a10 : PySem.W.nsIn K mainGlobals "numbers_in" = some (some (.ref f10)))
    (l10 : K.lookup f10 = some ⟨oc10, od10, .func (PySem.W.fnOf "numbers_in" "numbers_in" (defArgs s_numbers_in) (defBody s_numbers_in) (defScope s_numbers_in) .none kV10 dc10 pm10 an10 cd10 ct10), sl10⟩)
    (c10 : PySem.W.codeIn K cd10 "numbers_in" = true) (k10 : PySem.W.keepIn K (.ref f10) = true)
    (a11 : PySem.W.nsIn K mainGlobals "halves" = some (some (.ref f11)))
    (l11 : K.lookup f11 = some ⟨oc11, od11, .func (PySem.W.fnOf "halves" "halves" (defArgs s_halves) (defBody s_halves) (defScope s_halves) .none kV11 dc11 pm11 an11 cd11 ct11), sl11⟩)
    (c11 : PySem.W.codeIn K cd11 "halves" = true) (k11 : PySem.W.keepIn K (.ref f11) = true)
    (a12 : PySem.W.nsIn K mainGlobals "number_from" = some (some (.ref f12)))
    (l12 : K.lookup f12 = some ⟨oc12, od12, .func (PySem.W.fnOf "number_from" "number_from" (defArgs s_number_from) (defBody s_number_from) (defScope s_number_from) .none kV12 dc12 pm12 an12 cd12 ct12), sl12⟩)
    (c12 : PySem.W.codeIn K cd12 "number_from" = true) (k12 : PySem.W.keepIn K (.ref f12) = true)
    (a13 : PySem.W.nsIn K mainGlobals "numbers_from" = some (some (.ref f13)))
    (l13 : K.lookup f13 = some ⟨oc13, od13, .func (PySem.W.fnOf "numbers_from" "numbers_from" (defArgs s_numbers_from) (defBody s_numbers_from) (defScope s_numbers_from) .none kV13 dc13 pm13 an13 cd13 ct13), sl13⟩)
    (c13 : PySem.W.codeIn K cd13 "numbers_from" = true) (k13 : PySem.W.keepIn K (.ref f13) = true)
    (a14 : PySem.W.nsIn K mainGlobals "bar_in" = some (some (.ref f14)))
    (l14 : K.lookup f14 = some ⟨oc14, od14, .func (PySem.W.fnOf "bar_in" "bar_in" (defArgs s_bar_in) (defBody s_bar_in) (defScope s_bar_in) .none kV14 dc14 pm14 an14 cd14 ct14), sl14⟩)
    (c14 : PySem.W.codeIn K cd14 "bar_in" = true) (k14 : PySem.W.keepIn K (.ref f14) = true)
    (a15 : PySem.W.nsIn K mainGlobals "lead_in" = some (some (.ref f15)))
    (l15 : K.lookup f15 = some ⟨oc15, od15, .func (PySem.W.fnOf "lead_in" "lead_in" (defArgs s_lead_in) (defBody s_lead_in) (defScope s_lead_in) .none kV15 dc15 pm15 an15 cd15 ct15), sl15⟩)
    (c15 : PySem.W.codeIn K cd15 "lead_in" = true) (k15 : PySem.W.keepIn K (.ref f15) = true)
    (a16 : PySem.W.nsIn K mainGlobals "row_in" = some (some (.ref f16)))
    (l16 : K.lookup f16 = some ⟨oc16, od16, .func (PySem.W.fnOf "row_in" "row_in" (defArgs s_row_in) (defBody s_row_in) (defScope s_row_in) .none kV16 dc16 pm16 an16 cd16 ct16), sl16⟩)
    (c16 : PySem.W.codeIn K cd16 "row_in" = true) (k16 : PySem.W.keepIn K (.ref f16) = true)
    (a17 : PySem.W.nsIn K mainGlobals "read_paper" = some (some (.ref f17)))
    (l17 : K.lookup f17 = some ⟨oc17, od17, .func (PySem.W.fnOf "read_paper" "read_paper" (defArgs s_read_paper) (defBody s_read_paper) (defScope s_read_paper) .none kV17 dc17 pm17 an17 cd17 ct17), sl17⟩)
    (c17 : PySem.W.codeIn K cd17 "read_paper" = true) (k17 : PySem.W.keepIn K (.ref f17) = true)
    (a18 : PySem.W.nsIn K mainGlobals "_law_whole" = some (some (.ref f18)))
    (l18 : K.lookup f18 = some ⟨oc18, od18, .func (PySem.W.fnOf "_law_whole" "_law_whole" (defArgs s__law_whole) (defBody s__law_whole) (defScope s__law_whole) .none kV18 dc18 pm18 an18 cd18 ct18), sl18⟩)
    (c18 : PySem.W.codeIn K cd18 "_law_whole" = true) (k18 : PySem.W.keepIn K (.ref f18) = true)
    (a19 : PySem.W.nsIn K mainGlobals "_law_kinds" = some (some (.ref f19)))
    (l19 : K.lookup f19 = some ⟨oc19, od19, .func (PySem.W.fnOf "_law_kinds" "_law_kinds" (defArgs s__law_kinds) (defBody s__law_kinds) (defScope s__law_kinds) .none kV19 dc19 pm19 an19 cd19 ct19), sl19⟩)
    (c19 : PySem.W.codeIn K cd19 "_law_kinds" = true) (k19 : PySem.W.keepIn K (.ref f19) = true)
    (a20 : PySem.W.nsIn K mainGlobals "_law_lists" = some (some (.ref f20)))
    (l20 : K.lookup f20 = some ⟨oc20, od20, .func (PySem.W.fnOf "_law_lists" "_law_lists" (defArgs s__law_lists) (defBody s__law_lists) (defScope s__law_lists) .none kV20 dc20 pm20 an20 cd20 ct20), sl20⟩)
    (c20 : PySem.W.codeIn K cd20 "_law_lists" = true) (k20 : PySem.W.keepIn K (.ref f20) = true)
    (a21 : PySem.W.nsIn K mainGlobals "_law_kept" = some (some (.ref f21)))
    (l21 : K.lookup f21 = some ⟨oc21, od21, .func (PySem.W.fnOf "_law_kept" "_law_kept" (defArgs s__law_kept) (defBody s__law_kept) (defScope s__law_kept) .none kV21 dc21 pm21 an21 cd21 ct21), sl21⟩)
    (c21 : PySem.W.codeIn K cd21 "_law_kept" = true) (k21 : PySem.W.keepIn K (.ref f21) = true)
    (a22 : PySem.W.nsIn K mainGlobals "_law_mixed" = some (some (.ref f22)))
    (l22 : K.lookup f22 = some ⟨oc22, od22, .func (PySem.W.fnOf "_law_mixed" "_law_mixed" (defArgs s__law_mixed) (defBody s__law_mixed) (defScope s__law_mixed) .none kV22 dc22 pm22 an22 cd22 ct22), sl22⟩)
    (c22 : PySem.W.codeIn K cd22 "_law_mixed" = true) (k22 : PySem.W.keepIn K (.ref f22) = true)
    (a23 : PySem.W.nsIn K mainGlobals "_law_take" = some (some (.ref f23)))
    (l23 : K.lookup f23 = some ⟨oc23, od23, .func (PySem.W.fnOf "_law_take" "_law_take" (defArgs s__law_take) (defBody s__law_take) (defScope s__law_take) .none kV23 dc23 pm23 an23 cd23 ct23), sl23⟩)
    (c23 : PySem.W.codeIn K cd23 "_law_take" = true) (k23 : PySem.W.keepIn K (.ref f23) = true)
    (a24 : PySem.W.nsIn K mainGlobals "_law_great" = some (some (.ref f24)))
    (l24 : K.lookup f24 = some ⟨oc24, od24, .func (PySem.W.fnOf "_law_great" "_law_great" (defArgs s__law_great) (defBody s__law_great) (defScope s__law_great) .none kV24 dc24 pm24 an24 cd24 ct24), sl24⟩)
    (c24 : PySem.W.codeIn K cd24 "_law_great" = true) (k24 : PySem.W.keepIn K (.ref f24) = true)
    (a25 : PySem.W.nsIn K mainGlobals "_law_signed" = some (some (.ref f25)))
    (l25 : K.lookup f25 = some ⟨oc25, od25, .func (PySem.W.fnOf "_law_signed" "_law_signed" (defArgs s__law_signed) (defBody s__law_signed) (defScope s__law_signed) .none kV25 dc25 pm25 an25 cd25 ct25), sl25⟩)
    (c25 : PySem.W.codeIn K cd25 "_law_signed" = true) (k25 : PySem.W.keepIn K (.ref f25) = true)
    (a26 : PySem.W.nsIn K mainGlobals "_law_list" = some (some (.ref f26)))
    (l26 : K.lookup f26 = some ⟨oc26, od26, .func (PySem.W.fnOf "_law_list" "_law_list" (defArgs s__law_list) (defBody s__law_list) (defScope s__law_list) .none kV26 dc26 pm26 an26 cd26 ct26), sl26⟩)
    (c26 : PySem.W.codeIn K cd26 "_law_list" = true) (k26 : PySem.W.keepIn K (.ref f26) = true)
    (a27 : PySem.W.nsIn K mainGlobals "_law_row" = some (some (.ref f27)))
    (l27 : K.lookup f27 = some ⟨oc27, od27, .func (PySem.W.fnOf "_law_row" "_law_row" (defArgs s__law_row) (defBody s__law_row) (defScope s__law_row) .none kV27 dc27 pm27 an27 cd27 ct27), sl27⟩)
    (c27 : PySem.W.codeIn K cd27 "_law_row" = true) (k27 : PySem.W.keepIn K (.ref f27) = true)
    (a28 : PySem.W.nsIn K mainGlobals "_law_paper" = some (some (.ref f28)))
    (l28 : K.lookup f28 = some ⟨oc28, od28, .func (PySem.W.fnOf "_law_paper" "_law_paper" (defArgs s__law_paper) (defBody s__law_paper) (defScope s__law_paper) .none kV28 dc28 pm28 an28 cd28 ct28), sl28⟩)
    (c28 : PySem.W.codeIn K cd28 "_law_paper" = true) (k28 : PySem.W.keepIn K (.ref f28) = true)
    (a29 : PySem.W.nsIn K mainGlobals "_law_pile" = some (some (.ref f29)))
    (l29 : K.lookup f29 = some ⟨oc29, od29, .func (PySem.W.fnOf "_law_pile" "_law_pile" (defArgs s__law_pile) (defBody s__law_pile) (defScope s__law_pile) .none kV29 dc29 pm29 an29 cd29 ct29), sl29⟩)
    (c29 : PySem.W.codeIn K cd29 "_law_pile" = true) (k29 : PySem.W.keepIn K (.ref f29) = true)
    (a30 : PySem.W.nsIn K mainGlobals "_law_edges" = some (some (.ref f30)))
    (l30 : K.lookup f30 = some ⟨oc30, od30, .func (PySem.W.fnOf "_law_edges" "_law_edges" (defArgs s__law_edges) (defBody s__law_edges) (defScope s__law_edges) .none kV30 dc30 pm30 an30 cd30 ct30), sl30⟩)
    (c30 : PySem.W.codeIn K cd30 "_law_edges" = true) (k30 : PySem.W.keepIn K (.ref f30) = true)
    (a31 : PySem.W.nsIn K mainGlobals "law" = some (some (.ref f31)))
    (l31 : K.lookup f31 = some ⟨oc31, od31, .func (PySem.W.fnOf "law" "law" (defArgs s_law) (defBody s_law) (defScope s_law) .none kV31 dc31 pm31 an31 cd31 ct31), sl31⟩)
    (c31 : PySem.W.codeIn K cd31 "law" = true) (k31 : PySem.W.keepIn K (.ref f31) = true)
    (z0 : PySem.W.nsIn K mainGlobals "abs" = some none)
    (z1 : PySem.W.nsIn K mainGlobals "bool" = some none)
    (z2 : PySem.W.nsIn K mainGlobals "int" = some none)
    (z3 : PySem.W.nsIn K mainGlobals "isinstance" = some none)
    (z4 : PySem.W.nsIn K mainGlobals "len" = some none)
    (z5 : PySem.W.nsIn K mainGlobals "list" = some none)
    (z6 : PySem.W.nsIn K mainGlobals "min" = some none)
    (z7 : PySem.W.nsIn K mainGlobals "range" = some none)
    (z8 : PySem.W.nsIn K mainGlobals "str" = some none)
    (z9 : PySem.W.nsIn K mainGlobals "tuple" = some none)
    (z10 : PySem.W.nsIn K mainGlobals "zip" = some none)
    (ea0 : PySem.W.nsIn K mainGlobals "NoText" = some (some (.ref C0)))
    (eb0 : PySem.W.excIn K C0 [.type "ValueError", .type "Exception", .type "BaseException", .type "object"] "ValueError.__new__" = true)
    (ec0 : PySem.W.keepIn K (.ref C0) = true) (ed0 : PySem.W.subIn K (.ref C0) (.type "BaseException") = some true) (ee0 : PySem.W.typeIn K (.ref C0) = some (.type "type"))
    (n0 : PySem.W.nsIn K mainGlobals "FIGURES" = some (some (.str "0123456789" tk0)))
    (n1 : PySem.W.nsIn K mainGlobals "MOST_FIGURES" = some (some (.int 40 tk1)))
    (n2 : PySem.W.nsIn K mainGlobals "MOST_NUMBERS" = some (some (.int 6 tk2))) :
    ∃ fd : FuncData, (∀ (s : Shared) (v : Value), BindsTo s fd ⟨[v], []⟩ [("_law_script", v)]) ∧ ∀ base : Heap, K.In base → base.Ns mainGlobals mg → RunAt P w K mg base (L2.CX P w) callerA fa fd ["_law_script"] (spL K (fun fu => m_law fu)) := by
  have e := hfa.symm.trans (PySem.W.mg_of X G a31)
  cases e
  have F0 := fun_mk (st := s_show_numbers) l0 c0 k0
  have F1 := fun_mk (st := s_show_bar) l1 c1 k1
  have F2 := fun_mk (st := s_show_row) l2 c2 k2
  have F3 := fun_mk (st := s_show_paper) l3 c3 k3
  have F4 := fun_mk (st := s__law_numbers_text) l4 c4 k4
  have F5 := fun_mk (st := s__law_row_text) l5 c5 k5
  have F6 := fun_mk (st := s__law_bar_text) l6 c6 k6
  have F7 := fun_mk (st := s__law_paper_text) l7 c7 k7
  have F8 := fun_mk (st := s__law_long_text) l8 c8 k8
  have F9 := fun_mk (st := s_number_in) l9 c9 k9
  have F10 := fun_mk (st := s_numbers_in) l10 c10 k10
  have F11 := fun_mk (st := s_halves) l11 c11 k11
  have F12 := fun_mk (st := s_number_from) l12 c12 k12
  have F13 := fun_mk (st := s_numbers_from) l13 c13 k13
  have F14 := fun_mk (st := s_bar_in) l14 c14 k14
  have F15 := fun_mk (st := s_lead_in) l15 c15 k15
  have F16 := fun_mk (st := s_row_in) l16 c16 k16
  have F17 := fun_mk (st := s_read_paper) l17 c17 k17
  have F18 := fun_mk (st := s__law_whole) l18 c18 k18
  have F19 := fun_mk (st := s__law_kinds) l19 c19 k19
  have F20 := fun_mk (st := s__law_lists) l20 c20 k20
  have F21 := fun_mk (st := s__law_kept) l21 c21 k21
  have F22 := fun_mk (st := s__law_mixed) l22 c22 k22
  have F23 := fun_mk (st := s__law_take) l23 c23 k23
  have F24 := fun_mk (st := s__law_great) l24 c24 k24
  have F25 := fun_mk (st := s__law_signed) l25 c25 k25
  have F26 := fun_mk (st := s__law_list) l26 c26 k26
  have F27 := fun_mk (st := s__law_row) l27 c27 k27
  have F28 := fun_mk (st := s__law_paper) l28 c28 k28
  have F29 := fun_mk (st := s__law_pile) l29 c29 k29
  have F30 := fun_mk (st := s__law_edges) l30 c30 k30
  have F31 := fun_mk (st := s_law) l31 c31 k31
  have V : Facts w K mg := ⟨⟨_, _, F0, PySem.W.mg_of X G a0⟩, ⟨_, _, F1, PySem.W.mg_of X G a1⟩, ⟨_, _, F2, PySem.W.mg_of X G a2⟩, ⟨_, _, F3, PySem.W.mg_of X G a3⟩, ⟨_, _, F4, PySem.W.mg_of X G a4⟩, ⟨_, _, F5, PySem.W.mg_of X G a5⟩, ⟨_, _, F6, PySem.W.mg_of X G a6⟩, ⟨_, _, F7, PySem.W.mg_of X G a7⟩, ⟨_, _, F8, PySem.W.mg_of X G a8⟩, ⟨_, _, F9, PySem.W.mg_of X G a9⟩, ⟨_, _, F10, PySem.W.mg_of X G a10⟩, ⟨_, _, F11, PySem.W.mg_of X G a11⟩, ⟨_, _, F12, PySem.W.mg_of X G a12⟩, ⟨_, _, F13, PySem.W.mg_of X G a13⟩, ⟨_, _, F14, PySem.W.mg_of X G a14⟩, ⟨_, _, F15, PySem.W.mg_of X G a15⟩, ⟨_, _, F16, PySem.W.mg_of X G a16⟩, ⟨_, _, F17, PySem.W.mg_of X G a17⟩, ⟨_, _, F18, PySem.W.mg_of X G a18⟩, ⟨_, _, F19, PySem.W.mg_of X G a19⟩, ⟨_, _, F20, PySem.W.mg_of X G a20⟩, ⟨_, _, F21, PySem.W.mg_of X G a21⟩, ⟨_, _, F22, PySem.W.mg_of X G a22⟩, ⟨_, _, F23, PySem.W.mg_of X G a23⟩, ⟨_, _, F24, PySem.W.mg_of X G a24⟩, ⟨_, _, F25, PySem.W.mg_of X G a25⟩, ⟨_, _, F26, PySem.W.mg_of X G a26⟩, ⟨_, _, F27, PySem.W.mg_of X G a27⟩, ⟨_, _, F28, PySem.W.mg_of X G a28⟩, ⟨_, _, F29, PySem.W.mg_of X G a29⟩, ⟨_, _, F30, PySem.W.mg_of X G a30⟩, ⟨_, _, F31, PySem.W.mg_of X G a31⟩, PySem.W.mg_none_of X G z0, PySem.W.mg_none_of X G z1, PySem.W.mg_none_of X G z2, PySem.W.mg_none_of X G z3, PySem.W.mg_none_of X G z4, PySem.W.mg_none_of X G z5, PySem.W.mg_none_of X G z6, PySem.W.mg_none_of X G z7, PySem.W.mg_none_of X G z8, PySem.W.mg_none_of X G z9, PySem.W.mg_none_of X G z10, exc_mk (PySem.W.mg_of X G ea0) eb0 ec0 ed0 ee0, ⟨_, PySem.W.mg_of X G n0, ⟨_, rfl⟩⟩, ⟨_, PySem.W.mg_of X G n1, ⟨_, rfl⟩⟩, ⟨_, PySem.W.mg_of X G n2, ⟨_, rfl⟩⟩⟩
  exact ⟨_, fun s v => .of_eq rfl, fun base _ _ => RunAt.law fun fu => ok_law V fu F31⟩
end LW
open PySem PySem.W PyProof.Rows
set_option maxHeartbeats 0 in
theorem PySem.Challenge.cw_standloss_k64_papers_as_texts_holds : PySem.Challenge.rw_standloss_k64_papers_as_texts.Holds := by
  w_on; o_law; k_head; (case hw => w_witness2)
  k_fill
  refine AM.walk_at (l := PySem.Challenge.rw_standloss_k64_papers_as_texts) (n := 63) (x := "_law_script") (CX := fun w => L2.CX PySem.Challenge.pw_standloss_k64_papers_as_texts w) (sp := fun w => AM.spL _ (fun fu => LW.m_law fu)) rfl (by decide) rfl (fun w h Y => PySem.W.kIn_of Y) ?F (fun _ _ a ns hl _ hS => AM.spL_mk hS (LW.law_ok ns hl)) (fun _ _ _ _ _ h => AM.noCX h)
  case F =>
    intro w mg fa h KX G hmg
    refine' LW.all_mk KX G hmg ?a0 ?l0 ?c0 ?k0 ?a1 ?l1 ?c1 ?k1 ?a2 ?l2 ?c2 ?k2 ?a3 ?l3 ?c3 ?k3 ?a4 ?l4 ?c4 ?k4 ?a5 ?l5 ?c5 ?k5 ?a6 ?l6 ?c6 ?k6 ?a7 ?l7 ?c7 ?k7 ?a8 ?l8 ?c8 ?k8 ?a9 ?l9 ?c9 ?k9 ?a10 ?l10 ?c10 ?k10 ?a11 ?l11 ?c11 ?k11 ?a12 ?l12 ?c12 ?k12 ?a13 ?l13 ?c13 ?k13 ?a14 ?l14 ?c14 ?k14 ?a15 ?l15 ?c15 ?k15 ?a16 ?l16 ?c16 ?k16 ?a17 ?l17 ?c17 ?k17 ?a18 ?l18 ?c18 ?k18 ?a19 ?l19 ?c19 ?k19 ?a20 ?l20 ?c20 ?k20 ?a21 ?l21 ?c21 ?k21 ?a22 ?l22 ?c22 ?k22 ?a23 ?l23 ?c23 ?k23 ?a24 ?l24 ?c24 ?k24 ?a25 ?l25 ?c25 ?k25 ?a26 ?l26 ?c26 ?k26 ?a27 ?l27 ?c27 ?k27 ?a28 ?l28 ?c28 ?k28 ?a29 ?l29 ?c29 ?k29 ?a30 ?l30 ?c30 ?k30 ?a31 ?l31 ?c31 ?k31 ?z0 ?z1 ?z2 ?z3 ?z4 ?z5 ?z6 ?z7 ?z8 ?z9 ?z10 ?ea0 ?eb0 ?ec0 ?ed0 ?ee0 ?n0 ?n1 ?n2
    (case a0 => k_is)
    (case l0 => k_is)
    (case c0 => k_is)
    (case k0 => k_is)
    (case a1 => k_is)
    (case l1 => k_is)
    (case c1 => k_is)
    (case k1 => k_is)
    (case a2 => k_is)
    (case l2 => k_is)
    (case c2 => k_is)
    (case k2 => k_is)
    (case a3 => k_is)
    (case l3 => k_is)
    (case c3 => k_is)
    (case k3 => k_is)
    (case a4 => k_is)
    (case l4 => k_is)
    (case c4 => k_is)
    (case k4 => k_is)
    (case a5 => k_is)
    (case l5 => k_is)
    (case c5 => k_is)
    (case k5 => k_is)
    (case a6 => k_is)
    (case l6 => k_is)
    (case c6 => k_is)
    (case k6 => k_is)
    (case a7 => k_is)
    (case l7 => k_is)
    (case c7 => k_is)
    (case k7 => k_is)
    (case a8 => k_is)
    (case l8 => k_is)
    (case c8 => k_is)
    (case k8 => k_is)
    (case a9 => k_is)
    (case l9 => k_is)
    (case c9 => k_is)
    (case k9 => k_is)
    (case a10 => k_is)
    (case l10 => k_is)
    (case c10 => k_is)
    (case k10 => k_is)
    (case a11 => k_is)
    (case l11 => k_is)
    (case c11 => k_is)
    (case k11 => k_is)
    (case a12 => k_is)
    (case l12 => k_is)
    (case c12 => k_is)
    (case k12 => k_is)
    (case a13 => k_is)
    (case l13 => k_is)
    (case c13 => k_is)
    (case k13 => k_is)
    (case a14 => k_is)
    (case l14 => k_is)
    (case c14 => k_is)
    (case k14 => k_is)
    (case a15 => k_is)
    (case l15 => k_is)
    (case c15 => k_is)
    (case k15 => k_is)
    (case a16 => k_is)
    (case l16 => k_is)
    (case c16 => k_is)
    (case k16 => k_is)
    (case a17 => k_is)
    (case l17 => k_is)
    (case c17 => k_is)
    (case k17 => k_is)
    (case a18 => k_is)
    (case l18 => k_is)
    (case c18 => k_is)
    (case k18 => k_is)
    (case a19 => k_is)
    (case l19 => k_is)
    (case c19 => k_is)
    (case k19 => k_is)
    (case a20 => k_is)
    (case l20 => k_is)
    (case c20 => k_is)
    (case k20 => k_is)
    (case a21 => k_is)
    (case l21 => k_is)
    (case c21 => k_is)
    (case k21 => k_is)
    (case a22 => k_is)
    (case l22 => k_is)
    (case c22 => k_is)
    (case k22 => k_is)
    (case a23 => k_is)
    (case l23 => k_is)
    (case c23 => k_is)
    (case k23 => k_is)
    (case a24 => k_is)
    (case l24 => k_is)
    (case c24 => k_is)
    (case k24 => k_is)
    (case a25 => k_is)
    (case l25 => k_is)
    (case c25 => k_is)
    (case k25 => k_is)
    (case a26 => k_is)
    (case l26 => k_is)
    (case c26 => k_is)
    (case k26 => k_is)
    (case a27 => k_is)
    (case l27 => k_is)
    (case c27 => k_is)
    (case k27 => k_is)
    (case a28 => k_is)
    (case l28 => k_is)
    (case c28 => k_is)
    (case k28 => k_is)
    (case a29 => k_is)
    (case l29 => k_is)
    (case c29 => k_is)
    (case k29 => k_is)
    (case a30 => k_is)
    (case l30 => k_is)
    (case c30 => k_is)
    (case k30 => k_is)
    (case a31 => k_is)
    (case l31 => k_is)
    (case c31 => k_is)
    (case k31 => k_is)
    (case z0 => k_is)
    (case z1 => k_is)
    (case z2 => k_is)
    (case z3 => k_is)
    (case z4 => k_is)
    (case z5 => k_is)
    (case z6 => k_is)
    (case z7 => k_is)
    (case z8 => k_is)
    (case z9 => k_is)
    (case z10 => k_is)
    (case ea0 => k_is)
    (case eb0 => k_exc)
    (case ec0 => k_is)
    (case ed0 => k_is)
    (case ee0 => k_is)
    (case n0 => k_is)
    (case n1 => k_is)
    (case n2 => k_is)
