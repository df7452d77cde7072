import PyProof.Rows.All
import Wide.All
import OpenK.AllK
import Wide.FinOn
import KE.KStateDown
import Lean
import HandS.ForExc
import HandS.More
import HandS.Comp
import HandS.Dict
import HandS.Iter
import HandS.Text
import HandS.Defaults
import HandS.TupAny
import HandS.IsInst
import HandS.SortInts
import HandS.Zip
import HandS.Rev
import HandS.Style
import HandS.HeadHook1
import HandS.HeadHook2
import HandS.HeadHook3
import KE.GoesEnum
import KE.GoesMore
import HandS.ExcInit
import PySem.Challenge.RW_truealarms_k25_whole_lines_judged_word_f
import HandS.Head0
import HandS.Head1
import HandS.Head2
import HandS.HeadEnd
import HandS.Conv
import PyProof.ReprRoads
import PyProof.Rows.StrJoinMade
import HandS.ExcOwn
import HandS.TryOnly
import OpenK.KMeth
import HandS.Ends
set_option Elab.async false
set_option linter.all false
set_option maxRecDepth 100000
set_option maxHeartbeats 4000000
namespace TA
open PySem PySem.Spec L2
open PyProof.Rows hiding St
/-! ## data -/
inductive D where
  | non
  | bl (b : Bool)
  | int (i : Int)
  | str (x : Str)
  | tup (ds : List D)
  | lst (ds : List D)
  | dic (ks : List Key) (ds : List D)
  | obj (c : Str) (fs : List Str) (ds : List D)
  | hdl (n : Nat)
  /-- the script: a list of numbers that nobody may touch -/
  | scr (ns : List Int)
/-- what a mutable thing holds -/
inductive Cell where
  | lst (ds : List D)
  | dic (ks : List Key) (ds : List D)
  | obj (c : Str) (fs : List Str) (ds : List D)
  | hand
/-- the mutable addresses by their numbers (m), what is neither data nor touched (y) -/
structure Rg where
  y : List Addr
  m : List Addr
def Rg.no (M : Rg) (a : Addr) : Prop := a ∉ M.m ∧ a ∉ M.y
mutual
/-- the value v stands for the data, apart from the mutable addresses -/
def Dp (K : PySem.W.Frag) (M : Rg) (H : Hp) : D → V → Prop
  | .non, v => v = .non
  | .bl b, v => v = .bl b
  | .int i, v => v = .int i
  | .str x, v => v = .str x
  | .tup ds, v => ∃ a vs, v = .ref a ∧ M.no a ∧ H a = some (.tup vs) ∧ DpL K M H ds vs
  | .lst ds, v => ∃ a vs, v = .ref a ∧ M.no a ∧ H a = some (.lst vs) ∧ DpL K M H ds vs
  | .dic ks ds, v => ∃ a vs, v = .ref a ∧ M.no a ∧ H a = some (.dK (ks.zip vs)) ∧ ks.length = ds.length ∧ DpL K M H ds vs
  | .obj c fs ds, v => ∃ a dx vs, v = .ref a ∧ M.no a ∧ H a = some (.ins (He.ga K c) dx (fs.zip vs)) ∧ fs.length = ds.length ∧ DpL K M H ds vs
  | .hdl n, v => ∃ a, v = .ref a ∧ M.m[n]? = some a
  | .scr ns, v => ∃ a o, v = .ref a ∧ M.no a ∧ H a = some (.frz o (.lst (ns.map V.int)))
def DpL (K : PySem.W.Frag) (M : Rg) (H : Hp) : List D → List V → Prop
  | [], vs => vs = []
  | d :: ds, vs => ∃ v r, vs = v :: r ∧ Dp K M H d v ∧ DpL K M H ds r
end
/-- what data leans on is kept -/
structure Later (M : Rg) (H : Hp) (M' : Rg) (H' : Hp) : Prop where
  at_ : ∀ a o, H a = some o → M.no a → M'.no a ∧ H' a = some o
  mt : ∀ (n : Nat) a, M.m[n]? = some a → M'.m[n]? = some a
/-- the heap and the mutable addresses have grown -/
structure Grow (M : Rg) (H : Hp) (M' : Rg) (H' : Hp) : Prop where
  yy : M'.y = M.y
  pre : ∃ r, M'.m = M.m ++ r ∧ ∀ p ∈ r, H p = none
  keep : ∀ a o, a ∉ M.m → H a = some o → H' a = some o
  dom : ∀ a, H' a = none → H a = none
section
variable {K : PySem.W.Frag} {M M1 M2 : Rg} {H H1 H2 : Hp} {p a : Addr} {o : HO}
theorem Later.refl : Later M H M H := ⟨fun _ _ h n => ⟨n, h⟩, fun _ _ h => h⟩
theorem Later.trans (g : Later M H M1 H1) (k : Later M1 H1 M2 H2) : Later M H M2 H2 := ⟨fun a o h n => let ⟨n1, h1⟩ := g.at_ a o h n; k.at_ a o h1 n1, fun n a h => k.mt n a (g.mt n a h)⟩
theorem Grow.later (g : Grow M H M1 H1) : Later M H M1 H1 := by
  obtain ⟨r, e1, f1⟩ := g.pre
  refine ⟨fun a o h n => ⟨⟨fun hm => ?_, by rw [g.yy]; exact n.2⟩, g.keep a o n.1 h⟩, fun n a h => ?_⟩
  · rw [e1] at hm
    rcases List.mem_append.mp hm with hm | hm
    · exact n.1 hm
    · rw [f1 a hm] at h
      cases h
  · rw [e1, List.getElem?_append_left (List.getElem?_eq_some_iff.mp h).1]
    exact h
theorem Grow.refl : Grow M H M H := ⟨rfl, ⟨[], by simp, by simp⟩, fun _ _ _ h => h, fun _ h => h⟩
theorem Grow.trans (g : Grow M H M1 H1) (k : Grow M1 H1 M2 H2) : Grow M H M2 H2 := by
  obtain ⟨r, e1, f1⟩ := g.pre
  obtain ⟨q, e2, f2⟩ := k.pre
  refine ⟨k.yy.trans g.yy, ⟨r ++ q, by rw [e2, e1, List.append_assoc], fun x hx => ?_⟩, fun a o na ha => ?_, fun a h => g.dom a (k.dom a h)⟩
  · rcases List.mem_append.mp hx with hx | hx
    · exact f1 x hx
    · exact g.dom x (f2 x hx)
  · refine k.keep a o ?_ (g.keep a o na ha)
    rw [e1]
    intro hm
    rcases List.mem_append.mp hm with hm | hm
    · exact na hm
    · rw [f1 a hm] at ha
      cases ha
theorem dom_upd (h : H p = none) : ∀ a, upd H p o a = none → H a = none := fun a e => by
  by_cases ha : a = p
  · rw [ha]; exact h
  · rw [upd_ne ha] at e; exact e
/-- something new that is data -/
theorem Grow.new (h : H p = none) : Grow M H M (upd H p o) := ⟨rfl, ⟨[], by simp, by simp⟩, fun a u _ e => by rw [upd_ne (ne_of_none e h)]; exact e, dom_upd h⟩
/-- a mutable thing changes -/
theorem Grow.wr (h : a ∈ M.m) (hh : H a ≠ none) : Grow M H M (upd H a o) := ⟨rfl, ⟨[], by simp, by simp⟩, fun b u nb e => by
  rw [upd_ne (show b ≠ a from fun z => nb (by rw [z]; exact h))]; exact e, fun b e => by
  by_cases hb : b = a
  · rw [hb, upd_same] at e; cases e
  · rw [upd_ne hb] at e; exact e⟩
theorem Grow.free (g : Grow M H M1 H1) (h : H1 a = none) : H a = none := g.dom a h
abbrev Rg.add (M : Rg) (p : Addr) : Rg := ⟨M.y, M.m ++ [p]⟩
/-- a new mutable thing -/
theorem Grow.hdl (h : H p = none) : Grow M H (M.add p) (upd H p o) := ⟨rfl, ⟨[p], rfl, fun x hx => by rw [List.mem_singleton.mp hx]; exact h⟩, fun a u _ e => by rw [upd_ne (ne_of_none e h)]; exact e, dom_upd h⟩
mutual
theorem Dp.later (g : Later M H M1 H1) : ∀ (d : D) (v : V), Dp K M H d v → Dp K M1 H1 d v
  | .non, _, h => by simpa only [Dp] using h
  | .bl _, _, h => by simpa only [Dp] using h
  | .int _, _, h => by simpa only [Dp] using h
  | .str _, _, h => by simpa only [Dp] using h
  | .tup ds, v, h => by
    simp only [Dp] at h ⊢
    obtain ⟨a, vs, e, na, ha, hl⟩ := h
    exact ⟨a, vs, e, (g.at_ a _ ha na).1, (g.at_ a _ ha na).2, DpL.later g ds vs hl⟩
  | .lst ds, v, h => by
    simp only [Dp] at h ⊢
    obtain ⟨a, vs, e, na, ha, hl⟩ := h
    exact ⟨a, vs, e, (g.at_ a _ ha na).1, (g.at_ a _ ha na).2, DpL.later g ds vs hl⟩
  | .dic ks ds, v, h => by
    simp only [Dp] at h ⊢
    obtain ⟨a, vs, e, na, ha, hk, hl⟩ := h
    exact ⟨a, vs, e, (g.at_ a _ ha na).1, (g.at_ a _ ha na).2, hk, DpL.later g ds vs hl⟩
  | .obj c fs ds, v, h => by
    simp only [Dp] at h ⊢
    obtain ⟨a, dx, vs, e, na, ha, hk, hl⟩ := h
    exact ⟨a, dx, vs, e, (g.at_ a _ ha na).1, (g.at_ a _ ha na).2, hk, DpL.later g ds vs hl⟩
  | .hdl n, v, h => by
    simp only [Dp] at h ⊢
    obtain ⟨a, e, ha⟩ := h
    exact ⟨a, e, g.mt n a ha⟩
  | .scr ns, v, h => by
    simp only [Dp] at h ⊢
    obtain ⟨a, o, e, na, ha⟩ := h
    exact ⟨a, o, e, (g.at_ a _ ha na).1, (g.at_ a _ ha na).2⟩
theorem DpL.later (g : Later M H M1 H1) : ∀ (ds : List D) (vs : List V), DpL K M H ds vs → DpL K M1 H1 ds vs
  | [], _, h => by simpa only [DpL] using h
  | d :: ds, vs, h => by
    simp only [DpL] at h ⊢
    obtain ⟨v, r, e, h1, h2⟩ := h
    exact ⟨v, r, e, Dp.later g d v h1, DpL.later g ds r h2⟩
end
theorem Dp.mono (g : Grow M H M1 H1) {d : D} {v : V} (h : Dp K M H d v) : Dp K M1 H1 d v := h.later g.later
theorem DpL.mono (g : Grow M H M1 H1) {d : List D} {v : List V} (h : DpL K M H d v) : DpL K M1 H1 d v := h.later g.later
theorem DpL.nil : DpL K M H [] [] := by simp only [DpL]
theorem DpL.cons {d : D} {v : V} {ds : List D} {vs : List V} (h : Dp K M H d v) (r : DpL K M H ds vs) : DpL K M H (d :: ds) (v :: vs) := by
  simp only [DpL]
  exact ⟨v, vs, rfl, h, r⟩
theorem DpL.uncons {d : D} {ds : List D} {vs : List V} (h : DpL K M H (d :: ds) vs) : ∃ v r, vs = v :: r ∧ Dp K M H d v ∧ DpL K M H ds r := by
  simpa only [DpL] using h
theorem DpL.len : ∀ {ds : List D} {vs : List V}, DpL K M H ds vs → ds.length = vs.length
  | [], vs, h => by
    have e : vs = [] := by simpa only [DpL] using h
    rw [e] <;> rfl
  | d :: ds, vs, h => by
    obtain ⟨v, r, e, _, h2⟩ := h.uncons
    rw [e, List.length_cons, List.length_cons, DpL.len h2]
theorem DpL.get : ∀ {ds : List D} {vs : List V} {i : Nat} {d : D}, DpL K M H ds vs → ds[i]? = some d → ∃ v, vs[i]? = some v ∧ Dp K M H d v
  | [], _, _, _, _, e => by simp at e
  | x :: ds, vs, 0, d, h, e => by
    obtain ⟨v, r, ev, h1, h2⟩ := h.uncons
    have : x = d := by simpa using e
    subst this
    exact ⟨v, by rw [ev]; rfl, h1⟩
  | x :: ds, vs, i + 1, d, h, e => by
    obtain ⟨v, r, ev, h1, h2⟩ := h.uncons
    obtain ⟨w, e1, e2⟩ := DpL.get (i := i) h2 (by simpa using e)
    exact ⟨w, by rw [ev]; simpa using e1, e2⟩
theorem DpL.append : ∀ {ds es : List D} {vs ws : List V}, DpL K M H ds vs → DpL K M H es ws → DpL K M H (ds ++ es) (vs ++ ws)
  | [], es, vs, ws, h, k => by
    have e : vs = [] := by simpa only [DpL] using h
    rw [e]
    exact k
  | d :: ds, es, vs, ws, h, k => by
    obtain ⟨v, r, ev, h1, h2⟩ := h.uncons
    rw [ev]
    exact DpL.cons h1 (DpL.append h2 k)
theorem DpL.take : ∀ {ds : List D} {vs : List V} (n : Nat), DpL K M H ds vs → DpL K M H (ds.take n) (vs.take n)
  | _, _, 0, _ => DpL.nil
  | [], vs, n + 1, h => by
    have e : vs = [] := by simpa only [DpL] using h
    rw [e]
    exact DpL.nil
  | d :: ds, vs, n + 1, h => by
    obtain ⟨v, r, ev, h1, h2⟩ := h.uncons
    rw [ev]
    exact DpL.cons h1 (DpL.take n h2)
theorem DpL.drop : ∀ {ds : List D} {vs : List V} (n : Nat), DpL K M H ds vs → DpL K M H (ds.drop n) (vs.drop n)
  | _, _, 0, h => h
  | [], vs, n + 1, h => by
    have e : vs = [] := by simpa only [DpL] using h
    rw [e]
    exact DpL.nil
  | d :: ds, vs, n + 1, h => by
    obtain ⟨v, r, ev, h1, h2⟩ := h.uncons
    rw [ev]
    exact DpL.drop n h2
theorem DpL.reverse : ∀ {ds : List D} {vs : List V}, DpL K M H ds vs → DpL K M H ds.reverse vs.reverse
  | [], vs, h => by
    have e : vs = [] := by simpa only [DpL] using h
    rw [e]
    exact DpL.nil
  | d :: ds, vs, h => by
    obtain ⟨v, r, ev, h1, h2⟩ := h.uncons
    rw [ev, List.reverse_cons, List.reverse_cons]
    exact DpL.append (DpL.reverse h2) (DpL.cons h1 DpL.nil)
theorem DpL.set : ∀ {ds : List D} {vs : List V} {d : D} {v : V} (i : Nat), DpL K M H ds vs → Dp K M H d v → DpL K M H (ds.set i d) (vs.set i v)
  | [], vs, _, _, _, h, _ => by
    have e : vs = [] := by simpa only [DpL] using h
    rw [e]
    exact DpL.nil
  | x :: ds, vs, d, v, 0, h, k => by
    obtain ⟨w, r, ev, h1, h2⟩ := h.uncons
    rw [ev]
    exact DpL.cons k h2
  | x :: ds, vs, d, v, i + 1, h, k => by
    obtain ⟨w, r, ev, h1, h2⟩ := h.uncons
    rw [ev]
    exact DpL.cons h1 (DpL.set i h2 k)
/-- what the hand's list holds -/
structure HandP (ds : List D) (ns : List Int) : Prop where
  ex : ∃ i r t : Int, ds = [.lst (ns.map D.int), .int i, .int r, .int t] ∧ 0 ≤ i ∧ 0 ≤ r ∧ 0 ≤ t ∧ t < 2147483549
  nn : ∀ n ∈ ns, 0 ≤ n
def CellOk (K : PySem.W.Frag) (M : Rg) (H : Hp) (a : Addr) : Cell → Prop
  | .lst ds => ∃ vs, H a = some (.lst vs) ∧ DpL K M H ds vs
  | .dic ks ds => ∃ vs, H a = some (.dK (ks.zip vs)) ∧ ks.length = ds.length ∧ DpL K M H ds vs
  | .obj c fs ds => ∃ dx vs, H a = some (.ins (He.ga K c) dx (fs.zip vs)) ∧ fs.length = ds.length ∧ DpL K M H ds vs
  | .hand => ∃ ds ns vs, HandP ds ns ∧ H a = some (.lst vs) ∧ DpL K M H ds vs
theorem CellOk.mono (g : Grow M H M1 H1) (e : H1 a = H a) : ∀ {c : Cell}, CellOk K M H a c → CellOk K M1 H1 a c
  | .lst ds, h => let ⟨vs, h1, h2⟩ := h; ⟨vs, e.trans h1, h2.mono g⟩
  | .dic ks ds, h => let ⟨vs, h1, h3, h2⟩ := h; ⟨vs, e.trans h1, h3, h2.mono g⟩
  | .obj c fs ds, h => let ⟨dx, vs, h1, h3, h2⟩ := h; ⟨dx, vs, e.trans h1, h3, h2.mono g⟩
  | .hand, h => let ⟨ds, ns, vs, h3, h1, h2⟩ := h; ⟨ds, ns, vs, h3, e.trans h1, h2.mono g⟩
theorem CellOk.there : ∀ {c : Cell}, CellOk K M H a c → H a ≠ none
  | .lst ds, ⟨vs, h1, h2⟩, z => by rw [h1] at z; cases z
  | .dic ks ds, ⟨vs, h1, h3, h2⟩, z => by rw [h1] at z; cases z
  | .obj c fs ds, ⟨dx, vs, h1, h3, h2⟩, z => by rw [h1] at z; cases z
  | .hand, ⟨ds, ns, vs, h3, h1, h2⟩, z => by rw [h1] at z; cases z
abbrev Stt := List Cell
structure Cells (K : PySem.W.Frag) (M : Rg) (H : Hp) (S : Stt) : Prop where
  len : M.m.length = S.length
  nd : M.m.Nodup
  yd : ∀ y ∈ M.y, H y ≠ none ∧ y ∉ M.m
  ok : ∀ (n : Nat) a c, M.m[n]? = some a → S[n]? = some c → CellOk K M H a c
theorem Cells.there {S : Stt} (C : Cells K M H S) (h : a ∈ M.m) : H a ≠ none := by
  obtain ⟨n, hn, e⟩ := List.mem_iff_getElem.mp h
  have h2 : n < S.length := by rw [← C.len]; exact hn
  exact (C.ok n a S[n] (by rw [List.getElem?_eq_getElem hn, e]) (List.getElem?_eq_getElem h2)).there
theorem Cells.fresh {S : Stt} (C : Cells K M H S) (h : H p = none) : M.no p := ⟨fun hm => C.there hm h, fun hm => (C.yd p hm).1 h⟩
/-- data is laid -/
theorem Cells.new {S : Stt} (C : Cells K M H S) (h : H p = none) : Cells K M (upd H p o) S := ⟨C.len, C.nd, fun y hy => ⟨fun e => (C.yd y hy).1 (dom_upd h y e), (C.yd y hy).2⟩, fun n a c h1 h2 =>
  (C.ok n a c h1 h2).mono (Grow.new h) (upd_ne (fun e => (C.fresh h).1 (e ▸ List.mem_of_getElem? h1)))⟩
theorem Cells.ext {S : Stt} (C : Cells K M H S) (g : Grow M H M H1) (s : ∀ a o, H a = some o → H1 a = some o) : Cells K M H1 S := ⟨C.len, C.nd, fun y hy => ⟨fun e => (C.yd y hy).1 (g.dom y e), (C.yd y hy).2⟩, fun n a c h1 h2 => by
  have hc := C.ok n a c h1 h2
  refine hc.mono g ?_
  cases e : H a with
  | none => exact absurd e hc.there
  | some o => exact s a o e⟩
/-- the n-th mutable thing changes -/
theorem Cells.wr {S : Stt} (C : Cells K M H S) {n : Nat} {c : Cell} (h1 : M.m[n]? = some a) (h2 : CellOk K M (upd H a o) a c) : Cells K M (upd H a o) (S.set n c) := by
  have ha : a ∈ M.m := List.mem_of_getElem? h1
  refine ⟨by rw [List.length_set]; exact C.len, C.nd, fun y hy => ⟨fun e => (C.yd y hy).1 ((Grow.wr ha (C.there ha)).dom y e), (C.yd y hy).2⟩, fun m b u k1 k2 => ?_⟩
  by_cases e : m = n
  · subst e
    have hm : m < S.length := by rw [← C.len]; exact (List.getElem?_eq_some_iff.mp h1).1
    rw [List.getElem?_set_self hm] at k2
    rw [h1] at k1
    cases k1
    cases k2
    exact h2
  · rw [List.getElem?_set_ne (Ne.symm e)] at k2
    have hb : b ≠ a := fun z => by
      subst z
      obtain ⟨l1, e1⟩ := List.getElem?_eq_some_iff.mp h1
      obtain ⟨l2, e2⟩ := List.getElem?_eq_some_iff.mp k1
      exact e ((List.getElem_inj C.nd).mp (e2.trans e1.symm))
    exact (C.ok m b u k1 k2).mono (Grow.wr ha (C.there ha)) (upd_ne hb)
/-- a new mutable thing -/
theorem Cells.hdl {S : Stt} (C : Cells K M H S) {c : Cell} (h : H p = none) (hc : CellOk K (M.add p) (upd H p o) p c) : Cells K (M.add p) (upd H p o) (S ++ [c]) := by
  have np := (C.fresh h).1
  refine ⟨by rw [List.length_append, List.length_append, C.len]; rfl, ?_, fun y hy => ⟨fun e => (C.yd y hy).1 (dom_upd h y e), fun hm => ?_⟩, fun n a u k1 k2 => ?_⟩
  · rw [List.nodup_append]
    refine ⟨C.nd, by simp, fun x hx y hy => ?_⟩
    rw [List.mem_singleton.mp hy]
    exact fun z => np (z ▸ hx)
  · rcases List.mem_append.mp hm with hm | hm
    · exact (C.yd y hy).2 hm
    · rw [List.mem_singleton.mp hm] at hy
      exact (C.yd p hy).1 h
  · by_cases hn : n < M.m.length
    · have k1 : (M.m ++ [p])[n]? = some a := k1
      rw [List.getElem?_append_left hn] at k1
      rw [List.getElem?_append_left (by rw [← C.len]; exact hn)] at k2
      exact (C.ok n a u k1 k2).mono (Grow.hdl h) (upd_ne (fun e => np (e ▸ List.mem_of_getElem? k1)))
    · have k1 : (M.m ++ [p])[n]? = some a := k1
      have hn2 : n = M.m.length := by
        have := (List.getElem?_eq_some_iff.mp k1).1
        rw [List.length_append, List.length_singleton] at this
        omega
      subst hn2
      rw [List.getElem?_append_right (Nat.le_refl _), Nat.sub_self] at k1
      rw [List.getElem?_append_right (by rw [C.len]; exact Nat.le_refl _), C.len, Nat.sub_self] at k2
      cases k1
      cases k2
      exact hc
theorem Cells.nil : Cells K ⟨[], []⟩ H [] := ⟨rfl, List.nodup_nil, fun y hy => absurd hy List.not_mem_nil, fun n a c h _ => (by simp at h)⟩
/-! ### what is neither data nor touched -/
abbrev Rg.pro (M : Rg) (p : Addr) : Rg := ⟨p :: M.y, M.m⟩
theorem Later.pro (h : H p = none) : Later M H (M.pro p) H := ⟨fun a o ha n => ⟨⟨n.1, fun hm => by
  rcases List.mem_cons.mp hm with e | hm
  · rw [e, h] at ha; cases ha
  · exact n.2 hm⟩, ha⟩, fun _ _ h => h⟩
theorem Later.unpro : Later (M.pro p) H M H := ⟨fun a o ha n => ⟨⟨n.1, fun hm => n.2 (List.mem_cons_of_mem _ hm)⟩, ha⟩, fun _ _ h => h⟩
/-- a protected thing changes -/
theorem Later.app (h : p ∈ M.y) : Later M H M (upd H p o) := ⟨fun a u ha n => ⟨n, by rw [upd_ne (show a ≠ p from fun e => n.2 (e ▸ h))]; exact ha⟩, fun _ _ h => h⟩
theorem CellOk.later (g : Later M H M1 H1) (e : H1 a = H a) : ∀ {c : Cell}, CellOk K M H a c → CellOk K M1 H1 a c
  | .lst ds, h => let ⟨vs, h1, h2⟩ := h; ⟨vs, e.trans h1, h2.later g⟩
  | .dic ks ds, h => let ⟨vs, h1, h3, h2⟩ := h; ⟨vs, e.trans h1, h3, h2.later g⟩
  | .obj c fs ds, h => let ⟨dx, vs, h1, h3, h2⟩ := h; ⟨dx, vs, e.trans h1, h3, h2.later g⟩
  | .hand, h => let ⟨ds, ns, vs, h3, h1, h2⟩ := h; ⟨ds, ns, vs, h3, e.trans h1, h2.later g⟩
theorem Cells.pro {S : Stt} (C : Cells K M H S) (h : H p = none) : Cells K (M.pro p) (upd H p o) S := by
  refine ⟨C.len, C.nd, fun y hy => ?_, fun n a c h1 h2 => ?_⟩
  · rcases List.mem_cons.mp hy with e | hy
    · rw [e]
      exact ⟨by rw [upd_same]; simp, (C.fresh h).1⟩
    · exact ⟨fun e => (C.yd y hy).1 (dom_upd h y e), (C.yd y hy).2⟩
  · exact (C.ok n a c h1 h2).later ((Later.pro h).trans (Later.app (List.mem_cons_self ..))) (upd_ne (fun e => (C.fresh h).1 (e ▸ List.mem_of_getElem? h1)))
theorem Cells.unpro {S : Stt} (C : Cells K (M.pro p) H S) : Cells K M H S := ⟨C.len, C.nd, fun y hy => C.yd y (List.mem_cons_of_mem _ hy), fun n a c h1 h2 => (C.ok n a c h1 h2).later Later.unpro rfl⟩
theorem Cells.app {S : Stt} (C : Cells K M H S) (h : p ∈ M.y) : Cells K M (upd H p o) S := ⟨C.len, C.nd, fun y hy => ⟨fun e => by
  by_cases z : y = p
  · rw [z, upd_same] at e; cases e
  · rw [upd_ne z] at e; exact (C.yd y hy).1 e, (C.yd y hy).2⟩, fun n a c h1 h2 => (C.ok n a c h1 h2).later (Later.app h) (upd_ne (fun e => (C.yd p h).2 (e ▸ List.mem_of_getElem? h1)))⟩
end
end TA
set_option Elab.async false
set_option linter.all false
set_option maxRecDepth 100000
set_option maxHeartbeats 4000000
namespace TAE
open PySem PySem.Spec L2 PyProof.Rows
theorem newB1 {v : Value} {o : Obj} {F0 : Heap → Prop} (B : Begins v o F0) :
    Meets (Builtin.«enumerate.__new__» ⟨[.type "enumerate", v], []⟩) (fun _ R s => F0 s.heap ∧
      R (.ok (.ret (.ref (s.heap.push o).objs.size))) { s with heap := (s.heap.push o).push { cls := .type "enumerate", data := .fields #[.none, .bool false, .ref s.heap.objs.size, rawInt 0, .none, .none] } }) :=
  .of_wp fun pr wd Ar R sh hh => by
    obtain ⟨hp, gg, dd, tk, os⟩ := sh
    obtain ⟨h1, h2⟩ := hh
    have sub1 := sub_enumerate
    have iter1 : ∀ {A' : Around} {E : Value → Shared → Prop} {Q : Value → Shared → Prop}, Q (.ref hp.objs.size) ⟨hp.push o, gg, dd, tk, os⟩ → wpAny (model pr wd) A' (pyIter v) Q E ⟨hp, gg, dd, tk, os⟩ := fun q => B.iter pr wd _ _ _ _ h1 q
    wp_walk using iter1
    refine wpAny_stack_any fun stk => wpAny_pure ?_
    split
    · rename_i cc _ _ _ _ _
      cases (cc == Value.type "enumerate") <;> (wp_walk using iter1; exact ⟨_, rfl, h2⟩)
    · wp_walk using iter1
      exact ⟨_, rfl, h2⟩
/-- enumerate(a tuple) -/
theorem call_enumT {prog : Program} {w : World} {A : Around} {E : Value → Shared → Prop} {s : Shared} {a : Addr} {items : Array Value} {Q : Value → Shared → Prop} (ht : s.heap.IsTuple a items)
    (k : ∀ h2, IsEnum h2 (s.heap.objs.size + 1) s.heap.objs.size 0 .none → h2.IsTupleIter s.heap.objs.size a 0 → (∀ b o, s.heap.get? b = some o → h2.get? b = some o) → Q (.ref (s.heap.objs.size + 1)) { s with heap := h2 }) :
    wpAny (model prog w) A (call (.type "enumerate") [.ref a]) Q E s := by
  have B := begins_tuple a items
  refine callType_new F.called_enumerate (by decide) (F.typeCall_enumerate_1 _) (F.newCall_enumerate_1 _) (fun obj => F.args_object_init_2 obj _) F.entry_enumerate_new (newB1 B) ⟨ht, ?_⟩
  have hz := Heap.size_push s.heap { cls := .type "tuple_iterator", data := .fields #[.ref a, .int 0 0] }
  show _ ∧ _
  rw [hz]
  have en := Heap.get?_push_size (s.heap.push { cls := .type "tuple_iterator", data := .fields #[.ref a, .int 0 0] }) (o := { cls := .type "enumerate", data := .fields #[.none, .bool false, .ref s.heap.objs.size, rawInt 0, .none, .none] }) rfl
  rw [hz] at en
  exact ⟨⟨_, en, rfl⟩, k _ en ⟨_, Heap.get?_push_of_some _ (Heap.get?_push_size _ rfl), rfl, rfl⟩ fun b u x => Heap.get?_push_of_some _ (Heap.get?_push_of_some _ x)⟩
/-- the tuple at a, each item in a new pair with its number -/
def IteT (K : PySem.W.Frag) (a : Addr) : It where
  go := fun i H => ∃ (xs : List V) (x : V), SqT K H a xs ∧ xs[i]? = some x
  yld := fun i H v H2 => ∃ T x, v = .ref T ∧ H T = none ∧ H2 = upd H T (.tup [.int (i : Nat), x]) ∧ ∀ xs, SqT K H a xs → xs[i]? = some x
  stop := fun i H => ∃ xs : List V, SqT K H a xs ∧ xs.length ≤ i
theorem turn_enumT {P : Program} {w : World} {K : PySem.W.Frag} {es : List Expr} {k0 : Nat} {tp : Pos} (a e it : Addr) :
    Turn P w K (.Tuple es k0 tp) (IteT K a) [e, it] e (fun i h => (∃ old, IsEnum h e it ((i : Nat) : Int) old) ∧ h.IsTupleIter it a i ∧ e ≠ it) where
  mem := List.mem_cons_self ..
  obj := fun i h hs b hb => by
    obtain ⟨⟨old, he⟩, ⟨o, ho, _, hd⟩, _⟩ := hs
    rcases List.mem_cons.mp hb with z | z
    · rw [z]
      exact ⟨_, he, fun v q => nomatch q⟩
    · exact ⟨o, by rw [List.mem_singleton.mp z]; exact ho, fun v q => by rw [hd] at q; cases q⟩
  keep := fun i h h2 hs k => ⟨⟨hs.1.choose, k e (List.mem_cons_self ..) _ hs.1.choose_spec⟩, hs.2.1.at fun o q => k it (by simp) o q, hs.2.2⟩
  item := by
    intro X eP eW eK hc i pins s σ H E I hf hs hg
    subst eP eW eK
    obtain ⟨⟨old, he⟩, hit, hne⟩ := hs
    obtain ⟨xs, x, hq, hx⟩ := hg
    obtain ⟨its, rv, pt, hz⟩ := I.tuple hq
    obtain ⟨u, hu, ru⟩ := rv.get hx
    have le : e < s.heap.objs.size := Heap.lt_size he
    have li : it < s.heap.objs.size := let ⟨_, q, _⟩ := hit; Heap.lt_size q
    have pt2 : s.heap.IsTuple a its.toArray := pt
    have nai : a ≠ it := fun z => by
      obtain ⟨o1, q1, c1, _⟩ := pt2
      obtain ⟨o2, q2, c2, _⟩ := hit
      rw [z, q2] at q1
      cases q1
      rw [c2] at c1
      exact absurd c1 (by decide)
    have nea : e ≠ a := fun z => by
      obtain ⟨o1, q1, c1, _⟩ := pt2
      rw [← z] at q1
      have he2 : s.heap.get? e = some _ := he
      rw [he2] at q1
      cases q1
      exact absurd (show Value.type "enumerate" = Value.type "tuple" from c1) (by decide)
    have hlt : i < its.toArray.size := by
      have := (List.getElem?_eq_some_iff.mp hu).1
      simpa using this
    refine wpAny_pyNext_enum_itemD (Draws.tuple (A := X.A.in1) (I.ok.hd hc) it a nai its.toArray) he ⟨hit, pt2⟩ hlt hne (by simp [hne, nea]) fun y h2 tk hy ho hst2 hT hsz hk => ?_
    have ey : y = u := by
      have hy2 : its.toArray[i]? = some y := hy
      have : its[i]? = some y := by simpa using hy2
      rw [hu] at this
      exact (Option.some.inj this).symm
    subst ey
    refine ⟨_, rfl, wpAny_letOwnedTupleGo_enum (s := { s with heap := h2, toks := tk + 1 }) ho fun h3 he3 sb => ?_⟩
    have hT3 : h3.get? s.heap.objs.size = some { cls := .type "tuple", data := .seq #[.int i tk, y] } := (sb.2 _ (Nat.ne_of_gt le)).trans hT
    have new : ObjOk X.prog X.w (upd H s.heap.objs.size (.tup [.int (i : Nat), x])) h3 s.heap.objs.size (.tup [.int (i : Nat), x]) :=
      ⟨show 2 ≤ sizeLine by decide, [.int i tk, y], .cons ⟨_, rfl⟩ (.cons ru .nil), ⟨_, hT3, rfl, _, rfl⟩⟩
    have I3 : Inv X pins σ (upd H s.heap.objs.size (.tup [.int (i : Nat), x])) { s with heap := h3, toks := tk + 1 } :=
      I.turnedNew (ch := [e, it]) (fun b ob hb q => (sb.2 b (fun z => hb (by simp [z]))).trans (hk b ob (fun z => hb (by simp [z])) (fun z => hb (by simp [z])) q)) hf (Nat.le_refl _) new
    refine ⟨.ref s.heap.objs.size, _, I3, rfl, ⟨_, x, rfl, I.hok.fresh (Nat.le_refl _), rfl, fun ys hy => by rw [I.tuple_inj hy hq]; exact hx⟩, ⟨⟨y, ?_⟩, hst2.1.at fun o q => (sb.2 it (Ne.symm hne)).trans q, hne⟩, fun b hb => ?_⟩
    · have e1 : ((i + 1 : Nat) : Int) = (i : Int) + 1 := by omega
      rw [e1]
      exact he3
    · have lb : b < s.heap.objs.size := by
        rcases List.mem_cons.mp hb with z | z
        · rw [z]; exact le
        · rw [List.mem_singleton.mp z]; exact li
      rw [upd_ne (Nat.ne_of_lt lb)]
      exact (hf b hb).1
  done := by
    intro X eP eW eK hc i pins s σ H E I hf hs hg
    subst eP eW eK
    obtain ⟨⟨old, he⟩, hit, hne⟩ := hs
    obtain ⟨xs, hq, hx⟩ := hg
    obtain ⟨its, rv, pt, hz⟩ := I.tuple hq
    have pt2 : s.heap.IsTuple a its.toArray := pt
    obtain ⟨f0, f1, f2, f3, f4, f5⟩ := hf it (by simp)
    have hl := rv.length
    have nai : a ≠ it := fun z => by
      obtain ⟨o1, q1, c1, _⟩ := pt2
      obtain ⟨o2, q2, c2, _⟩ := hit
      rw [z, q2] at q1
      cases q1
      rw [c2] at c1
      exact absurd c1 (by decide)
    have hT : s.TypeIs (.ref e) "enumerate" := ⟨_, he, rfl⟩
    unfold pyNext
    refine wpAny_bind (wpAny_attempt (wpAny_callSpecial?_slot (name := Str.ofString "__next__") hT F.slot_enumerate_next (wpAny_call_entry F.slot_enumerate_next hT F.entry_enumerate_next ?_ (F.args_enumerate_next_1 _))))
    show wpAny _ _ (field (.ref e) 2 >>= _) _ _ _
    refine wpAny_bind (wpAny_field he rfl (x := .ref it) rfl (wpAny_bind (wpAny_nextOf_tuple_end (I.ok.hd hc) hit pt2 (by simp; omega) fun h2 x2 hx2 sx => ?_)))
    obtain ⟨o, ho, hc2⟩ := sx
    exact wpAny_bind (wpAny_isInstance (T := "StopIteration") (b := true) ⟨o, ho, hc2⟩ isSubtype_stop (wpAny_pure ⟨rfl, I.turned (t' := s.toks) (fun b o hb q => hx2 b o hb q) f0 f1 f3 f4 f5⟩))
  self := fun A i s Q E hs h => wpAny_pyIter_enum hs.1.choose_spec h
end TAE
set_option Elab.async false
set_option linter.all false
set_option maxRecDepth 100000
set_option maxHeartbeats 4000000
namespace L2
open PySem PySem.Spec
/-! ### weakening a PE -/
theorem PE.up {X : Cx} {e : Expr} {t t' : TE} (h : PE X e t) (w : ∀ σ H Q, t' σ H Q → t σ H Q) : PE X e t' := ⟨fun pins s σ H Q I q => h.run pins s σ H Q I (w σ H Q q)⟩
theorem PT.up {X : Cx} {e : Expr} {t t' : TT} (h : PT X e t) (w : ∀ σ H Q, t' σ H Q → t σ H Q) : PT X e t' := ⟨fun pins s σ H Q I q => h.run pins s σ H Q I (w σ H Q q)⟩
theorem PW.up {X : Cx} {e : Expr} {t t' : TT} (h : PW X e t) (w : ∀ σ H Q, t' σ H Q → t σ H Q) : PW X e t' := ⟨fun wh pins s σ H Q I q => h.run wh pins s σ H Q I (w σ H Q q)⟩
theorem PA.up {X : Cx} {e : List Expr} {t t' : TA} (h : PA X e t) (w : ∀ σ H Q, t' σ H Q → t σ H Q) : PA X e t' := ⟨fun pos pins s σ H Q I q => h.run pos pins s σ H Q I (w σ H Q q)⟩
theorem PS.up {X : Cx} {e : Stmt} {t t' : TS} (h : PS X e t) (w : ∀ D σ H, t' D σ H → t D σ H) : PS X e t' := ⟨fun pins s σ H D I q => h.run pins s σ H D I (w D σ H q)⟩
theorem PSs.up {X : Cx} {e : List Stmt} {t t' : TS} (h : PSs X e t) (w : ∀ D σ H, t' D σ H → t D σ H) : PSs X e t' := ⟨fun pins s σ H D I q => h.run pins s σ H D I (w D σ H q)⟩
theorem PI.up {X : Cx} {tg e : Expr} {t t' : TI} (h : PI X tg e t) (w : ∀ σ H R, t' σ H R → t σ H R) : PI X tg e t' := ⟨fun pins s σ H D I q => h.run pins s σ H D I (w σ H D q)⟩
end L2
namespace TA
open PySem PySem.Spec L2
open PyProof.Rows hiding St
/-! ## names by slot -/
abbrev Rho := List (Option D)
def gt : Rho → Nat → Option D
  | [], _ => none
  | x :: _, 0 => x
  | _ :: r, n + 1 => gt r n
def st : Rho → Nat → D → Rho
  | [], _, _ => []
  | _ :: r, 0, d => some d :: r
  | x :: r, n + 1, d => x :: st r n d
def un : Rho → Nat → Rho
  | [], _ => []
  | _ :: r, 0 => none :: r
  | x :: r, n + 1 => x :: un r n
def wipeD (ρ : Rho) : List Nat → Rho
  | [] => ρ
  | v :: vs => un (wipeD ρ vs) v
def SlotR (K : PySem.W.Frag) (M : Rg) (H : Hp) : Option D → Option V → Prop
  | some d, sv => ∃ v, sv = some v ∧ Dp K M H d v
  | none, _ => True
def Slots (K : PySem.W.Frag) (M : Rg) (H : Hp) : Rho → St → Prop
  | [], σ => σ = []
  | o :: ρ, σ => ∃ v r, σ = v :: r ∧ SlotR K M H o v ∧ Slots K M H ρ r
section
variable {K : PySem.W.Frag} {M M1 : Rg} {H H1 : Hp}
theorem SlotR.mono (g : Grow M H M1 H1) : ∀ {o : Option D} {v : Option V}, SlotR K M H o v → SlotR K M1 H1 o v
  | some d, _, ⟨v, e, h⟩ => ⟨v, e, h.mono g⟩
  | none, _, _ => trivial
theorem Slots.mono (g : Grow M H M1 H1) : ∀ {ρ : Rho} {σ : St}, Slots K M H ρ σ → Slots K M1 H1 ρ σ
  | [], _, h => h
  | _ :: _, _, ⟨v, r, e, h1, h2⟩ => ⟨v, r, e, h1.mono g, Slots.mono g h2⟩
theorem SlotR.later (g : Later M H M1 H1) : ∀ {o : Option D} {v : Option V}, SlotR K M H o v → SlotR K M1 H1 o v
  | some d, _, ⟨v, e, h⟩ => ⟨v, e, h.later g⟩
  | none, _, _ => trivial
theorem Slots.later (g : Later M H M1 H1) : ∀ {ρ : Rho} {σ : L2.St}, Slots K M H ρ σ → Slots K M1 H1 ρ σ
  | [], _, h => h
  | _ :: _, _, ⟨v, r, e, h1, h2⟩ => ⟨v, r, e, h1.later g, Slots.later g h2⟩
theorem Slots.get : ∀ {ρ : Rho} {σ : St} {i : Nat} {d : D}, Slots K M H ρ σ → gt ρ i = some d → ∃ v, σ[i]? = some (some v) ∧ Dp K M H d v
  | [], _, _, _, _, e => by simp [gt] at e
  | o :: ρ, _, 0, d, ⟨v, r, ev, h1, _⟩, e => by
    have e2 : o = some d := e
    subst e2
    obtain ⟨w, ew, hw⟩ := h1
    exact ⟨w, by rw [ev, ew]; rfl, hw⟩
  | o :: ρ, _, i + 1, d, ⟨v, r, ev, _, h2⟩, e => by
    obtain ⟨w, e1, hw⟩ := Slots.get (i := i) h2 e
    exact ⟨w, by rw [ev]; simpa using e1, hw⟩
theorem Slots.set {d : D} {w : V} (hd : Dp K M H d w) : ∀ {ρ : Rho} {σ : St} (i : Nat), Slots K M H ρ σ → Slots K M H (st ρ i d) (σ.set i (some w))
  | [], _, _, h => by
    cases h
    rfl
  | o :: ρ, _, 0, ⟨v, r, ev, _, h2⟩ => by
    rw [ev]
    exact ⟨some w, r, rfl, ⟨w, rfl, hd⟩, h2⟩
  | o :: ρ, _, i + 1, ⟨v, r, ev, h1, h2⟩ => by
    rw [ev]
    exact ⟨v, r.set i (some w), rfl, h1, Slots.set hd i h2⟩
theorem Slots.un : ∀ {ρ : Rho} {σ : St} (i : Nat), Slots K M H ρ σ → Slots K M H (un ρ i) (σ.set i none)
  | [], _, _, h => by
    cases h
    rfl
  | o :: ρ, _, 0, ⟨v, r, ev, _, h2⟩ => by
    rw [ev]
    exact ⟨none, r, rfl, trivial, h2⟩
  | o :: ρ, _, i + 1, ⟨v, r, ev, h1, h2⟩ => by
    rw [ev]
    exact ⟨v, r.set i none, rfl, h1, Slots.un i h2⟩
theorem Slots.wipe {ρ : Rho} {σ : St} (h : Slots K M H ρ σ) : ∀ vs : List Nat, Slots K M H (wipeD ρ vs) (L2.wipe σ vs)
  | [] => h
  | v :: vs => by
    unfold wipeD L2.wipe
    exact Slots.un v (Slots.wipe h vs)
end
/-! ## readings over data -/
abbrev QE := D → Stt → Prop
abbrev DTE := Rho → Stt → QE → Prop
abbrev DTT := Rho → Stt → (Bool → Stt → Prop) → Prop
abbrev DTA := Rho → Stt → (List D → Stt → Prop) → Prop
abbrev DR2 := D → D → Stt → QE → Prop
structure DEnds where
  nx : Rho → Stt → Prop
  rt : QE
  bk : Rho → Stt → Prop := fun _ _ => False
  ct : Rho → Stt → Prop := fun _ _ => False
abbrev DTS := DEnds → Rho → Stt → Prop
abbrev DTI := Rho → Stt → (List D → Stt → Prop) → Prop
abbrev DTG := D → Rho → Stt → (Rho → Stt → Prop) → Prop
def LinkE (K : PySem.W.Frag) (M : Rg) (H : Hp) (Q : VK) (QD : QE) : Prop :=
  ∀ M' v H' d S', Grow M H M' H' → Cells K M' H' S' → Dp K M' H' d v → QD d S' → Q v H'
def LinkT (K : PySem.W.Frag) (M : Rg) (H : Hp) (Q : Bool → Hp → Prop) (QD : Bool → Stt → Prop) : Prop :=
  ∀ M' b H' S', Grow M H M' H' → Cells K M' H' S' → QD b S' → Q b H'
def LinkA (K : PySem.W.Frag) (M : Rg) (H : Hp) (Q : List V → Hp → Prop) (QD : List D → Stt → Prop) : Prop :=
  ∀ M' vs H' ds S', Grow M H M' H' → Cells K M' H' S' → DpL K M' H' ds vs → QD ds S' → Q vs H'
def LinkN (K : PySem.W.Frag) (M : Rg) (H : Hp) (n : St → Hp → Prop) (nd : Rho → Stt → Prop) : Prop :=
  ∀ M' σ' H' ρ' S', Grow M H M' H' → Slots K M' H' ρ' σ' → Cells K M' H' S' → nd ρ' S' → n σ' H'
structure LinkS (K : PySem.W.Frag) (M : Rg) (H : Hp) (D : Ends) (DD : DEnds) : Prop where
  nx : LinkN K M H D.nx DD.nx
  rt : LinkE K M H D.rt DD.rt
  bk : LinkN K M H D.bk DD.bk
  ct : LinkN K M H D.ct DD.ct
section
variable {K : PySem.W.Frag} {M M1 : Rg} {H H1 : Hp} (g : Grow M H M1 H1)
include g
theorem LinkE.mono {Q : VK} {QD : QE} (l : LinkE K M H Q QD) : LinkE K M1 H1 Q QD := fun M' v H' d S' k => l M' v H' d S' (g.trans k)
theorem LinkN.mono {n : St → Hp → Prop} {nd : Rho → Stt → Prop} (l : LinkN K M H n nd) : LinkN K M1 H1 n nd := fun M' v H' d S' k => l M' v H' d S' (g.trans k)
theorem LinkT.mono {n : Bool → Hp → Prop} {nd : Bool → Stt → Prop} (l : LinkT K M H n nd) : LinkT K M1 H1 n nd := fun M' v H' d k => l M' v H' d (g.trans k)
theorem LinkA.mono {n : List V → Hp → Prop} {nd : List D → Stt → Prop} (l : LinkA K M H n nd) : LinkA K M1 H1 n nd := fun M' v H' d S' k => l M' v H' d S' (g.trans k)
theorem LinkS.mono {D : Ends} {DD : DEnds} (l : LinkS K M H D DD) : LinkS K M1 H1 D DD := ⟨l.nx.mono g, l.rt.mono g, l.bk.mono g, l.ct.mono g⟩
end
def upE (K : PySem.W.Frag) (de : DTE) : TE := fun σ H Q => ∃ M ρ S QD, Slots K M H ρ σ ∧ Cells K M H S ∧ LinkE K M H Q QD ∧ de ρ S QD
def upT (K : PySem.W.Frag) (dt : DTT) : TT := fun σ H Q => ∃ M ρ S QD, Slots K M H ρ σ ∧ Cells K M H S ∧ LinkT K M H Q QD ∧ dt ρ S QD
def upA (K : PySem.W.Frag) (da : DTA) : TA := fun σ H Q => ∃ M ρ S QD, Slots K M H ρ σ ∧ Cells K M H S ∧ LinkA K M H Q QD ∧ da ρ S QD
def upS (K : PySem.W.Frag) (ds : DTS) : TS := fun D σ H => ∃ M ρ S DD, Slots K M H ρ σ ∧ Cells K M H S ∧ LinkS K M H D DD ∧ ds DD ρ S
def upG (K : PySem.W.Frag) (dg : DTG) : TG := fun v σ H Q => ∃ M ρ S d QD, Slots K M H ρ σ ∧ Cells K M H S ∧ Dp K M H d v ∧ LinkN K M H Q QD ∧ dg d ρ S QD
/-- the heap has grown by new things alone -/
structure Fresh (H H' : Hp) : Prop where
  keep : ∀ a o, H a = some o → H' a = some o
  dom : ∀ a, H' a = none → H a = none
theorem Fresh.grow {M : Rg} {H H' : Hp} (f : Fresh H H') : Grow M H M H' := ⟨rfl, ⟨[], by simp, by simp⟩, fun a o _ h => f.keep a o h, f.dom⟩
theorem Fresh.refl {H : Hp} : Fresh H H := ⟨fun _ _ h => h, fun _ h => h⟩
theorem Fresh.new {H : Hp} {p : Addr} {o : HO} (h : H p = none) : Fresh H (upd H p o) := ⟨fun a u e => by rw [upd_ne (ne_of_none e h)]; exact e, dom_upd h⟩
theorem Fresh.trans {H H1 H2 : Hp} (f : Fresh H H1) (k : Fresh H1 H2) : Fresh H H2 := ⟨fun a o h => k.keep a o (f.keep a o h), fun a h => f.dom a (k.dom a h)⟩
/-- what is walked yields these, one at a turn -/
def ItD (K : PySem.W.Frag) (M : Rg) (H : Hp) (J : It) (items : List D) : Prop := ∀ M' H', Later M H M' H' → ∀ i : Nat,
  (items.length ≤ i → J.stop i H') ∧ ∀ d, items[i]? = some d → J.go i H' ∧ ∀ x H2, J.yld i H' x H2 → Fresh H' H2 ∧ (∀ S, Cells K M' H' S → Dp K M' H2 d x)
def upI (K : PySem.W.Frag) (di : DTI) : TI := fun σ H R => ∃ M ρ S RD, Slots K M H ρ σ ∧ Cells K M H S ∧
  (∀ M' H' J items S', Grow M H M' H' → Cells K M' H' S' → ItD K M' H' J items → RD items S' → R J H') ∧ di ρ S RD
abbrev DE (X : Cx) (e : Expr) (de : DTE) : Prop := PE X e (upE X.K de)
abbrev DT (X : Cx) (e : Expr) (dt : DTT) : Prop := PT X e (upT X.K dt)
abbrev DW (X : Cx) (e : Expr) (dt : DTT) : Prop := PW X e (upT X.K dt)
abbrev DA (X : Cx) (es : List Expr) (da : DTA) : Prop := PA X es (upA X.K da)
abbrev DS (X : Cx) (s : Stmt) (ds : DTS) : Prop := PS X s (upS X.K ds)
abbrev DSs (X : Cx) (s : List Stmt) (ds : DTS) : Prop := PSs X s (upS X.K ds)
abbrev DG (X : Cx) (tg : Expr) (dg : DTG) : Prop := PG X tg (upG X.K dg)
abbrev DI (X : Cx) (tg iter : Expr) (di : DTI) : Prop := PI X tg iter (upI X.K di)
/-- an operation on values and its reading over data -/
def OpD (K : PySem.W.Frag) (r : R2) (rd : DR2) : Prop := ∀ M H S x y dx dy Q QD, Cells K M H S → Dp K M H dx x → Dp K M H dy y → LinkE K M H Q QD → rd dx dy S QD → r x y H Q
def UnD (K : PySem.W.Frag) (r : V → Hp → VK → Prop) (rd : D → Stt → QE → Prop) : Prop := ∀ M H S x dx Q QD, Cells K M H S → Dp K M H dx x → LinkE K M H Q QD → rd dx S QD → r x H Q
def CallD (K : PySem.W.Frag) (r : List V → Hp → VK → Prop) (rd : List D → Stt → QE → Prop) : Prop := ∀ M H S xs dxs Q QD, Cells K M H S → DpL K M H dxs xs → LinkE K M H Q QD → rd dxs S QD → r xs H Q
def TruD (K : PySem.W.Frag) (r : V → Hp → (Bool → Hp → Prop) → Prop) (rd : D → Stt → (Bool → Stt → Prop) → Prop) : Prop :=
  ∀ M H S x dx Q QD, Cells K M H S → Dp K M H dx x → LinkT K M H Q QD → rd dx S QD → r x H Q
/-! ### names, constants, operators -/
def dVar (i : Nat) : DTE := fun ρ S Q => match gt ρ i with
  | some d => Q d S
  | none => False
def dC (d : D) : DTE := fun _ S Q => Q d S
def dOp (r : DR2) (da db : DTE) : DTE := fun ρ S Q => da ρ S fun x S1 => db ρ S1 fun y S2 => r x y S2 Q
def dUn (r : D → Stt → QE → Prop) (da : DTE) : DTE := fun ρ S Q => da ρ S fun x S1 => r x S1 Q
def dTest (da : DTE) : DTT := fun ρ S Q => da ρ S fun x S1 => match x with
  | .bl b => Q b S1
  | _ => False
def dTru (r : D → Stt → (Bool → Stt → Prop) → Prop) (da : DTE) : DTT := fun ρ S Q => da ρ S fun x S1 => r x S1 Q
section
variable {X : Cx} {a b c e : Expr} {da db dc de : DTE} {dt du : DTT} {pos : Pos} {K : PySem.W.Frag}
theorem up_of {da : DTE} {t : TE} {e : Expr} (h : PE X e t) (w : ∀ M ρ S QD σ H Q, Slots X.K M H ρ σ → Cells X.K M H S → LinkE X.K M H Q QD → da ρ S QD → t σ H Q) : DE X e da :=
  h.up fun σ H Q ⟨M, ρ, S, QD, s, c, l, q⟩ => w M ρ S QD σ H Q s c l q
theorem upT_of {da : DTT} {t : TT} {e : Expr} (h : PT X e t) (w : ∀ M ρ S QD σ H Q, Slots X.K M H ρ σ → Cells X.K M H S → LinkT X.K M H Q QD → da ρ S QD → t σ H Q) : DT X e da :=
  h.up fun σ H Q ⟨M, ρ, S, QD, s, c, l, q⟩ => w M ρ S QD σ H Q s c l q
theorem dv (i : Nat) {x : Str} (hN : X.N[i]? = some x := by rfl) (hv : Vis X.env.scope x := by first | exact Or.inl rfl | exact Or.inr (Or.inl rfl) | exact Or.inr (Or.inr rfl)) (hd : (x == ("__debug__" : Str)) = false := by decide)
    (hcd : (x == ("__classdict__" : Str)) = false := by decide) : DE X (.Name x pos) (dVar i) :=
  up_of (pe_var hN hv hd hcd) fun M ρ S QD σ H Q s c l q => by
    unfold dVar at q
    cases e : gt ρ i with
    | none => rw [e] at q; exact q.elim
    | some d =>
      rw [e] at q
      obtain ⟨v, e1, hv⟩ := s.get e
      exact ⟨v, e1, l M v H d S Grow.refl c hv q⟩
theorem de_c {t : V} {d : D} {e : Expr} (h : PE X e (tC t)) (w : ∀ M H, Dp X.K M H d t) : DE X e (dC d) :=
  up_of h fun M ρ S QD σ H Q s c l q => l M t H d S Grow.refl c (w M H) q
theorem dp_int {M : Rg} {H : Hp} {i : Int} : Dp K M H (.int i) (.int i) := by simp only [Dp]
theorem dp_bl {M : Rg} {H : Hp} {i : Bool} : Dp K M H (.bl i) (.bl i) := by simp only [Dp]
theorem dp_str {M : Rg} {H : Hp} {i : Str} : Dp K M H (.str i) (.str i) := by simp only [Dp]
theorem dp_non {M : Rg} {H : Hp} : Dp K M H .non .non := by simp only [Dp]
theorem de_int {i : Int} {j} : DE X (.Constant (.int i) j pos) (dC (.int i)) := de_c pe_int fun _ _ => dp_int
theorem de_bl {i : Bool} {j} : DE X (.Constant (.bool i) j pos) (dC (.bl i)) := de_c pe_bl fun _ _ => dp_bl
theorem de_str {i : Str} {j} : DE X (.Constant (.str i) j pos) (dC (.str i)) := de_c pe_str fun _ _ => dp_str
theorem de_non {j} : DE X (.Constant .none j pos) (dC .non) := de_c pe_non fun _ _ => dp_non
theorem de_globI {x : Str} {i : Int} (hg : Gl X x) (hm : ∃ t, X.mg x = some (.int i t)) (hd : (x == ("__debug__" : Str)) = false := by decide) : DE X (.Name x pos) (dC (.int i)) := by
  obtain ⟨t, hm⟩ := hm
  exact de_c (pe_glob (v := .int i) hg hm ⟨t, rfl⟩ hd) fun _ _ => dp_int
theorem de_globS {x i : Str} (hg : Gl X x) (hm : ∃ t, X.mg x = some (.str i t)) (hd : (x == ("__debug__" : Str)) = false := by decide) : DE X (.Name x pos) (dC (.str i)) := by
  obtain ⟨t, hm⟩ := hm
  exact de_c (pe_glob (v := .str i) hg hm ⟨t, rfl⟩ hd) fun _ _ => dp_str
theorem link_b {M : Rg} {H : Hp} {Q : Bool → Hp → Prop} {QD : Bool → Stt → Prop} (k : LinkT K M H Q QD) : LinkE K M H (fun x H' => ∃ c, x = .bl c ∧ Q c H') (fun x S1 => match x with
    | .bl b => QD b S1
    | _ => False) := fun M1 v H1 d S1 g1 c1 hd q1 => by
      cases d with
      | bl b =>
        have e : v = .bl b := by simpa only [Dp] using hd
        exact ⟨b, e, k M1 b H1 S1 g1 c1 q1⟩
      | _ => exact q1.elim
/-- from two data expressions to a value operation -/
theorem up_op {r : R2} {rd : DR2} (l : OpD X.K r rd) (M : Rg) (ρ : Rho) (S : Stt) (QD : QE) (σ : L2.St) (H : Hp) (Q : VK) (s : Slots X.K M H ρ σ) (c : Cells X.K M H S) (k : LinkE X.K M H Q QD)
    (q : dOp rd da db ρ S QD) : tOp r (upE X.K da) (upE X.K db) σ H Q := by
  refine ⟨M, ρ, S, _, s, c, fun M1 x H1 dx S1 g1 c1 hx q1 => ?_, q⟩
  refine ⟨M1, ρ, S1, _, s.mono g1, c1, fun M2 y H2 dy S2 g2 c2 hy q2 => ?_, q1⟩
  exact l M2 H2 S2 x y dx dy Q QD c2 (hx.mono g2) hy (k.mono (g1.trans g2)) q2
theorem de_op {op : Operator} {r : R2} {rd : DR2} (ho : OpR X (binaryOp op) r) (l : OpD X.K r rd) (ha : DE X a da) (hb : DE X b db) : DE X (.BinOp a op b pos) (dOp rd da db) := up_of (pe_op ho ha hb) (up_op l)
theorem de_cmp {op : CmpOp} {r : R2} {rd : DR2} (ho : OpR X (compareOp op) r) (l : OpD X.K r rd) (ha : DE X a da) (hb : DE X b db) (hm : behindInMarks op b = false) : DE X (.Compare a [op] [b] pos) (dOp rd da db) :=
  up_of (pe_cmpR ho ha hb hm) (up_op l)
theorem dt_cmp {op : CmpOp} {r : R2} {rd : DR2} (ho : OpR X (compareOp op) r) (l : OpD X.K r rd) (ha : DE X a da) (hb : DE X b db) (hm : behindInMarks op b = false) : DT X (.Compare a [op] [b] pos) (dTest (dOp rd da db)) :=
  upT_of (pt_cmpR ho ha hb hm) fun M ρ S QD σ H Q s c k q => up_op l M ρ S _ σ H _ s c (link_b k) q
theorem de_ix {r : R2} {rd : DR2} (hr : IxR X r) (l : OpD X.K r rd) (ha : DE X a da) (hb : DE X b db) (hs : PlainIx b) : DE X (.Subscript a b pos) (dOp rd da db) := up_of (pe_ix hr ha hb hs) (up_op l)
theorem de_un {op : UnaryOp} {r : V → Hp → VK → Prop} {rd : D → Stt → QE → Prop} (ho : UnR X (unaryOp op) r) (l : UnD X.K r rd) (ha : DE X a da) : DE X (.UnaryOp op a pos) (dUn rd da) :=
  up_of (pe_un ho ha) fun M ρ S QD σ H Q s c k q => ⟨M, ρ, S, _, s, c, fun M1 x H1 dx S1 g1 c1 hx q1 => l M1 H1 S1 x dx Q QD c1 hx (k.mono g1) q1, q⟩
theorem dt_val (ha : DE X a da) (he : ∀ whole, isTrue a X.env whole = (do let v ← whole; standAt a.pos; holding [v] (truthy v)) := by intro _; rfl) : DT X a (dTest da) :=
  upT_of (pt_val ha he) fun M ρ S QD σ H Q s c k q => ⟨M, ρ, S, _, s, c, link_b k, q⟩
theorem dt_truth {rd : D → Stt → (Bool → Stt → Prop) → Prop} (l : TruD X.K (fun x H Q => ∃ k, TruV X.K x H k ∧ Q k H) rd) (ha : DE X a da) (he : ∀ whole, isTrue a X.env whole = (do let v ← whole; standAt a.pos; holding [v] (truthy v)) := by intro _; rfl) : DT X a (dTru rd da) :=
  upT_of (pt_truth ha he) fun M ρ S QD σ H Q s c k q => ⟨M, ρ, S, _, s, c, fun M1 x H1 dx S1 g1 c1 hx q1 => l M1 H1 S1 x dx _ _ c1 hx (k.mono g1) q1, q⟩
/-! ### and, or, not, a if t else b, a < b < c -/
def dAnd (t u : DTT) : DTT := fun ρ S Q => t ρ S fun c S1 => if c = true then u ρ S1 Q else Q false S1
def dOr (t u : DTT) : DTT := fun ρ S Q => t ρ S fun c S1 => if c = true then Q true S1 else u ρ S1 Q
def dNot (t : DTT) : DTT := fun ρ S Q => t ρ S fun c S1 => Q (!c) S1
theorem up_and (M : Rg) (ρ : Rho) (S : Stt) (QD : Bool → Stt → Prop) (σ : L2.St) (H : Hp) (Q : Bool → Hp → Prop) (s : Slots X.K M H ρ σ) (c : Cells X.K M H S) (k : LinkT X.K M H Q QD) (q : dAnd dt du ρ S QD) :
    tAnd (upT X.K dt) (upT X.K du) σ H Q := by
  refine ⟨M, ρ, S, _, s, c, fun M1 b H1 S1 g1 c1 q1 => ?_, q⟩
  cases b with
  | true => exact ⟨M1, ρ, S1, QD, s.mono g1, c1, k.mono g1, q1⟩
  | false => exact k M1 false H1 S1 g1 c1 q1
theorem up_or (M : Rg) (ρ : Rho) (S : Stt) (QD : Bool → Stt → Prop) (σ : L2.St) (H : Hp) (Q : Bool → Hp → Prop) (s : Slots X.K M H ρ σ) (c : Cells X.K M H S) (k : LinkT X.K M H Q QD) (q : dOr dt du ρ S QD) :
    tOr (upT X.K dt) (upT X.K du) σ H Q := by
  refine ⟨M, ρ, S, _, s, c, fun M1 b H1 S1 g1 c1 q1 => ?_, q⟩
  cases b with
  | true => exact k M1 true H1 S1 g1 c1 q1
  | false => exact ⟨M1, ρ, S1, QD, s.mono g1, c1, k.mono g1, q1⟩
variable {rest : List Expr}
theorem dw_and1 (ha : DT X a dt) : DW X (.BoolOp .And [a] pos) dt := pw_and1 ha
theorem dw_or1 (ha : DT X a dt) : DW X (.BoolOp .Or [a] pos) dt := pw_or1 ha
theorem dw_and (ha : DT X a dt) (hb : DW X (.BoolOp .And (b :: rest) pos) du) : DW X (.BoolOp .And (a :: b :: rest) pos) (dAnd dt du) :=
  (pw_and ha hb).up fun σ H Q ⟨M, ρ, S, QD, s, c, l, q⟩ => up_and M ρ S QD σ H Q s c l q
theorem dw_or (ha : DT X a dt) (hb : DW X (.BoolOp .Or (b :: rest) pos) du) : DW X (.BoolOp .Or (a :: b :: rest) pos) (dOr dt du) :=
  (pw_or ha hb).up fun σ H Q ⟨M, ρ, S, QD, s, c, l, q⟩ => up_or M ρ S QD σ H Q s c l q
theorem dt_bop {op} {es : List Expr} (h : DW X (.BoolOp op es pos) dt) : DT X (.BoolOp op es pos) dt := h.pt
theorem dt_not (ha : DT X a dt) : DT X (.UnaryOp .Not a pos) (dNot dt) :=
  upT_of (pt_not ha) fun M ρ S QD σ H Q s c k q => ⟨M, ρ, S, _, s, c, fun M1 b H1 S1 g1 c1 q1 => k M1 (!b) H1 S1 g1 c1 q1, q⟩
/-- as values, all of them bools -/
def dAndV (da db : DTE) : DTE := fun ρ S Q => da ρ S fun x S1 => match x with
  | .bl c => if c = true then db ρ S1 Q else Q (.bl false) S1
  | _ => False
def dOrV (da db : DTE) : DTE := fun ρ S Q => da ρ S fun x S1 => match x with
  | .bl c => if c = true then Q (.bl true) S1 else db ρ S1 Q
  | _ => False
def dNotV (da : DTE) : DTE := fun ρ S Q => da ρ S fun x S1 => match x with
  | .bl c => Q (.bl (!c)) S1
  | _ => False
theorem de_one {op} (h : DE X a da) : DE X (.BoolOp op [a] pos) da := pe_one h
theorem de_and (ha : DE X a da) (hb : DE X (.BoolOp .And (b :: rest) pos) db) : DE X (.BoolOp .And (a :: b :: rest) pos) (dAndV da db) :=
  up_of (pe_and ha hb) fun M ρ S QD σ H Q s c k q => ⟨M, ρ, S, _, s, c, fun M1 v H1 d S1 g1 c1 hd q1 => by
    cases d with
    | bl b =>
      have e : v = .bl b := by simpa only [Dp] using hd
      refine ⟨b, e, ?_⟩
      cases b with
      | true => exact ⟨M1, ρ, S1, QD, s.mono g1, c1, k.mono g1, q1⟩
      | false => exact k M1 _ H1 _ S1 g1 c1 dp_bl q1
    | _ => exact q1.elim, q⟩
theorem de_or (ha : DE X a da) (hb : DE X (.BoolOp .Or (b :: rest) pos) db) : DE X (.BoolOp .Or (a :: b :: rest) pos) (dOrV da db) :=
  up_of (pe_or ha hb) fun M ρ S QD σ H Q s c k q => ⟨M, ρ, S, _, s, c, fun M1 v H1 d S1 g1 c1 hd q1 => by
    cases d with
    | bl b =>
      have e : v = .bl b := by simpa only [Dp] using hd
      refine ⟨b, e, ?_⟩
      cases b with
      | true => exact k M1 _ H1 _ S1 g1 c1 dp_bl q1
      | false => exact ⟨M1, ρ, S1, QD, s.mono g1, c1, k.mono g1, q1⟩
    | _ => exact q1.elim, q⟩
theorem de_not (ha : DE X a da) : DE X (.UnaryOp .Not a pos) (dNotV da) :=
  up_of (pe_not ha) fun M ρ S QD σ H Q s c k q => ⟨M, ρ, S, _, s, c, fun M1 v H1 d S1 g1 c1 hd q1 => by
    cases d with
    | bl b =>
      have e : v = .bl b := by simpa only [Dp] using hd
      exact ⟨b, e, k M1 _ H1 _ S1 g1 c1 dp_bl q1⟩
    | _ => exact q1.elim, q⟩
def dIfE (t : DTT) (da db : DTE) : DTE := fun ρ S Q => t ρ S fun c S1 => if c = true then da ρ S1 Q else db ρ S1 Q
theorem de_ifE (hc : DT X c dt) (ha : DE X a da) (hb : DE X b db) : DE X (.IfExp c a b pos) (dIfE dt da db) :=
  up_of (pe_ifExp hc ha hb) fun M ρ S QD σ H Q s c k q => ⟨M, ρ, S, _, s, c, fun M1 b H1 S1 g1 c1 q1 => by
    cases b with
    | true => exact ⟨M1, ρ, S1, QD, s.mono g1, c1, k.mono g1, q1⟩
    | false => exact ⟨M1, ρ, S1, QD, s.mono g1, c1, k.mono g1, q1⟩, q⟩
def dChain (r r' : DR2) (da db dc : DTE) : DTE := fun ρ S Q => da ρ S fun x S1 => db ρ S1 fun y S2 => r x y S2 fun z S3 => match z with
  | .bl k => if k = true then dc ρ S3 fun w S4 => r' y w S4 Q else Q (.bl false) S3
  | _ => False
theorem up_chain {r r' : R2} {rd rd' : DR2} (l : OpD X.K r rd) (l' : OpD X.K r' rd') (M : Rg) (ρ : Rho) (S : Stt) (QD : QE) (σ : L2.St) (H : Hp) (Q : VK) (s : Slots X.K M H ρ σ) (c : Cells X.K M H S) (k : LinkE X.K M H Q QD)
    (q : dChain rd rd' da db dc ρ S QD) : tChain r r' (upE X.K da) (upE X.K db) (upE X.K dc) σ H Q := by
  refine ⟨M, ρ, S, _, s, c, fun M1 x H1 dx S1 g1 c1 hx q1 => ?_, q⟩
  refine ⟨M1, ρ, S1, _, s.mono g1, c1, fun M2 y H2 dy S2 g2 c2 hy q2 => ?_, q1⟩
  refine l M2 H2 S2 x y dx dy _ _ c2 (hx.mono g2) hy (fun M3 z H3 dz S3 g3 c3 hz q3 => ?_) q2
  cases dz with
  | bl b =>
    have e : z = .bl b := by simpa only [Dp] using hz
    refine ⟨b, e, ?_⟩
    cases b with
    | true => exact ⟨M3, ρ, S3, _, s.mono ((g1.trans g2).trans g3), c3, fun M4 w H4 dw S4 g4 c4 hw q4 => l' M4 H4 S4 y w dy dw Q QD c4 (hy.mono (g3.trans g4)) hw (k.mono (((g1.trans g2).trans g3).trans g4)) q4, q3⟩
    | false => exact k M3 _ H3 _ S3 ((g1.trans g2).trans g3) c3 dp_bl q3
  | _ => exact q3.elim
theorem de_chain {op op' : CmpOp} {r r' : R2} {rd rd' : DR2} (ho : OpR X (compareOp op) r) (ho' : OpR X (compareOp op') r') (l : OpD X.K r rd) (l' : OpD X.K r' rd') (ha : DE X a da) (hb : DE X b db) (hc : DE X c dc)
    (hm : lastMarks [op, op'] [b, c] = false := by with_unfolding_all rfl) : DE X (.Compare a [op, op'] [b, c] pos) (dChain rd rd' da db dc) := up_of (pe_chain ho ho' ha hb hc hm) (up_chain l l')
theorem dt_chain {op op' : CmpOp} {r r' : R2} {rd rd' : DR2} (ho : OpR X (compareOp op) r) (ho' : OpR X (compareOp op') r') (l : OpD X.K r rd) (l' : OpD X.K r' rd') (ha : DE X a da) (hb : DE X b db) (hc : DE X c dc)
    (hm : lastMarks [op, op'] [b, c] = false := by with_unfolding_all rfl) : DT X (.Compare a [op, op'] [b, c] pos) (dTest (dChain rd rd' da db dc)) :=
  upT_of (pt_chain ho ho' ha hb hc hm) fun M ρ S QD σ H Q s c k q => up_chain l l' M ρ S _ σ H _ s c (link_b k) q
end
end TA
set_option Elab.async false
set_option linter.all false
set_option maxRecDepth 100000
set_option maxHeartbeats 4000000
namespace TA
open PySem PySem.Spec L2
open PyProof.Rows hiding St
/-! ### arguments, displays -/
def dNil : DTA := fun _ S Q => Q [] S
def dCons (da : DTE) (dr : DTA) : DTA := fun ρ S Q => da ρ S fun x S1 => dr ρ S1 fun xs S2 => Q (x :: xs) S2
def dTup (da : DTA) : DTE := fun ρ S Q => da ρ S fun xs S1 => xs.length ≤ 100000 ∧ Q (.tup xs) S1
def dLst (da : DTA) : DTE := fun ρ S Q => da ρ S fun xs S1 => xs.length ≤ 100000 ∧ Q (.lst xs) S1
theorem sz_of {n : Nat} (h : n ≤ 100000) : n ≤ sizeLine := Nat.le_trans h (by decide)
theorem sz_lt {n : Nat} (h : n < 100000) : n < sizeLine := Nat.lt_of_lt_of_le h (by decide)
section
variable {X : Cx} {a b c e : Expr} {es : List Expr} {da db dc de : DTE} {dr : DTA} {dt du : DTT} {pos : Pos} {K : PySem.W.Frag} {M M1 : Rg} {H H1 : Hp} {S : Stt}
theorem dp_tup {p : Addr} {vs : List V} {ds : List D} (hp : M.no p) (h : H p = some (.tup vs)) (l : DpL K M H ds vs) : Dp K M H (.tup ds) (.ref p) := by
  simp only [Dp]
  exact ⟨p, vs, rfl, hp, h, l⟩
theorem dp_lst {p : Addr} {vs : List V} {ds : List D} (hp : M.no p) (h : H p = some (.lst vs)) (l : DpL K M H ds vs) : Dp K M H (.lst ds) (.ref p) := by
  simp only [Dp]
  exact ⟨p, vs, rfl, hp, h, l⟩
theorem Dp.tup_inv {v : V} {ds : List D} (h : Dp K M H (.tup ds) v) : ∃ a vs, v = .ref a ∧ M.no a ∧ H a = some (.tup vs) ∧ DpL K M H ds vs := by simpa only [Dp] using h
theorem Dp.lst_inv {v : V} {ds : List D} (h : Dp K M H (.lst ds) v) : ∃ a vs, v = .ref a ∧ M.no a ∧ H a = some (.lst vs) ∧ DpL K M H ds vs := by simpa only [Dp] using h
theorem Dp.int_inv {v : V} {i : Int} (h : Dp K M H (.int i) v) : v = .int i := by simpa only [Dp] using h
theorem Dp.bl_inv {v : V} {i : Bool} (h : Dp K M H (.bl i) v) : v = .bl i := by simpa only [Dp] using h
theorem Dp.str_inv {v : V} {i : Str} (h : Dp K M H (.str i) v) : v = .str i := by simpa only [Dp] using h
theorem Dp.non_inv {v : V} (h : Dp K M H .non v) : v = .non := by simpa only [Dp] using h
theorem Dp.hdl_inv {v : V} {n : Nat} (h : Dp K M H (.hdl n) v) : ∃ a, v = .ref a ∧ M.m[n]? = some a := by simpa only [Dp] using h
/-- a new tuple, a new list as data -/
theorem new_tup {p : Addr} {vs : List V} {ds : List D} (c : Cells K M H S) (hp : H p = none) (l : DpL K M H ds vs) : Dp K M (upd H p (.tup vs)) (.tup ds) (.ref p) :=
  dp_tup (c.fresh hp) upd_same (l.mono (Grow.new hp))
theorem new_lst {p : Addr} {vs : List V} {ds : List D} (c : Cells K M H S) (hp : H p = none) (l : DpL K M H ds vs) : Dp K M (upd H p (.lst vs)) (.lst ds) (.ref p) :=
  dp_lst (c.fresh hp) upd_same (l.mono (Grow.new hp))
/-- the continuation at a new tuple, a new list -/
theorem LinkE.tup {Q : VK} {QD : QE} (k : LinkE K M H Q QD) (g : Grow M H M1 H1) {vs : List V} {ds : List D} (c : Cells K M1 H1 S) (l : DpL K M1 H1 ds vs) (q : QD (.tup ds) S) : ∀ p, H1 p = none → Q (.ref p) (upd H1 p (.tup vs)) := fun p hp =>
  k M1 _ _ _ S (g.trans (Grow.new hp)) (c.new hp) (new_tup c hp l) q
theorem LinkE.lst {Q : VK} {QD : QE} (k : LinkE K M H Q QD) (g : Grow M H M1 H1) {vs : List V} {ds : List D} (c : Cells K M1 H1 S) (l : DpL K M1 H1 ds vs) (q : QD (.lst ds) S) : ∀ p, H1 p = none → Q (.ref p) (upd H1 p (.lst vs)) := fun p hp =>
  k M1 _ _ _ S (g.trans (Grow.new hp)) (c.new hp) (new_lst c hp l) q
theorem upA_of {da : DTA} {t : TA} (h : PA X es t) (w : ∀ M ρ S QD σ H Q, Slots X.K M H ρ σ → Cells X.K M H S → LinkA X.K M H Q QD → da ρ S QD → t σ H Q) : DA X es da :=
  h.up fun σ H Q ⟨M, ρ, S, QD, s, c, l, q⟩ => w M ρ S QD σ H Q s c l q
theorem da_nil : DA X [] dNil := upA_of pa_nil fun M ρ S QD σ H Q s c l q => l M [] H [] S Grow.refl c DpL.nil q
theorem da_cons (ha : DE X e da) (hr : DA X es dr) (hs : starEach (e :: es) X.env = (false, eval e X.env) :: starEach es X.env := by rfl) : DA X (e :: es) (dCons da dr) :=
  upA_of (pa_cons ha hr hs) fun M ρ S QD σ H Q s c l q => ⟨M, ρ, S, _, s, c, fun M1 x H1 dx S1 g1 c1 hx q1 =>
    ⟨M1, ρ, S1, _, s.mono g1, c1, fun M2 xs H2 dxs S2 g2 c2 hxs q2 => l M2 (x :: xs) H2 (dx :: dxs) S2 (g1.trans g2) c2 (DpL.cons (hx.mono g2) hxs) q2, q1⟩, q⟩
theorem de_tup {x1} (h : DA X es dr) : DE X (.Tuple es x1 pos) (dTup dr) :=
  up_of (pe_tup h) fun M ρ S QD σ H Q s c k q => ⟨M, ρ, S, _, s, c, fun M1 vs H1 ds S1 g1 c1 hl q1 => ⟨by rw [← hl.len]; exact sz_of q1.1, k.tup g1 c1 hl q1.2⟩, q⟩
theorem de_lst (h : DA X es dr) : DE X (.List es pos) (dLst dr) :=
  up_of (pe_lst h) fun M ρ S QD σ H Q s c k q => ⟨M, ρ, S, _, s, c, fun M1 vs H1 ds S1 g1 c1 hl q1 => ⟨by rw [← hl.len]; exact sz_of q1.1, k.lst g1 c1 hl q1.2⟩, q⟩
/-! ### calls of builtins, methods of builtins -/
def dCB (r : List D → Stt → QE → Prop) (da : DTA) : DTE := fun ρ S Q => da ρ S fun xs S1 => r xs S1 Q
section
variable {x : Str} {p : Pos} {id T : String} {r : List V → Hp → VK → Prop} {rd : List D → Stt → QE → Prop}
theorem up_cb (l : CallD X.K r rd) (M : Rg) (ρ : Rho) (S : Stt) (QD : QE) (σ : L2.St) (H : Hp) (Q : VK) (s : Slots X.K M H ρ σ) (c : Cells X.K M H S) (k : LinkE X.K M H Q QD)
    (q : dCB rd dr ρ S QD) : tCB r (upA X.K dr) σ H Q := ⟨M, ρ, S, _, s, c, fun M1 vs H1 ds S1 g1 c1 hl q1 => l M1 H1 S1 vs ds Q QD c1 hl (k.mono g1) q1, q⟩
theorem de_cb (hc : CallR X (.builtin id) r) (l : CallD X.K r rd) (hg : Gl X x) (hm : X.mg x = none) (hv : bootBuiltins x = some (.builtin id)) (ha : DA X (e :: es) dr) (hn : x ≠ "__name__" := by decide) (hdb : (x == ("__debug__" : Str)) = false := by decide)
    (he : starEach (e :: es) X.env = (false, eval e X.env) :: starEach es X.env := by rfl) (hpl : (backTo pos (starEach es X.env)).any (·.1) = false := by rfl) : DE X (.Call (.Name x p) (e :: es) [] pos) (dCB rd dr) :=
  up_of (pe_callB hc hg hm hv ha hn hdb he hpl) (up_cb l)
theorem de_cty (hc : CallR X (.type T) r) (l : CallD X.K r rd) (hg : Gl X x) (hm : X.mg x = none) (hv : bootBuiltins x = some (.type T)) (ha : DA X (e :: es) dr) (hn : x ≠ "__name__" := by decide) (hdb : (x == ("__debug__" : Str)) = false := by decide)
    (he : starEach (e :: es) X.env = (false, eval e X.env) :: starEach es X.env := by rfl) (hpl : (backTo pos (starEach es X.env)).any (·.1) = false := by rfl) : DE X (.Call (.Name x p) (e :: es) [] pos) (dCB rd dr) :=
  up_of (pe_callTy hc hg hm hv ha hn hdb he hpl) (up_cb l)
end
/-! ### slices -/
abbrev DTO := Rho → Stt → (Option Int → Stt → Prop) → Prop
def LinkO (K : PySem.W.Frag) (M : Rg) (H : Hp) (Q : Option Int → Hp → Prop) (QD : Option Int → Stt → Prop) : Prop :=
  ∀ M' b H' S', Grow M H M' H' → Cells K M' H' S' → QD b S' → Q b H'
def upO (K : PySem.W.Frag) (dt : DTO) : TO := fun σ H Q => ∃ M ρ S QD, Slots K M H ρ σ ∧ Cells K M H S ∧ LinkO K M H Q QD ∧ dt ρ S QD
def dNoPart : DTO := fun _ S Q => Q none S
def dPart (da : DTE) : DTO := fun ρ S Q => da ρ S fun x S1 => match x with
  | .int i => Q (some i) S1
  | _ => False
abbrev DO (X : Cx) (e : Option Expr) (dt : DTO) : Prop := PO X e (upO X.K dt)
theorem PO.up' {X : Cx} {e : Option Expr} {t t' : TO} (h : PO X e t) (w : ∀ σ H Q, t' σ H Q → t σ H Q) : PO X e t' := ⟨fun pins s σ H Q I q => h.run pins s σ H Q I (w σ H Q q)⟩
theorem do_none : DO X none dNoPart := PO.up' po_none fun σ H Q ⟨M, ρ, S, QD, s, c, l, q⟩ => l M none H S Grow.refl c q
theorem do_some (h : DE X e de) : DO X (some e) (dPart de) := PO.up' (po_some h) fun σ H Q ⟨M, ρ, S, QD, s, c, l, q⟩ => ⟨M, ρ, S, _, s, c, fun M1 v H1 d S1 g1 c1 hd q1 => by
  cases d with
  | int i => exact ⟨i, hd.int_inv, l M1 (some i) H1 S1 g1 c1 q1⟩
  | _ => exact q1.elim, q⟩
def SlD (K : PySem.W.Frag) (r : V → Option Int → Option Int → Hp → VK → Prop) (rd : D → Option Int → Option Int → Stt → QE → Prop) : Prop :=
  ∀ M H S x dx lo hi Q QD, Cells K M H S → Dp K M H dx x → LinkE K M H Q QD → rd dx lo hi S QD → r x lo hi H Q
def dSl (rd : D → Option Int → Option Int → Stt → QE → Prop) (da : DTE) (dl dh : DTO) : DTE := fun ρ S Q => da ρ S fun x S1 => dl ρ S1 fun l S2 => dh ρ S2 fun u S3 => rd x l u S3 Q
theorem de_slice {lo hi : Option Expr} {dl dh : DTO} {p2 : Pos} {r : V → Option Int → Option Int → Hp → VK → Prop} {rd : D → Option Int → Option Int → Stt → QE → Prop} (hr : SlR X r) (l : SlD X.K r rd) (he : DE X e de) (hl : DO X lo dl) (hu : DO X hi dh) :
    DE X (.Subscript e (.Slice lo hi none p2) pos) (dSl rd de dl dh) :=
  up_of (pe_slice hr he hl hu) fun M ρ S QD σ H Q s c k q => ⟨M, ρ, S, _, s, c, fun M1 x H1 dx S1 g1 c1 hx q1 =>
    ⟨M1, ρ, S1, _, s.mono g1, c1, fun M2 lo H2 S2 g2 c2 q2 => ⟨M2, ρ, S2, _, s.mono (g1.trans g2), c2, fun M3 hi H3 S3 g3 c3 q3 =>
      l M3 H3 S3 x dx lo hi Q QD c3 (hx.mono (g2.trans g3)) (k.mono ((g1.trans g2).trans g3)) q3, q2⟩, q1⟩, q⟩
end
/-! ## statements -/
def dNext : DTS := fun E ρ S => E.nx ρ S
def dSeq (t u : DTS) : DTS := fun E ρ S => t { E with nx := u E } ρ S
def dBreak : DTS := fun E ρ S => E.bk ρ S
def dDrop (de : DTE) : DTS := fun E ρ S => de ρ S fun _ S1 => E.nx ρ S1
def dRet (de : DTE) : DTS := fun E ρ S => de ρ S E.rt
def dIf (c : DTT) (t u : DTS) : DTS := fun E ρ S => c ρ S fun b S1 => if b = true then t E ρ S1 else u E ρ S1
def dNever : DTS := fun _ _ _ => False
def dAsg (de : DTE) (dg : DTG) : DTS := fun E ρ S => de ρ S fun x S1 => dg x ρ S1 E.nx
def gN (i : Nat) : DTG := fun d ρ S Q => Q (st ρ i d) S
section
variable {X : Cx} {e o i : Expr} {es : List Expr} {de : DTE} {dg : DTG} {dt du : DTS} {dc : DTT} {pos : Pos} {s s1 : Stmt} {sts rest : List Stmt}
theorem upS_of {t : TS} {d : DTS} (h : PS X s t) (w : ∀ M ρ S DD D σ H, Slots X.K M H ρ σ → Cells X.K M H S → LinkS X.K M H D DD → d DD ρ S → t D σ H) : DS X s d :=
  h.up fun D σ H ⟨M, ρ, S, DD, sl, c, l, q⟩ => w M ρ S DD D σ H sl c l q
theorem upSs_of {t : TS} {d : DTS} (h : PSs X sts t) (w : ∀ M ρ S DD D σ H, Slots X.K M H ρ σ → Cells X.K M H S → LinkS X.K M H D DD → d DD ρ S → t D σ H) : DSs X sts d :=
  h.up fun D σ H ⟨M, ρ, S, DD, sl, c, l, q⟩ => w M ρ S DD D σ H sl c l q
theorem dss_nil : DSs X [] dNext := upSs_of pss_nil fun M ρ S DD D σ H s c l q => l.nx M σ H ρ S Grow.refl s c q
theorem dss_cons (h1 : DS X s dt) (h2 : DSs X rest du) : DSs X (s :: rest) (dSeq dt du) :=
  upSs_of (pss_cons h1 h2) fun M ρ S DD D σ H s c l q => ⟨M, ρ, S, { DD with nx := du DD }, s, c, ⟨fun M1 σ1 H1 ρ1 S1 g1 s1 c1 q1 => ⟨M1, ρ1, S1, DD, s1, c1, l.mono g1, q1⟩, l.rt, l.bk, l.ct⟩, q⟩
theorem dss_one (h1 : DS X s dt) : DSs X [s] dt := pss_one h1
theorem ds_pass : DS X (.Pass pos) dNext := upS_of ps_pass fun M ρ S DD D σ H s c l q => l.nx M σ H ρ S Grow.refl s c q
theorem ds_break : DS X (.Break pos) dBreak := upS_of ps_break fun M ρ S DD D σ H s c l q => l.bk M σ H ρ S Grow.refl s c q
theorem ds_never : DS X s dNever := upS_of ps_never fun M ρ S DD D σ H s c l q => q
theorem dss_never : DSs X sts dNever := upSs_of pss_never fun M ρ S DD D σ H s c l q => q
theorem ds_expr (he : DE X e de) (hs : swapsWith e none pos.line X.env = pure false := by rfl) : DS X (.Expr e pos) (dDrop de) :=
  upS_of (ps_expr he hs) fun M ρ S DD D σ H s c l q => ⟨M, ρ, S, _, s, c, fun M1 v H1 d S1 g1 c1 hd q1 => l.nx M1 σ H1 ρ S1 g1 (s.mono g1) c1 q1, q⟩
theorem ds_ret (he : DE X e de) : DS X (.Return (some e) pos) (dRet de) :=
  upS_of (ps_ret he) fun M ρ S DD D σ H s c l q => ⟨M, ρ, S, _, s, c, l.rt, q⟩
theorem ds_if {a b : List Stmt} (hc : DT X e dc) (ha : DSs X a dt) (hb : DSs X b du) : DS X (.If e a b pos) (dIf dc dt du) :=
  upS_of (ps_if hc ha hb) fun M ρ S DD D σ H s c l q => ⟨M, ρ, S, _, s, c, fun M1 b H1 S1 g1 c1 q1 => by
    cases b with
    | true => exact ⟨M1, ρ, S1, DD, s.mono g1, c1, l.mono g1, q1⟩
    | false => exact ⟨M1, ρ, S1, DD, s.mono g1, c1, l.mono g1, q1⟩, q⟩
theorem upG_of {t : TG} {d : DTG} (h : PG X e t) (w : ∀ M ρ S dv QD v σ H Q, Slots X.K M H ρ σ → Cells X.K M H S → Dp X.K M H dv v → LinkN X.K M H Q QD → d dv ρ S QD → t v σ H Q) : DG X e d :=
  ⟨fun pins s σ H v u Q I r ⟨M, ρ, S, dv, QD, sl, c, hd, l, q⟩ => h.run pins s σ H v u Q I r (w M ρ S dv QD v σ H Q sl c hd l q)⟩
theorem dg_name {i : Nat} {x : Str} (hN : X.N.Nodup) (hi : X.N[i]? = some x) (hx : Loc X.env.scope x) (hf : X.fn x = true ∨ X.env.scope.names.lookup x = some .local := by first | exact .inl rfl | exact .inr rfl | assumption) : DG X (.Name x pos) (gN i) :=
  upG_of (pg_name hN hi hx hf) fun M ρ S dv QD v σ H Q s c hd l q => l M _ H _ S Grow.refl (s.set hd i) c q
theorem up_asg {g : TG} (hg : ∀ M ρ S dv QD v σ H Q, Slots X.K M H ρ σ → Cells X.K M H S → Dp X.K M H dv v → LinkN X.K M H Q QD → dg dv ρ S QD → g v σ H Q)
    (M : Rg) (ρ : Rho) (S : Stt) (DD : DEnds) (D : Ends) (σ : L2.St) (H : Hp) (s : Slots X.K M H ρ σ) (c : Cells X.K M H S) (l : LinkS X.K M H D DD) (q : dAsg de dg DD ρ S) : tAsg (upE X.K de) g D σ H :=
  ⟨M, ρ, S, _, s, c, fun M1 v H1 d S1 g1 c1 hd q1 => hg M1 ρ S1 d DD.nx v σ H1 D.nx (s.mono g1) c1 hd (l.nx.mono g1) q1, q⟩
theorem ds_asg (he : DE X e de) (hg : DG X o dg) (hs : swapsWithSole [o] e pos.line X.env = pure false := by rfl) (hw : swappedStores [o] e X.env = pure none := by rfl)
    (h1 : (assignEach [o] X.env).map (·.2) = [assign o X.env] := by rfl) : DS X (.Assign [o] e pos) (dAsg de dg) :=
  upS_of (ps_asg he hg hs hw h1) (up_asg fun M ρ S dv QD v σ H Q s c hd l q => ⟨M, ρ, S, dv, QD, s, c, hd, l, q⟩)
theorem ds_set {i : Nat} {x : Str} {pos' : Pos} (hN : X.N.Nodup) (hi : X.N[i]? = some x) (hx : Loc X.env.scope x) (he : DE X e de) (hs : swapsWith e (some (.Name x pos')) pos.line X.env = pure false := by rfl) (hf : X.fn x = true ∨ X.env.scope.names.lookup x = some .local := by first | exact .inl rfl | exact .inr rfl | assumption) :
    DS X (.Assign [.Name x pos'] e pos) (dAsg de (gN i)) :=
  upS_of (ps_set hN hi hx he hs hf) (up_asg fun M ρ S dv QD v σ H Q s c hd l q => l M _ H _ S Grow.refl (s.set hd i) c q)
/-! ### several targets -/
abbrev DTGs := List D → Rho → Stt → (Rho → Stt → Prop) → Prop
def upGs (K : PySem.W.Frag) (dg : DTGs) : TGs := fun vs σ H Q => ∃ M ρ S ds QD, Slots K M H ρ σ ∧ Cells K M H S ∧ DpL K M H ds vs ∧ LinkN K M H Q QD ∧ dg ds ρ S QD
abbrev DGs (X : Cx) (es : List Expr) (dg : DTGs) : Prop := PGs X es (upGs X.K dg)
def gsNil : DTGs := fun ds ρ S Q => match ds with
  | [] => Q ρ S
  | _ => False
def gsCons (g : DTG) (u : DTGs) : DTGs := fun ds ρ S Q => match ds with
  | d :: r => g d ρ S fun ρ1 S1 => u r ρ1 S1 Q
  | [] => False
theorem upGs_of {t : TGs} {d : DTGs} (h : PGs X es t) (w : ∀ M ρ S dv QD v σ H Q, Slots X.K M H ρ σ → Cells X.K M H S → DpL X.K M H dv v → LinkN X.K M H Q QD → d dv ρ S QD → t v σ H Q) : DGs X es d :=
  ⟨fun pins s σ H v u Q I r ⟨M, ρ, S, dv, QD, sl, c, hd, l, q⟩ => h.run pins s σ H v u Q I r (w M ρ S dv QD v σ H Q sl c hd l q)⟩
theorem dgs_nil : DGs X [] gsNil := upGs_of pgs_nil fun M ρ S ds QD vs σ H Q s c hd l q => by
  cases ds with
  | nil =>
    have e : vs = [] := by simpa only [DpL] using hd
    exact ⟨e, l M σ H ρ S Grow.refl s c q⟩
  | cons d r => exact q.elim
theorem dgs_cons {dgs : DTGs} (h1 : DG X e dg) (h2 : DGs X es dgs) (hs : (assignEach (e :: es) X.env).map (·.2) = assign e X.env :: (assignEach es X.env).map (·.2) := by rfl) : DGs X (e :: es) (gsCons dg dgs) :=
  upGs_of (pgs_cons h1 h2 hs) fun M ρ S ds QD vs σ H Q s c hd l q => by
    cases ds with
    | nil => exact q.elim
    | cons d r =>
      obtain ⟨v, vr, ev, h1, h2⟩ := hd.uncons
      exact ⟨v, vr, ev, M, ρ, S, d, _, s, c, h1, fun M1 σ1 H1 ρ1 S1 g1 s1 c1 q1 => ⟨M1, ρ1, S1, r, QD, s1, c1, h2.mono g1, l.mono g1, q1⟩, q⟩
/-- a, b, .. = a tuple -/
def gT (n : Nat) (u : DTGs) : DTG := fun d ρ S Q => match d with
  | .tup ds => ds.length = n ∧ u ds ρ S Q
  | _ => False
theorem dg_tup {k : Nat} {t : DTGs} {n : Nat} (hc : X.calm = true) (h : DGs X es t) (hn : (assignEach es X.env).length = n := by rfl) (hst : (assignEach es X.env).findIdx? (·.1) = none := by rfl) : DG X (.Tuple es k pos) (gT n t) :=
  upG_of (pg_tup hc h hn hst) fun M ρ S dv QD v σ H Q s c hd l q => by
    cases dv with
    | tup ds =>
      obtain ⟨a, vs, ev, na, ha, hl⟩ := hd.tup_inv
      exact ⟨a, vs, ev, SqT.of ha, by rw [← hl.len]; exact q.1, M, ρ, S, ds, QD, s, c, hl, l, q.2⟩
    | _ => exact q.elim
/-! ### for: W by what is still to come -/
def dFor (di : DTI) (dg : DTG) (db : DTS) : DTS := fun E ρ S => di ρ S fun items S1 => ∃ W : List D → Rho → Stt → Prop, W items ρ S1 ∧
  (∀ x r ρ S, W (x :: r) ρ S → dg x ρ S fun ρ1 S1 => db { E with nx := W r, ct := W r, bk := E.nx } ρ1 S1) ∧ ∀ ρ S, W [] ρ S → E.nx ρ S
theorem drop_at {items : List D} {i : Nat} (hi : i < items.length) : items.drop i = items[i] :: items.drop (i + 1) := List.drop_eq_getElem_cons hi
theorem ds_for {iter tg : Expr} {body : List Stmt} {di : DTI} {db : DTS} (hp : PassesOwn (model X.prog X.w) X.A X.env X.xe) (hc : X.calm = true) (hi : DI X tg iter di) (hg : DG X tg dg) (hb : DSs X body db)
    (hs : ∀ x, foldedSetIterable iter X.env x = pure x := by intro _; rfl) : DS X (.For tg iter body [] pos) (dFor di dg db) := by
  refine upS_of (ps_for hp hc hi hg hb hs) fun M ρ S DD D σ H s c l q => ?_
  refine ⟨M, ρ, S, _, s, c, fun M1 H1 J items S1 g1 c1 it q1 => ?_, q⟩
  obtain ⟨W, w0, turn, fin⟩ := q1
  refine ⟨fun i m σ H => ∃ M' ρ' S', Grow M1 H1 M' H ∧ Slots X.K M' H ρ' σ ∧ Cells X.K M' H S' ∧ m = items.length - i ∧ i ≤ items.length ∧ W (items.drop i) ρ' S',
    ⟨items.length, M1, ρ, S1, Grow.refl, s.mono g1, c1, by simp, Nat.zero_le _, by simpa using w0⟩, ?_⟩
  rintro i m σ2 H2 ⟨M2, ρ2, S2, g2, s2, c2, rfl, hi, h2⟩
  have hit := it M2 H2 g2.later i
  by_cases hlt : i < items.length
  · right
    obtain ⟨go, yld⟩ := hit.2 items[i] (List.getElem?_eq_getElem hlt)
    refine ⟨go, fun σ' H' => ∃ M' ρ' S', Grow M1 H1 M' H' ∧ Slots X.K M' H' ρ' σ' ∧ Cells X.K M' H' S' ∧ W (items.drop (i + 1)) ρ' S', ?_, fun x H3 hy => ?_⟩
    · rintro σ' H' ⟨M', ρ', S', a, b, c', d⟩
      exact ⟨items.length - (i + 1), by omega, M', ρ', S', a, b, c', rfl, hlt, d⟩
    · obtain ⟨fr, hd⟩ := yld x H3 hy
      have c3 : Cells X.K M2 H3 S2 := c2.ext fr.grow fr.keep
      rw [drop_at hlt] at h2
      refine ⟨M2, ρ2, S2, items[i], _, s2.mono fr.grow, c3, hd S2 c2, fun M4 σ4 H4 ρ4 S4 g4 s4 c4 q4 => ?_, turn _ _ _ _ h2⟩
      have g5 : Grow M1 H1 M4 H4 := (g2.trans fr.grow).trans g4
      have gg : Grow M H M4 H4 := g1.trans g5
      exact ⟨M4, ρ4, S4, ⟨fun ρ2 S2 => W (items.drop (i + 1)) ρ2 S2, DD.rt, DD.nx, fun ρ2 S2 => W (items.drop (i + 1)) ρ2 S2⟩, s4, c4, ⟨fun M6 σ6 H6 ρ6 S6 g6 s6 c6 q6 => ⟨M6, ρ6, S6, g5.trans g6, s6, c6, q6⟩, l.rt.mono gg, fun M6 σ6 H6 ρ6 S6 g6 s6 c6 q6 => l.nx M6 σ6 H6 ρ6 S6 (gg.trans g6) s6 c6 q6,
        fun M6 σ6 H6 ρ6 S6 g6 s6 c6 q6 => ⟨M6, ρ6, S6, g5.trans g6, s6, c6, q6⟩⟩, q4⟩
  · left
    have e : i = items.length := by omega
    refine ⟨hit.1 (by omega), l.nx M2 σ2 H2 ρ2 S2 (g1.trans g2) s2 c2 (fin _ _ ?_)⟩
    rw [e, List.drop_length] at h2
    exact h2
/-! ### while -/
def dWhile (c : DTT) (tb : DTS) : DTS := fun E ρ S => ∃ W : Nat → Rho → Stt → Prop, (∃ m, W m ρ S) ∧ ∀ m ρ S, W m ρ S →
  c ρ S fun b S1 => if b = true then ∃ N : Rho → Stt → Prop, (∀ ρ' S', N ρ' S' → ∃ m', m' < m ∧ W m' ρ' S') ∧ tb { E with nx := N, ct := N, bk := E.nx } ρ S1 else E.nx ρ S1
theorem ds_while {c : Expr} {body : List Stmt} {db : DTS} (hp : PassesOwn (model X.prog X.w) X.A X.env X.xe) (hc : DT X c dc) (hb : DSs X body db) : DS X (.While c body [] pos) (dWhile dc db) := by
  refine upS_of (ps_while hp hc hb) fun M ρ S DD D σ H s c l q => ?_
  obtain ⟨W, ⟨m0, w0⟩, turn⟩ := q
  refine ⟨fun m σ' H' => ∃ M' ρ' S', Grow M H M' H' ∧ Slots X.K M' H' ρ' σ' ∧ Cells X.K M' H' S' ∧ W m ρ' S', ⟨m0, M, ρ, S, Grow.refl, s, c, w0⟩, ?_⟩
  rintro m σ1 H1 ⟨M1, ρ1, S1, g1, s1, c1, w1⟩
  refine ⟨M1, ρ1, S1, _, s1, c1, fun M2 b H2 S2 g2 c2 q2 => ?_, turn m ρ1 S1 w1⟩
  cases b with
  | true =>
    obtain ⟨N, hN, q2⟩ := q2
    have gg : Grow M H M2 H2 := g1.trans g2
    refine ⟨fun σ' H' => ∃ M' ρ' S', Grow M H M' H' ∧ Slots X.K M' H' ρ' σ' ∧ Cells X.K M' H' S' ∧ N ρ' S', ?_, M2, ρ1, S2, ⟨N, DD.rt, DD.nx, N⟩, s1.mono g2, c2, ⟨fun M6 σ6 H6 ρ6 S6 g6 s6 c6 q6 => ⟨M6, ρ6, S6, gg.trans g6, s6, c6, q6⟩, l.rt.mono gg, fun M6 σ6 H6 ρ6 S6 g6 s6 c6 q6 => l.nx M6 σ6 H6 ρ6 S6 (gg.trans g6) s6 c6 q6,
        fun M6 σ6 H6 ρ6 S6 g6 s6 c6 q6 => ⟨M6, ρ6, S6, gg.trans g6, s6, c6, q6⟩⟩, q2⟩
    rintro σ' H' ⟨M', ρ', S', a, b, c', d⟩
    obtain ⟨m', lt, w'⟩ := hN ρ' S' d
    exact ⟨m', lt, M', ρ', S', a, b, c', w'⟩
  | false => exact l.nx M2 σ1 H2 ρ1 S2 (g1.trans g2) (s1.mono g2) c2 q2
end
/-! ### comprehensions -/
def dLcL (di : DTI) (dg : DTG) (dt : DTT) (de : DTE) (vs : List Nat) : DTA := fun ρ S Q => di ρ S fun items S1 => items.length ≤ 100000 ∧ ∃ W : List D → List D → Stt → Prop, W items [] S1 ∧
  (∀ x r acc S, W (x :: r) acc S → dg x (wipeD ρ vs) S fun ρ1 S1 => dt ρ1 S1 fun b S2 => if b = true then de ρ1 S2 fun y S3 => W r (acc ++ [y]) S3 else W r acc S2) ∧ ∀ acc S, W [] acc S → Q acc S
def dLc (di : DTI) (dg : DTG) (dt : DTT) (de : DTE) (vs : List Nat) : DTE := fun ρ S Q => dLcL di dg dt de vs ρ S fun acc S2 => Q (.lst acc) S2
def dYes : DTT := fun _ S Q => Q true S
section
variable {X : Cx} {dg : DTG} {dt : DTT} {de : DTE} {di : DTI}
/-- what a target's stores may touch: the block's own slots alone -/
def OwnG (dg : DTG) (g : TG) (K : PySem.W.Frag) (vs : List Nat) : Prop := ∀ M ρ S d QD v σ H (Q : L2.St → Hp → Prop), Slots K M H ρ σ → Cells K M H S → Dp K M H d v →
  (∀ M' σ' H' ρ' S', Grow M H M' H' → Slots K M' H' ρ' σ' → Cells K M' H' S' → L2.wipe σ' vs = L2.wipe σ vs → QD ρ' S' → Q σ' H') → dg d ρ S QD → g v σ H Q
/-- the walk of a comprehension: the list at L is neither data nor touched meanwhile; k: what follows -/
theorem lc_gen {wi : TI} {g : TG} {vs : List Nat} (hi : ∀ σ H R, upI X.K di σ H R → wi σ H R) (hg : OwnG dg g X.K vs) (M : Rg) (ρ : Rho) (S : Stt) (QD : List D → Stt → Prop) (σ : L2.St) (H : Hp) (Q : VK) (s : Slots X.K M H ρ σ) (c : Cells X.K M H S)
    (k : ∀ M2 H2 S2 acc vs2 L, Grow M H M2 H2 → H L = none → Cells X.K (M2.pro L) H2 S2 → M2.no L → H2 L = some (.lst vs2) → DpL X.K (M2.pro L) H2 acc vs2 → QD acc S2 → Q (.ref L) H2)
    (q : dLcL di dg dt de vs ρ S QD) (hw : ∀ σ : L2.St, L2.wipe (L2.wipe σ vs) vs = L2.wipe σ vs) : tLc wi g (upT X.K dt) (upE X.K de) vs σ H Q := by
  refine hi σ H _ ⟨M, ρ, S, _, s, c, fun M1 H1 J items S1 g1 c1 it q1 => fun L hL => ?_, q⟩
  obtain ⟨hn, W, w0, turn, fin⟩ := q1
  have s1 := s.mono g1
  refine ⟨fun i m H2 => ∃ M2 S2 acc vs2, Grow M1 H1 M2 H2 ∧ Cells X.K (M2.pro L) H2 S2 ∧ H2 L = some (.lst vs2) ∧ DpL X.K (M2.pro L) H2 acc vs2 ∧ Later M1 H1 (M2.pro L) H2 ∧ acc.length ≤ i ∧ m = items.length - i ∧ i ≤ items.length ∧
      W (items.drop i) acc S2,
    ⟨items.length, M1, S1, [], [], Grow.new hL, c1.pro hL, upd_same, DpL.nil, (Later.pro hL).trans (Later.app (List.mem_cons_self ..)), Nat.le_refl _, by simp, Nat.zero_le _, by simpa using w0⟩, ?_⟩
  rintro i m H2 ⟨M2, S2, acc, vs2, g2, c2, hL2, hacc, lt2, hai, rfl, hi2, h2⟩
  have hit := it (M2.pro L) H2 lt2 i
  by_cases hlt : i < items.length
  · right
    obtain ⟨go, yld⟩ := hit.2 items[i] (List.getElem?_eq_getElem hlt)
    refine ⟨go, fun H' => ∃ M2 S2 acc vs2, Grow M1 H1 M2 H' ∧ Cells X.K (M2.pro L) H' S2 ∧ H' L = some (.lst vs2) ∧ DpL X.K (M2.pro L) H' acc vs2 ∧ Later M1 H1 (M2.pro L) H' ∧ acc.length ≤ i + 1 ∧
      W (items.drop (i + 1)) acc S2, ?_, fun x H3 hy => ?_⟩
    · rintro H' ⟨M', S', acc', vs', a1, a2, a3, a4, a5, a6, a7⟩
      exact ⟨items.length - (i + 1), by omega, M', S', acc', vs', a1, a2, a3, a4, a5, a6, rfl, hlt, a7⟩
    · obtain ⟨fr, hd⟩ := yld x H3 hy
      have c3 : Cells X.K (M2.pro L) H3 S2 := c2.ext fr.grow fr.keep
      have s3 : Slots X.K (M2.pro L) H3 ρ σ := s1.later (lt2.trans fr.grow.later)
      rw [drop_at hlt] at h2
      refine hg (M2.pro L) (wipeD ρ vs) S2 items[i] _ x (L2.wipe σ vs) H3 _ (s3.wipe vs) c3 (hd S2 c2) (fun M4 σ4 H4 ρ4 S4 g4 s4 c4 e4 q4 => ?_) (turn _ _ _ _ h2)
      refine ⟨by rw [e4, hw], ?_⟩
      refine ⟨M4, ρ4, S4, _, s4, c4, fun M5 b H5 S5 g5 c5 q5 => ?_, q4⟩
      have g35 : Grow (M2.pro L) H3 M5 H5 := g4.trans g5
      have yM5 : M5.y = L :: M2.y := g35.yy
      have eM5 : M5 = Rg.pro ⟨M2.y, M5.m⟩ L := by
        cases M5
        simp only at yM5
        rw [yM5]
      have back : ∀ {Mx : Rg} {Hx : Hp}, Grow (M2.pro L) H3 Mx Hx → Grow M1 H1 ⟨M2.y, Mx.m⟩ Hx := fun {Mx Hx} gx => (g2.trans fr.grow).trans ⟨rfl, gx.pre, gx.keep, gx.dom⟩
      have keepL : ∀ {Mx : Rg} {Hx : Hp}, Grow (M2.pro L) H3 Mx Hx → Hx L = some (.lst vs2) := fun {Mx Hx} gx => gx.keep L _ (c3.yd L (List.mem_cons_self ..)).2 (fr.keep L _ hL2)
      cases b with
      | false =>
        refine ⟨⟨M2.y, M5.m⟩, S5, acc, vs2, back g35, by rw [← eM5]; exact c5, keepL g35, by rw [← eM5]; exact (hacc.later fr.grow.later).mono g35, by rw [← eM5]; exact lt2.trans (fr.grow.later.trans g35.later), by omega, q5⟩
      | true =>
        refine ⟨M5, ρ4, S5, _, s4.mono g5, c5, fun M6 y H6 dy S6 g6 c6 hy6 q6 => ?_, q5⟩
        have g36 := g35.trans g6
        have yM6 : M6.y = L :: M2.y := g36.yy
        have eM6 : M6 = Rg.pro ⟨M2.y, M6.m⟩ L := by
          cases M6
          simp only at yM6
          rw [yM6]
        have inL : L ∈ M6.y := by rw [yM6]; exact List.mem_cons_self ..
        have hacc6 := (hacc.later fr.grow.later).mono g36
        have lenacc := hacc6.len
        refine ⟨vs2, keepL g36, by rw [← lenacc]; exact sz_lt (by omega), ?_⟩
        refine ⟨⟨M2.y, M6.m⟩, S6, acc ++ [dy], vs2 ++ [y], ?_, by rw [← eM6]; exact c6.app inL, upd_same, by rw [← eM6]; exact (hacc6.append (DpL.cons hy6 DpL.nil)).later (Later.app inL), by rw [← eM6]; exact (lt2.trans (fr.grow.later.trans g36.later)).trans (Later.app inL), by rw [List.length_append, List.length_singleton]; omega, q6⟩
        have b6 := back g36
        refine ⟨b6.yy, b6.pre, fun a o na ha => ?_, fun a e => ?_⟩
        · rw [upd_ne (ne_of_none ha hL)]
          exact b6.keep a o na ha
        · by_cases z : a = L
          · rw [z]; exact hL
          · rw [upd_ne z] at e
            exact b6.dom a e
  · left
    have e : i = items.length := by omega
    refine ⟨hit.1 (by omega), ?_⟩
    rw [e, List.drop_length] at h2
    have nL : M2.no L := ⟨(c2.yd L (List.mem_cons_self ..)).2, fun hm => (c1.yd L (by rw [← g2.yy]; exact hm)).1 hL⟩
    exact k M2 H2 S2 acc vs2 L (g1.trans g2) (g1.free hL) c2 nL hL2 hacc (fin acc S2 h2)
theorem up_lc {wi : TI} {g : TG} {vs : List Nat} (hi : ∀ σ H R, upI X.K di σ H R → wi σ H R) (hg : OwnG dg g X.K vs) (M : Rg) (ρ : Rho) (S : Stt) (QD : QE) (σ : L2.St) (H : Hp) (Q : VK) (s : Slots X.K M H ρ σ) (c : Cells X.K M H S) (k : LinkE X.K M H Q QD)
    (q : dLc di dg dt de vs ρ S QD) (hw : ∀ σ : L2.St, L2.wipe (L2.wipe σ vs) vs = L2.wipe σ vs) : tLc wi g (upT X.K dt) (upE X.K de) vs σ H Q :=
  lc_gen hi hg M ρ S (fun acc S2 => QD (.lst acc) S2) σ H Q s c (fun M2 H2 S2 acc vs2 L g2 hL c2 nL hL2 hacc q2 => k M2 (.ref L) H2 (.lst acc) S2 g2 c2.unpro (dp_lst nL hL2 (hacc.later Later.unpro)) q2) q hw
end
end TA
set_option Elab.async false
set_option linter.all false
set_option maxRecDepth 100000
set_option maxHeartbeats 4000000
namespace TA
open PySem PySem.Spec L2
open PyProof.Rows hiding St
/-! ### the slots of a comprehension's own names -/
theorem wipe_at (σ : L2.St) (i : Nat) : ∀ vs : List Nat, (L2.wipe σ vs)[i]? = if i < σ.length then (if i ∈ vs then some none else σ[i]?) else none
  | [] => by
    by_cases h : i < σ.length
    · simp [L2.wipe, h]
    · simp [L2.wipe, h]
  | v :: vs => by
    have ih := wipe_at σ i vs
    unfold L2.wipe
    by_cases e : v = i
    · subst e
      by_cases h : v < σ.length
      · rw [List.getElem?_set_self (by rw [L2.wipe_length]; exact h)]
        simp [h]
      · rw [List.getElem?_eq_none (by rw [List.length_set, L2.wipe_length]; omega)]
        simp [h]
    · rw [List.getElem?_set_ne e, ih]
      have e2 : ¬ i = v := fun z => e z.symm
      simp [e2]
theorem wipe_wipe (σ : L2.St) (vs : List Nat) : L2.wipe (L2.wipe σ vs) vs = L2.wipe σ vs := by
  apply List.ext_getElem?
  intro i
  rw [wipe_at, wipe_at, L2.wipe_length]
  by_cases h : i < σ.length
  · by_cases m : i ∈ vs
    · simp [h, m]
    · simp [h, m]
  · simp [h]
theorem wipe_set (σ : L2.St) (vs : List Nat) (i : Nat) (x : Option V) (hi : i ∈ vs) : L2.wipe (σ.set i x) vs = L2.wipe σ vs := by
  apply List.ext_getElem?
  intro j
  rw [wipe_at, wipe_at, List.length_set]
  by_cases h : j < σ.length
  · by_cases m : j ∈ vs
    · simp [h, m]
    · have e : i ≠ j := fun z => m (z ▸ hi)
      simp [h, m, e]
  · simp [h]
section
variable {K : PySem.W.Frag}
theorem own_name {i : Nat} {vs : List Nat} (hi : i ∈ vs) : OwnG (gN i) (gName i) K vs := fun M ρ S d QD v σ H Q s c hd l q =>
  l M _ H _ S Grow.refl (s.set hd i) c (wipe_set σ vs i _ hi) q
/-- a pair of names -/
theorem own_pair {i j : Nat} {vs : List Nat} (hi : i ∈ vs) (hj : j ∈ vs) : OwnG (gT 2 (gsCons (gN i) (gsCons (gN j) gsNil))) (gTup K 2 (gCons (gName i) (gCons (gName j) gNil))) K vs := fun M ρ S d QD v σ H Q s c hd l q => by
  cases d with
  | tup ds =>
    obtain ⟨hl, q⟩ := q
    match ds, hl, hd, q with
    | [x, y], _, hd, q =>
      obtain ⟨a, vs', ev, na, ha, hv⟩ := hd.tup_inv
      obtain ⟨v1, r1, e1, h1, hv⟩ := hv.uncons
      obtain ⟨v2, r2, e2, h2, hv⟩ := hv.uncons
      have e3 : r2 = [] := by simpa only [DpL] using hv
      subst e3 e2 e1
      refine ⟨a, [v1, v2], ev, SqT.of ha, rfl, v1, [v2], rfl, v2, [], rfl, rfl, ?_⟩
      exact l M _ H _ S Grow.refl ((s.set h1 i).set h2 j) c (by rw [wipe_set _ _ _ _ hj, wipe_set _ _ _ _ hi]) q
  | _ => exact q.elim
end
section
variable {X : Cx} {elt tg iter : Expr} {ifs : List Expr} {scope : Scope} {own : List (Str × Nat)} {pos : Pos} {di : DTI} {dg : DTG} {dt : DTT} {de : DTE} {g : TG}
abbrev DTs (X : Cx) (ifs : List Expr) (t : DTT) : Prop := PTs X ifs (upT X.K t)
theorem dts_nil : DTs X [] dYes := ⟨fun pins s σ H Q I ⟨M, ρ, S, QD, sl, c, l, q⟩ => pts_nil.run pins s σ H Q I (l M true H S Grow.refl c q)⟩
theorem dts_one {c : Expr} {t : DTT} (h : DT X c t) : DTs X [c] t := pts_one h
theorem de_lc (hc : X.calm = true) (hN : X.N.Nodup) (hi : DI X tg iter di) (ok : BlkOk X.N X.env.scope scope own) (ho : OwnG dg g X.K (own.map (·.2)))
    (hg : ∀ (s : Shared) (H : Hp) (C : Addr) (cl : List (Str × Addr)) (fp : List Addr), PG (X.blk s H scope (compEnvC scope cl C X.env) fp) tg g) (ht : ∀ (s : Shared) (H : Hp) (C : Addr) (cl : List (Str × Addr)) (fp : List Addr), DTs (X.blk s H scope (compEnvC scope cl C X.env) fp) ifs dt)
    (he : ∀ (s : Shared) (H : Hp) (C : Addr) (cl : List (Str × Addr)) (fp : List Addr), DE (X.blk s H scope (compEnvC scope cl C X.env) fp) elt de) (hs : ∀ x, foldedSetIterable iter X.env x = pure x := by intro _; rfl) :
    DE X (.ListComp elt [⟨tg, iter, ifs, 0⟩] scope pos) (dLc di dg dt de (own.map (·.2))) :=
  up_of (pe_lc hc hN hi ok hg ht he hs) fun M ρ S QD σ H Q s c k q => up_lc (fun _ _ _ h => h) ho M ρ S QD σ H Q s c k q fun σ => wipe_wipe σ _
theorem ds_setLc {i : Nat} {y : Str} {py spos : Pos} (hc : X.calm = true) (hN : X.N.Nodup) (hy : X.N[i]? = some y) (hyl : X.env.scope.names.lookup y = some .local)
    (hsw : swapsWith (.ListComp elt [⟨tg, iter, ifs, 0⟩] scope pos) (some (.Name y py)) spos.line X.env = pure true) (hi : DI X tg iter di) (ok : BlkOk X.N X.env.scope scope own) (ho : OwnG dg g X.K (own.map (·.2)))
    (hg : ∀ (s : Shared) (H : Hp) (C : Addr) (cl : List (Str × Addr)) (fp : List Addr), PG (X.blk s H scope (compEnvC scope cl C X.env) fp) tg g) (ht : ∀ (s : Shared) (H : Hp) (C : Addr) (cl : List (Str × Addr)) (fp : List Addr), DTs (X.blk s H scope (compEnvC scope cl C X.env) fp) ifs dt)
    (he : ∀ (s : Shared) (H : Hp) (C : Addr) (cl : List (Str × Addr)) (fp : List Addr), DE (X.blk s H scope (compEnvC scope cl C X.env) fp) elt de) (hs : ∀ x, foldedSetIterable iter X.env x = pure x := by intro _; rfl) :
    DS X (.Assign [.Name y py] (.ListComp elt [⟨tg, iter, ifs, 0⟩] scope pos) spos) (dAsg (dLc di dg dt de (own.map (·.2))) (gN i)) :=
  upS_of (ps_setLc hc hN hy hyl hsw hi ok hg ht he hs) fun M ρ S DD D σ H s c l q => by
    refine up_lc (fun _ _ _ h => h) ho M ρ S (fun d S1 => DD.nx (st ρ i d) S1) σ H _ s c (fun M1 v H1 d S1 g1 c1 hd q1 => ?_) q fun σ => wipe_wipe σ _
    exact l.nx M1 _ H1 _ S1 g1 ((s.mono g1).set hd i) c1 q1
end
/-! ### what is walked -/
section
variable {X : Cx} {tg e a b : Expr} {de da db : DTE} {dr : DTA} {p pos : Pos} {K : PySem.W.Frag} {M : Rg} {H : Hp}
def intsFrom (lo : Int) (n : Nat) : List D := (List.range n).map fun k => .int (lo + (k : Nat))
theorem itd_range {lo : Int} {n : Nat} : ItD K M H (Itr lo n) (intsFrom lo n) := fun M' H' _ i => by
  refine ⟨fun h => show n ≤ i by simpa [intsFrom] using h, fun d hd => ?_⟩
  have hi : i < n := by
    have := (List.getElem?_eq_some_iff.mp hd).1
    simpa [intsFrom] using this
  refine ⟨hi, fun x H2 hy => ?_⟩
  obtain ⟨e1, e2⟩ := hy
  subst e1 e2
  have ed : d = .int (lo + (i : Nat)) := by
    unfold intsFrom at hd
    rw [List.getElem?_map, List.getElem?_range hi] at hd
    exact (Option.some.inj hd).symm
  subst ed
  exact ⟨Fresh.refl, fun _ _ => dp_int⟩
def diRng1 (da : DTA) : DTI := fun ρ S R => da ρ S fun ds S1 => match ds with
  | [.int j] => j < 4611686018427387904 ∧ -4611686018427387904 ≤ j ∧ R (intsFrom 0 j.toNat) S1
  | _ => False
def diRng2 (da : DTA) : DTI := fun ρ S R => da ρ S fun ds S1 => match ds with
  | [.int i, .int j] => (i < 4611686018427387904 ∧ -4611686018427387904 ≤ i) ∧ (j < 4611686018427387904 ∧ -4611686018427387904 ≤ j) ∧ R (intsFrom i (j - i).toNat) S1
  | _ => False
theorem one_int {P : Int → Prop} {ds : List D} (q : match ds with
  | [.int j] => P j
  | _ => False) : ∃ j, ds = [.int j] ∧ P j := by
  cases ds with
  | nil => exact q.elim
  | cons d r =>
    cases r with
    | nil => cases d <;> first | exact ⟨_, rfl, q⟩ | exact q.elim
    | cons e r => cases d <;> exact q.elim
theorem two_ints {P : Int → Int → Prop} {ds : List D} (q : match ds with
  | [.int i, .int j] => P i j
  | _ => False) : ∃ i j, ds = [.int i, .int j] ∧ P i j := by
  cases ds with
  | nil => exact q.elim
  | cons d r =>
    cases r with
    | nil => cases d <;> exact q.elim
    | cons e r =>
      cases r with
      | nil => cases d with
        | int i => cases e <;> first | exact ⟨_, _, rfl, q⟩ | exact q.elim
        | _ => exact q.elim
      | cons f r => cases d with
        | int i => cases e <;> exact q.elim
        | _ => exact q.elim
theorem di_rng1 (hg : Gl X "range") (hm : X.mg "range" = none) (ha : DA X [a] dr) (hs : starEach [a] X.env = [(false, eval a X.env)] := by rfl) : DI X tg (.Call (.Name "range" p) [a] [] pos) (diRng1 dr) :=
  (pi_range1 hg hm ha hs).up fun σ H R ⟨M, ρ, S, RD, s, c, l, q⟩ => ⟨M, ρ, S, _, s, c, fun M1 vs H1 ds S1 g1 c1 hl q1 => by
    obtain ⟨j, eds, q1⟩ := one_int q1
    subst eds
    obtain ⟨v, r, e1, h1, h2⟩ := hl.uncons
    have e2 : r = [] := by simpa only [DpL] using h2
    subst e2 e1
    exact ⟨j, by rw [h1.int_inv], by have := q1.2.1; omega, by have := q1.1; omega, l M1 H1 _ _ S1 g1 c1 itd_range q1.2.2⟩, q⟩
theorem di_rng2 (hg : Gl X "range") (hm : X.mg "range" = none) (ha : DA X [a, b] dr) (hs : starEach [a, b] X.env = [(false, eval a X.env), (false, eval b X.env)] := by rfl) (hs2 : starEach [b] X.env = [(false, eval b X.env)] := by rfl) :
    DI X tg (.Call (.Name "range" p) [a, b] [] pos) (diRng2 dr) :=
  (pi_range2 hg hm ha hs hs2).up fun σ H R ⟨M, ρ, S, RD, s, c, l, q⟩ => ⟨M, ρ, S, _, s, c, fun M1 vs H1 ds S1 g1 c1 hl q1 => by
    obtain ⟨i, j, eds, q1⟩ := two_ints q1
    subst eds
    obtain ⟨v, r, e1, h1, h2⟩ := hl.uncons
    obtain ⟨v2, r2, e3, h3, h4⟩ := h2.uncons
    have e2 : r2 = [] := by simpa only [DpL] using h4
    subst e2 e3 e1
    exact ⟨i, j, by rw [h1.int_inv, h3.int_inv], by have := q1.1; have := q1.2.1; omega, l M1 H1 _ _ S1 g1 c1 itd_range q1.2.2⟩, q⟩
theorem itd_list {a : Addr} {vs : List V} {ds : List D} (h : H a = some (.lst vs)) (n : M.no a) (hl : DpL K M H ds vs) : ItD K M H (Itl K a) ds := fun M' H' lt i => by
  obtain ⟨n', h'⟩ := lt.at_ a _ h n
  have len := hl.len
  refine ⟨fun hi => ⟨vs, SqL.of h', by omega⟩, fun d hd => ?_⟩
  obtain ⟨v, ev, hv⟩ := hl.get hd
  refine ⟨⟨vs, v, SqL.of h', ev⟩, fun x H2 hy => ?_⟩
  obtain ⟨e1, e2⟩ := hy
  subst e1
  have ex := e2 vs (SqL.of h')
  rw [ev] at ex
  cases ex
  exact ⟨Fresh.refl, fun _ _ => hv.later lt⟩
theorem itd_tup {a : Addr} {vs : List V} {ds : List D} (h : H a = some (.tup vs)) (n : M.no a) (hl : DpL K M H ds vs) : ItD K M H (Itt K a) ds := fun M' H' lt i => by
  obtain ⟨n', h'⟩ := lt.at_ a _ h n
  have len := hl.len
  refine ⟨fun hi => ⟨vs, SqT.of h', by omega⟩, fun d hd => ?_⟩
  obtain ⟨v, ev, hv⟩ := hl.get hd
  refine ⟨⟨vs, v, SqT.of h', ev⟩, fun x H2 hy => ?_⟩
  obtain ⟨e1, e2⟩ := hy
  subst e1
  have ex := e2 vs (SqT.of h')
  rw [ev] at ex
  cases ex
  exact ⟨Fresh.refl, fun _ _ => hv.later lt⟩
/-- a list or a tuple -/
def diSeq (de : DTE) : DTI := fun ρ S R => de ρ S fun d S1 => match d with
  | .scr ns => R (ns.map D.int) S1
  | .lst ds => R ds S1
  | .tup ds => R ds S1
  | _ => False
theorem dpl_nums {K : PySem.W.Frag} {M : Rg} {H : Hp} : ∀ ns : List Int, DpL K M H (ns.map D.int) (ns.map V.int)
  | [] => DpL.nil
  | n :: r => DpL.cons dp_int (dpl_nums r)
theorem itd_scr {a : Addr} {o : Obj} {ns : List Int} (h : H a = some (.frz o (.lst (ns.map V.int)))) (n : M.no a) : ItD K M H (Itl K a) (ns.map D.int) := fun M' H' lt i => by
  obtain ⟨n', h'⟩ := lt.at_ a _ h n
  have hq : SqL K H' a (ns.map V.int) := .inl (.inr ⟨o, h'⟩)
  have hl : DpL K M' H' (ns.map D.int) (ns.map V.int) := dpl_nums ns
  have len := hl.len
  refine ⟨fun hi => ⟨_, hq, by omega⟩, fun d hd => ?_⟩
  obtain ⟨v, ev, hv⟩ := hl.get hd
  refine ⟨⟨_, v, hq, ev⟩, fun x H2 hy => ?_⟩
  obtain ⟨e1, e2⟩ := hy
  subst e1
  have ex := e2 _ hq
  rw [ev] at ex
  cases ex
  exact ⟨Fresh.refl, fun _ _ => hv⟩
theorem di_seq (he : DE X e de) : DI X tg e (diSeq de) := ⟨fun pins s σ H R I ⟨M, ρ, S, RD, sl, c, l, q⟩ => by
  refine thn (he.run pins s σ H (fun v H1 => ∃ M1 d S1, Grow M H M1 H1 ∧ Cells X.K M1 H1 S1 ∧ Dp X.K M1 H1 d v ∧ (match d with
    | .scr ns => RD (ns.map D.int) S1
    | .lst ds => RD ds S1
    | .tup ds => RD ds S1
    | _ => False)) I ⟨M, ρ, S, _, sl, c, fun M1 v H1 d S1 g1 c1 hd q1 => ⟨M1, d, S1, g1, c1, hd, q1⟩, q⟩) fun v s1 ⟨x, H1, I1, r1, M1, d, S1, g1, c1, hd, q1⟩ => ?_
  cases d with
  | scr ns =>
    simp only [Dp] at hd
    obtain ⟨a, o, ev, na, ha⟩ := hd
    subst ev
    cases r1
    have q1 : RD (ns.map D.int) S1 := q1
    have hq : SqL X.K H1 a (ns.map V.int) := Or.inl (Or.inr ⟨o, ha⟩)
    obtain ⟨its, rv, p, hz⟩ := I1.list hq
    refine wpAny_pyIter_list p.isList ⟨s1.heap.objs.size, [s1.heap.objs.size], _, _, H1, rfl, I1.kept (t' := s1.toks) fun b o e => Heap.get?_push_of_some _ e, turn_list a _, ⟨_, Heap.get?_push_size _ rfl, rfl, rfl⟩, fun b hb => ?_, l M1 H1 _ _ S1 g1 c1 (itd_scr ha na) q1⟩
    rw [List.mem_singleton.mp hb]
    exact I1.fpOk (Nat.le_refl _) (I1.hok.fresh (Nat.le_refl _))
  | lst ds =>
    obtain ⟨a, vs, ev, na, ha, hl⟩ := hd.lst_inv
    subst ev
    cases r1
    obtain ⟨its, rv, p, hz⟩ := I1.list (SqL.of ha)
    refine wpAny_pyIter_list p.isList ⟨s1.heap.objs.size, [s1.heap.objs.size], _, _, H1, rfl, I1.kept (t' := s1.toks) fun b o e => Heap.get?_push_of_some _ e, turn_list a _, ⟨_, Heap.get?_push_size _ rfl, rfl, rfl⟩, fun b hb => ?_, l M1 H1 _ ds S1 g1 c1 (itd_list ha na hl) q1⟩
    rw [List.mem_singleton.mp hb]
    exact I1.fpOk (Nat.le_refl _) (I1.hok.fresh (Nat.le_refl _))
  | tup ds =>
    obtain ⟨a, vs, ev, na, ha, hl⟩ := hd.tup_inv
    subst ev
    cases r1
    obtain ⟨its, rv, p, hz⟩ := I1.tuple (SqT.of ha)
    refine wpAny_pyIter_tuple (show s1.heap.IsTuple a its.toArray from p) ⟨s1.heap.objs.size, [s1.heap.objs.size], _, _, H1, rfl, I1.kept (t' := s1.toks) fun b o e => Heap.get?_push_of_some _ e, turn_tuple a _, ⟨_, Heap.get?_push_size _ rfl, rfl, rfl⟩, fun b hb => ?_, l M1 H1 _ ds S1 g1 c1 (itd_tup ha na hl) q1⟩
    rw [List.mem_singleton.mp hb]
    exact I1.fpOk (Nat.le_refl _) (I1.hok.fresh (Nat.le_refl _))
  | _ => exact q1.elim⟩
/-- reversed(a list) -/
theorem itd_rev {a : Addr} {vs : List V} {ds : List D} (h : H a = some (.lst vs)) (n : M.no a) (hl : DpL K M H ds vs) : ItD K M H (Itv K a vs.length) ds.reverse := fun M' H' lt i => by
  obtain ⟨n', h'⟩ := lt.at_ a _ h n
  have len := hl.len
  refine ⟨fun hi => show vs.length ≤ i by rw [List.length_reverse] at hi; omega, fun d hd => ?_⟩
  have hi : i < ds.length := by
    have := (List.getElem?_eq_some_iff.mp hd).1
    rwa [List.length_reverse] at this
  rw [List.getElem?_reverse hi] at hd
  obtain ⟨v, ev, hv⟩ := hl.get hd
  rw [len] at ev
  refine ⟨⟨by omega, vs, v, SqL.of h', ev⟩, fun x H2 hy => ?_⟩
  obtain ⟨e1, e2⟩ := hy
  subst e1
  have ex := e2 vs (SqL.of h')
  rw [ev] at ex
  cases ex
  exact ⟨Fresh.refl, fun _ _ => hv.later lt⟩
def diRev (de : DTE) : DTI := fun ρ S R => de ρ S fun d S1 => match d with
  | .lst ds => R ds.reverse S1
  | _ => False
theorem di_rev (hg : Gl X "reversed") (hm : X.mg "reversed" = none) (he : DE X e de) (hs : starEach [e] X.env = [(false, eval e X.env)] := by rfl) : DI X tg (.Call (.Name "reversed" p) [e] [] pos) (diRev de) :=
  (pi_reversed (ta := tCons (upE X.K de) tNil) hg hm (pa_cons he pa_nil (by rw [hs]; rfl)) hs).up fun σ H R ⟨M, ρ, S, RD, s, c, l, q⟩ => ⟨M, ρ, S, _, s, c, fun M1 v H1 d S1 g1 c1 hd q1 => by
    cases d with
    | lst ds =>
      obtain ⟨a, vs, ev, na, ha, hl⟩ := hd.lst_inv
      exact ⟨a, vs, by rw [ev], SqL.of ha, l M1 H1 _ _ S1 g1 c1 (itd_rev ha na hl) q1⟩
    | _ => exact q1.elim, q⟩
/-! ### enumerate, zip -/
def enumD : Nat → List D → List D
  | _, [] => []
  | k, d :: r => .tup [.int (k : Nat), d] :: enumD (k + 1) r
theorem enumD_len : ∀ (ds : List D) (k : Nat), (enumD k ds).length = ds.length
  | [], _ => rfl
  | d :: r, k => by
    show (enumD (k + 1) r).length + 1 = r.length + 1
    rw [enumD_len r]
theorem enumD_get : ∀ (ds : List D) (k i : Nat) (x : D), (enumD k ds)[i]? = some x → ∃ d, ds[i]? = some d ∧ x = .tup [.int ((k + i : Nat) : Int), d]
  | [], _, _, _, h => by simp [enumD] at h
  | d :: r, k, 0, x, h => ⟨d, rfl, by
    have : D.tup [.int (k : Nat), d] = x := Option.some.inj h
    exact this.symm⟩
  | d :: r, k, i + 1, x, h => by
    obtain ⟨y, h1, h2⟩ := enumD_get r (k + 1) i x h
    refine ⟨y, by simpa using h1, ?_⟩
    rw [h2, show k + 1 + i = k + (i + 1) by omega]
/-- a new pair at a turn -/
theorem pair_new {T : Addr} {v1 v2 : V} {d1 d2 : D} {H2 : Hp} (hT : H T = none) (e : H2 = upd H T (.tup [v1, v2])) (h1 : Dp K M H d1 v1) (h2 : Dp K M H d2 v2) : Fresh H H2 ∧ ∀ S, Cells K M H S → Dp K M H2 (.tup [d1, d2]) (.ref T) := by
  subst e
  exact ⟨Fresh.new hT, fun S c => new_tup c hT (DpL.cons h1 (DpL.cons h2 DpL.nil))⟩
theorem itd_enum {a : Addr} {vs : List V} {ds : List D} (h : H a = some (.lst vs)) (n : M.no a) (hl : DpL K M H ds vs) : ItD K M H (Ite K a) (enumD 0 ds) := fun M' H' lt i => by
  obtain ⟨n', h'⟩ := lt.at_ a _ h n
  have len := hl.len
  refine ⟨fun hi => ⟨vs, SqL.of h', by rw [enumD_len] at hi; omega⟩, fun d hd => ?_⟩
  obtain ⟨y, hy, ed⟩ := enumD_get ds 0 i d hd
  obtain ⟨v, ev, hv⟩ := hl.get hy
  refine ⟨⟨vs, v, SqL.of h', ev⟩, fun x H2 hx => ?_⟩
  obtain ⟨T, w, ex, hT, e2, e3⟩ := hx
  have ew := e3 vs (SqL.of h')
  rw [ev] at ew
  cases ew
  rw [ed, ex, Nat.zero_add]
  exact pair_new hT e2 dp_int (hv.later lt)
theorem itd_enumT {a : Addr} {vs : List V} {ds : List D} (h : H a = some (.tup vs)) (n : M.no a) (hl : DpL K M H ds vs) : ItD K M H (TAE.IteT K a) (enumD 0 ds) := fun M' H' lt i => by
  obtain ⟨n', h'⟩ := lt.at_ a _ h n
  have len := hl.len
  refine ⟨fun hi => ⟨vs, SqT.of h', by rw [enumD_len] at hi; omega⟩, fun d hd => ?_⟩
  obtain ⟨y, hy, ed⟩ := enumD_get ds 0 i d hd
  obtain ⟨v, ev, hv⟩ := hl.get hy
  refine ⟨⟨vs, v, SqT.of h', ev⟩, fun x H2 hx => ?_⟩
  obtain ⟨T, w, ex, hT, e2, e3⟩ := hx
  have ew := e3 vs (SqT.of h')
  rw [ev] at ew
  cases ew
  rw [ed, ex, Nat.zero_add]
  exact pair_new hT e2 dp_int (hv.later lt)
def diEnum (de : DTE) : DTI := fun ρ S R => de ρ S fun d S1 => match d with
  | .lst ds => R (enumD 0 ds) S1
  | .tup ds => R (enumD 0 ds) S1
  | _ => False
theorem di_enum {elts : List Expr} {kk : Nat} {tpos : Pos} (hg : Gl X "enumerate") (hm : X.mg "enumerate" = none) (he : DE X e de) (hs : starEach [e] X.env = [(false, eval e X.env)] := by rfl) :
    DI X (.Tuple elts kk tpos) (.Call (.Name "enumerate" p) [e] [] pos) (diEnum de) := ⟨fun pins s σ H R I ⟨M, ρ, S, RD, sl, c, l, q⟩ => by
  have ha : PA X [e] (tCons (upE X.K de) tNil) := pa_cons he pa_nil (by rw [hs]; rfl)
  refine Call_ (ld_blt I hg hm boot_enumerate (PyProof.Rows.callWith_type1 (thn (ha.run pos pins s σ H (fun us H1 => ∃ v M1 d S1, us = [v] ∧ Grow M H M1 H1 ∧ Cells X.K M1 H1 S1 ∧ Dp X.K M1 H1 d v ∧ (match d with
    | .lst ds => RD (enumD 0 ds) S1
    | .tup ds => RD (enumD 0 ds) S1
    | _ => False)) I ⟨M, ρ, S, _, sl, c, fun M1 v H1 d S1 g1 c1 hd q1 => ⟨v, M1, d, S1, rfl, g1, c1, hd, q1⟩, q⟩) fun us s1 ⟨vs, H1, I1, r1, v, M1, d, S1, e1, g1, c1, hd, q1⟩ => ?_) hs rfl))
  subst e1
  obtain ⟨u, eu, ru⟩ := vals1 r1
  subst eu
  cases d with
  | lst ds =>
    obtain ⟨a, vs, ev, na, ha, hl⟩ := hd.lst_inv
    subst ev
    cases ru
    obtain ⟨its, rv, p', hz⟩ := I1.list (SqL.of ha)
    refine call_enumerate_list p'.isList fun h' he hit hsz hk => wpAny_pyIter_enum he ?_
    have I2 : Inv X pins σ H1 { s1 with heap := h' } := I1.kept (t' := s1.toks) hk
    refine ⟨s1.heap.objs.size + 1, [s1.heap.objs.size + 1, s1.heap.objs.size], _, _, H1, rfl, I2, turn_enum a (s1.heap.objs.size + 1) s1.heap.objs.size, ⟨⟨.none, he⟩, hit, Nat.succ_ne_self _⟩, fun b hb => ?_, l M1 H1 _ _ S1 g1 c1 (itd_enum ha na hl) q1⟩
    have hle : s1.heap.objs.size ≤ b := by
      rcases List.mem_cons.mp hb with z | z
      · rw [z]; exact Nat.le_succ _
      · rw [List.mem_singleton.mp z]; exact Nat.le_refl _
    exact I1.fpOk hle (I1.hok.fresh hle)
  | tup ds =>
    obtain ⟨a, vs, ev, na, ha, hl⟩ := hd.tup_inv
    subst ev
    cases ru
    obtain ⟨its, rv, p', hz⟩ := I1.tuple (SqT.of ha)
    refine TAE.call_enumT p' fun h' he hit hk => wpAny_pyIter_enum he ?_
    have I2 : Inv X pins σ H1 { s1 with heap := h' } := I1.kept (t' := s1.toks) hk
    refine ⟨s1.heap.objs.size + 1, [s1.heap.objs.size + 1, s1.heap.objs.size], _, _, H1, rfl, I2, TAE.turn_enumT a (s1.heap.objs.size + 1) s1.heap.objs.size, ⟨⟨.none, he⟩, hit, Nat.succ_ne_self _⟩, fun b hb => ?_, l M1 H1 _ _ S1 g1 c1 (itd_enumT ha na hl) q1⟩
    have hle : s1.heap.objs.size ≤ b := by
      rcases List.mem_cons.mp hb with z | z
      · rw [z]; exact Nat.le_succ _
      · rw [List.mem_singleton.mp z]; exact Nat.le_refl _
    exact I1.fpOk hle (I1.hok.fresh hle)
  | _ => exact q1.elim⟩
/-- zip of two tuples -/
def zipD : List D → List D → List D
  | x :: xs, y :: ys => .tup [x, y] :: zipD xs ys
  | _, _ => []
theorem zipD_len : ∀ xs ys : List D, (zipD xs ys).length = min xs.length ys.length
  | [], _ => by simp [zipD]
  | _ :: _, [] => by simp [zipD]
  | x :: xs, y :: ys => by
    show (zipD xs ys).length + 1 = _
    rw [zipD_len xs ys, List.length_cons, List.length_cons]
    omega
theorem zipD_get : ∀ (xs ys : List D) (i : Nat) (z : D), (zipD xs ys)[i]? = some z → ∃ x y, xs[i]? = some x ∧ ys[i]? = some y ∧ z = .tup [x, y]
  | [], _, _, _, h => by simp [zipD] at h
  | _ :: _, [], _, _, h => by simp [zipD] at h
  | x :: xs, y :: ys, 0, z, h => ⟨x, y, rfl, rfl, (Option.some.inj h).symm⟩
  | x :: xs, y :: ys, i + 1, z, h => by
    obtain ⟨a, b, h1, h2, h3⟩ := zipD_get xs ys i z h
    exact ⟨a, b, by simpa using h1, by simpa using h2, h3⟩
theorem itd_zipT {a b : Addr} {vs ws : List V} {ds es : List D} (h : H a = some (.tup vs)) (n : M.no a) (hl : DpL K M H ds vs) (h' : H b = some (.tup ws)) (n' : M.no b) (hl' : DpL K M H es ws) : ItD K M H (RZ.ItzT K a b) (zipD ds es) := fun M' H' lt i => by
  obtain ⟨_, k⟩ := lt.at_ a _ h n
  obtain ⟨_, k'⟩ := lt.at_ b _ h' n'
  have len := hl.len
  have len' := hl'.len
  refine ⟨fun hi => ⟨vs, ws, SqT.of k, SqT.of k', by rw [zipD_len] at hi; omega⟩, fun d hd => ?_⟩
  obtain ⟨x, y, hx, hy, ed⟩ := zipD_get ds es i d hd
  obtain ⟨v, ev, hv⟩ := hl.get hx
  obtain ⟨w, ew, hw⟩ := hl'.get hy
  refine ⟨⟨vs, ws, v, w, SqT.of k, SqT.of k', ev, ew⟩, fun z H2 hz => ?_⟩
  obtain ⟨T, v2, w2, ez, hT, e2, e3, e4⟩ := hz
  have q1 := e3 vs (SqT.of k)
  have q2 := e4 ws (SqT.of k')
  rw [ev] at q1
  rw [ew] at q2
  cases q1
  cases q2
  rw [ed, ez]
  exact pair_new hT e2 (hv.later lt) (hw.later lt)
def diZip (da db : DTE) : DTI := fun ρ S R => da ρ S fun x S1 => db ρ S1 fun y S2 => match x, y with
  | .tup ds, .tup es => R (zipD ds es) S2
  | _, _ => False
theorem di_zip {e2 : Expr} {elts : List Expr} {kk : Nat} {tpos : Pos} (hg : Gl X "zip") (hm : X.mg "zip" = none) (ha : DE X e da) (hb : DE X e2 db)
    (hs : starEach [e, e2] X.env = (false, eval e X.env) :: starEach [e2] X.env := by rfl) (hpl : (backTo pos (starEach [e2] X.env)).any (·.1) = false := by rfl) (hs2 : starEach [e2] X.env = [(false, eval e2 X.env)] := by rfl) :
    DI X (.Tuple elts kk tpos) (.Call (.Name "zip" p) [e, e2] [] pos) (diZip da db) :=
  (RZ.pi_zipA (ta := tCons (upE X.K da) (tCons (upE X.K db) tNil)) hg hm (pa_cons ha (pa_cons hb pa_nil (by rw [hs2]; rfl)) hs) hs hpl).up fun σ H R ⟨M, ρ, S, RD, s, c, l, q⟩ =>
    ⟨M, ρ, S, _, s, c, fun M1 v H1 d S1 g1 c1 hd q1 => ⟨M1, ρ, S1, _, s.mono g1, c1, fun M2 w H2 d2 S2 g2 c2 hd2 q2 => by
      cases d with
      | tup ds => cases d2 with
        | tup es =>
          obtain ⟨a, vs, ev, na, ha, hl⟩ := (hd.mono g2).tup_inv
          obtain ⟨b, ws, ew, nb, hb, hl'⟩ := hd2.tup_inv
          exact ⟨a, b, vs, ws, by rw [ev, ew], .inr ⟨SqT.of ha, SqT.of hb, l M2 H2 _ _ S2 (g1.trans g2) c2 (itd_zipT ha na hl hb nb hl') q2⟩⟩
        | _ => exact q2.elim
      | _ => exact q2.elim, q1⟩, q⟩
end
end TA
set_option Elab.async false
set_option linter.all false
set_option maxRecDepth 100000
set_option maxHeartbeats 4000000
namespace TA
open PySem PySem.Spec L2
open PyProof.Rows hiding St
/-! ### whole numbers -/
def rd2I (k : Int → Int → Stt → QE → Prop) : DR2 := fun x y S Q => match x, y with
  | .int i, .int j => k i j S Q
  | _, _ => False
theorem rd2I_inv {k : Int → Int → Stt → QE → Prop} {x y : D} {S : Stt} {Q : QE} (q : rd2I k x y S Q) : ∃ i j, x = .int i ∧ y = .int j ∧ k i j S Q := by
  cases x with
  | int i => cases y with
    | int j => exact ⟨i, j, rfl, rfl, q⟩
    | _ => exact q.elim
  | _ => exact q.elim
abbrev rdI (g : Int → Int → Int) : DR2 := rd2I fun i j S Q => Q (.int (g i j)) S
abbrev rdB (g : Int → Int → Bool) : DR2 := rd2I fun i j S Q => Q (.bl (g i j)) S
abbrev rdIC (C : Int → Int → Prop) (g : Int → Int → Int) : DR2 := rd2I fun i j S Q => C i j ∧ Q (.int (g i j)) S
section
variable {K : PySem.W.Frag} {X : Cx}
theorem opd_I {g : Int → Int → Int} : OpD K (rI0 fun i j => .int (g i j)) (rdI g) := fun M H S x y dx dy Q QD c hx hy l q => by
  obtain ⟨i, j, rfl, rfl, q⟩ := rd2I_inv q
  exact ⟨i, j, hx.int_inv, hy.int_inv, l M _ H _ S Grow.refl c dp_int q⟩
theorem opd_B {g : Int → Int → Bool} : OpD K (rI0 fun i j => .bl (g i j)) (rdB g) := fun M H S x y dx dy Q QD c hx hy l q => by
  obtain ⟨i, j, rfl, rfl, q⟩ := rd2I_inv q
  exact ⟨i, j, hx.int_inv, hy.int_inv, l M _ H _ S Grow.refl c dp_bl q⟩
theorem opd_IC {C : Int → Int → Prop} {g : Int → Int → Int} : OpD K (rI C fun i j => .int (g i j)) (rdIC C g) := fun M H S x y dx dy Q QD c hx hy l q => by
  obtain ⟨i, j, rfl, rfl, q⟩ := rd2I_inv q
  exact ⟨i, j, hx.int_inv, hy.int_inv, q.1, l M _ H _ S Grow.refl c dp_int q.2⟩
abbrev rdAdd : DR2 := rdI fun i j => i + j
abbrev rdSub : DR2 := rdI fun i j => i - j
abbrev rdMul : DR2 := rdIC CMul fun i j => i * j
abbrev rdDiv : DR2 := rdIC CDiv fun i j => i / j
abbrev rdMod : DR2 := rdIC (fun _ j => 0 < j) fun i j => i % j
abbrev rdPow : DR2 := rdIC CPow fun i j => i ^ j.toNat
abbrev rdShl : DR2 := rdIC CPow fun i j => i * 2 ^ j.toNat
abbrev rdShr : DR2 := rdIC (fun _ j => 0 ≤ j) fun i j => i / 2 ^ j.toNat
abbrev rdAnd : DR2 := rdI Builtin.bitAnd
abbrev rdOr : DR2 := rdI Builtin.bitOr
abbrev rdXor : DR2 := rdI Builtin.bitXor
abbrev rdLt : DR2 := rdB fun i j => decide (i < j)
abbrev rdLe : DR2 := rdB fun i j => decide (i ≤ j)
abbrev rdGt : DR2 := rdB fun i j => decide (j < i)
abbrev rdGe : DR2 := rdB fun i j => decide (j ≤ i)
def rdNeg : D → Stt → QE → Prop := fun x S Q => match x with
  | .int i => Q (.int (-i)) S
  | _ => False
theorem und_neg : UnD K (rU fun i => .int (-i)) rdNeg := fun M H S x dx Q QD c hx l q => by
  cases dx with
  | int i => exact ⟨i, hx.int_inv, l M _ H _ S Grow.refl c dp_int q⟩
  | _ => exact q.elim
/-! ### == of numbers, texts, bools -/
def rdEq : DR2 := fun x y S Q => match x, y with
  | .int i, .int j => Q (.bl (decide (i = j))) S
  | .str i, .str j => Q (.bl (decide (i = j))) S
  | .bl i, .bl j => Q (.bl (decide (i = j))) S
  | _, _ => False
def rdNe : DR2 := fun x y S Q => match x, y with
  | .int i, .int j => Q (.bl (!decide (i = j))) S
  | .str i, .str j => Q (.bl (!decide (i = j))) S
  | .bl i, .bl j => Q (.bl (!decide (i = j))) S
  | _, _ => False
theorem vint_dec {i j : Int} : decide (V.int i = V.int j) = decide (i = j) := by
  by_cases e : i = j
  · subst e; simp
  · rw [decide_eq_false e, decide_eq_false (fun z => e (V.int.inj z))]
theorem vstr_dec {i j : Str} : decide (V.str i = V.str j) = decide (i = j) := by
  by_cases e : i = j
  · subst e; simp
  · rw [decide_eq_false e, decide_eq_false (fun z => e (V.str.inj z))]
theorem vbl_dec {i j : Bool} : decide (V.bl i = V.bl j) = decide (i = j) := by
  by_cases e : i = j
  · subst e; simp
  · rw [decide_eq_false e, decide_eq_false (fun z => e (V.bl.inj z))]
theorem opd_eq : OpD K rEq rdEq := fun M H S x y dx dy Q QD c hx hy l q => by
  cases dx with
  | int i => cases dy with
    | int j => rw [hx.int_inv, hy.int_inv]; exact ⟨rfl, by rw [vint_dec]; exact l M _ H _ S Grow.refl c dp_bl q⟩
    | _ => exact q.elim
  | str i => cases dy with
    | str j => rw [hx.str_inv, hy.str_inv]; exact ⟨rfl, by rw [vstr_dec]; exact l M _ H _ S Grow.refl c dp_bl q⟩
    | _ => exact q.elim
  | bl i => cases dy with
    | bl j => rw [hx.bl_inv, hy.bl_inv]; exact ⟨rfl, by rw [vbl_dec]; exact l M _ H _ S Grow.refl c dp_bl q⟩
    | _ => exact q.elim
  | _ => exact q.elim
theorem opd_ne : OpD K rNe rdNe := fun M H S x y dx dy Q QD c hx hy l q => by
  cases dx with
  | int i => cases dy with
    | int j => rw [hx.int_inv, hy.int_inv]; exact ⟨rfl, by rw [vint_dec]; exact l M _ H _ S Grow.refl c dp_bl q⟩
    | _ => exact q.elim
  | str i => cases dy with
    | str j => rw [hx.str_inv, hy.str_inv]; exact ⟨rfl, by rw [vstr_dec]; exact l M _ H _ S Grow.refl c dp_bl q⟩
    | _ => exact q.elim
  | bl i => cases dy with
    | bl j => rw [hx.bl_inv, hy.bl_inv]; exact ⟨rfl, by rw [vbl_dec]; exact l M _ H _ S Grow.refl c dp_bl q⟩
    | _ => exact q.elim
  | _ => exact q.elim
/-! ### is None, is True -/
def isNon : D → Bool
  | .non => true
  | _ => false
def notMut : D → Bool
  | .hdl _ => false
  | _ => true
theorem isNon_dec {M : Rg} {H : Hp} {d : D} {v : V} (h : Dp K M H d v) : decide (v = .non) = isNon d := by
  cases d with
  | non => rw [h.non_inv]; rfl
  | bl b => rw [h.bl_inv]; rfl
  | int b => rw [h.int_inv]; rfl
  | str b => rw [h.str_inv]; rfl
  | tup ds => obtain ⟨a, vs, e, _⟩ := h.tup_inv; rw [e]; rfl
  | lst ds => obtain ⟨a, vs, e, _⟩ := h.lst_inv; rw [e]; rfl
  | hdl n => obtain ⟨a, e, _⟩ := h.hdl_inv; rw [e]; rfl
  | scr ns =>
    simp only [Dp] at h
    obtain ⟨a, o, e, _⟩ := h
    rw [e]; rfl
  | dic ks ds =>
    simp only [Dp] at h
    obtain ⟨a, vs, e, _⟩ := h
    rw [e]; rfl
  | obj c fs ds =>
    simp only [Dp] at h
    obtain ⟨a, dx, vs, e, _⟩ := h
    rw [e]; rfl
def rdIsN : DR2 := fun x y S Q => match y with
  | .non => Q (.bl (isNon x)) S
  | _ => False
def rdNotN : DR2 := fun x y S Q => match y with
  | .non => Q (.bl (!isNon x)) S
  | _ => False
theorem opd_isN : OpD K (fun x y H Q => y = .non ∧ Q (.bl (decide (x = .non))) H) rdIsN := fun M H S x y dx dy Q QD c hx hy l q => by
  cases dy with
  | non => exact ⟨hy.non_inv, by rw [isNon_dec hx]; exact l M _ H _ S Grow.refl c dp_bl q⟩
  | _ => exact q.elim
theorem opd_notN : OpD K (fun x y H Q => y = .non ∧ Q (.bl (!decide (x = .non))) H) rdNotN := fun M H S x y dx dy Q QD c hx hy l q => by
  cases dy with
  | non => exact ⟨hy.non_inv, by rw [isNon_dec hx]; exact l M _ H _ S Grow.refl c dp_bl q⟩
  | _ => exact q.elim
def rdIsB : DR2 := fun x y S Q => match x, y with
  | .bl a, .bl b => Q (.bl (decide (a = b))) S
  | _, _ => False
theorem opd_isB : OpD K rIsB rdIsB := fun M H S x y dx dy Q QD c hx hy l q => by
  cases dx with
  | bl a => cases dy with
    | bl b => exact ⟨a, b, hx.bl_inv, hy.bl_inv, l M _ H _ S Grow.refl c dp_bl q⟩
    | _ => exact q.elim
  | _ => exact q.elim
/-! ### truth -/
def rdTru : D → Stt → (Bool → Stt → Prop) → Prop := fun x S Q => match x with
  | .int i => Q (i != 0) S
  | .bl b => Q b S
  | .lst ds => Q (!ds.isEmpty) S
  | .hdl n => match S[n]? with
    | some (.lst ds) => Q (!ds.isEmpty) S
    | _ => False
  | _ => False
theorem empty_of {M : Rg} {H : Hp} {ds : List D} {vs : List V} (h : DpL K M H ds vs) : (!ds.isEmpty) = !vs.isEmpty := by
  cases ds with
  | nil =>
    have e : vs = [] := by simpa only [DpL] using h
    rw [e]; rfl
  | cons d r =>
    obtain ⟨v, r, e, _⟩ := h.uncons
    rw [e]; rfl
theorem Cells.lst {M : Rg} {H : Hp} {S : Stt} (c : Cells K M H S) {n : Nat} {a : Addr} {ds : List D} (h : M.m[n]? = some a) (k : S[n]? = some (.lst ds)) : ∃ vs, H a = some (.lst vs) ∧ DpL K M H ds vs := c.ok n a _ h k
theorem trud : TruD K (fun x H Q => ∃ k, TruV K x H k ∧ Q k H) rdTru := fun M H S x dx Q QD c hx l q => by
  cases dx with
  | int i => exact ⟨(i != 0), by rw [hx.int_inv]; rfl, l M _ H S Grow.refl c q⟩
  | bl i => exact ⟨i, by rw [hx.bl_inv]; rfl, l M _ H S Grow.refl c q⟩
  | lst ds =>
    obtain ⟨a, vs, e, na, ha, hl⟩ := hx.lst_inv
    exact ⟨!ds.isEmpty, by rw [e]; exact .inl ⟨vs, SqL.of ha, empty_of hl⟩, l M _ H S Grow.refl c q⟩
  | hdl n =>
    obtain ⟨a, e, ha⟩ := hx.hdl_inv
    have q : (match S[n]? with
      | some (.lst ds) => QD (!ds.isEmpty) S
      | _ => False) := q
    cases hs : S[n]? with
    | none => rw [hs] at q; exact q.elim
    | some cc =>
      rw [hs] at q
      cases cc with
      | lst ds =>
        obtain ⟨vs, hv, hl⟩ := c.lst ha hs
        exact ⟨!ds.isEmpty, by rw [e]; exact .inl ⟨vs, SqL.of hv, empty_of hl⟩, l M _ H S Grow.refl c q⟩
      | _ => exact q.elim
  | _ => exact q.elim
/-! ### sequences: a list or a tuple as data, or a mutable list -/
def lstAt (S : Stt) (n : Nat) : Option (List D) := match S[n]? with
  | some (.lst ds) => some ds
  | _ => none
theorem lstAt_inv {S : Stt} {n : Nat} {ds : List D} (h : lstAt S n = some ds) : S[n]? = some (.lst ds) := by
  unfold lstAt at h
  cases e : S[n]? with
  | none => rw [e] at h; cases h
  | some c =>
    rw [e] at h
    cases c with
    | lst es => cases h; rfl
    | _ => cases h
theorem lstAt_of {S : Stt} {n : Nat} {ds : List D} (h : S[n]? = some (.lst ds)) : lstAt S n = some ds := by
  unfold lstAt
  rw [h]
def seqD (S : Stt) : D → Option (List D)
  | .lst ds => some ds
  | .tup ds => some ds
  | .hdl n => lstAt S n
  | _ => none
theorem seq_inv {M : Rg} {H : Hp} {S : Stt} {d : D} {v : V} {ds : List D} (c : Cells K M H S) (h : Dp K M H d v) (e : seqD S d = some ds) : ∃ a vs, v = .ref a ∧ DpL K M H ds vs ∧ (H a = some (.lst vs) ∨ H a = some (.tup vs)) := by
  cases d with
  | lst es =>
    cases e
    obtain ⟨a, vs, e, na, ha, hl⟩ := h.lst_inv
    exact ⟨a, vs, e, hl, .inl ha⟩
  | tup es =>
    cases e
    obtain ⟨a, vs, e, na, ha, hl⟩ := h.tup_inv
    exact ⟨a, vs, e, hl, .inr ha⟩
  | hdl n =>
    obtain ⟨a, ev, ha⟩ := h.hdl_inv
    obtain ⟨vs, hv, hl⟩ := c.lst ha (lstAt_inv e)
    exact ⟨a, vs, ev, hl, .inl hv⟩
  | _ => cases e
theorem sq_of {H : Hp} {a : Addr} {vs : List V} (h : H a = some (.lst vs) ∨ H a = some (.tup vs)) : SqL K H a vs ∨ SqT K H a vs := h.imp SqL.of SqT.of
def nth : List D → Nat → Option D
  | [], _ => none
  | x :: _, 0 => some x
  | _ :: r, n + 1 => nth r n
theorem nth_eq : ∀ (l : List D) (n : Nat), nth l n = l[n]?
  | [], _ => by simp [nth]
  | x :: r, 0 => rfl
  | x :: r, n + 1 => by
    show nth r n = _
    rw [nth_eq r n]
    simp
/-- the item at a place of any sign -/
def ixD (ds : List D) : Int → Option D
  | .ofNat n => nth ds n
  | .negSucc n => if n < ds.length then nth ds (ds.length - 1 - n) else none
theorem ixD_at {M : Rg} {H : Hp} {ds : List D} {vs : List V} (h : DpL K M H ds vs) {i : Int} {d : D} (e : ixD ds i = some d) : ∃ v, atI vs i = some v ∧ Dp K M H d v := by
  have len := h.len
  cases i with
  | ofNat n =>
    have e : nth ds n = some d := e
    rw [nth_eq] at e
    obtain ⟨v, ev, hv⟩ := h.get e
    exact ⟨v, atI_nat ev, hv⟩
  | negSucc n =>
    have e : (if n < ds.length then nth ds (ds.length - 1 - n) else none) = some d := e
    by_cases hn : n < ds.length
    · rw [if_pos hn, nth_eq] at e
      obtain ⟨v, ev, hv⟩ := h.get e
      refine ⟨v, ?_, hv⟩
      unfold atI ixN
      rw [if_neg (by omega), if_pos (by omega)]
      have e2 : (Int.negSucc n + (vs.length : Int)).toNat = ds.length - 1 - n := by omega
      rw [e2]
      exact ev
    · rw [if_neg hn] at e
      cases e
def rdIx : DR2 := fun x y S Q => match seqD S x with
  | some ds => match y with
    | .int i => match ixD ds i with
      | some d => Q d S
      | none => False
    | _ => False
  | none => False
theorem opd_ix : OpD K (rIx K) rdIx := fun M H S x y dx dy Q QD c hx hy l q => by
  unfold rdIx at q
  cases hs : seqD S dx with
  | none => rw [hs] at q; exact q.elim
  | some ds =>
    rw [hs] at q
    cases dy with
    | int i =>
      have q : (match ixD ds i with
        | some d => QD d S
        | none => False) := q
      cases hi : ixD ds i with
      | none => rw [hi] at q; exact q.elim
      | some d =>
        rw [hi] at q
        obtain ⟨a, vs, ev, hl, ha⟩ := seq_inv c hx hs
        obtain ⟨v, e1, hv⟩ := ixD_at hl hi
        have fin := l M v H d S Grow.refl c hv q
        rcases ha with ha | ha
        · exact .inl ⟨a, vs, i, v, ev, hy.int_inv, SqL.of ha, e1, fin⟩
        · exact .inr (.inl ⟨a, vs, i, v, ev, hy.int_inv, SqT.of ha, e1, fin⟩)
    | _ => exact q.elim
/-- len -/
def rdLen : List D → Stt → QE → Prop := fun ds S Q => match ds with
  | [d] => match d with
    | .scr ns => Q (.int (ns.length : Int)) S
    | .str z => z.length ≤ 100000 ∧ Q (.int (z.length : Int)) S
    | d => match seqD S d with
      | some es => Q (.int (es.length : Int)) S
      | none => False
  | _ => False
theorem calld_len : CallD K (fun xs H Q => ∃ x n, xs = [x] ∧ LenV K x H n ∧ Q (.int n) H) rdLen := fun M H S xs dxs Q QD c hx l q => by
  match dxs, hx, q with
  | [d], hx, q =>
    obtain ⟨v, r, e, h1, h2⟩ := hx.uncons
    have e2 : r = [] := by simpa only [DpL] using h2
    subst e2 e
    have seq : (match seqD S d with
      | some es => QD (.int (es.length : Int)) S
      | none => False) → ∃ x n, [v] = [x] ∧ LenV K x H n ∧ Q (.int n) H := fun q => by
      cases hs : seqD S d with
      | none => rw [hs] at q; exact q.elim
      | some es =>
        rw [hs] at q
        obtain ⟨a, vs, ev, hl, ha⟩ := seq_inv c h1 hs
        refine ⟨v, es.length, rfl, ?_, l M _ H _ S Grow.refl c dp_int q⟩
        rw [ev]
        rcases ha with ha | ha
        · exact .inl ⟨vs, SqL.of ha, hl.len⟩
        · exact .inr ⟨vs, SqT.of ha, hl.len⟩
    cases d with
    | str z => exact ⟨v, z.length, rfl, by rw [h1.str_inv]; exact ⟨sz_of q.1, rfl⟩, l M _ H _ S Grow.refl c dp_int q.2⟩
    | lst es => exact seq q
    | tup es => exact seq q
    | hdl n => exact seq q
    | scr ns =>
      simp only [Dp] at h1
      obtain ⟨a, o, ev, na, ha⟩ := h1
      have q : QD (.int (ns.length : Int)) S := q
      exact ⟨v, ns.length, rfl, by rw [ev]; exact .inl ⟨ns.map V.int, Or.inl (Or.inr ⟨o, ha⟩), (List.length_map ..).symm⟩, l M _ H _ S Grow.refl c dp_int q⟩
    | _ => exact (show False from q).elim
/-- list(x), tuple(x) -/
def rdList : List D → Stt → QE → Prop := fun ds S Q => match ds with
  | [d] => match seqD S d with
    | some es => Q (.lst es) S
    | none => False
  | _ => False
theorem calld_list : CallD K (fun xs H Q => ∃ p ys, xs = [.ref p] ∧ (SqL K H p ys ∨ SqT K H p ys) ∧ ∀ l, H l = none → Q (.ref l) (upd H l (.lst ys))) rdList := fun M H S xs dxs Q QD c hx l q => by
  match dxs, hx, q with
  | [d], hx, q =>
    obtain ⟨v, r, e, h1, h2⟩ := hx.uncons
    have e2 : r = [] := by simpa only [DpL] using h2
    subst e2 e
    have q : (match seqD S d with
      | some es => QD (.lst es) S
      | none => False) := q
    cases hs : seqD S d with
    | none => rw [hs] at q; exact q.elim
    | some es =>
      rw [hs] at q
      obtain ⟨a, vs, ev, hl, ha⟩ := seq_inv c h1 hs
      exact ⟨a, vs, by rw [ev], sq_of ha, l.lst Grow.refl c hl q⟩
def rdTuple : List D → Stt → QE → Prop := fun ds S Q => match ds with
  | [d] => match seqD S d with
    | some es => Q (.tup es) S
    | none => False
  | _ => False
theorem calld_tuple : CallD K (fun xs H Q => ∃ p ys, xs = [.ref p] ∧ ((SqL K H p ys ∧ ∀ l, H l = none → Q (.ref l) (upd H l (.tup ys))) ∨ (SqT K H p ys ∧ Q (.ref p) H))) rdTuple := fun M H S xs dxs Q QD c hx l q => by
  match dxs, hx, q with
  | [d], hx, q =>
    obtain ⟨v, r, e, h1, h2⟩ := hx.uncons
    have e2 : r = [] := by simpa only [DpL] using h2
    subst e2 e
    have q2 : (match seqD S d with
      | some es => QD (.tup es) S
      | none => False) := q
    cases hs : seqD S d with
    | none => rw [hs] at q2; exact q2.elim
    | some es =>
      rw [hs] at q2
      cases d with
      | tup fs =>
        cases hs
        obtain ⟨a, vs, ev, na, ha, hl⟩ := h1.tup_inv
        exact ⟨a, vs, by rw [ev], .inr ⟨SqT.of ha, l M _ H _ S Grow.refl c (by rw [← ev]; exact h1) q2⟩⟩
      | lst fs =>
        cases hs
        obtain ⟨a, vs, ev, na, ha, hl⟩ := h1.lst_inv
        exact ⟨a, vs, by rw [ev], .inl ⟨SqL.of ha, l.tup Grow.refl c hl q2⟩⟩
      | hdl n =>
        obtain ⟨a, ev, ha⟩ := h1.hdl_inv
        obtain ⟨ws, hw, hl2⟩ := c.lst ha (lstAt_inv hs)
        exact ⟨a, ws, by rw [ev], .inl ⟨SqL.of hw, l.tup Grow.refl c hl2 q2⟩⟩
      | _ => cases hs
/-- slices -/
def sIxD (n d : Nat) (o : Option Int) : Nat := HT.sIx n d o
def cutD (ds : List D) (lo hi : Option Int) : List D := (ds.drop (HT.sIx ds.length 0 lo)).take (HT.sIx ds.length ds.length hi - HT.sIx ds.length 0 lo)
theorem cut_l {M : Rg} {H : Hp} {ds : List D} {vs : List V} (h : DpL K M H ds vs) (lo hi : Option Int) : DpL K M H (cutD ds lo hi) (cutV vs lo hi) := by
  have len := h.len
  unfold cutD cutV
  rw [len]
  exact (h.drop _).take _
def rdSlL : D → Option Int → Option Int → Stt → QE → Prop := fun d lo hi S Q => match d with
  | .tup _ => False
  | d => match seqD S d with
    | some ds => Q (.lst (cutD ds lo hi)) S
    | none => False
theorem sld_list : SlD K (rSlL K) rdSlL := fun M H S x dx lo hi Q QD c hx l q => by
  have seq : (match seqD S dx with
    | some ds => QD (.lst (cutD ds lo hi)) S
    | none => False) → (∀ ds, dx ≠ .tup ds) → rSlL K x lo hi H Q := fun q2 nt => by
    cases hs : seqD S dx with
    | none => rw [hs] at q2; exact q2.elim
    | some es =>
      rw [hs] at q2
      obtain ⟨a, vs, ev, hl, ha⟩ := seq_inv c hx hs
      cases dx with
      | tup fs => exact absurd rfl (nt fs)
      | lst fs =>
        obtain ⟨a2, vs2, ev2, na, ha2, hl2⟩ := hx.lst_inv
        cases hs
        exact ⟨a2, vs2, ev2, SqL.of ha2, l.lst Grow.refl c (cut_l hl2 lo hi) q2⟩
      | hdl n =>
        obtain ⟨a2, ev2, ha2⟩ := hx.hdl_inv
        obtain ⟨ws, hw, hl2⟩ := c.lst ha2 (lstAt_inv hs)
        exact ⟨a2, ws, ev2, SqL.of hw, l.lst Grow.refl c (cut_l hl2 lo hi) q2⟩
      | _ => cases hs
  cases dx with
  | tup fs => exact (show False from q).elim
  | lst fs => exact seq q fun _ z => nomatch z
  | hdl n => exact seq q fun _ z => nomatch z
  | _ => exact (show False from q).elim
def rdSlT : D → Option Int → Option Int → Stt → QE → Prop := fun d lo hi S Q => match d with
  | .tup ds => Q (.tup (cutD ds lo hi)) S
  | _ => False
theorem sld_tup : SlD K (rSlA K) rdSlT := fun M H S x dx lo hi Q QD c hx l q => by
  cases dx with
  | tup ds =>
    obtain ⟨a, vs, ev, na, ha, hl⟩ := hx.tup_inv
    refine ⟨a, vs, ev, SqT.of ha, fun w => ?_, fun _ => l.tup Grow.refl c (cut_l hl lo hi) q⟩
    have e : cutD ds lo hi = ds := by
      unfold cutD
      rw [hl.len, w.1, w.2, Nat.sub_zero, List.drop_zero, ← hl.len, List.take_length]
    have q : QD (.tup (cutD ds lo hi)) S := q
    rw [e] at q
    exact l M _ H _ S Grow.refl c (by rw [← ev]; exact hx) q
  | _ => exact q.elim
/-- tuple + tuple -/
def rdCatT : DR2 := fun x y S Q => match x, y with
  | .tup ds, .tup es => ds.length + es.length ≤ 100000 ∧ Q (.tup (ds ++ es)) S
  | _, _ => False
theorem opd_catT : OpD K (rCatA K) rdCatT := fun M H S x y dx dy Q QD c hx hy l q => by
  cases dx with
  | tup ds => cases dy with
    | tup es =>
      obtain ⟨a, vs, ev, na, ha, hl⟩ := hx.tup_inv
      obtain ⟨b, ws, ew, nb, hb, hm⟩ := hy.tup_inv
      have q2 : QD (.tup (ds ++ es)) S := q.2
      refine ⟨a, b, vs, ws, ev, ew, SqT.of ha, SqT.of hb, by rw [← hl.len, ← hm.len]; exact sz_of q.1, fun e => ?_, fun _ e => ?_, fun _ _ => l.tup Grow.refl c (hl.append hm) q2⟩
      · have e1 : ds = [] := List.eq_nil_of_length_eq_zero (by rw [hl.len, e]; rfl)
        rw [e1, List.nil_append] at q2
        exact l M _ H _ S Grow.refl c (by rw [← ew]; exact hy) q2
      · have e1 : es = [] := List.eq_nil_of_length_eq_zero (by rw [hm.len, e]; rfl)
        rw [e1, List.append_nil] at q2
        exact l M _ H _ S Grow.refl c (by rw [← ev]; exact hx) q2
    | _ => exact q.elim
  | _ => exact q.elim
/-- list + list -/
def lstD (S : Stt) : D → Option (List D)
  | .tup _ => none
  | d => seqD S d
theorem lst_inv {M : Rg} {H : Hp} {S : Stt} {d : D} {v : V} {ds : List D} (c : Cells K M H S) (h : Dp K M H d v) (e : lstD S d = some ds) : ∃ a vs, v = .ref a ∧ DpL K M H ds vs ∧ H a = some (.lst vs) := by
  cases d with
  | lst es =>
    cases e
    obtain ⟨a, vs, e, na, ha, hl⟩ := h.lst_inv
    exact ⟨a, vs, e, hl, ha⟩
  | hdl n =>
    obtain ⟨a, ev, ha⟩ := h.hdl_inv
    have e : lstAt S n = some ds := e
    obtain ⟨vs, hv, hl⟩ := c.lst ha (lstAt_inv e)
    exact ⟨a, vs, ev, hl, hv⟩
  | tup _ => cases e
  | _ => cases e
def rdCatL : DR2 := fun x y S Q => match lstD S x with
  | some ds => match lstD S y with
    | some es => ds.length + es.length ≤ 100000 ∧ Q (.lst (ds ++ es)) S
    | none => False
  | none => False
theorem opd_catL : OpD K rCat rdCatL := fun M H S x y dx dy Q QD c hx hy l q => by
  unfold rdCatL at q
  cases h1 : lstD S dx with
  | none => rw [h1] at q; exact q.elim
  | some ds =>
    rw [h1] at q
    cases h2 : lstD S dy with
    | none => rw [h2] at q; exact q.elim
    | some es =>
      rw [h2] at q
      obtain ⟨a, vs, ev, hl, ha⟩ := lst_inv c hx h1
      obtain ⟨b, ws, ew, hm, hb⟩ := lst_inv c hy h2
      exact ⟨a, b, vs, ws, ev, ew, ha, hb, by rw [← hl.len, ← hm.len]; exact sz_of q.1, l.lst Grow.refl c (hl.append hm) q.2⟩
/-- sorted(list of ints) -/
def intsD : List D → Option (List Int)
  | [] => some []
  | .int i :: r => match intsD r with
    | some ns => some (i :: ns)
    | none => none
  | _ :: _ => none
theorem intsD_map : ∀ ns : List Int, intsD (ns.map D.int) = some ns
  | [] => rfl
  | n :: r => by
    show (match intsD (r.map D.int) with
      | some ns => some (n :: ns)
      | none => none) = _
    rw [intsD_map r]
theorem intsD_inv {M : Rg} {H : Hp} : ∀ {ds : List D} {ns : List Int} {vs : List V}, intsD ds = some ns → DpL K M H ds vs → vs = ns.map V.int
  | [], ns, vs, e, h => by
    cases e
    exact (show vs = [] by simpa only [DpL] using h)
  | .int i :: r, ns, vs, e, h => by
    obtain ⟨v, w, e2, h1, h2⟩ := h.uncons
    cases hr : intsD r with
    | none => simp [intsD, hr] at e
    | some ms =>
      simp [intsD, hr] at e
      rw [e2, h1.int_inv, intsD_inv hr h2, ← e]
      rfl
  | .non :: _, _, _, e, _ => by cases e
  | .bl _ :: _, _, _, e, _ => by cases e
  | .str _ :: _, _, _, e, _ => by cases e
  | .tup _ :: _, _, _, e, _ => by cases e
  | .lst _ :: _, _, _, e, _ => by cases e
  | .dic _ _ :: _, _, _, e, _ => by cases e
  | .obj _ _ _ :: _, _, _, e, _ => by cases e
  | .hdl _ :: _, _, _, e, _ => by cases e
  | .scr _ :: _, _, _, e, _ => by cases e
theorem dpl_ints {M : Rg} {H : Hp} : ∀ ns : List Int, DpL K M H (ns.map D.int) (ns.map V.int)
  | [] => DpL.nil
  | n :: r => DpL.cons dp_int (dpl_ints r)
def rdSorted : List D → Stt → QE → Prop := fun ds S Q => match ds with
  | [d] => match lstD S d with
    | some es => match intsD es with
      | some ns => ∀ ms : List Int, ms.Perm ns → ms.Pairwise (· ≤ ·) → Q (.lst (ms.map D.int)) S
      | none => False
    | none => False
  | _ => False
theorem calld_sorted : CallD K (rSortedI K) rdSorted := fun M H S xs dxs Q QD c hx l q => by
  match dxs, hx, q with
  | [d], hx, q =>
    obtain ⟨v, r, e, h1, h2⟩ := hx.uncons
    have e2 : r = [] := by simpa only [DpL] using h2
    subst e2 e
    have q : (match lstD S d with
      | some es => match intsD es with
        | some ns => ∀ ms : List Int, ms.Perm ns → ms.Pairwise (· ≤ ·) → QD (.lst (ms.map D.int)) S
        | none => False
      | none => False) := q
    cases hs : lstD S d with
    | none => rw [hs] at q; exact q.elim
    | some es =>
      rw [hs] at q
      have q : (match intsD es with
        | some ns => ∀ ms : List Int, ms.Perm ns → ms.Pairwise (· ≤ ·) → QD (.lst (ms.map D.int)) S
        | none => False) := q
      cases hn : intsD es with
      | none => rw [hn] at q; exact q.elim
      | some ns =>
        rw [hn] at q
        obtain ⟨a, vs, ev, hl, ha⟩ := lst_inv c h1 hs
        have ez := intsD_inv hn hl
        subst ez
        exact ⟨a, ns, by rw [ev], SqL.of ha, fun ms p pm so hp => l.lst Grow.refl c (dpl_ints ms) (q ms pm so) p hp⟩
/-- int(x), abs(x), min(x, y) -/
def rdInt : List D → Stt → QE → Prop := fun ds S Q => match ds with
  | [.int i] => Q (.int i) S
  | _ => False
theorem dpl1 {M : Rg} {H : Hp} {d : D} {vs : List V} (h : DpL K M H [d] vs) : ∃ v, vs = [v] ∧ Dp K M H d v := by
  obtain ⟨v, r, e, h1, h2⟩ := h.uncons
  have e2 : r = [] := by simpa only [DpL] using h2
  exact ⟨v, by rw [e, e2], h1⟩
theorem dpl2 {M : Rg} {H : Hp} {d d2 : D} {vs : List V} (h : DpL K M H [d, d2] vs) : ∃ v v2, vs = [v, v2] ∧ Dp K M H d v ∧ Dp K M H d2 v2 := by
  obtain ⟨v, r, e, h1, h2⟩ := h.uncons
  obtain ⟨v2, e2, h3⟩ := dpl1 h2
  exact ⟨v, v2, by rw [e, e2], h1, h3⟩
theorem calld_int : CallD K (fun xs H Q => (∃ i, xs = [.int i] ∧ Q (.int i) H) ∨ ∃ k, xs = [.bl k] ∧ Q (.int (if k then 1 else 0)) H) rdInt := fun M H S xs dxs Q QD c hx l q => by
  obtain ⟨i, ed, q⟩ := one_int q
  subst ed
  · obtain ⟨v, e, h1⟩ := dpl1 hx
    exact .inl ⟨i, by rw [e, h1.int_inv], l M _ H _ S Grow.refl c dp_int q⟩
def rdAbs : List D → Stt → QE → Prop := fun ds S Q => match ds with
  | [.int i] => Q (.int (if i < 0 then -i else i)) S
  | _ => False
theorem calld_abs : CallD K (fun xs H Q => ∃ i, xs = [.int i] ∧ Q (.int (if i < 0 then -i else i)) H) rdAbs := fun M H S xs dxs Q QD c hx l q => by
  obtain ⟨i, ed, q⟩ := one_int q
  subst ed
  · obtain ⟨v, e, h1⟩ := dpl1 hx
    exact ⟨i, by rw [e, h1.int_inv], l M _ H _ S Grow.refl c dp_int q⟩
def rdMin : List D → Stt → QE → Prop := fun ds S Q => match ds with
  | [.int i, .int j] => Q (.int (if j < i then j else i)) S
  | _ => False
theorem calld_min : CallD K (fun xs H Q => ∃ i j, xs = [.int i, .int j] ∧ Q (.int (if j < i then j else i)) H) rdMin := fun M H S xs dxs Q QD c hx l q => by
  obtain ⟨i, j, ed, q⟩ := two_ints q
  subst ed
  · obtain ⟨v, w, e, h1, h2⟩ := dpl2 hx
    exact ⟨i, j, by rw [e, h1.int_inv, h2.int_inv], l M _ H _ S Grow.refl c dp_int q⟩
end
end TA
set_option Elab.async false
set_option linter.all false
set_option maxRecDepth 100000
set_option maxHeartbeats 4000000
namespace TA
open PySem PySem.Spec L2
open PyProof.Rows hiding St
/-! ## defs -/
/-- a def's promise over data: the arguments, what is mutable, the wanted end, the wanted exceptions by their classes' names -/
abbrev SpD := List D → Stt → QE → (Str → Stt → Prop) → Prop
def LinkX (K : PySem.W.Frag) (M : Rg) (H : Hp) (E : XK) (ED : Str → Stt → Prop) : Prop :=
  ∀ M' H' c o S', Grow M H M' H' → Cells K M' H' S' → ED c S' → E (.ref (He.ga K c)) o H'
theorem LinkX.mono {K : PySem.W.Frag} {M M1 : Rg} {H H1 : Hp} {E : XK} {ED : Str → Stt → Prop} (g : Grow M H M1 H1) (l : LinkX K M H E ED) : LinkX K M1 H1 E ED := fun M' H' c o S' k => l M' H' c o S' (g.trans k)
def upF (K : PySem.W.Frag) (sp : SpD) : Sp := fun vs H Q E => ∃ M ds S QD ED, DpL K M H ds vs ∧ Cells K M H S ∧ LinkE K M H Q QD ∧ LinkX K M H E ED ∧ sp ds S QD ED
/-- what stands around: the program, the world, what the top has left -/
structure Ct where
  P : Program
  w : World
  K : PySem.W.Frag
  mg : Str → Option Value
  base : Heap
def Fn (C : Ct) (CX : CXT) (k : Nat) (name : Str) (ps : List Str) (dvs : List D) (sp : SpD) : Prop :=
  ∃ f fd us vs, C.mg name = some (.ref f) ∧ PySem.W.keepIn C.K (.ref f) = true ∧ FnOk C.P C.w C.K C.mg C.base CX k f fd ps (upF C.K sp) ∧ Binds C.K fd ps us ∧ Vals vs us ∧ ∀ M H, DpL C.K M H dvs vs
theorem Fn.mono {C : Ct} {CX : CXT} {j k : Nat} {name : Str} {ps : List Str} {dvs : List D} {sp : SpD} (F : Fn C CX j name ps dvs sp) (h : j ≤ k) : Fn C CX k name ps dvs sp := by
  obtain ⟨f, fd, us, vs, h1, h2, h3, h4⟩ := F
  exact ⟨f, fd, us, vs, h1, h2, h3.mono h, h4⟩
abbrev Cx.ct (X : Cx) : Ct := ⟨X.prog, X.w, X.K, X.mg, X.base⟩
def dCall (sp : SpD) (dvs : List D) (da : DTA) : DTE := fun ρ S Q => da ρ S fun ds S1 => sp (ds ++ dvs) S1 Q fun _ _ => False
section
variable {X : Cx} {CX : CXT} {k : Nat} {x : Str} {ps : List Str} {dvs : List D} {sp : SpD} {p pos : Pos} {e : Expr} {es : List Expr} {dr : DTA}
theorem linkx0 {K : PySem.W.Frag} {M : Rg} {H : Hp} : LinkX K M H E0 fun _ _ => False := fun _ _ _ _ _ _ _ h => h.elim
theorem de_call (F : Fn (Cx.ct X) CX k x ps dvs sp) (hr : Room k X.A) (hg : Gl X x) (hx : Passes CX X E0) (ha : DA X (e :: es) dr) (hdb : (x == ("__debug__" : Str)) = false := by decide)
    (he : starEach (e :: es) X.env = (false, eval e X.env) :: starEach es X.env := by rfl) (hpl : (backTo pos (starEach es X.env)).any (·.1) = false := by rfl) : DE X (.Call (.Name x p) (e :: es) [] pos) (dCall sp dvs dr) := by
  obtain ⟨f, fd, us, vs, hm, hk, G, hb, hd, hdv⟩ := F
  exact up_of (pe_call G hr hg hm hk hb hd hx ha hdb he hpl) fun M ρ S QD σ H Q s c l q => ⟨M, ρ, S, _, s, c, fun M1 ws H1 ds S1 g1 c1 hl q1 =>
    ⟨M1, ds ++ dvs, S1, QD, _, hl.append (hdv M1 H1), c1, l.mono g1, linkx0, q1⟩, q⟩
theorem de_call0 (F : Fn (Cx.ct X) CX k x ps dvs sp) (hr : Room k X.A) (hg : Gl X x) (hx : Passes CX X E0) (hdb : (x == ("__debug__" : Str)) = false := by decide) : DE X (.Call (.Name x p) [] [] pos) (dCall sp dvs dNil) := by
  obtain ⟨f, fd, us, vs, hm, hk, G, hb, hd, hdv⟩ := F
  exact up_of (pe_call0 G hr hg hm hk hb hd hx hdb) fun M ρ S QD σ H Q s c l q =>
    ⟨M, dvs, S, QD, _, hdv M H, c, l, linkx0, q⟩
end
/-! ### a def's body -/
def startD : List Str → List D → Rho
  | _ :: N, d :: ds => some d :: startD N ds
  | _ :: N, [] => none :: startD N []
  | [], _ => []
theorem startD_slots {K : PySem.W.Frag} {M : Rg} {H : Hp} : ∀ {N : List Str} {ds : List D} {vs : List V}, DpL K M H ds vs → ds.length ≤ N.length → Slots K M H (startD N ds) (L2.start N vs)
  | [], [], vs, h, _ => by
    have e : vs = [] := by simpa only [DpL] using h
    rw [e]
    rfl
  | [], d :: ds, vs, h, l => absurd l (by simp)
  | n :: N, [], vs, h, l => by
    have e : vs = [] := by simpa only [DpL] using h
    subst e
    exact ⟨none, L2.start N [], rfl, trivial, startD_slots DpL.nil (Nat.zero_le _)⟩
  | n :: N, d :: ds, vs, h, l => by
    obtain ⟨v, r, e, h1, h2⟩ := h.uncons
    subst e
    refine ⟨some v, L2.start N r, ?_, ⟨v, rfl, h1⟩, startD_slots h2 (by simpa using l)⟩
    show List.map some (v :: r) ++ List.replicate ((n :: N).length - (v :: r).length) none = some v :: (List.map some r ++ List.replicate (N.length - r.length) none)
    rw [List.map_cons, List.cons_append, List.length_cons, List.length_cons, Nat.add_sub_add_right]
abbrev endsD (Q : QE) : DEnds := { nx := fun _ S => Q .non S, rt := Q }
theorem fnD {C : Ct} {x qual : Str} {params : Arguments} {body : List Stmt} {scope : Scope} {dvs : List V} {kws : List (Str × V)} {f : Addr} {fd : FuncData} {N ps : List Str} {k : Nat} {sp : SpD}
    (F : FunD C.K x qual params body scope dvs kws f fd) (S : FnScope N ps scope) (len : ∀ ds S Q E, sp ds S Q E → ds.length = ps.length) (hN : ps.length ≤ N.length)
    (hbody : ∀ (cdv : Value) (A : Around) (outer : List PySem.Env) (s : Shared) (H : Hp) (E : XK), Room k (A.deeper (envOfC qual scope s.heap.objs.size f cdv)) →
      ∃ dt, DSs (cxOf CX0 C.P C.w C.K C.mg C.base N qual scope f cdv A outer s H E).nox body dt ∧ ∀ ds S QD ED, sp ds S QD ED → dt (endsD QD) (startD N ds) S) :
    FnOk C.P C.w C.K C.mg C.base CX0 (k + 1) f fd ps (upF C.K sp) := by
  refine FunD.ok F S (fun vs H Q E h => ?_) fun cdv A outer s H vs Q E hr h => ?_
  · obtain ⟨M, ds, S', QD, ED, hl, _, _, _, q⟩ := h
    rw [← hl.len]
    exact len _ _ _ _ q
  · obtain ⟨M, ds, S', QD, ED, hl, c, l, _, q⟩ := h
    obtain ⟨dt, hd, hq⟩ := hbody cdv A outer s H E hr
    have hlen := len _ _ _ _ q
    refine ⟨_, hd.nox, M, startD N ds, S', endsD QD, startD_slots hl (by omega), c, ⟨fun M1 σ1 H1 ρ1 S1 g1 s1 c1 q1 => ?_, l, fun _ _ _ _ _ _ _ _ z => z.elim, fun _ _ _ _ _ _ _ _ z => z.elim⟩, hq ds S' QD ED q⟩
    exact l M1 .non H1 .non S1 g1 c1 dp_non q1
/-- from a def of the head to its promise -/
theorem Fn.of {C : Ct} {x qual : Str} {params : Arguments} {body : List Stmt} {scope : Scope} {f : Addr} {fd : FuncData} {ps : List Str} {k : Nat} {sp : SpD} {CX : CXT}
    (F : FunD C.K x qual params body scope [] [] f fd) (hm : C.mg x = some (.ref f)) (hb : ∀ (kV doc pm : Value) (an : Option Addr) (cdv ct : Value) (us : List Value), us.length = ps.length → bindArgs (PySem.W.fnOf x qual params body scope .none kV doc pm an cdv ct) ⟨us, []⟩ = pure (ps.zip us))
    (G : FnOk C.P C.w C.K C.mg C.base CX k f fd ps (upF C.K sp)) : Fn C CX k x ps [] sp := ⟨f, fd, [], [], hm, F.kp, G, F.bindsN hb, .nil, fun _ _ => DpL.nil⟩
end TA
set_option Elab.async false
set_option linter.all false
set_option maxRecDepth 100000
set_option maxHeartbeats 4000000
namespace TA
open PySem PySem.Spec L2
open PyProof.Rows hiding St
/-! ## the text and what the top leaves -/
def topS (i : Nat) : Stmt := PySem.Challenge.pw_truealarms_k25_whole_lines_judged_word_f.main.body.getD i (.Pass ⟨0, 0, 0, 0⟩)
def d_BadProgram__init_ : He.DefD := ⟨("BadProgram", (some "__init__")), "__init__", "BadProgram.__init__", defArgs (inClass (topS 10) 0), defBody (inClass (topS 10) 0), defScope (inClass (topS 10) 0), [], []⟩
def d_is_sequence : He.DefD := ⟨("is_sequence", none), "is_sequence", "is_sequence", defArgs (topS 12), defBody (topS 12), defScope (topS 12), [], []⟩
def d_is_whole : He.DefD := ⟨("is_whole", none), "is_whole", "is_whole", defArgs (topS 13), defBody (topS 13), defScope (topS 13), [.non, .non], []⟩
def d_check_stands : He.DefD := ⟨("check_stands", none), "check_stands", "check_stands", defArgs (topS 15), defBody (topS 15), defScope (topS 15), [], []⟩
def d_all_stands : He.DefD := ⟨("all_stands", none), "all_stands", "all_stands", defArgs (topS 16), defBody (topS 16), defScope (topS 16), [], []⟩
def d_check_lot : He.DefD := ⟨("check_lot", none), "check_lot", "check_lot", defArgs (topS 17), defBody (topS 17), defScope (topS 17), [], []⟩
def d_is_within : He.DefD := ⟨("is_within", none), "is_within", "is_within", defArgs (topS 18), defBody (topS 18), defScope (topS 18), [], []⟩
def d_first_unmet : He.DefD := ⟨("first_unmet", none), "first_unmet", "first_unmet", defArgs (topS 20), defBody (topS 20), defScope (topS 20), [], []⟩
def d_Glasses__init_ : He.DefD := ⟨("Glasses", (some "__init__")), "__init__", "Glasses.__init__", defArgs (inClass (topS 21) 0), defBody (inClass (topS 21) 0), defScope (inClass (topS 21) 0), [], []⟩
def d_Glasses_rounded : He.DefD := ⟨("Glasses", (some "rounded")), "rounded", "Glasses.rounded", defArgs (inClass (topS 21) 3), defBody (inClass (topS 21) 3), defScope (inClass (topS 21) 3), [], []⟩
def d_Glasses__contains_ : He.DefD := ⟨("Glasses", (some "__contains__")), "__contains__", "Glasses.__contains__", defArgs (inClass (topS 21) 4), defBody (inClass (topS 21) 4), defScope (inClass (topS 21) 4), [], []⟩
def d_has_shape : He.DefD := ⟨("has_shape", none), "has_shape", "has_shape", defArgs (topS 27), defBody (topS 27), defScope (topS 27), [], []⟩
def d_inner_programs : He.DefD := ⟨("inner_programs", none), "inner_programs", "inner_programs", defArgs (topS 28), defBody (topS 28), defScope (topS 28), [], []⟩
def d_check_node : He.DefD := ⟨("check_node", none), "check_node", "check_node", defArgs (topS 29), defBody (topS 29), defScope (topS 29), [], []⟩
def d_check_program : He.DefD := ⟨("check_program", none), "check_program", "check_program", defArgs (topS 30), defBody (topS 30), defScope (topS 30), [], []⟩
def d_check_row : He.DefD := ⟨("check_row", none), "check_row", "check_row", defArgs (topS 32), defBody (topS 32), defScope (topS 32), [], []⟩
def d_next_lot : He.DefD := ⟨("next_lot", none), "next_lot", "next_lot", defArgs (topS 33), defBody (topS 33), defScope (topS 33), [], []⟩
def d_check_alike : He.DefD := ⟨("check_alike", none), "check_alike", "check_alike", defArgs (topS 35), defBody (topS 35), defScope (topS 35), [], []⟩
def d_rounded_alike : He.DefD := ⟨("rounded_alike", none), "rounded_alike", "rounded_alike", defArgs (topS 37), defBody (topS 37), defScope (topS 37), [], []⟩
def d_sharp_at : He.DefD := ⟨("sharp_at", none), "sharp_at", "sharp_at", defArgs (topS 38), defBody (topS 38), defScope (topS 38), [], []⟩
def d_rule_names : He.DefD := ⟨("rule_names", none), "rule_names", "rule_names", defArgs (topS 41), defBody (topS 41), defScope (topS 41), [], []⟩
def d_due_programs : He.DefD := ⟨("due_programs", none), "due_programs", "due_programs", defArgs (topS 42), defBody (topS 42), defScope (topS 42), [], []⟩
def d_is_refused : He.DefD := ⟨("is_refused", none), "is_refused", "is_refused", defArgs (topS 43), defBody (topS 43), defScope (topS 43), [], []⟩
def d_shape_word : He.DefD := ⟨("shape_word", none), "shape_word", "shape_word", defArgs (topS 44), defBody (topS 44), defScope (topS 44), [], []⟩
def d_uppers_fit : He.DefD := ⟨("uppers_fit", none), "uppers_fit", "uppers_fit", defArgs (topS 45), defBody (topS 45), defScope (topS 45), [], []⟩
def d_lots_fit : He.DefD := ⟨("lots_fit", none), "lots_fit", "lots_fit", defArgs (topS 46), defBody (topS 46), defScope (topS 46), [], []⟩
def d_grow_fits : He.DefD := ⟨("grow_fits", none), "grow_fits", "grow_fits", defArgs (topS 47), defBody (topS 47), defScope (topS 47), [], []⟩
def d_line_word : He.DefD := ⟨("line_word", none), "line_word", "line_word", defArgs (topS 48), defBody (topS 48), defScope (topS 48), [], []⟩
def d_lines_fault : He.DefD := ⟨("lines_fault", none), "lines_fault", "lines_fault", defArgs (topS 49), defBody (topS 49), defScope (topS 49), [], []⟩
def d_is_name : He.DefD := ⟨("is_name", none), "is_name", "is_name", defArgs (topS 54), defBody (topS 54), defScope (topS 54), [], []⟩
def d_entry_fault : He.DefD := ⟨("entry_fault", none), "entry_fault", "entry_fault", defArgs (topS 55), defBody (topS 55), defScope (topS 55), [], []⟩
def d_Steps__init_ : He.DefD := ⟨("Steps", (some "__init__")), "__init__", "Steps.__init__", defArgs (inClass (topS 56) 0), defBody (inClass (topS 56) 0), defScope (inClass (topS 56) 0), [], []⟩
def d_Steps__contains_ : He.DefD := ⟨("Steps", (some "__contains__")), "__contains__", "Steps.__contains__", defArgs (inClass (topS 56) 2), defBody (inClass (topS 56) 2), defScope (inClass (topS 56) 2), [], []⟩
def d_Steps_row_of : He.DefD := ⟨("Steps", (some "row_of")), "row_of", "Steps.row_of", defArgs (inClass (topS 56) 3), defBody (inClass (topS 56) 3), defScope (inClass (topS 56) 3), [], []⟩
def d__law_hand : He.DefD := ⟨("_law_hand", none), "_law_hand", "_law_hand", defArgs (topS 58), defBody (topS 58), defScope (topS 58), [], []⟩
def d__law_mixed : He.DefD := ⟨("_law_mixed", none), "_law_mixed", "_law_mixed", defArgs (topS 59), defBody (topS 59), defScope (topS 59), [], []⟩
def d__law_take : He.DefD := ⟨("_law_take", none), "_law_take", "_law_take", defArgs (topS 60), defBody (topS 60), defScope (topS 60), [], []⟩
def d__law_stands : He.DefD := ⟨("_law_stands", none), "_law_stands", "_law_stands", defArgs (topS 61), defBody (topS 61), defScope (topS 61), [], []⟩
def d__law_every : He.DefD := ⟨("_law_every", none), "_law_every", "_law_every", defArgs (topS 62), defBody (topS 62), defScope (topS 62), [], []⟩
def d__law_within : He.DefD := ⟨("_law_within", none), "_law_within", "_law_within", defArgs (topS 63), defBody (topS 63), defScope (topS 63), [], []⟩
def d__law_met : He.DefD := ⟨("_law_met", none), "_law_met", "_law_met", defArgs (topS 64), defBody (topS 64), defScope (topS 64), [], []⟩
def d__law_members : He.DefD := ⟨("_law_members", none), "_law_members", "_law_members", defArgs (topS 65), defBody (topS 65), defScope (topS 65), [], []⟩
def d__law_rounded : He.DefD := ⟨("_law_rounded", none), "_law_rounded", "_law_rounded", defArgs (topS 66), defBody (topS 66), defScope (topS 66), [], []⟩
def d__law_single : He.DefD := ⟨("_law_single", none), "_law_single", "_law_single", defArgs (topS 67), defBody (topS 67), defScope (topS 67), [], []⟩
def d__law_drawn_row : He.DefD := ⟨("_law_drawn_row", none), "_law_drawn_row", "_law_drawn_row", defArgs (topS 68), defBody (topS 68), defScope (topS 68), [], []⟩
def d__law_next : He.DefD := ⟨("_law_next", none), "_law_next", "_law_next", defArgs (topS 69), defBody (topS 69), defScope (topS 69), [], []⟩
def d__law_back : He.DefD := ⟨("_law_back", none), "_law_back", "_law_back", defArgs (topS 70), defBody (topS 70), defScope (topS 70), [], []⟩
def d__law_names : He.DefD := ⟨("_law_names", none), "_law_names", "_law_names", defArgs (topS 71), defBody (topS 71), defScope (topS 71), [], []⟩
def d__law_rows_of : He.DefD := ⟨("_law_rows_of", none), "_law_rows_of", "_law_rows_of", defArgs (topS 72), defBody (topS 72), defScope (topS 72), [], []⟩
def d__law_program : He.DefD := ⟨("_law_program", none), "_law_program", "_law_program", defArgs (topS 73), defBody (topS 73), defScope (topS 73), [], []⟩
def d__law_run : He.DefD := ⟨("_law_run", none), "_law_run", "_law_run", defArgs (topS 74), defBody (topS 74), defScope (topS 74), [], []⟩
def d__law_list : He.DefD := ⟨("_law_list", none), "_law_list", "_law_list", defArgs (topS 75), defBody (topS 75), defScope (topS 75), [], []⟩
def d__law_int : He.DefD := ⟨("_law_int", none), "_law_int", "_law_int", defArgs (topS 76), defBody (topS 76), defScope (topS 76), [], []⟩
def d__law_exact : He.DefD := ⟨("_law_exact", none), "_law_exact", "_law_exact", defArgs (topS 77), defBody (topS 77), defScope (topS 77), [], []⟩
def d__law_sharp : He.DefD := ⟨("_law_sharp", none), "_law_sharp", "_law_sharp", defArgs (topS 78), defBody (topS 78), defScope (topS 78), [], []⟩
def d__law_met_steps : He.DefD := ⟨("_law_met_steps", none), "_law_met_steps", "_law_met_steps", defArgs (topS 79), defBody (topS 79), defScope (topS 79), [], []⟩
def d__law_world : He.DefD := ⟨("_law_world", none), "_law_world", "_law_world", defArgs (topS 80), defBody (topS 80), defScope (topS 80), [], []⟩
def d__law_start : He.DefD := ⟨("_law_start", none), "_law_start", "_law_start", defArgs (topS 81), defBody (topS 81), defScope (topS 81), [], []⟩
def d__law_refined : He.DefD := ⟨("_law_refined", none), "_law_refined", "_law_refined", defArgs (topS 82), defBody (topS 82), defScope (topS 82), [], []⟩
def d__law_steered : He.DefD := ⟨("_law_steered", none), "_law_steered", "_law_steered", defArgs (topS 83), defBody (topS 83), defScope (topS 83), [], []⟩
def d__law_make : He.DefD := ⟨("_law_make", none), "_law_make", "_law_make", defArgs (topS 84), defBody (topS 84), defScope (topS 84), [], []⟩
def d__law_lot : He.DefD := ⟨("_law_lot", none), "_law_lot", "_law_lot", defArgs (topS 85), defBody (topS 85), defScope (topS 85), [], []⟩
def d__law_nodes : He.DefD := ⟨("_law_nodes", none), "_law_nodes", "_law_nodes", defArgs (topS 86), defBody (topS 86), defScope (topS 86), [], []⟩
def d__law_fine : He.DefD := ⟨("_law_fine", none), "_law_fine", "_law_fine", defArgs (topS 87), defBody (topS 87), defScope (topS 87), [], []⟩
def d__law_due_programs : He.DefD := ⟨("_law_due_programs", none), "_law_due_programs", "_law_due_programs", defArgs (topS 88), defBody (topS 88), defScope (topS 88), [], []⟩
def d__law_shape_word : He.DefD := ⟨("_law_shape_word", none), "_law_shape_word", "_law_shape_word", defArgs (topS 89), defBody (topS 89), defScope (topS 89), [], []⟩
def d__law_uppers_good : He.DefD := ⟨("_law_uppers_good", none), "_law_uppers_good", "_law_uppers_good", defArgs (topS 90), defBody (topS 90), defScope (topS 90), [], []⟩
def d__law_lots_good : He.DefD := ⟨("_law_lots_good", none), "_law_lots_good", "_law_lots_good", defArgs (topS 91), defBody (topS 91), defScope (topS 91), [], []⟩
def d__law_seen_word : He.DefD := ⟨("_law_seen_word", none), "_law_seen_word", "_law_seen_word", defArgs (topS 92), defBody (topS 92), defScope (topS 92), [], []⟩
def d__law_word : He.DefD := ⟨("_law_word", none), "_law_word", "_law_word", defArgs (topS 93), defBody (topS 93), defScope (topS 93), [], []⟩
def d__law_fault : He.DefD := ⟨("_law_fault", none), "_law_fault", "_law_fault", defArgs (topS 94), defBody (topS 94), defScope (topS 94), [], []⟩
def d__law_shrunk : He.DefD := ⟨("_law_shrunk", none), "_law_shrunk", "_law_shrunk", defArgs (topS 95), defBody (topS 95), defScope (topS 95), [], []⟩
def d__law_put : He.DefD := ⟨("_law_put", none), "_law_put", "_law_put", defArgs (topS 96), defBody (topS 96), defScope (topS 96), [], []⟩
def d__law_derive : He.DefD := ⟨("_law_derive", none), "_law_derive", "_law_derive", defArgs (topS 97), defBody (topS 97), defScope (topS 97), [], []⟩
def d__law_derive_own : He.DefD := ⟨("_law_derive_own", none), "_law_derive_own", "_law_derive_own", defArgs (topS 98), defBody (topS 98), defScope (topS 98), [], []⟩
def d__law_derive_again : He.DefD := ⟨("_law_derive_again", none), "_law_derive_again", "_law_derive_again", defArgs (topS 99), defBody (topS 99), defScope (topS 99), [], []⟩
def d__law_derived : He.DefD := ⟨("_law_derived", none), "_law_derived", "_law_derived", defArgs (topS 100), defBody (topS 100), defScope (topS 100), [], []⟩
def d__law_odd : He.DefD := ⟨("_law_odd", none), "_law_odd", "_law_odd", defArgs (topS 101), defBody (topS 101), defScope (topS 101), [], []⟩
def d__law_more : He.DefD := ⟨("_law_more", none), "_law_more", "_law_more", defArgs (topS 102), defBody (topS 102), defScope (topS 102), [], []⟩
def d__law_wrong_program : He.DefD := ⟨("_law_wrong_program", none), "_law_wrong_program", "_law_wrong_program", defArgs (topS 103), defBody (topS 103), defScope (topS 103), [], []⟩
def d__law_wrong_uppers : He.DefD := ⟨("_law_wrong_uppers", none), "_law_wrong_uppers", "_law_wrong_uppers", defArgs (topS 104), defBody (topS 104), defScope (topS 104), [], []⟩
def d__law_spoilt : He.DefD := ⟨("_law_spoilt", none), "_law_spoilt", "_law_spoilt", defArgs (topS 105), defBody (topS 105), defScope (topS 105), [], []⟩
def d__law_spoilt_more : He.DefD := ⟨("_law_spoilt_more", none), "_law_spoilt_more", "_law_spoilt_more", defArgs (topS 106), defBody (topS 106), defScope (topS 106), [], []⟩
def d__law_alike : He.DefD := ⟨("_law_alike", none), "_law_alike", "_law_alike", defArgs (topS 107), defBody (topS 107), defScope (topS 107), [], []⟩
def d_law : He.DefD := ⟨("law", none), "law", "law", defArgs (topS 108), defBody (topS 108), defScope (topS 108), [], []⟩
theorem sc_BadProgram__init_ : FnScope ["self", "what"] ["self", "what"] (defScope (inClass (topS 10) 0)) := ⟨rfl, rfl, rfl, by decide +kernel, rfl, by decide +kernel, by decide +kernel⟩
theorem sc_is_sequence : FnScope ["thing"] ["thing"] (defScope (topS 12)) := ⟨rfl, rfl, rfl, by decide +kernel, rfl, by decide +kernel, by decide +kernel⟩
theorem sc_is_whole : FnScope ["thing", "low", "high"] ["thing", "low", "high"] (defScope (topS 13)) := ⟨rfl, rfl, rfl, by decide +kernel, rfl, by decide +kernel, by decide +kernel⟩
theorem sc_check_stands : FnScope ["v"] ["v"] (defScope (topS 15)) := ⟨rfl, rfl, rfl, by decide +kernel, rfl, by decide +kernel, by decide +kernel⟩
theorem sc_all_stands : FnScope ["v"] ["v"] (defScope (topS 16)) := ⟨rfl, rfl, rfl, by decide +kernel, rfl, by decide +kernel, by decide +kernel⟩
theorem sc_check_lot : FnScope ["v", "lot"] ["v", "lot"] (defScope (topS 17)) := ⟨rfl, rfl, rfl, by decide +kernel, rfl, by decide +kernel, by decide +kernel⟩
theorem sc_is_within : FnScope ["one", "other"] ["one", "other"] (defScope (topS 18)) := ⟨rfl, rfl, rfl, by decide +kernel, rfl, by decide +kernel, by decide +kernel⟩
theorem sc_first_unmet : FnScope ["members", "i", "j"] ["members"] (defScope (topS 20)) := ⟨rfl, rfl, rfl, by decide +kernel, rfl, by decide +kernel, by decide +kernel⟩
theorem sc_Glasses__init_ : FnScope ["self", "stands", "members", "every", "last", "place", "member", "unmet"] ["self", "stands", "members"] (defScope (inClass (topS 21) 0)) := ⟨rfl, rfl, rfl, by decide +kernel, rfl, by decide +kernel, by decide +kernel⟩
theorem sc_Glasses_rounded : FnScope ["self", "lot", "found", "member"] ["self", "lot"] (defScope (inClass (topS 21) 3)) := ⟨rfl, rfl, rfl, by decide +kernel, rfl, by decide +kernel, by decide +kernel⟩
theorem sc_Glasses__contains_ : FnScope ["self", "thing"] ["self", "thing"] (defScope (inClass (topS 21) 4)) := ⟨rfl, rfl, rfl, by decide +kernel, rfl, by decide +kernel, by decide +kernel⟩
theorem sc_has_shape : FnScope ["thing", "word"] ["thing"] (defScope (topS 27)) := ⟨rfl, rfl, rfl, by decide +kernel, rfl, by decide +kernel, by decide +kernel⟩
theorem sc_inner_programs : FnScope ["program"] ["program"] (defScope (topS 28)) := ⟨rfl, rfl, rfl, by decide +kernel, rfl, by decide +kernel, by decide +kernel⟩
theorem sc_check_node : FnScope ["steps", "node", "deep", "agains", "had", "met", "below", "inner"] ["steps", "node", "deep", "agains", "had"] (defScope (topS 29)) := ⟨rfl, rfl, rfl, by decide +kernel, rfl, by decide +kernel, by decide +kernel⟩
theorem sc_check_program : FnScope ["steps", "program"] ["steps", "program"] (defScope (topS 30)) := ⟨rfl, rfl, rfl, by decide +kernel, rfl, by decide +kernel, by decide +kernel⟩
theorem sc_check_row : FnScope ["stands", "row", "place", "lot"] ["stands", "row"] (defScope (topS 32)) := ⟨rfl, rfl, rfl, by decide +kernel, rfl, by decide +kernel, by decide +kernel⟩
theorem sc_next_lot : FnScope ["row", "lot", "found", "stand", "reached"] ["row", "lot"] (defScope (topS 33)) := ⟨rfl, rfl, rfl, by decide +kernel, rfl, by decide +kernel, by decide +kernel⟩
theorem sc_check_alike : FnScope ["one", "other"] ["one", "other"] (defScope (topS 35)) := ⟨rfl, rfl, rfl, by decide +kernel, rfl, by decide +kernel, by decide +kernel⟩
theorem sc_rounded_alike : FnScope ["glasses", "row", "lot", "ahead"] ["glasses", "row", "lot"] (defScope (topS 37)) := ⟨rfl, rfl, rfl, by decide +kernel, rfl, by decide +kernel, by decide +kernel⟩
theorem sc_sharp_at : FnScope ["glasses", "row", "lot"] ["glasses", "row", "lot"] (defScope (topS 38)) := ⟨rfl, rfl, rfl, by decide +kernel, rfl, by decide +kernel, by decide +kernel⟩
theorem sc_rule_names : FnScope [] [] (defScope (topS 41)) := ⟨rfl, rfl, rfl, by decide +kernel, rfl, by decide +kernel, by decide +kernel⟩
theorem sc_due_programs : FnScope ["line", "program", "how"] ["line"] (defScope (topS 42)) := ⟨rfl, rfl, rfl, by decide +kernel, rfl, by decide +kernel, by decide +kernel⟩
theorem sc_is_refused : FnScope ["steps", "program"] ["steps", "program"] (defScope (topS 43)) := ⟨rfl, rfl, rfl, by decide +kernel, rfl, by decide +kernel, by decide +kernel⟩
theorem sc_shape_word : FnScope ["steps", "line", "top", "how"] ["steps", "line"] (defScope (topS 44)) := ⟨rfl, rfl, rfl, by decide +kernel, rfl, by decide +kernel, by decide +kernel⟩
theorem sc_uppers_fit : FnScope ["lines", "number", "line", "uppers", "due", "place"] ["lines", "number"] (defScope (topS 45)) := ⟨rfl, rfl, rfl, by decide +kernel, rfl, by decide +kernel, by decide +kernel⟩
theorem sc_lots_fit : FnScope ["steps", "line", "given", "start", "end", "how", "reached"] ["steps", "line", "given"] (defScope (topS 46)) := ⟨rfl, rfl, rfl, by decide +kernel, rfl, by decide +kernel, by decide +kernel⟩
theorem sc_grow_fits : FnScope ["glasses", "line", "upper"] ["glasses", "line", "upper"] (defScope (topS 47)) := ⟨rfl, rfl, rfl, by decide +kernel, rfl, by decide +kernel, by decide +kernel⟩
theorem sc_line_word : FnScope ["glasses", "steps", "lines", "number", "line", "word", "given", "how", "upper"] ["glasses", "steps", "lines", "number"] (defScope (topS 48)) := ⟨rfl, rfl, rfl, by decide +kernel, rfl, by decide +kernel, by decide +kernel⟩
theorem sc_lines_fault : FnScope ["glasses", "steps", "lines", "number", "word"] ["glasses", "steps", "lines"] (defScope (topS 49)) := ⟨rfl, rfl, rfl, by decide +kernel, rfl, by decide +kernel, by decide +kernel⟩
theorem sc_is_name : FnScope ["thing", "sign"] ["thing"] (defScope (topS 54)) := ⟨rfl, rfl, rfl, by decide +kernel, rfl, by decide +kernel, by decide +kernel⟩
theorem sc_entry_fault : FnScope ["stands", "entry", "had", "lot"] ["stands", "entry", "had"] (defScope (topS 55)) := ⟨rfl, rfl, rfl, by decide +kernel, rfl, by decide +kernel, by decide +kernel⟩
theorem sc_Steps__init_ : FnScope ["self", "stands", "entries", "names", "place", "entry", "word"] ["self", "stands", "entries"] (defScope (inClass (topS 56) 0)) := ⟨rfl, rfl, rfl, by decide +kernel, rfl, by decide +kernel, by decide +kernel⟩
theorem sc_Steps__contains_ : FnScope ["self", "name"] ["self", "name"] (defScope (inClass (topS 56) 2)) := ⟨rfl, rfl, rfl, by decide +kernel, rfl, by decide +kernel, by decide +kernel⟩
theorem sc_Steps_row_of : FnScope ["self", "name", "known", "row"] ["self", "name"] (defScope (inClass (topS 56) 3)) := ⟨rfl, rfl, rfl, by decide +kernel, rfl, by decide +kernel, by decide +kernel⟩
theorem sc__law_hand : FnScope ["_law_script", "_law_total", "_law_cells", "_law_cell"] ["_law_script"] (defScope (topS 58)) := ⟨rfl, rfl, rfl, by decide +kernel, rfl, by decide +kernel, by decide +kernel⟩
theorem sc__law_mixed : FnScope ["_law_number", "_law_turn", "_law_once", "_law_twice"] ["_law_number", "_law_turn"] (defScope (topS 59)) := ⟨rfl, rfl, rfl, by decide +kernel, rfl, by decide +kernel, by decide +kernel⟩
theorem sc__law_take : FnScope ["_law_hand_here", "_law_many", "_law_cell", "_law_rest"] ["_law_hand_here", "_law_many"] (defScope (topS 60)) := ⟨rfl, rfl, rfl, by decide +kernel, rfl, by decide +kernel, by decide +kernel⟩
theorem sc__law_stands : FnScope ["_law_hand_here"] ["_law_hand_here"] (defScope (topS 61)) := ⟨rfl, rfl, rfl, by decide +kernel, rfl, by decide +kernel, by decide +kernel⟩
theorem sc__law_every : FnScope ["_law_v"] ["_law_v"] (defScope (topS 62)) := ⟨rfl, rfl, rfl, by decide +kernel, rfl, by decide +kernel, by decide +kernel⟩
theorem sc__law_within : FnScope ["_law_one", "_law_other"] ["_law_one", "_law_other"] (defScope (topS 63)) := ⟨rfl, rfl, rfl, by decide +kernel, rfl, by decide +kernel, by decide +kernel⟩
theorem sc__law_met : FnScope ["_law_v", "_law_lots", "_law_found", "_law_lot_here", "_law_one"] ["_law_v", "_law_lots"] (defScope (topS 64)) := ⟨rfl, rfl, rfl, by decide +kernel, rfl, by decide +kernel, by decide +kernel⟩
theorem sc__law_members : FnScope ["_law_hand_here", "_law_v", "_law_way", "_law_lots", "_law_k"] ["_law_hand_here", "_law_v"] (defScope (topS 65)) := ⟨rfl, rfl, rfl, by decide +kernel, rfl, by decide +kernel, by decide +kernel⟩
theorem sc__law_rounded : FnScope ["_law_members_here", "_law_lot_here", "_law_found", "_law_member"] ["_law_members_here", "_law_lot_here"] (defScope (topS 66)) := ⟨rfl, rfl, rfl, by decide +kernel, rfl, by decide +kernel, by decide +kernel⟩
theorem sc__law_single : FnScope ["_law_hand_here", "_law_v", "_law_s"] ["_law_hand_here", "_law_v"] (defScope (topS 67)) := ⟨rfl, rfl, rfl, by decide +kernel, rfl, by decide +kernel, by decide +kernel⟩
theorem sc__law_drawn_row : FnScope ["_law_hand_here", "_law_v", "_law_way", "_law_kept", "_law_one", "_law_s"] ["_law_hand_here", "_law_v"] (defScope (topS 68)) := ⟨rfl, rfl, rfl, by decide +kernel, rfl, by decide +kernel, by decide +kernel⟩
theorem sc__law_next : FnScope ["_law_row", "_law_lot_here", "_law_found", "_law_s"] ["_law_row", "_law_lot_here"] (defScope (topS 69)) := ⟨rfl, rfl, rfl, by decide +kernel, rfl, by decide +kernel, by decide +kernel⟩
theorem sc__law_back : FnScope ["_law_row", "_law_lot_here", "_law_found", "_law_s"] ["_law_row", "_law_lot_here"] (defScope (topS 70)) := ⟨rfl, rfl, rfl, by decide +kernel, rfl, by decide +kernel, by decide +kernel⟩
theorem sc__law_names : FnScope ["_law_hand_here", "_law_many", "_law_pool", "_law_names_here", "_law_k", "_law_at"] ["_law_hand_here", "_law_many"] (defScope (topS 71)) := ⟨rfl, rfl, rfl, by decide +kernel, rfl, by decide +kernel, by decide +kernel⟩
theorem sc__law_rows_of : FnScope ["_law_entries", "_law_rows", "_law_name", "_law_row"] ["_law_entries"] (defScope (topS 72)) := ⟨rfl, rfl, rfl, by decide +kernel, rfl, by decide +kernel, by decide +kernel⟩
theorem sc__law_program : FnScope ["_law_hand_here", "_law_names_here", "_law_leaves", "_law_deep", "_law_way", "_law_left", "_law_word_here", "_law_one"] ["_law_hand_here", "_law_names_here", "_law_leaves", "_law_deep"] (defScope (topS 73)) := ⟨rfl, rfl, rfl, by decide +kernel, rfl, by decide +kernel, by decide +kernel⟩
theorem sc__law_run : FnScope ["_law_rows", "_law_program_here", "_law_lot_here", "_law_path", "_law_out", "_law_word_here", "_law_middle", "_law_one", "_law_k", "_law_grown"] ["_law_rows", "_law_program_here", "_law_lot_here", "_law_path", "_law_out"] (defScope (topS 74)) := ⟨rfl, rfl, rfl, by decide +kernel, rfl, by decide +kernel, by decide +kernel⟩
theorem sc__law_list : FnScope ["_law_hand_here", "_law_items"] ["_law_hand_here", "_law_items"] (defScope (topS 75)) := ⟨rfl, rfl, rfl, by decide +kernel, rfl, by decide +kernel, by decide +kernel⟩
theorem sc__law_int : FnScope ["_law_thing"] ["_law_thing"] (defScope (topS 76)) := ⟨rfl, rfl, rfl, by decide +kernel, rfl, by decide +kernel, by decide +kernel⟩
theorem sc__law_exact : FnScope ["_law_told", "_law_due", "_law_k"] ["_law_told", "_law_due"] (defScope (topS 77)) := ⟨rfl, rfl, rfl, by decide +kernel, rfl, by decide +kernel, by decide +kernel⟩
theorem sc__law_sharp : FnScope ["_law_members_here", "_law_row", "_law_lot_here", "_law_wide"] ["_law_members_here", "_law_row", "_law_lot_here"] (defScope (topS 78)) := ⟨rfl, rfl, rfl, by decide +kernel, rfl, by decide +kernel, by decide +kernel⟩
theorem sc__law_met_steps : FnScope ["_law_rows", "_law_program_here", "_law_lot_here", "_law_run_here"] ["_law_rows", "_law_program_here", "_law_lot_here"] (defScope (topS 79)) := ⟨rfl, rfl, rfl, by decide +kernel, rfl, by decide +kernel, by decide +kernel⟩
theorem sc__law_world : FnScope ["_law_hand_here", "_law_most", "_law_v", "_law_members_here", "_law_names_here", "_law_entries", "_law_k", "_law_name"] ["_law_hand_here", "_law_most"] (defScope (topS 80)) := ⟨rfl, rfl, rfl, by decide +kernel, rfl, by decide +kernel, by decide +kernel⟩
theorem sc__law_start : FnScope ["_law_hand_here", "_law_v"] ["_law_hand_here", "_law_v"] (defScope (topS 81)) := ⟨rfl, rfl, rfl, by decide +kernel, rfl, by decide +kernel, by decide +kernel⟩
theorem sc__law_refined : FnScope ["_law_v", "_law_members_here", "_law_entries", "_law_found", "_law_turn", "_law_more_here", "_law_name", "_law_row", "_law_grown", "_law_lot_here"] ["_law_v", "_law_members_here", "_law_entries"] (defScope (topS 82)) := ⟨rfl, rfl, rfl, by decide +kernel, rfl, by decide +kernel, by decide +kernel⟩
theorem sc__law_steered : FnScope ["_law_hand_here", "_law_world_here", "_law_program_here", "_law_lot_here", "_law_way", "_law_lots", "_law_met_here"] ["_law_hand_here", "_law_world_here", "_law_program_here", "_law_lot_here"] (defScope (topS 83)) := ⟨rfl, rfl, rfl, by decide +kernel, rfl, by decide +kernel, by decide +kernel⟩
theorem sc__law_make : FnScope ["_law_hand_here", "_law_world_here", "_law_members_here", "_law_rows", "_law_name", "_law_row"] ["_law_hand_here", "_law_world_here"] (defScope (topS 84)) := ⟨rfl, rfl, rfl, by decide +kernel, rfl, by decide +kernel, by decide +kernel⟩
theorem sc__law_lot : FnScope ["_law_v", "_law_thing"] ["_law_v", "_law_thing"] (defScope (topS 85)) := ⟨rfl, rfl, rfl, by decide +kernel, rfl, by decide +kernel, by decide +kernel⟩
theorem sc__law_nodes : FnScope ["_law_rows", "_law_program_here", "_law_depth", "_law_agains", "_law_word_here", "_law_total", "_law_part", "_law_inner"] ["_law_rows", "_law_program_here", "_law_depth", "_law_agains"] (defScope (topS 86)) := ⟨rfl, rfl, rfl, by decide +kernel, rfl, by decide +kernel, by decide +kernel⟩
theorem sc__law_fine : FnScope ["_law_rows", "_law_program_here"] ["_law_rows", "_law_program_here"] (defScope (topS 87)) := ⟨rfl, rfl, rfl, by decide +kernel, rfl, by decide +kernel, by decide +kernel⟩
theorem sc__law_due_programs : FnScope ["_law_how", "_law_program_here"] ["_law_how", "_law_program_here"] (defScope (topS 88)) := ⟨rfl, rfl, rfl, by decide +kernel, rfl, by decide +kernel, by decide +kernel⟩
theorem sc__law_shape_word : FnScope ["_law_v", "_law_rows", "_law_line", "_law_how", "_law_word_here", "_law_makes"] ["_law_v", "_law_rows", "_law_line"] (defScope (topS 89)) := ⟨rfl, rfl, rfl, by decide +kernel, rfl, by decide +kernel, by decide +kernel⟩
theorem sc__law_uppers_good : FnScope ["_law_lines", "_law_number", "_law_line", "_law_due", "_law_k", "_law_at"] ["_law_lines", "_law_number"] (defScope (topS 90)) := ⟨rfl, rfl, rfl, by decide +kernel, rfl, by decide +kernel, by decide +kernel⟩
theorem sc__law_lots_good : FnScope ["_law_rows", "_law_line", "_law_given", "_law_how", "_law_wanted"] ["_law_rows", "_law_line", "_law_given"] (defScope (topS 91)) := ⟨rfl, rfl, rfl, by decide +kernel, rfl, by decide +kernel, by decide +kernel⟩
theorem sc__law_seen_word : FnScope ["_law_members_here", "_law_rows", "_law_line", "_law_given", "_law_one"] ["_law_members_here", "_law_rows", "_law_line", "_law_given"] (defScope (topS 92)) := ⟨rfl, rfl, rfl, by decide +kernel, rfl, by decide +kernel, by decide +kernel⟩
theorem sc__law_word : FnScope ["_law_v", "_law_members_here", "_law_rows", "_law_lines", "_law_number", "_law_line", "_law_word_here", "_law_given", "_law_at"] ["_law_v", "_law_members_here", "_law_rows", "_law_lines", "_law_number"] (defScope (topS 93)) := ⟨rfl, rfl, rfl, by decide +kernel, rfl, by decide +kernel, by decide +kernel⟩
theorem sc__law_fault : FnScope ["_law_world_here", "_law_lines", "_law_number", "_law_word_here"] ["_law_world_here", "_law_lines"] (defScope (topS 94)) := ⟨rfl, rfl, rfl, by decide +kernel, rfl, by decide +kernel, by decide +kernel⟩
theorem sc__law_shrunk : FnScope ["_law_hand_here", "_law_members_here", "_law_lot_here", "_law_kept", "_law_drawn", "_law_s", "_law_less"] ["_law_hand_here", "_law_members_here", "_law_lot_here"] (defScope (topS 95)) := ⟨rfl, rfl, rfl, by decide +kernel, rfl, by decide +kernel, by decide +kernel⟩
theorem sc__law_put : FnScope ["_law_lines", "_law_line"] ["_law_lines", "_law_line"] (defScope (topS 96)) := ⟨rfl, rfl, rfl, by decide +kernel, rfl, by decide +kernel, by decide +kernel⟩
theorem sc__law_derive : FnScope ["_law_hand_here", "_law_world_here", "_law_program_here", "_law_lot_here", "_law_lines", "_law_loose", "_law_had", "_law_less", "_law_number", "_law_end"] ["_law_hand_here", "_law_world_here", "_law_program_here", "_law_lot_here", "_law_lines", "_law_loose"] (defScope (topS 97)) := ⟨rfl, rfl, rfl, by decide +kernel, rfl, by decide +kernel, by decide +kernel⟩
theorem sc__law_derive_own : FnScope ["_law_hand_here", "_law_world_here", "_law_program_here", "_law_lot_here", "_law_lines", "_law_loose", "_law_word_here", "_law_row", "_law_one", "_law_other", "_law_end"] ["_law_hand_here", "_law_world_here", "_law_program_here", "_law_lot_here", "_law_lines", "_law_loose"] (defScope (topS 98)) := ⟨rfl, rfl, rfl, by decide +kernel, rfl, by decide +kernel, by decide +kernel⟩
theorem sc__law_derive_again : FnScope ["_law_hand_here", "_law_world_here", "_law_program_here", "_law_lot_here", "_law_lines", "_law_loose", "_law_rounds", "_law_here", "_law_k", "_law_number", "_law_grown", "_law_last", "_law_top"] ["_law_hand_here", "_law_world_here", "_law_program_here", "_law_lot_here", "_law_lines", "_law_loose"] (defScope (topS 99)) := ⟨rfl, rfl, rfl, by decide +kernel, rfl, by decide +kernel, by decide +kernel⟩
theorem sc__law_derived : FnScope ["_law_hand_here", "_law_world_here", "_law_program_here", "_law_lot_here", "_law_loose", "_law_start_here", "_law_lines", "_law_single_here"] ["_law_hand_here", "_law_world_here", "_law_program_here", "_law_lot_here", "_law_loose"] (defScope (topS 100)) := ⟨rfl, rfl, rfl, by decide +kernel, rfl, by decide +kernel, by decide +kernel⟩
theorem sc__law_odd : FnScope ["_law_hand_here", "_law_v"] ["_law_hand_here", "_law_v"] (defScope (topS 101)) := ⟨rfl, rfl, rfl, by decide +kernel, rfl, by decide +kernel, by decide +kernel⟩
theorem sc__law_more : FnScope ["_law_hand_here", "_law_world_here", "_law_lines", "_law_k", "_law_j", "_law_start_here", "_law_program_here", "_law_end", "_law_many", "_law_wide", "_law_way", "_law_name", "_law_row", "_law_one", "_law_at"] ["_law_hand_here", "_law_world_here", "_law_lines"] (defScope (topS 102)) := ⟨rfl, rfl, rfl, by decide +kernel, rfl, by decide +kernel, by decide +kernel⟩
theorem sc__law_wrong_program : FnScope ["_law_hand_here", "_law_program_here", "_law_way", "_law_made", "_law_k"] ["_law_hand_here", "_law_program_here"] (defScope (topS 103)) := ⟨rfl, rfl, rfl, by decide +kernel, rfl, by decide +kernel, by decide +kernel⟩
theorem sc__law_wrong_uppers : FnScope ["_law_hand_here", "_law_uppers", "_law_number", "_law_way", "_law_at"] ["_law_hand_here", "_law_uppers", "_law_number"] (defScope (topS 104)) := ⟨rfl, rfl, rfl, by decide +kernel, rfl, by decide +kernel, by decide +kernel⟩
theorem sc__law_spoilt : FnScope ["_law_hand_here", "_law_world_here", "_law_line", "_law_number", "_law_way", "_law_start_here", "_law_program_here", "_law_end", "_law_how", "_law_uppers", "_law_bit", "_law_word_here"] ["_law_hand_here", "_law_world_here", "_law_line", "_law_number"] (defScope (topS 105)) := ⟨rfl, rfl, rfl, by decide +kernel, rfl, by decide +kernel, by decide +kernel⟩
theorem sc__law_spoilt_more : FnScope ["_law_hand_here", "_law_world_here", "_law_line", "_law_number", "_law_one", "_law_other", "_law_k"] ["_law_hand_here", "_law_world_here", "_law_line", "_law_number"] (defScope (topS 106)) := ⟨rfl, rfl, rfl, by decide +kernel, rfl, by decide +kernel, by decide +kernel⟩
theorem sc__law_alike : FnScope ["_law_hand_here", "_law_world_here", "_law_lines", "_law_other", "_law_glasses", "_law_word_here"] ["_law_hand_here", "_law_world_here", "_law_lines"] (defScope (topS 107)) := ⟨rfl, rfl, rfl, by decide +kernel, rfl, by decide +kernel, by decide +kernel⟩
theorem sc_law : FnScope ["_law_script", "_law_hand_here", "_law_world_here", "_law_names_here", "_law_program_here", "_law_lot_here", "_law_lines", "_law_k", "_law_made", "_law_passed", "_law_kept", "_law_number", "_law_spoilt_here", "_law_given", "_law_strange", "_law_entry"] ["_law_script"] (defScope (topS 108)) := ⟨rfl, rfl, rfl, by decide +kernel, rfl, by decide +kernel, by decide +kernel⟩
def fnL0 : List He.DefD := [d_BadProgram__init_, d_is_sequence, d_is_whole, d_check_stands, d_all_stands, d_check_lot, d_is_within, d_first_unmet, d_Glasses__init_, d_Glasses_rounded, d_Glasses__contains_, d_has_shape, d_inner_programs, d_check_node, d_check_program, d_check_row, d_next_lot, d_check_alike, d_rounded_alike, d_sharp_at, d_rule_names, d_due_programs, d_is_refused, d_shape_word, d_uppers_fit]
def fnL1 : List He.DefD := [d_lots_fit, d_grow_fits, d_line_word, d_lines_fault, d_is_name, d_entry_fault, d_Steps__init_, d_Steps__contains_, d_Steps_row_of, d__law_hand, d__law_mixed, d__law_take, d__law_stands, d__law_every, d__law_within, d__law_met, d__law_members, d__law_rounded, d__law_single, d__law_drawn_row, d__law_next, d__law_back, d__law_names, d__law_rows_of, d__law_program]
def fnL2 : List He.DefD := [d__law_run, d__law_list, d__law_int, d__law_exact, d__law_sharp, d__law_met_steps, d__law_world, d__law_start, d__law_refined, d__law_steered, d__law_make, d__law_lot, d__law_nodes, d__law_fine, d__law_due_programs, d__law_shape_word, d__law_uppers_good, d__law_lots_good, d__law_seen_word, d__law_word, d__law_fault, d__law_shrunk, d__law_put, d__law_derive, d__law_derive_own]
def fnL3 : List He.DefD := [d__law_derive_again, d__law_derived, d__law_odd, d__law_more, d__law_wrong_program, d__law_wrong_uppers, d__law_spoilt, d__law_spoilt_more, d__law_alike, d_law]
def fnL : List He.DefD := fnL0 ++ (fnL1 ++ (fnL2 ++ (fnL3)))
def gloL0 : List Str := ["CheckerError", "BadStands", "BadLot", "BadGlasses", "UnlikeStands", "BadRow", "BadSteps", "NoStep", "BadProgram", "is_sequence", "is_whole", "check_stands", "all_stands", "check_lot", "is_within", "first_unmet", "Glasses", "SIZES", "has_shape", "inner_programs", "check_node", "check_program", "check_row", "next_lot", "check_alike"]
def gloL1 : List Str := ["rounded_alike", "sharp_at", "SHAPES", "rule_names", "due_programs", "is_refused", "shape_word", "uppers_fit", "lots_fit", "grow_fits", "line_word", "lines_fault", "is_name", "entry_fault", "Steps", "_law_hand", "_law_mixed", "_law_take", "_law_stands", "_law_every", "_law_within", "_law_met", "_law_members", "_law_rounded", "_law_single"]
def gloL2 : List Str := ["_law_drawn_row", "_law_next", "_law_back", "_law_names", "_law_rows_of", "_law_program", "_law_run", "_law_list", "_law_int", "_law_exact", "_law_sharp", "_law_met_steps", "_law_world", "_law_start", "_law_refined", "_law_steered", "_law_make", "_law_lot", "_law_nodes", "_law_fine", "_law_due_programs", "_law_shape_word", "_law_uppers_good", "_law_lots_good", "_law_seen_word"]
def gloL3 : List Str := ["_law_word", "_law_fault", "_law_shrunk", "_law_put", "_law_derive", "_law_derive_own", "_law_derive_again", "_law_derived", "_law_odd", "_law_more", "_law_wrong_program", "_law_wrong_uppers", "_law_spoilt", "_law_spoilt_more", "_law_alike", "law"]
def gloL : List Str := gloL0 ++ (gloL1 ++ (gloL2 ++ (gloL3)))
def freeL : List Str := ["isinstance", "list", "tuple", "bool", "int", "str", "len", "range", "enumerate", "zip", "sorted", "min", "abs", "reversed", "repr"]
def intL : List (Str × Int) := [("MOST_DEEP", 12), ("MOST_LONG", 60), ("MOST_AGAINS", 4), ("MOST_STEPS", 20), ("MOST_STANDS", 6)]
def othL : List He.Fa := [.str "LETTERS" "abcdefghijklmnopqrstuvwxyz", .cls "Glasses", .mkr "Glasses", .cls "Steps", .mkr "Steps", .noat "Glasses" "stands", .noat "Glasses" "members", .meth "Glasses" "rounded",
  .noat "Steps" "stands", .noat "Steps" "names", .noat "Steps" "rows", .meth "Steps" "row_of", .meth "Steps" "__contains__", .exc "UnlikeStands", .exm "UnlikeStands" "UnlikeStands" true, .exm "BadProgram" "BadProgram" true, .meth "BadProgram" "__init__", .noat "BadProgram" "what"]
def fa : List He.Fa := gloL.map .glo ++ (freeL.map .free ++ (intL.map (fun q => .int q.1 q.2) ++ othL))
def tabs : List He.Tab := [(fun K => He.ga K "SIZES", ["step", "nothing", "behind", "either", "again"]), (fun K => He.ga K "SHAPES", ["step", "nothing", "behind", "either", "more", "closed"])]
/-- an own exception class over ValueError with its own __init__ -/
def oexB (K : PySem.W.Frag) (C : Addr) : Bool := (match K.lookup C with
  | some ⟨.type "type", _, .cls cd, sl⟩ => (match cd.mro, sl.toList with
    | .ref C' :: bm, [_, _, _, _, some (.builtin n), _] => C' == C && n == "ValueError.__new__" && !cd.hasDel && cd.hasDict && PySem.HandSPX.refsVE bm
    | _, _ => false)
  | _ => false) && (He.eqO (PySem.W.findIn K (.ref C) "__setattr__") (some (some (.builtin "object.__setattr__"))) && (decide (PySem.W.subIn K (.ref C) (.type "BaseException") = some true) && (decide (PySem.W.typeIn K (.ref C) = some (.type "type")) && PySem.W.keepIn K (.ref C))))
theorem oexB_ok {K : PySem.W.Frag} {C : Addr} (h : oexB K C = true) : OexC K C := by
  obtain ⟨q, h⟩ := He.ba h
  obtain ⟨h1, h⟩ := He.ba h
  obtain ⟨h2, h⟩ := He.ba h
  obtain ⟨h3, h4⟩ := He.ba h
  refine ⟨?_, He.eqO_ok h1, of_decide_eq_true h2, of_decide_eq_true h3, h4⟩
  split at q
  · rename_i dd cd sl ho
    split at q
    · rename_i C' bm k0 k1 k2 k3 n k5 hm hs
      simp only [Bool.and_eq_true, beq_iff_eq, Bool.not_eq_true'] at q
      obtain ⟨⟨⟨⟨rfl, rfl⟩, hdel⟩, hdict⟩, hv⟩ := q
      obtain ⟨nm, bs, mro, ns, qn, hd, sn, sub, ab, col, del⟩ := cd
      dsimp only at hm hdel hdict
      subst hm hdel hdict
      have hsl : sl = #[k0, k1, k2, k3, some (.builtin "ValueError.__new__"), k5] := by
        obtain ⟨l⟩ := sl
        simp only at hs
        rw [hs]
      subst hsl
      exact ⟨nm, qn, ns, bs, bm, sn, sub, ab, col, dd, k0, k1, k2, k3, k5, ho, hv⟩
    · cases q
  · cases q
/-- no object of the written part is a list -/
def noLstB (K : PySem.W.Frag) : Bool := K.all fun p => !decide (p.2.cls = .type "list")
theorem look_mem {a : Addr} {o : Obj} : ∀ {K : PySem.W.Frag}, K.lookup a = some o → (a, o) ∈ K
  | [], h => by cases h
  | (b, u) :: r, h => by
    by_cases e : a = b
    · subst e
      rw [List.lookup_cons_self] at h
      cases h
      exact List.mem_cons_self ..
    · rw [List.lookup_cons, show (a == b) = false from beq_false_of_ne e] at h
      exact List.mem_cons_of_mem _ (look_mem h)
theorem noLst_ok {K : PySem.W.Frag} (h : noLstB K = true) {a : Addr} {o : Obj} (e : K.lookup a = some o) : o.cls ≠ .type "list" := fun z => by
  have q := List.all_eq_true.mp h (a, o) (look_mem e)
  have q : (!decide (o.cls = .type "list")) = true := q
  rw [decide_eq_true z] at q
  cases q
def extB (K : PySem.W.Frag) : Bool := ((He.valsB K (He.ga K "SIZES") [("step", .int 2), ("nothing", .int 1), ("behind", .int 3), ("either", .int 3), ("again", .int 2)] &&
  He.valsB K (He.ga K "SHAPES") [("step", .str "step"), ("nothing", .str "nothing"), ("behind", .str "behind"), ("either", .str "either"), ("more", .str "again"), ("closed", .str "again")]) && oexB K (He.ga K "BadProgram")) && noLstB K
/-- what stands behind the top -/
structure Txt (C : Ct) : Prop where
  says : He.SaysT fa fnL tabs C.w C.K
  ext : extB C.K = true
  kin : ∃ h, C.K.In h ∧ h.Ns mainGlobals C.mg
section
variable {C : Ct} (T : Txt C)
include T
theorem Txt.fact {f : He.Fa} (h : f ∈ fa) : f.ok C.K = true := by
  obtain ⟨i, hi, e⟩ := List.mem_iff_getElem.mp h
  exact T.says.d.fact i (by rw [List.getElem?_eq_getElem hi, e])
theorem Txt.glo (x : Str) (h : x ∈ gloL := by decide +kernel) : C.mg x = some (.ref (He.ga C.K x)) := by
  obtain ⟨hp, X, G⟩ := T.kin
  exact He.glo_ok X G (T.fact (List.mem_append_left _ (List.mem_map_of_mem h)))
theorem Txt.free (x : Str) (h : x ∈ freeL := by decide +kernel) : C.mg x = none := by
  obtain ⟨hp, X, G⟩ := T.kin
  exact He.free_ok X G (T.fact (List.mem_append_right _ (List.mem_append_left _ (List.mem_map_of_mem h))))
theorem Txt.int_ (x : Str) {i : Int} (h : (x, i) ∈ intL := by decide +kernel) : ∃ t, C.mg x = some (.int i t) := by
  obtain ⟨hp, X, G⟩ := T.kin
  exact He.int_ok X G (T.fact (List.mem_append_right _ (List.mem_append_right _ (List.mem_append_left _ (List.mem_map.mpr ⟨(x, i), h, rfl⟩)))))
theorem Txt.oth (n : Nat) {f : He.Fa} (h : othL[n]? = some f := by rfl) : f.ok C.K = true := T.fact (List.mem_append_right _ (List.mem_append_right _ (List.mem_append_right _ (List.mem_of_getElem? h))))
theorem Txt.str_ (x : Str) {z : Str} (h : othL[0]? = some (.str x z) := by rfl) : ∃ t, C.mg x = some (.str z t) := by
  obtain ⟨hp, X, G⟩ := T.kin
  exact He.str_ok X G (T.oth 0 h)
theorem Txt.def_ (i : Nat) {d : He.DefD} (h : fnL[i]? = some d := by rfl) : ∃ fd, FunD C.K d.name d.qual d.params d.body d.scope (d.dvs C.K) (d.kws C.K) (He.fAd C.K d.at_) fd := T.says.d.def_ i h
end
end TA
set_option Elab.async false
set_option linter.all false
set_option maxRecDepth 100000
set_option maxHeartbeats 0
namespace TA
open PySem PySem.Spec L2
open PyProof.Rows hiding St
def lo0 : List PySem.Str := ["_wall", "CheckerError", "BadStands", "BadLot", "BadGlasses", "UnlikeStands", "BadRow", "BadSteps", "NoStep", "BadProgram", "is_sequence", "is_whole", "check_stands", "all_stands", "check_lot", "is_within", "first_unmet", "Glasses", "MOST_DEEP", "MOST_LONG", "MOST_AGAINS", "SIZES", "has_shape", "inner_programs", "check_node", "check_program", "check_row", "next_lot", "check_alike", "rounded_alike"]
def lo1 : List PySem.Str := ["sharp_at", "SHAPES", "rule_names", "due_programs", "is_refused", "shape_word", "uppers_fit", "lots_fit", "grow_fits", "line_word", "lines_fault", "MOST_STEPS", "MOST_STANDS", "LETTERS", "is_name", "entry_fault", "Steps", "_law_hand", "_law_mixed", "_law_take", "_law_stands", "_law_every", "_law_within", "_law_met", "_law_members", "_law_rounded", "_law_single", "_law_drawn_row", "_law_next", "_law_back"]
def lo2 : List PySem.Str := ["_law_names", "_law_rows_of", "_law_program", "_law_run", "_law_list", "_law_int", "_law_exact", "_law_sharp", "_law_met_steps", "_law_world", "_law_start", "_law_refined", "_law_steered", "_law_make", "_law_lot", "_law_nodes", "_law_fine", "_law_due_programs", "_law_shape_word", "_law_uppers_good", "_law_lots_good", "_law_seen_word", "_law_word", "_law_fault", "_law_shrunk", "_law_put", "_law_derive", "_law_derive_own", "_law_derive_again", "_law_derived"]
def lo3 : List PySem.Str := ["_law_odd", "_law_more", "_law_wrong_program", "_law_wrong_uppers", "_law_spoilt", "_law_spoilt_more", "_law_alike"]
def loose : List PySem.Str := lo0 ++ (lo1 ++ (lo2 ++ (lo3)))
def asL0 : List Addr := [3, 6, 4, 21, 31, 44, 56, 75, 87, 106, 125, 144, 163, 172, 180, 187, 194, 201, 208, 215, 276, 281, 288, 295, 302, 309, 316, 323, 330, 337, 344, 345, 352, 359, 366, 373, 380, 387, 394, 399, 406, 411, 416, 459, 470, 477, 484, 491, 498, 505, 512, 517, 524, 529, 534, 541, 548, 555, 562, 569]
def asL1 : List Addr := [576, 583, 590, 595, 602, 609, 614, 621, 626, 631, 636, 643, 650, 657, 664, 671, 678, 685, 692, 697, 704, 711, 718, 725, 732, 739, 746, 753, 760, 767, 774, 781, 786, 793, 798, 0, 20, 30, 43, 55, 74, 86, 105, 124, 143, 162, 171, 179, 173, 186, 193, 200, 207, 214, 275, 287, 294, 301, 308, 315]
def asL2 : List Addr := [322, 329, 336, 343, 351, 358, 365, 372, 379, 386, 393, 398, 405, 410, 415, 458, 469, 476, 483, 490, 497, 504, 511, 516, 523, 528, 533, 540, 547, 554, 561, 568, 575, 582, 589, 594, 601, 608, 613, 620, 625, 630, 635, 642, 649, 656, 663, 670, 677, 684, 691, 696, 703, 710, 717, 724, 731, 738, 745, 752]
def asL3 : List Addr := [759, 766, 773, 780, 785, 792, 797, 15, 16, 17, 18, 19, 29, 32, 42, 54, 72, 73, 85, 103, 104, 122, 123, 141, 142, 160, 161, 166, 167, 168, 169, 170, 174, 175, 176, 177, 178, 181, 182, 183, 184, 185, 188, 189, 190, 191, 192, 195, 196, 197, 198, 199, 202, 203, 204, 205, 206, 209, 210, 211]
def asL4 : List Addr := [212, 213, 229, 237, 245, 252, 259, 266, 273, 274, 277, 278, 282, 283, 284, 285, 286, 289, 290, 291, 292, 293, 296, 297, 298, 299, 300, 303, 304, 305, 306, 307, 310, 311, 312, 313, 314, 317, 318, 319, 320, 321, 324, 325, 326, 327, 328, 331, 332, 333, 334, 335, 338, 339, 340, 341, 342, 346, 347, 348]
def asL5 : List Addr := [349, 350, 353, 354, 355, 356, 357, 360, 361, 362, 363, 364, 367, 368, 369, 370, 371, 374, 375, 376, 377, 378, 381, 382, 383, 384, 385, 388, 389, 390, 391, 392, 395, 396, 397, 400, 401, 402, 403, 404, 407, 408, 409, 412, 413, 414, 428, 435, 442, 449, 456, 457, 460, 461, 464, 465, 466, 467, 468, 471]
def asL6 : List Addr := [472, 473, 474, 475, 478, 479, 480, 481, 482, 485, 486, 487, 488, 489, 492, 493, 494, 495, 496, 499, 500, 501, 502, 503, 506, 507, 508, 509, 510, 513, 514, 515, 518, 519, 520, 521, 522, 525, 526, 527, 530, 531, 532, 535, 536, 537, 538, 539, 542, 543, 544, 545, 546, 549, 550, 551, 552, 553, 556, 557]
def asL7 : List Addr := [558, 559, 560, 563, 564, 565, 566, 567, 570, 571, 572, 573, 574, 577, 578, 579, 580, 581, 584, 585, 586, 587, 588, 591, 592, 593, 596, 597, 598, 599, 600, 603, 604, 605, 606, 607, 610, 611, 612, 615, 616, 617, 618, 619, 622, 623, 624, 627, 628, 629, 632, 633, 634, 637, 638, 639, 640, 641, 644, 645]
def asL8 : List Addr := [646, 647, 648, 651, 652, 653, 654, 655, 658, 659, 660, 661, 662, 665, 666, 667, 668, 669, 672, 673, 674, 675, 676, 679, 680, 681, 682, 683, 686, 687, 688, 689, 690, 693, 694, 695, 698, 699, 700, 701, 702, 705, 706, 707, 708, 709, 712, 713, 714, 715, 716, 719, 720, 721, 722, 723, 726, 727, 728, 729]
def asL9 : List Addr := [730, 733, 734, 735, 736, 737, 740, 741, 742, 743, 744, 747, 748, 749, 750, 751, 754, 755, 756, 757, 758, 761, 762, 763, 764, 765, 768, 769, 770, 771, 772, 775, 776, 777, 778, 779, 782, 783, 784, 787, 788, 789, 790, 791, 794, 795, 796, 71, 102, 121, 140, 159, 228, 236, 244, 251, 258, 265, 272, 427]
def asL10 : List Addr := [434, 441, 448, 455]
/-- the addresses that are looked at behind the top -/
def asL : List Addr := asL0 ++ (asL1 ++ (asL2 ++ (asL3 ++ (asL4 ++ (asL5 ++ (asL6 ++ (asL7 ++ (asL8 ++ (asL9 ++ (asL10))))))))))
abbrev RW : PySem.W.OpenRow := PySem.W.OpenLaw.row PySem.Challenge.rw_truealarms_k25_whole_lines_judged_word_f
abbrev qv : Program := PySem.W.view RW.prog [108]
abbrev AlZ : Type := He.AlT × Bool
def obsZ (g : Addr → Option Obj) : AlZ := (He.obsT fa fnL tabs (He.frG g asL), extB (He.frG g asL))
def hookZ : PySem.W.Hook where
  α := AlZ
  obs := fun s => obsZ s.heap.get?
  val := fun w => (He.valT fnL tabs w, true)
  says := fun w h => ∃ K : PySem.W.Frag, K.In h ∧ He.SaysT fa fnL tabs w K ∧ extB K = true
  of := fun _ _ e => ⟨_, He.frG_in, congrArg Prod.fst e, congrArg Prod.snd e⟩
  keeps := fun _ _ _ ⟨K, hK, c⟩ k => ⟨K, PySem.W.Frag.In.keeps hK k, c⟩
def obZ (s : PySem.W.SharedT) : AlZ := obsZ (HandSHeadRun.getT s)
theorem obZ_eq (s : PySem.W.SharedT) : obZ s = hookZ.obs s.abs := by
  show obsZ (HandSHeadRun.getT s) = obsZ s.abs.heap.get?
  rw [show HandSHeadRun.getT s = s.abs.heap.get? from funext (HandSHeadRun.getT_eq s)]
theorem runF (w : World) : HandSHeadRun.RunEq RW qv hookZ obZ 6500 loose (w.withFollow "special-get-raises" false) := by
  intro os
  kernel_rfl
theorem runT (w : World) : HandSHeadRun.RunEq RW qv hookZ obZ 6500 loose (w.withFollow "special-get-raises" true) := by
  intro os
  kernel_rfl
theorem runZ (w : World) : HandSHeadRun.RunEq RW qv hookZ obZ 6500 loose w := PySem.W.byRow2 "special-get-raises" (P := fun w => HandSHeadRun.RunEq RW qv hookZ obZ 6500 loose w) runF runT w
end TA
set_option Elab.async false
set_option linter.all false
set_option maxRecDepth 100000
set_option maxHeartbeats 4000000
namespace TA
open PySem PySem.Spec L2
open PyProof.Rows hiding St
/-! ### in, of flat items -/
def flatD : D → Bool
  | .non => true
  | .bl _ => true
  | .int _ => true
  | .str _ => true
  | _ => false
def eqF : D → D → Bool
  | .non, .non => true
  | .bl a, .bl b => a == b
  | .bl a, .int b => (if a then 1 else 0) == b
  | .int a, .bl b => a == (if b then 1 else 0)
  | .int a, .int b => a == b
  | .str a, .str b => a == b
  | _, _ => false
def inD (x : D) (es : List D) : Bool := es.any fun y => eqF y x
section
variable {K : PySem.W.Frag} {M : Rg} {H : Hp}
theorem flat_of {d : D} {v : V} (h : Dp K M H d v) (f : flatD d = true) : flatV v = true := by
  cases d with
  | non => rw [h.non_inv]; rfl
  | bl b => rw [h.bl_inv]; rfl
  | int b => rw [h.int_inv]; rfl
  | str b => rw [h.str_inv]; rfl
  | _ => cases f
theorem eqF_of {d e : D} {v w : V} (h : Dp K M H d v) (k : Dp K M H e w) (f : flatD d = true) (g : flatD e = true) : eqV v w = eqF d e := by
  cases d with
  | non => cases e with
    | non => rw [h.non_inv, k.non_inv]; rfl
    | bl b => rw [h.non_inv, k.bl_inv]; rfl
    | int b => rw [h.non_inv, k.int_inv]; rfl
    | str b => rw [h.non_inv, k.str_inv]; rfl
    | _ => cases g
  | bl b => cases e with
    | non => rw [h.bl_inv, k.non_inv]; rfl
    | bl b => rw [h.bl_inv, k.bl_inv]; rfl
    | int b => rw [h.bl_inv, k.int_inv]; rfl
    | str b => rw [h.bl_inv, k.str_inv]; rfl
    | _ => cases g
  | int b => cases e with
    | non => rw [h.int_inv, k.non_inv]; rfl
    | bl b => rw [h.int_inv, k.bl_inv]; rfl
    | int b => rw [h.int_inv, k.int_inv]; rfl
    | str b => rw [h.int_inv, k.str_inv]; rfl
    | _ => cases g
  | str b => cases e with
    | non => rw [h.str_inv, k.non_inv]; rfl
    | bl b => rw [h.str_inv, k.bl_inv]; rfl
    | int b => rw [h.str_inv, k.int_inv]; rfl
    | str b => rw [h.str_inv, k.str_inv]; rfl
    | _ => cases g
  | _ => cases f
theorem all_of {d : D} {v : V} (h : Dp K M H d v) (f : flatD d = true) : ∀ {ds : List D} {vs : List V}, DpL K M H ds vs → ds.all flatD = true → vs.all flatV = true ∧ inV v vs = inD d ds
  | [], vs, hl, _ => by
    have e : vs = [] := by simpa only [DpL] using hl
    rw [e]
    exact ⟨rfl, rfl⟩
  | x :: ds, vs, hl, g => by
    obtain ⟨w, r, e, h1, h2⟩ := hl.uncons
    rw [List.all_cons, Bool.and_eq_true] at g
    obtain ⟨a1, a2⟩ := all_of h f h2 g.2
    rw [e, List.all_cons, flat_of h1 g.1, a1]
    refine ⟨rfl, ?_⟩
    unfold inV inD at a2 ⊢
    rw [List.any_cons, List.any_cons, a2, eqF_of h1 h g.1 f]
def rdIn (neg : Bool) : DR2 := fun x y S Q => match seqD S y with
  | some es => flatD x = true ∧ es.all flatD = true ∧ Q (.bl (if neg then !inD x es else inD x es)) S
  | none => False
theorem opd_rin {neg : Bool} : OpD K (rIn K neg) (rdIn neg) := fun M H S x y dx dy Q QD c hx hy l q => by
  unfold rdIn at q
  cases hs : seqD S dy with
  | none => rw [hs] at q; exact q.elim
  | some es =>
    rw [hs] at q
    obtain ⟨f, g, q⟩ := q
    obtain ⟨a, vs, ev, hl, ha⟩ := seq_inv c hy hs
    obtain ⟨a1, a2⟩ := all_of hx f hl g
    exact ⟨a, vs, ev, sq_of ha, flat_of hx f, a1, by rw [a2]; exact l M _ H _ S Grow.refl c dp_bl q⟩
theorem opd_in : OpD K (rIn K false) (rdIn false) := opd_rin
theorem opd_notin : OpD K (rIn K true) (rdIn true) := opd_rin
def rdNotInS : DR2 := fun x y S Q => ∃ (c : Nat) (z : Str), x = .str ⟨#[c]⟩ ∧ y = .str z ∧ Q (.bl (!decide (c ∈ z.cps.toList))) S
theorem opd_notInS : OpD K (fun x y H Q => ∃ (c : Nat) (z : Str), x = .str ⟨#[c]⟩ ∧ y = .str z ∧ Q (.bl (!decide (c ∈ z.cps.toList))) H) rdNotInS := fun M H S x y dx dy Q QD c hx hy l q => by
  obtain ⟨c', z, rfl, rfl, q⟩ := q
  exact ⟨_, _, hx.str_inv, hy.str_inv, l M _ H _ S Grow.refl c dp_bl q⟩
/-! ### == of nested data -/
mutual
def toPy : D → PyData
  | .non => .none
  | .bl b => .bool b
  | .int i => .int i
  | .str x => .str x
  | .tup ds => .tuple (toPyL ds)
  | .lst ds => .list (toPyL ds)
  | _ => .none
def toPyL : List D → List PyData
  | [] => []
  | d :: ds => toPy d :: toPyL ds
end
mutual
/-- data without dicts, objects, handles -/
def pureD : D → Bool
  | .tup ds => pureL ds
  | .lst ds => pureL ds
  | .dic _ _ => false
  | .obj _ _ _ => false
  | .hdl _ => false
  | .scr _ => false
  | _ => true
def pureL : List D → Bool
  | [] => true
  | d :: ds => pureD d && pureL ds
end
mutual
theorem dp_py : ∀ (d : D) (v : V), Dp K M H d v → pureD d = true → L2.Dp K H v (toPy d)
  | .non, v, h, _ => by rw [h.non_inv]; exact .non
  | .bl b, v, h, _ => by rw [h.bl_inv]; exact .bl b
  | .int b, v, h, _ => by rw [h.int_inv]; exact .int b
  | .str b, v, h, _ => by rw [h.str_inv]; exact .str b
  | .tup ds, v, h, p => by
    obtain ⟨a, vs, e, na, ha, hl⟩ := h.tup_inv
    rw [e]
    exact .tup (SqT.of ha) (dpL_py ds vs hl p)
  | .lst ds, v, h, p => by
    obtain ⟨a, vs, e, na, ha, hl⟩ := h.lst_inv
    rw [e]
    exact .lst (SqL.of ha) (dpL_py ds vs hl p)
  | .dic _ _, v, h, p => by cases p
  | .obj _ _ _, v, h, p => by cases p
  | .hdl _, v, h, p => by cases p
  | .scr _, v, h, p => by cases p
theorem dpL_py : ∀ (ds : List D) (vs : List V), DpL K M H ds vs → pureL ds = true → L2.DpAll K H vs (toPyL ds)
  | [], vs, h, _ => by
    have e : vs = [] := by simpa only [DpL] using h
    rw [e]
    exact .nil
  | d :: ds, vs, h, p => by
    obtain ⟨v, r, e, h1, h2⟩ := h.uncons
    have p : (pureD d && pureL ds) = true := p
    rw [Bool.and_eq_true] at p
    rw [e]
    exact .cons (dp_py d v h1 p.1) (dpL_py ds r h2 p.2)
end
/-- data that == may be asked of -/
def eqOk (d : D) : Prop := pureD d = true ∧ SeqAt.shaped (toPy d) = true
def eqD (d e : D) : Bool := PyData.eqv (toPy d) (toPy e)
def rdEqD : DR2 := fun x y S Q => eqOk x ∧ eqOk y ∧ Q (.bl (eqD x y)) S
def rdNeD : DR2 := fun x y S Q => eqOk x ∧ eqOk y ∧ Q (.bl (!eqD x y)) S
theorem opd_eqD : OpD K (rEqD K) rdEqD := fun M H S x y dx dy Q QD c hx hy l ⟨f, g, q⟩ =>
  ⟨_, _, dp_py dx x hx f.1, dp_py dy y hy g.1, f.2, g.2, l M _ H _ S Grow.refl c dp_bl q⟩
theorem opd_neD : OpD K (rNeD K) rdNeD := fun M H S x y dx dy Q QD c hx hy l ⟨f, g, q⟩ =>
  ⟨_, _, dp_py dx x hx f.1, dp_py dy y hy g.1, f.2, g.2, l M _ H _ S Grow.refl c dp_bl q⟩
/-! ### isinstance -/
def tyD : D → Option String
  | .non => some "NoneType"
  | .bl _ => some "bool"
  | .int _ => some "int"
  | .str _ => some "str"
  | .tup _ => some "tuple"
  | .lst _ => some "list"
  | _ => none
theorem tyX_of {d : D} {v : V} {t : String} (h : Dp K M H d v) (e : tyD d = some t) : TyX K H v (.type t) := by
  cases d with
  | non => cases e; rw [h.non_inv]; exact .base .non
  | bl b => cases e; rw [h.bl_inv]; exact .base (.bl b)
  | int b => cases e; rw [h.int_inv]; exact .base (.int b)
  | str b => cases e; rw [h.str_inv]; exact .base (.str b)
  | tup ds => cases e; obtain ⟨a, vs, ev, na, ha, hl⟩ := h.tup_inv; rw [ev]; exact .base (.tup ha)
  | lst ds => cases e; obtain ⟨a, vs, ev, na, ha, hl⟩ := h.lst_inv; rw [ev]; exact .base (.lst ha)
  | _ => cases e
def isBl : D → Bool
  | .bl _ => true
  | _ => false
def isInt : D → Bool
  | .bl _ => true
  | .int _ => true
  | _ => false
def isStr : D → Bool
  | .str _ => true
  | _ => false
def isTup : D → Bool
  | .tup _ => true
  | _ => false
def isSq : D → Bool
  | .tup _ => true
  | .lst _ => true
  | _ => false
def hasT (d : D) : Prop := (tyD d).isSome = true
def rdIsi (f : D → Bool) : D → Stt → QE → Prop := fun d S Q => hasT d ∧ Q (.bl (f d)) S
def IsiOk (T : String) (f : D → Bool) : Prop := ∀ d t, tyD d = some t → kitB t T = some (f d)
theorem isi_bool : IsiOk "bool" isBl := fun d t e => by cases d <;> cases e <;> first | decide +kernel | rfl
theorem isi_int : IsiOk "int" isInt := fun d t e => by cases d <;> cases e <;> first | decide +kernel | rfl
theorem isi_str : IsiOk "str" isStr := fun d t e => by cases d <;> cases e <;> first | decide +kernel | rfl
theorem isi_tuple : IsiOk "tuple" isTup := fun d t e => by cases d <;> cases e <;> first | decide +kernel | rfl
theorem isi_list : IsiOk "list" (fun d => isSq d && !isTup d) := fun d t e => by cases d <;> cases e <;> first | decide +kernel | rfl
end
section
variable {X : Cx} {e : Expr} {de : DTE} {x : Str} {T : String} {f : D → Bool} {p p2 p3 pos tpos : Pos} {k : Nat}
theorem de_isi (hf : IsiOk T f) (hg : Gl X "isinstance") (hm : X.mg "isinstance" = none) (hg2 : Gl X x) (hm2 : X.mg x = none) (hv : bootBuiltins x = some (.type T)) (he : DE X e de) (hn : x ≠ "__name__" := by decide) (hdb : (x == ("__debug__" : Str)) = false := by decide)
    (h1 : starEach [e, .Name x p2] X.env = (false, eval e X.env) :: starEach [.Name x p2] X.env := by rfl) (h2 : starEach [.Name x p2] X.env = (false, eval (.Name x p2) X.env) :: starEach [] X.env := by rfl) (hpl : (backTo pos (starEach [.Name x p2] X.env)).any (·.1) = false := by rfl) :
    DE X (.Call (.Name "isinstance" p) [e, .Name x p2] [] pos) (dUn (rdIsi f) de) :=
  up_of (pe_callB call_isi hg hm PyProof.Rows.boot_isinstance (pa_cons he (pa_cons (pe_bltn (v := .ty T) hg2 hm2 hv rfl hn hdb) pa_nil h2) h1) (by decide) (by decide) h1 hpl) fun M ρ S QD σ H Q s c l q =>
    ⟨M, ρ, S, _, s, c, fun M1 v H1 d S1 g1 c1 hd q1 => by
      obtain ⟨hT, q1⟩ := q1
      obtain ⟨t, et⟩ := Option.isSome_iff_exists.mp hT
      exact ⟨v, .ty T, .type t, .type T, f d, rfl, .ty T, tyX_of hd et, kit_ty (hf d t et), l M1 _ H1 _ S1 g1 c1 dp_bl q1⟩, q⟩
theorem de_isibool (hm : X.mg "isinstance" = none) (hm2 : X.mg "bool" = none) (he : DE X e de) (hg : Gl X "isinstance" := by rfl) (hg2 : Gl X "bool" := by rfl)
    (h1 : starEach [e, .Name "bool" p2] X.env = (false, eval e X.env) :: starEach [.Name "bool" p2] X.env := by rfl) (h2 : starEach [.Name "bool" p2] X.env = (false, eval (.Name "bool" p2) X.env) :: starEach [] X.env := by rfl) (hpl : (backTo pos (starEach [.Name "bool" p2] X.env)).any (·.1) = false := by rfl) :
    DE X (.Call (.Name "isinstance" p) [e, .Name "bool" p2] [] pos) (dUn (rdIsi isBl) de) := de_isi isi_bool hg hm hg2 hm2 (by decide +kernel) he (by decide) (by decide) h1 h2 hpl
theorem de_isiint (hm : X.mg "isinstance" = none) (hm2 : X.mg "int" = none) (he : DE X e de) (hg : Gl X "isinstance" := by rfl) (hg2 : Gl X "int" := by rfl)
    (h1 : starEach [e, .Name "int" p2] X.env = (false, eval e X.env) :: starEach [.Name "int" p2] X.env := by rfl) (h2 : starEach [.Name "int" p2] X.env = (false, eval (.Name "int" p2) X.env) :: starEach [] X.env := by rfl) (hpl : (backTo pos (starEach [.Name "int" p2] X.env)).any (·.1) = false := by rfl) :
    DE X (.Call (.Name "isinstance" p) [e, .Name "int" p2] [] pos) (dUn (rdIsi isInt) de) := de_isi isi_int hg hm hg2 hm2 (by decide +kernel) he (by decide) (by decide) h1 h2 hpl
theorem de_isistr (hm : X.mg "isinstance" = none) (hm2 : X.mg "str" = none) (he : DE X e de) (hg : Gl X "isinstance" := by rfl) (hg2 : Gl X "str" := by rfl)
    (h1 : starEach [e, .Name "str" p2] X.env = (false, eval e X.env) :: starEach [.Name "str" p2] X.env := by rfl) (h2 : starEach [.Name "str" p2] X.env = (false, eval (.Name "str" p2) X.env) :: starEach [] X.env := by rfl) (hpl : (backTo pos (starEach [.Name "str" p2] X.env)).any (·.1) = false := by rfl) :
    DE X (.Call (.Name "isinstance" p) [e, .Name "str" p2] [] pos) (dUn (rdIsi isStr) de) := de_isi isi_str hg hm hg2 hm2 (by decide +kernel) he (by decide) (by decide) h1 h2 hpl
theorem de_isituple (hm : X.mg "isinstance" = none) (hm2 : X.mg "tuple" = none) (he : DE X e de) (hg : Gl X "isinstance" := by rfl) (hg2 : Gl X "tuple" := by rfl)
    (h1 : starEach [e, .Name "tuple" p2] X.env = (false, eval e X.env) :: starEach [.Name "tuple" p2] X.env := by rfl) (h2 : starEach [.Name "tuple" p2] X.env = (false, eval (.Name "tuple" p2) X.env) :: starEach [] X.env := by rfl) (hpl : (backTo pos (starEach [.Name "tuple" p2] X.env)).any (·.1) = false := by rfl) :
    DE X (.Call (.Name "isinstance" p) [e, .Name "tuple" p2] [] pos) (dUn (rdIsi isTup) de) := de_isi isi_tuple hg hm hg2 hm2 (by decide +kernel) he (by decide) (by decide) h1 h2 hpl
theorem kit_seq {K : PySem.W.Frag} {d : D} {t : String} (e : tyD d = some t) : PySem.W.kitAny K (.type t) [.type "list", .type "tuple"] = some (isSq d) := by
  have a := kit_ty (K := K) (isi_list d t e)
  have b := kit_ty (K := K) (isi_tuple d t e)
  cases d with
  | tup ds => exact kitAny_cons a (fun _ => kitAny_cons b (fun z => nomatch z) (fun _ => rfl)) (fun _ => rfl)
  | lst ds => exact kitAny_cons a (fun z => nomatch z) (fun _ => rfl)
  | non => exact kitAny_cons a (fun _ => kitAny_cons b (fun _ => rfl) (fun z => nomatch z)) (fun z => nomatch z)
  | bl _ => exact kitAny_cons a (fun _ => kitAny_cons b (fun _ => rfl) (fun z => nomatch z)) (fun z => nomatch z)
  | int _ => exact kitAny_cons a (fun _ => kitAny_cons b (fun _ => rfl) (fun z => nomatch z)) (fun z => nomatch z)
  | str _ => exact kitAny_cons a (fun _ => kitAny_cons b (fun _ => rfl) (fun z => nomatch z)) (fun z => nomatch z)
  | _ => cases e
theorem de_isiSeq (hm : X.mg "isinstance" = none) (hm2 : X.mg "list" = none) (hm3 : X.mg "tuple" = none) (he : DE X e de) (hg : Gl X "isinstance" := by rfl) (hg2 : Gl X "list" := by rfl) (hg3 : Gl X "tuple" := by rfl)
    (h1 : starEach [e, .Tuple [.Name "list" p2, .Name "tuple" p3] k tpos] X.env = (false, eval e X.env) :: starEach [.Tuple [.Name "list" p2, .Name "tuple" p3] k tpos] X.env := by rfl)
    (h2 : starEach [.Tuple [.Name "list" p2, .Name "tuple" p3] k tpos] X.env = (false, eval (.Tuple [.Name "list" p2, .Name "tuple" p3] k tpos) X.env) :: starEach [] X.env := by rfl)
    (h3 : starEach [.Name "list" p2, .Name "tuple" p3] X.env = (false, eval (.Name "list" p2) X.env) :: starEach [.Name "tuple" p3] X.env := by rfl)
    (h4 : starEach [.Name "tuple" p3] X.env = (false, eval (.Name "tuple" p3) X.env) :: starEach [] X.env := by rfl)
    (hpl : (backTo pos (starEach [.Tuple [.Name "list" p2, .Name "tuple" p3] k tpos] X.env)).any (·.1) = false := by rfl) :
    DE X (.Call (.Name "isinstance" p) [e, .Tuple [.Name "list" p2, .Name "tuple" p3] k tpos] [] pos) (dUn (rdIsi isSq) de) :=
  up_of (pe_callB call_isiT hg hm PyProof.Rows.boot_isinstance (pa_cons he (pa_cons (pe_tup (pa_cons (pe_bltn (v := .ty "list") hg2 hm2 (by decide +kernel) rfl) (pa_cons (pe_bltn (v := .ty "tuple") hg3 hm3 (by decide +kernel) rfl) pa_nil h4) h3)) pa_nil h2) h1) (by decide) (by decide) h1 hpl) fun M ρ S QD σ H Q s c l q =>
    ⟨M, ρ, S, _, s, c, fun M1 v H1 d S1 g1 c1 hd q1 => by
      obtain ⟨hT, q1⟩ := q1
      obtain ⟨t, et⟩ := Option.isSome_iff_exists.mp hT
      refine ⟨by show 2 ≤ sizeLine; rw [sizeLine_eq]; omega, fun tp htp => ?_⟩
      refine ⟨v, tp, [.ty "list", .ty "tuple"], .type t, [.type "list", .type "tuple"], isSq d, rfl, upd_same, .cons (.ty _) (.cons (.ty _) .nil), tyX_of (hd.mono (Grow.new htp)) et, kit_seq et, ?_⟩
      exact l M1 _ _ _ S1 (g1.trans (Grow.new htp)) (c1.new htp) dp_bl q1, q⟩
end
theorem nomarkin {op : CmpOp} (e : Expr) (h : behindInMarks op e = false := by rfl) : behindInMarks op e = false := h
end TA
set_option Elab.async false
set_option linter.all false
set_option maxRecDepth 100000
set_option maxHeartbeats 4000000
namespace TA
open PySem PySem.Spec L2
open PyProof.Rows hiding St
/-! ## mutable lists -/
section
variable {X : Cx} {e o i : Expr} {es : List Expr} {de da do_ dn : DTE} {dr : DTA} {pos apos cpos p : Pos} {K : PySem.W.Frag} {M M1 : Rg} {H H1 : Hp} {S : Stt}
/-- a new mutable list -/
def dLstH (da : DTA) : DTE := fun ρ S Q => da ρ S fun xs S1 => xs.length ≤ 100000 ∧ Q (.hdl S1.length) (S1 ++ [.lst xs])
theorem dp_hdl {a : Addr} {n : Nat} (h : M.m[n]? = some a) : Dp K M H (.hdl n) (.ref a) := by
  simp only [Dp]
  exact ⟨a, rfl, h⟩
theorem m_add {a : Addr} (c : Cells K M H S) : (M.add a).m[S.length]? = some a := by
  show (M.m ++ [a])[S.length]? = some a
  rw [← c.len, List.getElem?_append_right (Nat.le_refl _), Nat.sub_self]
  rfl
theorem LinkE.hdl {Q : VK} {QD : QE} (k : LinkE K M H Q QD) (g : Grow M H M1 H1) {o : HO} {cc : Cell} (c : Cells K M1 H1 S) (hc : ∀ p, H1 p = none → CellOk K (M1.add p) (upd H1 p o) p cc) (q : QD (.hdl S.length) (S ++ [cc])) :
    ∀ p, H1 p = none → Q (.ref p) (upd H1 p o) := fun p hp =>
  k (M1.add p) _ _ _ _ (g.trans (Grow.hdl hp)) (c.hdl hp (hc p hp)) (dp_hdl (m_add c)) q
theorem de_lstH (h : DA X es dr) : DE X (.List es pos) (dLstH dr) :=
  up_of (pe_lst h) fun M ρ S QD σ H Q s c k q => ⟨M, ρ, S, _, s, c, fun M1 vs H1 ds S1 g1 c1 hl q1 => ⟨by rw [← hl.len]; exact sz_of q1.1,
    k.hdl (cc := .lst ds) g1 c1 (fun p hp => ⟨vs, upd_same, hl.mono (Grow.hdl hp)⟩) q1.2⟩, q⟩
/-- what a handle's list becomes -/
theorem lst_wr {a : Addr} {n : Nat} {ds : List D} {vs : List V} (c : Cells K M H S) (h : M.m[n]? = some a) (hl : DpL K M H ds vs) : Cells K M (upd H a (.lst vs)) (S.set n (.lst ds)) :=
  c.wr h ⟨vs, upd_same, hl.mono (Grow.wr (List.mem_of_getElem? h) (c.there (List.mem_of_getElem? h)))⟩
theorem grow_wr {a : Addr} {n : Nat} {o : HO} (c : Cells K M H S) (h : M.m[n]? = some a) : Grow M H M (upd H a o) := Grow.wr (List.mem_of_getElem? h) (c.there (List.mem_of_getElem? h))
/-- l.append(x) -/
def dAppend (de da : DTE) : DTE := fun ρ S Q => de ρ S fun x S1 => ∃ n es, x = .hdl n ∧ S1[n]? = some (.lst es) ∧ da ρ S1 fun y S2 => ∃ ds, S2[n]? = some (.lst ds) ∧ ds.length < 100000 ∧ Q .non (S2.set n (.lst (ds ++ [y])))
theorem de_append (he : DE X o de) (ha : DE X e da)
    (hbase : attributeBase o "append" X.env (eval o X.env) = eval o X.env := by rfl)
    (hfew : ((backTo cpos (starEach [e] X.env)).all (fun x => !x.1) && (backToKw cpos (keywordEach [] X.env)).all (fun x => x.1.isSome)
      && decide (([e] : List Expr).length + ([] : List Keyword).length + (if ([] : List Keyword).isEmpty then 0 else 1) < 30)) = true := by rfl)
    (hline : (apos.endLine == cpos.line) = true := by rfl) (hs : starEach [e] X.env = (false, eval e X.env) :: starEach [] X.env := by rfl) : DE X (.Call (.Attribute o "append" apos) [e] [] cpos) (dAppend de da) :=
  up_of (pe_bm F.plainAttrs_list F.slot_list_append F.type_list_append (show MtR X "list.append" rAppend from mt_append) he (pa_cons ha pa_nil hs) hbase hfew hline hs (by rfl)) fun M ρ S QD σ H Q s c l q =>
    ⟨M, ρ, S, _, s, c, fun M1 v H1 d S1 g1 c1 hd ⟨n, es, e1, hn, q1⟩ => by
      subst e1
      obtain ⟨a, ev, ha⟩ := hd.hdl_inv
      obtain ⟨vs, hv, hl⟩ := c1.ok n a _ ha hn
      subst ev
      refine ⟨.inl ⟨rfl, vs, SqL.of hv⟩, M1, ρ, S1, _, s.mono g1, c1, fun M2 y H2 dy S2 g2 c2 hy ⟨ds, hn2, hlt, q2⟩ => ?_, q1⟩
      have ha2 := g2.later.mt n a ha
      obtain ⟨ws, hw, hl2⟩ := c2.ok n a _ ha2 hn2
      refine ⟨a, ws, y, rfl, rfl, hw, by rw [← hl2.len]; exact sz_lt hlt, ?_⟩
      exact l M2 _ _ _ _ ((g1.trans g2).trans (grow_wr c2 ha2)) (lst_wr c2 ha2 (hl2.append (DpL.cons hy DpL.nil))) dp_non q2, q⟩
/-- l.pop() -/
def dPop (de : DTE) : DTE := fun ρ S Q => de ρ S fun x S1 => ∃ n ds d, x = .hdl n ∧ S1[n]? = some (.lst ds) ∧ ds[ds.length - 1]? = some d ∧ Q d (S1.set n (.lst ds.dropLast))
theorem DpL.dropLast {ds : List D} {vs : List V} (h : DpL K M H ds vs) : DpL K M H ds.dropLast vs.dropLast := by
  rw [List.dropLast_eq_take, List.dropLast_eq_take, h.len]
  exact h.take _
theorem de_pop (he : DE X o de) (hbase : attributeBase o "pop" X.env (eval o X.env) = eval o X.env := by rfl) (hline : (apos.endLine == cpos.line) = true := by rfl) : DE X (.Call (.Attribute o "pop" apos) [] [] cpos) (dPop de) :=
  up_of (pe_bm0 F.plainAttrs_list F.slot_list_pop F.type_list_pop (show MtR X "list.pop" rPop from mt_pop) he hbase hline) fun M ρ S QD σ H Q s c l q =>
    ⟨M, ρ, S, _, s, c, fun M1 v H1 d S1 g1 c1 hd ⟨n, ds, d', e1, hn, hlast, q1⟩ => by
      subst e1
      obtain ⟨a, ev, ha⟩ := hd.hdl_inv
      obtain ⟨vs, hv, hl⟩ := c1.ok n a _ ha hn
      subst ev
      obtain ⟨w, hw, hdw⟩ := hl.get hlast
      rw [hl.len] at hw
      exact ⟨.inl ⟨rfl, vs, SqL.of hv⟩, a, vs, w, rfl, rfl, hv, hw, l M1 _ _ _ _ (g1.trans (grow_wr c1 ha)) (lst_wr c1 ha hl.dropLast) (hdw.mono (grow_wr c1 ha)) q1⟩, q⟩
/-- l.pop(i) -/
def dPopAt (de da : DTE) : DTE := fun ρ S Q => de ρ S fun x S1 => ∃ n es, x = .hdl n ∧ S1[n]? = some (.lst es) ∧ da ρ S1 fun y S2 => ∃ ds j d, y = .int (j : Nat) ∧ j < 100000 ∧ S2[n]? = some (.lst ds) ∧ ds[j]? = some d ∧ Q d (S2.set n (.lst (ds.eraseIdx j)))
theorem DpL.erase : ∀ {ds : List D} {vs : List V} (j : Nat), DpL K M H ds vs → DpL K M H (ds.eraseIdx j) (vs.eraseIdx j)
  | [], vs, _, h => by
    have e : vs = [] := by simpa only [DpL] using h
    rw [e]
    exact DpL.nil
  | d :: ds, vs, 0, h => by
    obtain ⟨v, r, e, h1, h2⟩ := h.uncons
    rw [e]
    exact h2
  | d :: ds, vs, j + 1, h => by
    obtain ⟨v, r, e, h1, h2⟩ := h.uncons
    rw [e]
    exact DpL.cons h1 (DpL.erase j h2)
theorem de_popAt (he : DE X o de) (ha : DE X e da)
    (hbase : attributeBase o "pop" X.env (eval o X.env) = eval o X.env := by rfl)
    (hfew : ((backTo cpos (starEach [e] X.env)).all (fun x => !x.1) && (backToKw cpos (keywordEach [] X.env)).all (fun x => x.1.isSome)
      && decide (([e] : List Expr).length + ([] : List Keyword).length + (if ([] : List Keyword).isEmpty then 0 else 1) < 30)) = true := by rfl)
    (hline : (apos.endLine == cpos.line) = true := by rfl) (hs : starEach [e] X.env = (false, eval e X.env) :: starEach [] X.env := by rfl) : DE X (.Call (.Attribute o "pop" apos) [e] [] cpos) (dPopAt de da) :=
  up_of (pe_bm F.plainAttrs_list F.slot_list_pop F.type_list_pop (show MtR X "list.pop" rPopAt from mt_popAt) he (pa_cons ha pa_nil hs) hbase hfew hline hs (by rfl)) fun M ρ S QD σ H Q s c l q =>
    ⟨M, ρ, S, _, s, c, fun M1 v H1 d S1 g1 c1 hd ⟨n, es, e1, hn, q1⟩ => by
      subst e1
      obtain ⟨a, ev, ha⟩ := hd.hdl_inv
      obtain ⟨vs, hv, hl⟩ := c1.ok n a _ ha hn
      subst ev
      refine ⟨.inl ⟨rfl, vs, SqL.of hv⟩, M1, ρ, S1, _, s.mono g1, c1, fun M2 y H2 dy S2 g2 c2 hy ⟨ds, j, d, ey, hj, hn2, hd2, q2⟩ => ?_, q1⟩
      have ha2 := g2.later.mt n a ha
      obtain ⟨ws, hw, hl2⟩ := c2.ok n a _ ha2 hn2
      obtain ⟨w, hw2, hdw⟩ := hl2.get hd2
      have hlt : j < ws.length := (List.getElem?_eq_some_iff.mp hw2).1
      subst ey
      refine ⟨a, ws, (j : Int), j, w, rfl, by rw [hy.int_inv], hw, by omega, by omega, ?_, hw2, l M2 _ _ _ _ ((g1.trans g2).trans (grow_wr c2 ha2)) (lst_wr c2 ha2 (hl2.erase j)) (hdw.mono (grow_wr c2 ha2)) q2⟩
      rw [seqIndex_of (by omega) (by omega), Int.toNat_natCast], q⟩
/-- l[i] = v -/
def gSetL (de di : DTE) : DTG := fun d ρ S Q => de ρ S fun x S1 => di ρ S1 fun y S2 => ∃ n j ds, x = .hdl n ∧ y = .int (j : Nat) ∧ S2[n]? = some (.lst ds) ∧ j < ds.length ∧ Q ρ (S2.set n (.lst (ds.set j d)))
theorem ixN_nat {n j : Nat} (h : j < n) : ixN n (j : Int) = some j := by
  unfold ixN
  rw [if_pos (by omega), if_pos (by omega), Int.toNat_natCast]
theorem dg_setL (he : DE X o de) (hi : DE X i dn)
    (ha : ∀ v, assign (.Subscript o i pos) X.env v = (do
      let ov ← holding [v] (eval o X.env)
      let iv ← holding [v, ov] (eval i X.env)
      standAt pos
      holding [v, ov, iv] (setItem ov iv v)
      release [v, ov, iv] []) := by intro _; rfl) : DG X (.Subscript o i pos) (gSetL de dn) :=
  upG_of (pg_sub he hi set_list ha) fun M ρ S dv QD v σ H Q s c hd l q =>
    ⟨M, ρ, S, _, s, c, fun M1 x H1 dx S1 g1 c1 hx q1 => ⟨M1, ρ, S1, _, s.mono g1, c1, fun M2 y H2 dy S2 g2 c2 hy ⟨n, j, ds, ex, ey, hn, hj, q2⟩ => by
      subst ex ey
      obtain ⟨a, ev, ha⟩ := (hx.mono g2).hdl_inv
      obtain ⟨vs, hv, hl⟩ := c2.ok n a _ ha hn
      subst ev
      have g := g1.trans g2
      refine ⟨a, vs, (j : Int), j, rfl, hy.int_inv, hv, ixN_nat (by rw [← hl.len]; exact hj), ?_⟩
      exact l M2 σ _ ρ _ (g.trans (grow_wr c2 ha)) (s.mono (g.trans (grow_wr c2 ha))) (lst_wr c2 ha (hl.set j (hd.mono g))) q2, q1⟩, q⟩
/-! ## dicts -/
def keyOf : D → Option Key
  | .int i => some (.inl i)
  | .str x => some (.inr x)
  | _ => none
theorem keyOf_v {d : D} {k : Key} {v : V} (h : Dp K M H d v) (e : keyOf d = some k) : v = kV k := by
  cases d with
  | int i => cases e; exact h.int_inv
  | str x => cases e; exact h.str_inv
  | _ => cases e
def dicAt (S : Stt) : D → Option (List Key × List D)
  | .dic ks ds => some (ks, ds)
  | .hdl n => match S[n]? with
    | some (.dic ks ds) => some (ks, ds)
    | _ => none
  | _ => none
theorem dic_inv {d : D} {v : V} {ks : List Key} {ds : List D} (c : Cells K M H S) (h : Dp K M H d v) (e : dicAt S d = some (ks, ds)) : ∃ a vs, v = .ref a ∧ H a = some (.dK (ks.zip vs)) ∧ ks.length = ds.length ∧ DpL K M H ds vs := by
  cases d with
  | dic ks' ds' =>
    cases e
    simp only [Dp] at h
    obtain ⟨a, vs, e, na, ha, hk, hl⟩ := h
    exact ⟨a, vs, e, ha, hk, hl⟩
  | hdl n =>
    obtain ⟨a, ev, ha⟩ := h.hdl_inv
    have e : (match S[n]? with
      | some (.dic ks ds) => some (ks, ds)
      | _ => none) = some (ks, ds) := e
    cases hs : S[n]? with
    | none => rw [hs] at e; cases e
    | some cc =>
      rw [hs] at e
      cases cc with
      | dic ks' ds' =>
        cases e
        obtain ⟨vs, h1, h2, h3⟩ := c.ok n a _ ha hs
        exact ⟨a, vs, ev, h1, h2, h3⟩
      | _ => cases e
  | _ => cases e
def lookK (k : Key) : List Key → List D → Option D
  | j :: ks, d :: ds => if j = k then some d else lookK k ks ds
  | _, _ => none
theorem look_val (k : Key) : ∀ {ks : List Key} {ds : List D} {vs : List V}, DpL K M H ds vs → (∀ d, lookK k ks ds = some d → ∃ v, valV (ks.zip vs) k = some v ∧ Dp K M H d v) ∧ (lookK k ks ds = none → valV (ks.zip vs) k = none)
  | [], ds, vs, _ => ⟨fun d h => (by cases ds <;> cases h), fun _ => rfl⟩
  | j :: ks, [], vs, h => by
    have e : vs = [] := by simpa only [DpL] using h
    rw [e]
    exact ⟨fun d h => (by cases h), fun _ => rfl⟩
  | j :: ks, d :: ds, vs, h => by
    obtain ⟨v, r, e, h1, h2⟩ := h.uncons
    subst e
    have ih := look_val k (ks := ks) h2
    by_cases q : j = k
    · constructor
      · intro d' e
        have e : (if j = k then some d else lookK k ks ds) = some d' := e
        rw [if_pos q] at e
        cases e
        exact ⟨v, valV_pos q, h1⟩
      · intro e
        have e : (if j = k then some d else lookK k ks ds) = none := e
        rw [if_pos q] at e
        cases e
    · constructor
      · intro d' e
        have e : (if j = k then some d else lookK k ks ds) = some d' := e
        rw [if_neg q] at e
        obtain ⟨w, h3, h4⟩ := ih.1 d' e
        exact ⟨w, (valV_neg (p := (j, v)) q).trans h3, h4⟩
      · intro e
        have e : (if j = k then some d else lookK k ks ds) = none := e
        rw [if_neg q] at e
        exact (valV_neg (p := (j, v)) q).trans (ih.2 e)
def dDGet (de dn : DTE) : DTE := fun ρ S Q => de ρ S fun x S1 => dn ρ S1 fun y S2 => ∃ ks ds k d, dicAt S2 x = some (ks, ds) ∧ keyOf y = some k ∧ lookK k ks ds = some d ∧ Q d S2
theorem de_dget (hu : X.A.units + 1 < cLine) (he : DE X o de) (hi : DE X i dn) (hs : NoSl i) : DE X (.Subscript o i pos) (dDGet de dn) :=
  up_of (pe_dget hu he hi hs) fun M ρ S QD σ H Q s c l q => ⟨M, ρ, S, _, s, c, fun M1 x H1 dx S1 g1 c1 hx q1 => ⟨M1, ρ, S1, _, s.mono g1, c1, fun M2 y H2 dy S2 g2 c2 hy ⟨ks, ds, k, d, e1, e2, e3, q2⟩ => by
    obtain ⟨a, vs, ev, ha, hk, hl⟩ := dic_inv c2 (hx.mono g2) e1
    obtain ⟨v, h3, h4⟩ := (look_val k hl).1 d e3
    have hy2 := keyOf_v hy e2
    subst hy2
    exact ⟨a, v, ev, by rw [← h3]; exact DGet.k ha, l M2 v H2 d S2 (g1.trans g2) c2 h4 q2⟩, q1⟩, q⟩
def dDIn (dn de : DTE) : DTE := fun ρ S Q => dn ρ S fun y S1 => de ρ S1 fun x S2 => ∃ ks ds k, dicAt S2 x = some (ks, ds) ∧ keyOf y = some k ∧ Q (.bl (lookK k ks ds).isSome) S2
theorem de_din (hu : X.A.units + 1 < cLine) (hi : DE X i dn) (he : DE X o de) (h1 : behindInMarks .In o = false := by rfl) : DE X (.Compare i [.In] [o] pos) (dDIn dn de) :=
  up_of (pe_cmp (pc_din hu hi he) h1) fun M ρ S QD σ H Q s c l q => ⟨M, ρ, S, _, s, c, fun M1 y H1 dy S1 g1 c1 hy q1 => ⟨M1, ρ, S1, _, s.mono g1, c1, fun M2 x H2 dx S2 g2 c2 hx ⟨ks, ds, k, e1, e2, q2⟩ => by
    obtain ⟨a, vs, ev, ha, hk, hl⟩ := dic_inv c2 hx e1
    have hy2 := keyOf_v hy e2
    subst hy2
    refine ⟨a, valV (ks.zip vs) k, ev, DGet.k ha, ?_⟩
    have e3 : (valV (ks.zip vs) k).isSome = (lookK k ks ds).isSome := by
      cases q : lookK k ks ds with
      | none => rw [(look_val k hl).2 q] <;> rfl
      | some d => obtain ⟨v, h3, _⟩ := (look_val k hl).1 d q; rw [h3] <;> rfl
    rw [e3]
    exact l M2 _ H2 _ S2 (g1.trans g2) c2 dp_bl q2, q1⟩, q⟩
theorem dt_din (hu : X.A.units + 1 < cLine) (hi : DE X i dn) (he : DE X o de) (h1 : behindInMarks .In o = false := by rfl) : DT X (.Compare i [.In] [o] pos) (dTest (dDIn dn de)) :=
  upT_of (pt_cmp (pc_din hu hi he) h1) fun M ρ S QD σ H Q s c l q => ⟨M, ρ, S, _, s, c, fun M1 y H1 dy S1 g1 c1 hy q1 => ⟨M1, ρ, S1, _, s.mono g1, c1, fun M2 x H2 dx S2 g2 c2 hx ⟨ks, ds, k, e1, e2, q2⟩ => by
    obtain ⟨a, vs, ev, ha, hk, hl⟩ := dic_inv c2 hx e1
    have hy2 := keyOf_v hy e2
    subst hy2
    refine ⟨a, valV (ks.zip vs) k, ev, DGet.k ha, ?_⟩
    have e3 : (valV (ks.zip vs) k).isSome = (lookK k ks ds).isSome := by
      cases q : lookK k ks ds with
      | none => rw [(look_val k hl).2 q] <;> rfl
      | some d => obtain ⟨v, h3, _⟩ := (look_val k hl).1 d q; rw [h3] <;> rfl
    rw [e3]
    exact ⟨_, rfl, l M2 _ H2 S2 (g1.trans g2) c2 q2⟩, q1⟩, q⟩
def dDGet2 (de dn df : DTE) : DTE := fun ρ S Q => de ρ S fun x S1 => (dicAt S1 x).isSome = true ∧ dn ρ S1 fun y S2 => df ρ S2 fun z S3 => ∃ ks ds k, dicAt S3 x = some (ks, ds) ∧ keyOf y = some k ∧ Q ((lookK k ks ds).getD z) S3
theorem de_get2 {f : Expr} {df : DTE} (hu : X.A.units + 1 < cLine) (he : DE X o de) (hi : DE X e dn) (hf : DE X f df) (m : M2 X o "get" apos e f cpos := by exact ⟨rfl, rfl, rfl, rfl⟩) : DE X (.Call (.Attribute o "get" apos) [e, f] [] cpos) (dDGet2 de dn df) :=
  up_of (pe_dget2 hu he hi hf m) fun M ρ S QD σ H Q s c l q => ⟨M, ρ, S, _, s, c, fun M1 x H1 dx S1 g1 c1 hx ⟨hs, q1⟩ => by
    obtain ⟨⟨ks0, ds0⟩, e0⟩ := Option.isSome_iff_exists.mp hs
    obtain ⟨a, vs, ev, ha, hk, hl⟩ := dic_inv c1 hx e0
    subst ev
    refine ⟨a, rfl, .inl ⟨_, .inl ha⟩, M1, ρ, S1, _, s.mono g1, c1, fun M2 y H2 dy S2 g2 c2 hy q2 => ⟨M2, ρ, S2, _, s.mono (g1.trans g2), c2, fun M3 z H3 dz S3 g3 c3 hz ⟨ks, ds, k, e1, e2, q3⟩ => ?_, q2⟩, q1⟩
    obtain ⟨a', vs, ev, ha, hk, hl⟩ := dic_inv c3 (hx.mono (g2.trans g3)) e1
    cases ev
    have hy2 := keyOf_v hy e2
    subst hy2
    refine ⟨valV (ks.zip vs) k, DGet.k ha, ?_⟩
    cases q : lookK k ks ds with
    | none =>
      rw [q] at q3
      rw [(look_val k hl).2 q]
      exact l M3 _ H3 _ S3 ((g1.trans g2).trans g3) c3 hz q3
    | some d =>
      rw [q] at q3
      obtain ⟨v, h3, h4⟩ := (look_val k hl).1 d q
      rw [h3]
      exact l M3 _ H3 _ S3 ((g1.trans g2).trans g3) c3 h4 q3, q⟩
/-- {} as a mutable dict -/
def dDicH : DTE := fun ρ S Q => Q (.hdl S.length) (S ++ [.dic [] []])
theorem de_dicH : DE X (.Dict [] [] pos) dDicH :=
  up_of pe_dnewK fun M ρ S QD σ H Q s c l q => l.hdl (cc := .dic [] []) Grow.refl c (fun p hp => ⟨[], upd_same, rfl, DpL.nil⟩) q
/-- d[k] = v on a mutable dict -/
def replD (k : Key) (d : D) : List Key → List D → List D
  | j :: ks, x :: ds => (if j = k then d else x) :: replD k d ks ds
  | _, _ => []
theorem replD_len (k : Key) (d : D) : ∀ {ks : List Key} {ds : List D}, ks.length = ds.length → ks.length = (replD k d ks ds).length
  | [], [], _ => rfl
  | [], _ :: _, h => by simp at h
  | _ :: _, [], h => by simp at h
  | j :: ks, x :: ds, h => by
    show ks.length + 1 = (replD k d ks ds).length + 1
    rw [← replD_len k d (by simpa using h)]
theorem replD_at (k : Key) {d : D} {v : V} (hd : Dp K M H d v) : ∀ {ks : List Key} {ds : List D} {vs : List V}, ks.length = ds.length → DpL K M H ds vs → ∃ ws, ((ks.zip vs).map fun kv => if kv.1 = k then (kv.1, v) else kv) = ks.zip ws ∧ DpL K M H (replD k d ks ds) ws
  | [], ds, vs, _, h => ⟨[], rfl, by cases ds <;> exact DpL.nil⟩
  | j :: ks, [], vs, e, h => by simp at e
  | j :: ks, x :: ds, vs, e, h => by
    obtain ⟨w, r, ev, h1, h2⟩ := h.uncons
    subst ev
    obtain ⟨ws, e1, e2⟩ := replD_at k hd (ks := ks) (by simpa using e) h2
    by_cases q : j = k
    · refine ⟨v :: ws, ?_, ?_⟩
      · rw [List.zip_cons_cons, List.map_cons, List.zip_cons_cons, e1]
        simp only [if_pos q]
      · show DpL K M H ((if j = k then d else x) :: replD k d ks ds) _
        rw [if_pos q]
        exact DpL.cons hd e2
    · refine ⟨w :: ws, ?_, ?_⟩
      · rw [List.zip_cons_cons, List.map_cons, List.zip_cons_cons, e1]
        simp only [if_neg q]
      · show DpL K M H ((if j = k then d else x) :: replD k d ks ds) _
        rw [if_neg q]
        exact DpL.cons h1 e2
theorem any_key {k : Key} : ∀ {ks : List Key} {vs : List V}, ks.length = vs.length → (((ks.zip vs).any fun kv => decide (kv.1 = k)) = true ↔ k ∈ ks)
  | [], vs, _ => by simp
  | j :: ks, [], h => by simp at h
  | j :: ks, v :: vs, h => by
    rw [List.zip_cons_cons, List.any_cons, Bool.or_eq_true, any_key (by simpa using h), decide_eq_true_iff, List.mem_cons]
    exact ⟨fun q => q.imp Eq.symm id, fun q => q.imp Eq.symm id⟩
def gSetD (de dn : DTE) : DTG := fun d ρ S Q => de ρ S fun x S1 => dn ρ S1 fun y S2 => ∃ n k ks ds, x = .hdl n ∧ keyOf y = some k ∧ S2[n]? = some (.dic ks ds) ∧ ks.length < 100000 ∧
  (k ∈ ks → Q ρ (S2.set n (.dic ks (replD k d ks ds)))) ∧ (k ∉ ks → Q ρ (S2.set n (.dic (ks ++ [k]) (ds ++ [d]))))
def rSetD : TSet := fun o i v H Q => ∃ a H', o = .ref a ∧ DPut H a i v H' ∧ Q H'
theorem set_dic (hu : X.A.units + 1 < cLine) : PSet X rSetD := by
  intro pins s σ H o i v ov iv u Q I ro ri rv h
  obtain ⟨a, H', rfl, g, q⟩ := h
  obtain rfl : ov = Value.ref a := ro
  exact d_setItem hu I g ri rv fun s' I' => ⟨H', I', q⟩
theorem dg_setD (hu : X.A.units + 1 < cLine) (he : DE X o de) (hi : DE X i dn)
    (ha : ∀ v, assign (.Subscript o i pos) X.env v = (do
      let ov ← holding [v] (eval o X.env)
      let iv ← holding [v, ov] (eval i X.env)
      standAt pos
      holding [v, ov, iv] (setItem ov iv v)
      release [v, ov, iv] []) := by intro _; rfl) : DG X (.Subscript o i pos) (gSetD de dn) :=
  upG_of (pg_sub he hi (set_dic hu) ha) fun M ρ S dv QD v σ H Q s c hd l q =>
    ⟨M, ρ, S, _, s, c, fun M1 x H1 dx S1 g1 c1 hx q1 => ⟨M1, ρ, S1, _, s.mono g1, c1, fun M2 y H2 dy S2 g2 c2 hy ⟨n, k, ks, ds, ex, ek, hn, hlt, qa, qb⟩ => by
      subst ex
      obtain ⟨a, ev, ha⟩ := (hx.mono g2).hdl_inv
      obtain ⟨vs, hv, hk, hl⟩ := c2.ok n a _ ha hn
      subst ev
      have g := g1.trans g2
      have hy2 := keyOf_v hy ek
      subst hy2
      have lz : (ks.zip vs).length < sizeLine := Nat.lt_of_le_of_lt (by rw [List.length_zip]; exact Nat.min_le_left _ _) (sz_lt hlt)
      have gw : ∀ {o : HO}, Grow M2 H2 M2 (upd H2 a o) := grow_wr c2 ha
      by_cases hm : k ∈ ks
      · obtain ⟨ws, e1, e2⟩ := replD_at k (hd.mono g) hk hl
        refine ⟨a, _, rfl, DPut.k hv lz, ?_⟩
        have e3 : putK (ks.zip vs) k v = ks.zip ws := by
          unfold putK
          rw [if_pos ((any_key (by rw [hk, hl.len])).mpr hm), e1]
        rw [e3]
        exact l M2 σ _ ρ _ (g.trans gw) (s.mono (g.trans gw)) (c2.wr (c := .dic ks (replD k dv ks ds)) ha ⟨ws, upd_same, replD_len k _ hk, e2.mono gw⟩) (qa hm)
      · refine ⟨a, _, rfl, DPut.k hv lz, ?_⟩
        have e3 : putK (ks.zip vs) k v = (ks ++ [k]).zip (vs ++ [v]) := by
          unfold putK
          rw [if_neg (fun z => hm ((any_key (by rw [hk, hl.len])).mp z)), List.zip_append (by rw [hk, hl.len])]
          rfl
        rw [e3]
        exact l M2 σ _ ρ _ (g.trans gw) (s.mono (g.trans gw)) (c2.wr (c := .dic (ks ++ [k]) (ds ++ [dv])) ha ⟨vs ++ [v], upd_same, by rw [List.length_append, List.length_append, hk]; rfl, (hl.append (DpL.cons (hd.mono g) DpL.nil)).mono gw⟩) (qb hm), q1⟩, q⟩
/-- list(d.keys()) -/
def keyD : Key → D
  | .inl i => .int i
  | .inr x => .str x
theorem keyD_v : ∀ k : Key, Dp K M H (keyD k) (kV k)
  | .inl _ => dp_int
  | .inr _ => dp_str
theorem keysL : ∀ ks : List Key, DpL K M H (ks.map keyD) (ks.map kV)
  | [] => DpL.nil
  | k :: ks => DpL.cons (keyD_v k) (keysL ks)
def dKeys (de : DTE) : DTE := fun ρ S Q => de ρ S fun x S1 => ∃ ks ds, dicAt S1 x = some (ks, ds) ∧ Q (.lst (ks.map keyD)) S1
def tListKeys (te : TE) : TE := fun σ H Q => te σ H fun x H1 => ∃ (d : Addr) (kvs : List (Key × V)), x = .ref d ∧ H1 d = some (.dK kvs) ∧ ∀ q, H1 q = none → Q (.ref q) (upd H1 q (.lst (kvs.map fun kv => kV kv.1)))
theorem pe_listKeys {te : TE} (hc : X.calm = true) (he : PE X e te) (hg : Gl X "list") (hm : X.mg "list" = none) (hv : bootBuiltins "list" = some (.type "list")) (hbase : attributeBase e "keys" X.env (eval e X.env) = eval e X.env := by rfl) (hline : (apos.endLine == cpos.line) = true := by rfl)
    (hs : starEach [.Call (.Attribute e "keys" apos) [] [] cpos] X.env = (false, eval (.Call (.Attribute e "keys" apos) [] [] cpos) X.env) :: starEach [] X.env := by rfl) :
    PE X (.Call (.Name "list" p) [.Call (.Attribute e "keys" apos) [] [] cpos] [] pos) (tListKeys te) := by
  refine ⟨fun pins s σ H Q I hq => ?_⟩
  refine wpAny_Call_Name_kw (ld_blt I hg hm hv ?_)
  refine PyProof.Rows.callWith_type1 ?_ hs rfl
  rw [hs]
  show wpAny _ _ (spliced ((false, eval (.Call (.Attribute e "keys" apos) [] [] cpos) X.env) :: backTo pos (starEach [] X.env))) _ _ s
  refine Calls.spliced_cons ?_
  refine wpAny_Call_method (T := "dict") (id := "dict.keys") hbase rfl hline F.plainAttrs_dict F.slot_dict_keys F.type_dict_keys (thn (he.run pins s σ H _ I hq) fun u s1 ⟨x, H1, I1, rx, d, kvs, ex, hd, q⟩ => ?_)
  subst ex
  obtain rfl : u = Value.ref d := rx
  obtain ⟨hz, hs0, vs, kv, hdo⟩ := I1.hok d _ hd
  obtain ⟨ep, hat⟩ := hdo.dictAt
  have lk : kvs.length = vs.length := Paired.length kv
  have I2 : Inv X pins σ H1 { s1 with heap := s1.heap.push { cls := .type "dict_keys", data := .fields #[.ref d] } } := I1.kept (t' := s1.toks) fun b ob q => Heap.get?_push_of_some _ q
  refine ⟨hdo.typeIs, hdo.mapOf.noDict, ?_⟩
  show wpAny _ _ (callWith cpos (.builtin "dict.keys") [.ref d] [] []) _ X.xe s1
  refine method_meetsIn F.slot_dict_keys F.entry_dict_keys rfl (PySem.evalArgs_none ⟨rfl, hdo.typeIs, F.args_dict_keys_1 _, _, PySem.W.kdl_meets_keys (mixKind X.prog X.w) d hs0, ⟨vs, hdo⟩, ?_⟩)
  refine Calls.spliced_nil ?_
  refine PySem.W.kdl_call (PySem.W.kdl_keys (knd := mixKind X.prog X.w) (kvs := vs) (ep := ep)) (I1.ok.hd hc) ⟨⟨_, Heap.get?_push_size _ rfl, rfl, rfl⟩, hat.push _⟩ (by rw [← lk]; exact hz) fun h' tk acc' c' hkeep hS hacc => ?_
  refine ⟨.ref _, _, I2.laid hkeep (Nat.le_refl _) (show ObjOk X.prog X.w _ _ _ (.lst (kvs.map fun kv => kV kv.1)) from ⟨?_, acc'.toList, c', ?_, ?_⟩), rfl, q _ (I2.hok.fresh (Nat.le_refl _))⟩
  · rw [List.length_map]; exact hz
  · have el : acc'.toList.length = acc'.size := by simp
    refine vals_of_at (by rw [List.length_map, el, hacc.1, lk]) fun j x w h1 h2 => ?_
    obtain ⟨k, y, hky, hi⟩ := hacc.2 j w (by rw [← Array.getElem?_toList]; exact h2)
    have e1 : (kvs.map (·.1))[j]? = some k := by
      rw [KV.keys kv, List.getElem?_map, hky] <;> rfl
    have e2 : (kvs.map fun kv => kV kv.1)[j]? = some (kV k) := by
      have e3 : (kvs.map fun kv => kV kv.1) = (kvs.map (·.1)).map kV := by rw [List.map_map] <;> rfl
      rw [e3, List.getElem?_map, e1] <;> rfl
    rw [e2] at h1
    cases h1
    exact keyIs_rel hi
  · rw [Array.toArray_toList]; exact hS
theorem de_listKeys (hc : X.calm = true) (hm : X.mg "list" = none) (he : DE X e de) (hg : Gl X "list" := by rfl) (hbase : attributeBase e "keys" X.env (eval e X.env) = eval e X.env := by rfl) (hline : (apos.endLine == cpos.line) = true := by rfl)
    (hs : starEach [.Call (.Attribute e "keys" apos) [] [] cpos] X.env = (false, eval (.Call (.Attribute e "keys" apos) [] [] cpos) X.env) :: starEach [] X.env := by rfl) :
    DE X (.Call (.Name "list" p) [.Call (.Attribute e "keys" apos) [] [] cpos] [] pos) (dKeys de) :=
  up_of (pe_listKeys hc he hg hm (by decide +kernel) hbase hline hs) fun M ρ S QD σ H Q s c l q => ⟨M, ρ, S, _, s, c, fun M1 x H1 dx S1 g1 c1 hx ⟨ks, ds, e1, q1⟩ => by
    obtain ⟨a, vs, ev, ha, hk, hl⟩ := dic_inv c1 hx e1
    refine ⟨a, _, ev, ha, ?_⟩
    have e2 : ((ks.zip vs).map fun kv => kV kv.1) = ks.map kV := by
      have : (ks.zip vs).map (fun kv => kV kv.1) = ((ks.zip vs).map Prod.fst).map kV := by rw [List.map_map] <;> rfl
      rw [this, List.map_fst_zip (by rw [hk, hl.len]; exact Nat.le_refl _)]
    rw [e2]
    exact l.lst g1 c1 (keysL ks) q1, q⟩
/-- list(range(n)) -/
def dListRg (da : DTE) : DTE := fun ρ S Q => da ρ S fun d S1 => ∃ n : Nat, d = .int (n : Int) ∧ n ≤ 100000 ∧ Q (.lst (intsFrom 0 n)) S1
theorem rg_L : ∀ n : Nat, DpL K M H (intsFrom 0 n) (rgV 0 (n : Int)) := by
  intro n
  unfold intsFrom rgV
  have : ∀ l : List Nat, DpL K M H (l.map fun k => D.int (0 + (k : Nat))) (l.map fun i => V.int (0 + (i : Nat))) := fun l => by
    induction l with
    | nil => exact DpL.nil
    | cons a r ih => exact DpL.cons dp_int ih
  rw [Int.sub_zero, Int.toNat_natCast]
  exact this _
theorem de_listRange {p2 pos2 : Pos} (hc : X.calm = true) (hm : X.mg "list" = none) (hm2 : X.mg "range" = none) (he : DE X e de) (hg : Gl X "list" := by rfl) (hg2 : Gl X "range" := by rfl) (na : starEach [e] X.env = (false, eval e X.env) :: starEach [] X.env := by rfl)
    (na2 : starEach [.Call (.Name "range" p2) [e] [] pos2] X.env = (false, eval (.Call (.Name "range" p2) [e] [] pos2) X.env) :: starEach [] X.env := by rfl) :
    DE X (.Call (.Name "list" p) [.Call (.Name "range" p2) [e] [] pos2] [] pos) (dListRg de) :=
  up_of (pe_listRg hc hg hm (prg_1 hg2 hm2 he na) na2) fun M ρ S QD σ H Q s c l q => ⟨M, ρ, S, _, s, c, fun M1 x H1 dx S1 g1 c1 hx ⟨n, ex, hn, q1⟩ => by
    subst ex
    exact ⟨(n : Int), hx.int_inv, RgOk.of_le (by omega) (by omega) (by omega) (by omega), l.lst g1 c1 (rg_L n) q1⟩, q⟩
end
end TA
set_option Elab.async false
set_option linter.all false
set_option maxRecDepth 100000
set_option maxHeartbeats 4000000
namespace TA
open PySem PySem.Spec L2
open PyProof.Rows hiding St
/-! ## letting go of what is new since a mark -/
mutual
/-- no handle from k on -/
def bel (k : Nat) : D → Bool
  | .tup ds => belL k ds
  | .lst ds => belL k ds
  | .dic _ ds => belL k ds
  | .obj _ _ ds => belL k ds
  | .hdl n => decide (n < k)
  | _ => true
def belL (k : Nat) : List D → Bool
  | [] => true
  | d :: ds => bel k d && belL k ds
end
def belC (k : Nat) : Cell → Bool
  | .lst ds => belL k ds
  | .dic _ ds => belL k ds
  | .obj _ _ ds => belL k ds
  | .hand => true
theorem belL_mem {k : Nat} : ∀ {ds : List D}, belL k ds = true ↔ ∀ d ∈ ds, bel k d = true
  | [] => by simp [belL]
  | d :: ds => by
    show (bel k d && belL k ds) = true ↔ _
    rw [Bool.and_eq_true, belL_mem (ds := ds), List.forall_mem_cons]
theorem belL_app {k : Nat} {a b : List D} (ha : belL k a = true) (hb : belL k b = true) : belL k (a ++ b) = true := belL_mem.mpr fun d hd => (List.mem_append.mp hd).elim (belL_mem.mp ha d) (belL_mem.mp hb d)
mutual
theorem bel_pure {k : Nat} : ∀ (d : D), pureD d = true → bel k d = true
  | .non, _ => rfl
  | .bl _, _ => rfl
  | .int _, _ => rfl
  | .str _, _ => rfl
  | .tup ds, h => belL_pure ds h
  | .lst ds, h => belL_pure ds h
  | .dic _ _, h => by cases h
  | .obj _ _ _, h => by cases h
  | .hdl _, h => by cases h
  | .scr _, h => by cases h
theorem belL_pure {k : Nat} : ∀ (ds : List D), pureL ds = true → belL k ds = true
  | [], _ => rfl
  | d :: ds, h => by
    have h : (pureD d && pureL ds) = true := h
    rw [Bool.and_eq_true] at h
    show (bel k d && belL k ds) = true
    rw [bel_pure d h.1, belL_pure ds h.2]
    rfl
end
def Rg.cut (M : Rg) (k : Nat) : Rg := ⟨M.y, M.m.take k⟩
section
variable {K : PySem.W.Frag} {M M1 : Rg} {H H1 : Hp} {S : Stt} {k : Nat}
theorem no_cut {a : Addr} (h : M.no a) : (M.cut k).no a := ⟨fun z => h.1 (List.mem_of_mem_take z), h.2⟩
mutual
theorem dp_cut : ∀ (d : D) (v : V), Dp K M H d v → bel k d = true → Dp K (M.cut k) H d v
  | .non, _, h, _ => by simpa only [Dp] using h
  | .bl _, _, h, _ => by simpa only [Dp] using h
  | .int _, _, h, _ => by simpa only [Dp] using h
  | .str _, _, h, _ => by simpa only [Dp] using h
  | .tup ds, v, h, b => by
    simp only [Dp] at h ⊢
    obtain ⟨a, vs, e, na, ha, hl⟩ := h
    exact ⟨a, vs, e, no_cut na, ha, dpL_cut ds vs hl b⟩
  | .lst ds, v, h, b => by
    simp only [Dp] at h ⊢
    obtain ⟨a, vs, e, na, ha, hl⟩ := h
    exact ⟨a, vs, e, no_cut na, ha, dpL_cut ds vs hl b⟩
  | .dic ks ds, v, h, b => by
    simp only [Dp] at h ⊢
    obtain ⟨a, vs, e, na, ha, hk, hl⟩ := h
    exact ⟨a, vs, e, no_cut na, ha, hk, dpL_cut ds vs hl b⟩
  | .obj c fs ds, v, h, b => by
    simp only [Dp] at h ⊢
    obtain ⟨a, dx, vs, e, na, ha, hk, hl⟩ := h
    exact ⟨a, dx, vs, e, no_cut na, ha, hk, dpL_cut ds vs hl b⟩
  | .hdl n, v, h, b => by
    simp only [Dp] at h ⊢
    obtain ⟨a, e, ha⟩ := h
    have b : decide (n < k) = true := b
    refine ⟨a, e, ?_⟩
    show (M.m.take k)[n]? = some a
    rw [List.getElem?_take, if_pos (of_decide_eq_true b)]
    exact ha
  | .scr ns, v, h, b => by
    simp only [Dp] at h ⊢
    obtain ⟨a, o, e, na, ha⟩ := h
    exact ⟨a, o, e, no_cut na, ha⟩
theorem dpL_cut : ∀ (ds : List D) (vs : List V), DpL K M H ds vs → belL k ds = true → DpL K (M.cut k) H ds vs
  | [], _, h, _ => by simpa only [DpL] using h
  | d :: ds, vs, h, b => by
    simp only [DpL] at h ⊢
    obtain ⟨v, r, e, h1, h2⟩ := h
    have b : (bel k d && belL k ds) = true := b
    rw [Bool.and_eq_true] at b
    exact ⟨v, r, e, dp_cut d v h1 b.1, dpL_cut ds r h2 b.2⟩
end
mutual
theorem dp_bel : ∀ (d : D) (v : V), Dp K M H d v → bel M.m.length d = true
  | .non, _, _ => rfl
  | .bl _, _, _ => rfl
  | .int _, _, _ => rfl
  | .str _, _, _ => rfl
  | .tup ds, v, h => by
    obtain ⟨a, vs, e, na, ha, hl⟩ := h.tup_inv
    exact dpL_bel ds vs hl
  | .lst ds, v, h => by
    obtain ⟨a, vs, e, na, ha, hl⟩ := h.lst_inv
    exact dpL_bel ds vs hl
  | .dic ks ds, v, h => by
    simp only [Dp] at h
    obtain ⟨a, vs, e, na, ha, hk, hl⟩ := h
    exact dpL_bel ds vs hl
  | .obj c fs ds, v, h => by
    simp only [Dp] at h
    obtain ⟨a, dx, vs, e, na, ha, hk, hl⟩ := h
    exact dpL_bel ds vs hl
  | .hdl n, v, h => by
    obtain ⟨a, e, ha⟩ := h.hdl_inv
    exact decide_eq_true (List.getElem?_eq_some_iff.mp ha).1
  | .scr _, _, _ => rfl
theorem dpL_bel : ∀ (ds : List D) (vs : List V), DpL K M H ds vs → belL M.m.length ds = true
  | [], _, _ => rfl
  | d :: ds, vs, h => by
    obtain ⟨v, r, e, h1, h2⟩ := h.uncons
    show (bel _ d && belL _ ds) = true
    rw [dp_bel d v h1, dpL_bel ds r h2]
    rfl
end
theorem CellOk.bel {a : Addr} : ∀ {c : Cell}, CellOk K M H a c → belC M.m.length c = true
  | .lst ds, ⟨vs, _, h⟩ => dpL_bel ds vs h
  | .dic ks ds, ⟨vs, _, _, h⟩ => dpL_bel ds vs h
  | .obj c fs ds, ⟨dx, vs, _, _, h⟩ => dpL_bel ds vs h
  | .hand, _ => rfl
def Wf (k : Nat) (S : Stt) : Prop := ∀ c ∈ S, belC k c = true
theorem Cells.wf (C : Cells K M H S) : Wf S.length S := fun c hc => by
  obtain ⟨n, hn, e⟩ := List.mem_iff_getElem.mp hc
  have hn2 : n < M.m.length := by rw [C.len]; exact hn
  have q := (C.ok n M.m[n] c (List.getElem?_eq_getElem hn2) (by rw [List.getElem?_eq_getElem hn, e])).bel
  rwa [C.len] at q
theorem handP_bel {ds : List D} {ns : List Int} (h : HandP ds ns) : belL k ds = true := by
  obtain ⟨i, r, t, e, _⟩ := h.ex
  subst e
  have h2 : belL k (ns.map D.int) = true := belL_mem.mpr fun d hd => by
    obtain ⟨n, _, e⟩ := List.mem_map.mp hd
    subst e
    rfl
  show (belL k (ns.map D.int) && _) = true
  rw [h2]
  rfl
theorem CellOk.cut {a : Addr} : ∀ {c : Cell}, CellOk K M H a c → belC k c = true → CellOk K (M.cut k) H a c
  | .lst ds, ⟨vs, e, h⟩, b => ⟨vs, e, dpL_cut ds vs h b⟩
  | .dic ks ds, ⟨vs, e, e2, h⟩, b => ⟨vs, e, e2, dpL_cut ds vs h b⟩
  | .obj c fs ds, ⟨dx, vs, e, e2, h⟩, b => ⟨dx, vs, e, e2, dpL_cut ds vs h b⟩
  | .hand, ⟨ds, ns, vs, p, e, h⟩, _ => ⟨ds, ns, vs, p, e, dpL_cut ds vs h (handP_bel p)⟩
theorem Cells.cut (C : Cells K M H S) (w : Wf k (S.take k)) : Cells K (M.cut k) H (S.take k) := by
  refine ⟨by show (M.m.take k).length = _; rw [List.length_take, List.length_take, C.len], C.nd.sublist (List.take_sublist _ _), fun y hy => ⟨(C.yd y hy).1, fun z => (C.yd y hy).2 (List.mem_of_mem_take z)⟩, fun n a c h1 h2 => ?_⟩
  have h1 : (M.m.take k)[n]? = some a := h1
  have b := w c (List.mem_of_getElem? h2)
  rw [List.getElem?_take] at h1 h2
  by_cases hn : n < k
  · rw [if_pos hn] at h1 h2
    exact (C.ok n a c h1 h2).cut b
  · rw [if_neg hn] at h1
    cases h1
/-- what data becomes when the handles from k on are let go -/
inductive Thw (S : Stt) (k : Nat) : D → D → Prop where
  | same {d : D} : bel k d = true → Thw S k d d
  | lst {n : Nat} {ds : List D} : k ≤ n → S[n]? = some (.lst ds) → belL k ds = true → Thw S k (.hdl n) (.lst ds)
  | dic {n : Nat} {ks : List Key} {ds : List D} : k ≤ n → S[n]? = some (.dic ks ds) → belL k ds = true → Thw S k (.hdl n) (.dic ks ds)
  | obj {n : Nat} {c : Str} {fs : List Str} {ds : List D} : k ≤ n → S[n]? = some (.obj c fs ds) → belL k ds = true → Thw S k (.hdl n) (.obj c fs ds)
theorem no_new (C : Cells K M H S) {n : Nat} {a : Addr} (h : M.m[n]? = some a) (hk : k ≤ n) : (M.cut k).no a := by
  refine ⟨fun z => ?_, fun z => (C.yd a z).2 (List.mem_of_getElem? h)⟩
  obtain ⟨j, hj, e⟩ := List.mem_iff_getElem.mp (show a ∈ M.m.take k from z)
  have hj1 : j < k := Nat.lt_of_lt_of_le hj (by rw [List.length_take]; exact Nat.min_le_left _ _)
  have hj2 : j < M.m.length := Nat.lt_of_lt_of_le hj (by rw [List.length_take]; exact Nat.min_le_right _ _)
  obtain ⟨hn, e2⟩ := List.getElem?_eq_some_iff.mp h
  rw [List.getElem_take] at e
  have := (List.getElem_inj C.nd).mp (e.trans e2.symm)
  omega
theorem Thw.ok (C : Cells K M H S) {d d' : D} {v : V} (t : Thw S k d d') (h : Dp K M H d v) : Dp K (M.cut k) H d' v := by
  cases t with
  | same b => exact dp_cut d v h b
  | lst hk e b =>
    obtain ⟨a, ev, ha⟩ := h.hdl_inv
    obtain ⟨vs, h1, h2⟩ := C.ok _ a _ ha e
    rw [ev]
    exact dp_lst (no_new C ha hk) h1 (dpL_cut _ _ h2 b)
  | dic hk e b =>
    obtain ⟨a, ev, ha⟩ := h.hdl_inv
    obtain ⟨vs, h1, h3, h2⟩ := C.ok _ a _ ha e
    simp only [Dp]
    exact ⟨a, vs, ev, no_new C ha hk, h1, h3, dpL_cut _ _ h2 b⟩
  | obj hk e b =>
    obtain ⟨a, ev, ha⟩ := h.hdl_inv
    obtain ⟨dx, vs, h1, h3, h2⟩ := C.ok _ a _ ha e
    simp only [Dp]
    exact ⟨a, dx, vs, ev, no_new C ha hk, h1, h3, dpL_cut _ _ h2 b⟩
def ThwO (S : Stt) (k : Nat) : Option D → Option D → Prop
  | some d, some d' => Thw S k d d'
  | _, none => True
  | none, some _ => False
inductive ThwR (S : Stt) (k : Nat) : Rho → Rho → Prop where
  | nil : ThwR S k [] []
  | cons {o o' : Option D} {ρ ρ' : Rho} : ThwO S k o o' → ThwR S k ρ ρ' → ThwR S k (o :: ρ) (o' :: ρ')
theorem ThwR.ok (C : Cells K M H S) : ∀ {ρ ρ' : Rho} {σ : L2.St}, ThwR S k ρ ρ' → Slots K M H ρ σ → Slots K (M.cut k) H ρ' σ
  | _, _, _, .nil, h => h
  | _, _, _, .cons (o := o) (o' := o') t r, ⟨v, q, e, h1, h2⟩ => by
    refine ⟨v, q, e, ?_, ThwR.ok C r h2⟩
    cases o' with
    | none => trivial
    | some d' =>
      cases o with
      | none => exact (show False from t).elim
      | some d =>
        obtain ⟨w, e1, h3⟩ := h1
        exact ⟨w, e1, Thw.ok C t h3⟩
theorem Grow.cut (C : Cells K M H S) (g : Grow M H M1 H1) (e : k = S.length) : Grow M H (M1.cut k) H1 := by
  obtain ⟨r, e1, f⟩ := g.pre
  refine ⟨g.yy, ⟨[], ?_, by simp⟩, g.keep, g.dom⟩
  show M1.m.take k = M.m ++ []
  rw [e1, List.append_nil, e, ← C.len, List.take_append_of_le_length (Nat.le_refl _), List.take_length]
def ThawV (k : Nat) (Q : QE) : QE := fun d S1 => Wf k (S1.take k) ∧ ∃ d', Thw S1 k d d' ∧ Q d' (S1.take k)
def ThawN (k : Nat) (N : Rho → Stt → Prop) : Rho → Stt → Prop := fun ρ1 S1 => Wf k (S1.take k) ∧ ∃ ρ2, ThwR S1 k ρ1 ρ2 ∧ N ρ2 (S1.take k)
theorem LinkE.thaw (C : Cells K M H S) {Q : VK} {QD : QE} (l : LinkE K M H Q QD) : LinkE K M H Q (ThawV S.length QD) := fun M' v H' d S' g c hd ⟨w, d', t, q⟩ =>
  l (M'.cut S.length) v H' d' _ (g.cut C rfl) (c.cut w) (Thw.ok c t hd) q
theorem LinkN.thaw (C : Cells K M H S) {Q : L2.St → Hp → Prop} {QD : Rho → Stt → Prop} (l : LinkN K M H Q QD) : LinkN K M H Q (ThawN S.length QD) := fun M' v H' d S' g sl c ⟨w, d', t, q⟩ =>
  l (M'.cut S.length) v H' d' _ (g.cut C rfl) (ThwR.ok c t sl) (c.cut w) q
end
def dThaw (t : DTS) : DTS := fun E ρ S => Wf S.length S → t { nx := ThawN S.length E.nx, rt := ThawV S.length E.rt } ρ S
def PSsK (X : Cx) (a : List Stmt) (t : TS) : Prop := ∀ b tb, PSs X b tb → PSs X (a ++ b) (tSeq t tb)
abbrev DSsK (X : Cx) (a : List Stmt) (d : DTS) : Prop := PSsK X a (upS X.K d)
section
variable {X : Cx} {s : Stmt} {a b : List Stmt} {dt du : DTS}
theorem dsk_one (h : DS X s dt) : DSsK X [s] dt := fun b tb hb => pss_cons h hb
theorem dsk_cons (h : DS X s dt) (r : DSsK X a du) : DSsK X (s :: a) (dSeq dt du) := fun b tb hb =>
  (show PSs X (s :: (a ++ b)) (tSeq (upS X.K dt) (tSeq (upS X.K du) tb)) from pss_cons h (r b tb hb)).up fun D σ H ⟨M, ρ, S, DD, sl, c, l, q⟩ =>
    ⟨M, ρ, S, { DD with nx := du DD }, sl, c, ⟨fun M1 σ1 H1 ρ1 S1 g1 s1 c1 q1 => ⟨M1, ρ1, S1, DD, s1, c1, l.mono g1, q1⟩, l.rt, l.bk, l.ct⟩, q⟩
theorem links_thaw {K : PySem.W.Frag} {M : Rg} {H : Hp} {S : Stt} {D : Ends} {DD : DEnds} (C : Cells K M H S) (l : LinkS K M H D DD) : LinkS K M H D { nx := ThawN S.length DD.nx, rt := ThawV S.length DD.rt } :=
  ⟨l.nx.thaw C, l.rt.thaw C, fun _ _ _ _ _ _ _ _ z => z.elim, fun _ _ _ _ _ _ _ _ z => z.elim⟩
theorem dss_thaw (h : DSs X a dt) : DSs X a (dThaw dt) := upSs_of h fun M ρ S DD D σ H s c l q => ⟨M, ρ, S, _, s, c, links_thaw c l, q c.wf⟩
theorem dss_blk (h : DSsK X a dt) (r : DSs X b du) : DSs X (a ++ b) (dSeq (dThaw dt) du) := upSs_of (h b _ r) fun M ρ S DD D σ H s c l q =>
  ⟨M, ρ, S, { nx := ThawN S.length (du DD), rt := ThawV S.length DD.rt }, s, c, ⟨LinkN.thaw c (Q := upS X.K du D) (QD := du DD) (fun M1 σ1 H1 ρ1 S1 g1 s1 c1 q1 => ⟨M1, ρ1, S1, DD, s1, c1, l.mono g1, q1⟩), l.rt.thaw c, fun _ _ _ _ _ _ _ _ z => z.elim, fun _ _ _ _ _ _ _ _ z => z.elim⟩, q c.wf⟩
end
/-! ## the hand, opened and closed -/
def closeQ (n : Nat) (Q : QE) : QE := fun d S' => ∃ hd ns, S'[n]? = some (.lst hd) ∧ HandP hd ns ∧ Q d (S'.set n .hand)
theorem Fn.hand {C : Ct} {CX : CXT} {k : Nat} {name : Str} {ps : List Str} {dvs : List D} {sp sp' : SpD} (F : Fn C CX k name ps dvs sp')
    (h : ∀ ds S Q E, sp ds S Q E → ∃ n, S[n]? = some .hand ∧ ∀ hd ns, HandP hd ns → sp' ds (S.set n (.lst hd)) (closeQ n Q) fun c S' => E c S' ∧ False) : Fn C CX k name ps dvs sp := by
  obtain ⟨f, fd, us, vs, h1, h2, h3, h4⟩ := F
  refine ⟨f, fd, us, vs, h1, h2, h3.imp fun ws H Q E ⟨M, ds, S, QD, ED, hl, c, l, lx, q⟩ => ?_, h4⟩
  obtain ⟨n, hn, hq⟩ := h _ _ _ _ q
  have hlt : n < M.m.length := by rw [c.len]; exact (List.getElem?_eq_some_iff.mp hn).1
  have ha : M.m[n]? = some M.m[n] := List.getElem?_eq_getElem hlt
  obtain ⟨hd, ns, us2, hp, hh, hl2⟩ := c.ok n _ _ ha hn
  refine ⟨M, ds, S.set n (.lst hd), closeQ n QD, _, hl, ?_, fun M' v H' d S' g c' hd' ⟨hd2, ns2, e2, hp2, q2⟩ => ?_, fun _ _ _ _ _ _ _ z => z.2.elim, hq hd ns hp⟩
  · refine ⟨by rw [List.length_set]; exact c.len, c.nd, c.yd, fun m b cc k1 k2 => ?_⟩
    by_cases e : m = n
    · subst e
      rw [List.getElem?_set_self (by rw [← c.len]; exact hlt)] at k2
      rw [ha] at k1
      cases k1
      cases k2
      exact ⟨us2, hh, hl2⟩
    · rw [List.getElem?_set_ne (Ne.symm e)] at k2
      exact c.ok m b cc k1 k2
  · have ha' := g.later.mt n _ ha
    obtain ⟨ws2, hw, hl3⟩ := c'.ok n _ _ ha' e2
    refine l M' v H' d _ g ?_ hd' q2
    refine ⟨by rw [List.length_set]; exact c'.len, c'.nd, c'.yd, fun m b cc k1 k2 => ?_⟩
    by_cases e : m = n
    · subst e
      rw [List.getElem?_set_self (List.getElem?_eq_some_iff.mp e2).1] at k2
      rw [ha'] at k1
      cases k1
      cases k2
      exact ⟨hd2, ns2, ws2, hp2, hw, hl3⟩
    · rw [List.getElem?_set_ne (Ne.symm e)] at k2
      exact c'.ok m b cc k1 k2
end TA
set_option Elab.async false
set_option linter.all false
set_option maxRecDepth 100000
set_option maxHeartbeats 4000000
namespace TA
open PySem PySem.Spec L2
open PyProof.Rows hiding St
/-! ## dict displays -/
def vOf : D → V
  | .int i => .int i
  | .str x => .str x
  | .bl b => .bl b
  | _ => .non
def scD : D → Bool
  | .int _ => true
  | .str _ => true
  | .bl _ => true
  | .non => true
  | _ => false
section
variable {X : Cx} {pos : Pos} {keys : List (Option Expr)} {values : List Expr} {K : PySem.W.Frag} {M M1 : Rg} {H H1 : Hp} {S : Stt}
theorem vOf_dp : ∀ (d : D), scD d = true → Dp K M H d (vOf d)
  | .int _, _ => dp_int
  | .str _, _ => dp_str
  | .bl _, _ => dp_bl
  | .non, _ => dp_non
theorem vOf_L : ∀ (ds : List D), ds.all scD = true → DpL K M H ds (ds.map vOf)
  | [], _ => DpL.nil
  | d :: ds, h => by
    rw [List.all_cons, Bool.and_eq_true] at h
    exact DpL.cons (vOf_dp d h.1) (vOf_L ds h.2)
theorem pairs_c : ∀ (kvs : List (Str × D)) (σ : L2.St) (H : Hp) (Q : List (V × V) → Hp → Prop), Q (kvs.map fun q => (V.str q.1, vOf q.2)) H → tPairs (kvs.map fun q => (tC (.str q.1), tC (vOf q.2))) σ H Q
  | [], _, _, _, q => q
  | (k, d) :: r, σ, H, Q, q => pairs_c r σ H (fun ps H3 => Q ((V.str k, vOf d) :: ps) H3) q
theorem zip_maps : ∀ kvs : List (Str × D), (kvs.map fun q => (Sum.inr q.1 : Key)).zip ((kvs.map (·.2)).map vOf) = kvs.map fun q => (Sum.inr q.1, vOf q.2)
  | [] => rfl
  | (k, d) :: r => by
    show (Sum.inr k, vOf d) :: _ = _
    rw [List.map_cons, ← zip_maps r]
    rfl
def dDispC (kvs : List (Str × D)) : DTE := fun _ S Q => Q (.dic (kvs.map fun q => .inr q.1) (kvs.map (·.2))) S
theorem de_dispC (kvs : List (Str × D)) (h : PPs X pos keys values (kvs.map fun q => (tC (.str q.1), tC (vOf q.2)))) (hall : keys.all (·.isSome) = true := by rfl) (hl : keys.length = values.length := by rfl) (h0 : keys ≠ [] := by exact List.cons_ne_nil _ _)
    (h15 : keys.length ≤ 15 := by decide) (hk : kvs.length ≤ 15 := by decide) (hs : (kvs.map (·.2)).all scD = true := by rfl) (hm : mergeK [] (kvs.map fun q => (Sum.inr q.1, vOf q.2)) = kvs.map fun q => (Sum.inr q.1, vOf q.2) := by rfl) : DE X (.Dict keys values pos) (dDispC kvs) :=
  up_of (pe_disp h hall hl h0 h15) fun M ρ S QD σ H Q s c l q => fun p hp => by
    refine pairs_c kvs σ _ _ ⟨upd_same, kvs.map fun q => (Sum.inr q.1, vOf q.2), ?_, by rw [List.length_map]; exact hk, ?_⟩
    · rw [List.map_map]; rfl
    · rw [hm]
      have e : upd (upd H p (.dK [])) p (.dK (kvs.map fun q => (Sum.inr q.1, vOf q.2))) = upd H p (.dK (kvs.map fun q => (Sum.inr q.1, vOf q.2))) := by
        funext a
        by_cases z : a = p
        · rw [z, upd_same, upd_same]
        · rw [upd_ne z, upd_ne z, upd_ne z]
      rw [e]
      refine l M _ _ _ S (Grow.new hp) (c.new hp) ?_ q
      simp only [Dp]
      refine ⟨p, (kvs.map (·.2)).map vOf, rfl, c.fresh hp, ?_, by rw [List.length_map, List.length_map], vOf_L _ hs⟩
      rw [upd_same]
      rw [zip_maps]
/-- {k: v}, one pair, as a mutable dict -/
def dDisp1 (dk dv_ : DTE) : DTE := fun ρ S Q => dk ρ S fun x S1 => dv_ ρ S1 fun y S2 => ∃ k, keyOf x = some k ∧ Q (.hdl S2.length) (S2 ++ [.dic [k] [y]])
theorem de_disp1 {k v : Expr} {dk dv_ : DTE} (hk : DE X k dk) (hv : DE X v dv_) : DE X (.Dict [some k] [v] pos) (dDisp1 dk dv_) :=
  up_of (pe_disp (pps_cons hk hv pps_nil) rfl rfl (List.cons_ne_nil _ _) (by show 1 ≤ 15; decide)) fun M ρ S QD σ H Q s c l q => fun p hp => by
    have c0 := c.pro (o := .dK []) hp
    have l0 : Later M H (M.pro p) (upd H p (.dK [])) := (Later.pro hp).trans (Later.app (List.mem_cons_self ..))
    refine ⟨M.pro p, ρ, S, _, s.later l0, c0, fun M1 x H1 dx S1 g1 c1 hx q1 => ⟨M1, ρ, S1, _, (s.later l0).mono g1, c1, fun M2 y H2 dy S2 g2 c2 hy ⟨kk, ek, q2⟩ => ?_, q1⟩, q⟩
    have g := g1.trans g2
    have eM : M2 = Rg.pro ⟨M.y, M2.m⟩ p := by
      have yy : M2.y = p :: M.y := g.yy
      cases M2
      simp only at yy
      rw [yy]
    have inp : p ∈ M2.y := by rw [g.yy]; exact List.mem_cons_self ..
    have hp2 : H2 p = some (.dK []) := g.keep p _ (c0.yd p (List.mem_cons_self ..)).2 upd_same
    have hx2 := keyOf_v (hx.mono g2) ek
    subst hx2
    refine ⟨hp2, [(kk, y)], rfl, by show 1 ≤ 15; decide, ?_⟩
    have np : p ∉ M2.m := (c2.yd p inp).2
    have em : mergeK [] [(kk, y)] = [kk].zip [y] := rfl
    rw [em]
    have c3 : Cells X.K ⟨M.y, M2.m⟩ H2 S2 := by
      have := c2
      rw [eM] at this
      exact this.unpro
    have hy3 : Dp X.K ⟨M.y, M2.m⟩ H2 dy y := by
      have := hy
      rw [eM] at this
      exact this.later Later.unpro
    have np2 : p ∉ M.y := (c.fresh hp).2
    have nnp : (⟨M.y, M2.m⟩ : Rg).no p := ⟨np, np2⟩
    -- p leaves the data: it is added as a handle
    have lt : ∀ {o}, Later ⟨M2.y, M2.m⟩ H2 (Rg.add ⟨M.y, M2.m⟩ p) (upd H2 p o) := fun {o} => by
      refine ⟨fun a u ha n => ⟨⟨fun hm => ?_, fun hm => n.2 (by rw [g.yy]; exact List.mem_cons_of_mem _ hm)⟩, ?_⟩, fun n a h => ?_⟩
      · rcases List.mem_append.mp hm with hm | hm
        · exact n.1 hm
        · rw [List.mem_singleton.mp hm] at n
          exact n.2 inp
      · rw [upd_ne (show a ≠ p from fun z => n.2 (by rw [z]; exact inp))]
        exact ha
      · show (M2.m ++ [p])[n]? = some a
        have h : M2.m[n]? = some a := h
        rw [List.getElem?_append_left (List.getElem?_eq_some_iff.mp h).1]
        exact h
    refine l (Rg.add ⟨M.y, M2.m⟩ p) (.ref p) _ (.hdl S2.length) (S2 ++ [.dic [kk] [dy]]) ?_ ?_ (dp_hdl ?_) q2
    · obtain ⟨r, e1, f⟩ := g.pre
      refine ⟨rfl, ⟨r ++ [p], by show M2.m ++ [p] = _; rw [e1, List.append_assoc], fun x hx => ?_⟩, fun a o na ha => ?_, fun a e => ?_⟩
      · rcases List.mem_append.mp hx with hx | hx
        · exact dom_upd hp x (f x hx)
        · rw [List.mem_singleton.mp hx]; exact hp
      · have hne : a ≠ p := ne_of_none ha hp
        rw [upd_ne hne]
        exact g.keep a o na (by rw [upd_ne hne]; exact ha)
      · by_cases z : a = p
        · rw [z]; exact hp
        · rw [upd_ne z] at e
          exact dom_upd hp a (g.dom a e)
    · refine ⟨by show (M2.m ++ [p]).length = _; rw [List.length_append, List.length_append, c3.len]; rfl, ?_, fun y hy => ⟨fun e => ?_, fun hm => ?_⟩, fun n a u k1 k2 => ?_⟩
      · show (M2.m ++ [p]).Nodup
        rw [List.nodup_append]
        refine ⟨c3.nd, by simp, fun x hx y hy => ?_⟩
        rw [List.mem_singleton.mp hy]
        exact fun z => np (z ▸ hx)
      · have hy : y ∈ M.y := hy
        by_cases z : y = p
        · exact np2 (z ▸ hy)
        · rw [upd_ne z] at e
          exact (c3.yd y hy).1 e
      · have hy : y ∈ M.y := hy
        rcases List.mem_append.mp (show y ∈ M2.m ++ [p] from hm) with hm | hm
        · exact (c3.yd y hy).2 hm
        · rw [List.mem_singleton.mp hm] at hy
          exact np2 hy
      · have k1 : (M2.m ++ [p])[n]? = some a := k1
        by_cases hn : n < M2.m.length
        · rw [List.getElem?_append_left hn] at k1
          rw [List.getElem?_append_left (by rw [← c3.len]; exact hn)] at k2
          exact (c2.ok n a u k1 k2).later lt (upd_ne (fun z => np (z ▸ List.mem_of_getElem? k1)))
        · have hn2 : n = M2.m.length := by
            have := (List.getElem?_eq_some_iff.mp k1).1
            rw [List.length_append, List.length_singleton] at this
            omega
          subst hn2
          have cl : M2.m.length = S2.length := c3.len
          rw [List.getElem?_append_right (Nat.le_refl _), Nat.sub_self] at k1
          rw [List.getElem?_append_right (by rw [cl]; exact Nat.le_refl _), cl, Nat.sub_self] at k2
          cases k1
          cases k2
          exact ⟨[y], upd_same, rfl, DpL.cons (hy.later lt) DpL.nil⟩
    · show (M2.m ++ [p])[S2.length]? = some p
      have cl : M2.m.length = S2.length := c3.len
      rw [← cl, List.getElem?_append_right (Nat.le_refl _), Nat.sub_self]
      rfl
/-! ## the hand's display -/
def dLstHand (da : DTA) : DTE := fun ρ S Q => da ρ S fun xs S1 => (∃ ns, HandP xs ns) ∧ Q (.hdl S1.length) (S1 ++ [.hand])
theorem de_lstHand {es : List Expr} {dr : DTA} (h : DA X es dr) : DE X (.List es pos) (dLstHand dr) :=
  up_of (pe_lst h) fun M ρ S QD σ H Q s c k q => ⟨M, ρ, S, _, s, c, fun M1 vs H1 ds S1 g1 c1 hl ⟨⟨ns, hp⟩, q1⟩ => ⟨by
      obtain ⟨i, r, t, e, _⟩ := hp.ex
      rw [← hl.len, e]
      show 4 ≤ sizeLine
      rw [sizeLine_eq]; omega,
    k.hdl (cc := .hand) g1 c1 (fun p hp' => ⟨ds, ns, vs, hp, upd_same, hl.mono (Grow.hdl hp')⟩) q1⟩, q⟩
end
end TA
set_option Elab.async false
set_option linter.all false
set_option maxRecDepth 100000
set_option maxHeartbeats 4000000
namespace TA
open PySem PySem.Spec L2
open PyProof.Rows hiding St
/-! ## objects -/
/-- the attribute f of an object of the class c stands at place i -/
inductive FldAt : Str → List Str → Str → Nat → Prop where
  | g0 : FldAt "Glasses" ["stands", "members"] "stands" 0
  | g1 : FldAt "Glasses" ["stands", "members"] "members" 1
  | s0 : FldAt "Steps" ["stands", "names", "rows"] "stands" 0
  | s1 : FldAt "Steps" ["stands", "names", "rows"] "names" 1
  | s2 : FldAt "Steps" ["stands", "names", "rows"] "rows" 2
/-- the attribute f is new -/
inductive PutAt : Str → List Str → Str → Prop where
  | g0 : PutAt "Glasses" [] "stands"
  | g1 : PutAt "Glasses" ["stands"] "members"
  | s0 : PutAt "Steps" [] "stands"
  | s1 : PutAt "Steps" ["stands"] "names"
  | s2 : PutAt "Steps" ["stands", "names"] "rows"
inductive MethAt : Str → List Str → Str → Prop where
  | g : MethAt "Glasses" ["stands", "members"] "rounded"
  | s : MethAt "Steps" ["stands", "names", "rows"] "row_of"
section
variable {C : Ct} (T : Txt C)
include T
theorem Txt.clsG : Cls C.K (He.ga C.K "Glasses") := He.cls_ok (T.oth 1)
theorem Txt.mkG : Mk C.K (He.ga C.K "Glasses") (He.ma C.K (He.ga C.K "Glasses") "__init__") := He.mkr_ok (T.oth 2)
theorem Txt.clsS : Cls C.K (He.ga C.K "Steps") := He.cls_ok (T.oth 3)
theorem Txt.mkS : Mk C.K (He.ga C.K "Steps") (He.ma C.K (He.ga C.K "Steps") "__init__") := He.mkr_ok (T.oth 4)
theorem Txt.fld {c f : Str} {fs : List Str} {i : Nat} (h : FldAt c fs f i) : Cls C.K (He.ga C.K c) ∧ NoAttr C.K (He.ga C.K c) f := by
  cases h with
  | g0 => exact ⟨T.clsG, He.noat_ok (T.oth 5)⟩
  | g1 => exact ⟨T.clsG, He.noat_ok (T.oth 6)⟩
  | s0 => exact ⟨T.clsS, He.noat_ok (T.oth 8)⟩
  | s1 => exact ⟨T.clsS, He.noat_ok (T.oth 9)⟩
  | s2 => exact ⟨T.clsS, He.noat_ok (T.oth 10)⟩
theorem Txt.put {c f : Str} {fs : List Str} (h : PutAt c fs f) : Cls C.K (He.ga C.K c) ∧ NoAttr C.K (He.ga C.K c) f := by
  cases h with
  | g0 => exact ⟨T.clsG, He.noat_ok (T.oth 5)⟩
  | g1 => exact ⟨T.clsG, He.noat_ok (T.oth 6)⟩
  | s0 => exact ⟨T.clsS, He.noat_ok (T.oth 8)⟩
  | s1 => exact ⟨T.clsS, He.noat_ok (T.oth 9)⟩
  | s2 => exact ⟨T.clsS, He.noat_ok (T.oth 10)⟩
theorem Txt.meth {c m : Str} {fs : List Str} (h : MethAt c fs m) : Cls C.K (He.ga C.K c) ∧ Meth C.K (He.ga C.K c) m (He.ma C.K (He.ga C.K c) m) := by
  cases h with
  | g => exact ⟨T.clsG, He.meth_ok (T.oth 7)⟩
  | s => exact ⟨T.clsS, He.meth_ok (T.oth 11)⟩
end
theorem look_at {c f : Str} {fs : List Str} {i : Nat} (h : FldAt c fs f i) {vs : List V} {v : V} (hl : fs.length = vs.length) (e : vs[i]? = some v) : (fs.zip vs).lookup f = some v := by
  cases h with
  | g0 =>
    match vs, hl, e with
    | [a, b], _, e => cases e; rfl
  | g1 =>
    match vs, hl, e with
    | [a, b], _, e => cases e; rfl
  | s0 =>
    match vs, hl, e with
    | [a, b, c], _, e => cases e; rfl
  | s1 =>
    match vs, hl, e with
    | [a, b, c], _, e => cases e; rfl
  | s2 =>
    match vs, hl, e with
    | [a, b, c], _, e => cases e; rfl
theorem put_at {c f : Str} {fs : List Str} (h : PutAt c fs f) {vs : List V} {v : V} (hl : fs.length = vs.length) : putF f v (fs.zip vs) = (fs ++ [f]).zip (vs ++ [v]) := by
  cases h with
  | g0 =>
    match vs, hl with
    | [], _ => rfl
  | g1 =>
    match vs, hl with
    | [a], _ => rfl
  | s0 =>
    match vs, hl with
    | [], _ => rfl
  | s1 =>
    match vs, hl with
    | [a], _ => rfl
  | s2 =>
    match vs, hl with
    | [a, b], _ => rfl
theorem meth_at {c m : Str} {fs : List Str} (h : MethAt c fs m) {vs : List V} (hl : fs.length = vs.length) : (fs.zip vs).lookup m = none := by
  cases h with
  | g =>
    match vs, hl with
    | [a, b], _ => rfl
  | s =>
    match vs, hl with
    | [a, b, c], _ => rfl
def objAt (S : Stt) : D → Option (Str × List Str × List D)
  | .obj c fs ds => some (c, fs, ds)
  | .hdl n => match S[n]? with
    | some (.obj c fs ds) => some (c, fs, ds)
    | _ => none
  | _ => none
theorem obj_inv {K : PySem.W.Frag} {M : Rg} {H : Hp} {S : Stt} {d : D} {v : V} {c : Str} {fs : List Str} {ds : List D} (C : Cells K M H S) (h : Dp K M H d v) (e : objAt S d = some (c, fs, ds)) :
    ∃ a dx vs, v = .ref a ∧ H a = some (.ins (He.ga K c) dx (fs.zip vs)) ∧ fs.length = ds.length ∧ DpL K M H ds vs := by
  cases d with
  | obj c' fs' ds' =>
    cases e
    simp only [Dp] at h
    obtain ⟨a, dx, vs, e, na, ha, hk, hl⟩ := h
    exact ⟨a, dx, vs, e, ha, hk, hl⟩
  | hdl n =>
    obtain ⟨a, ev, ha⟩ := h.hdl_inv
    have e : (match S[n]? with
      | some (.obj c fs ds) => some (c, fs, ds)
      | _ => none) = some (c, fs, ds) := e
    cases hs : S[n]? with
    | none => rw [hs] at e; cases e
    | some cc =>
      rw [hs] at e
      cases cc with
      | obj c' fs' ds' =>
        cases e
        obtain ⟨dx, vs, h1, h2, h3⟩ := C.ok n a _ ha hs
        exact ⟨a, dx, vs, ev, h1, h2, h3⟩
      | _ => cases e
  | _ => cases e
def dFld (f : Str) (de : DTE) : DTE := fun ρ S Q => de ρ S fun x S1 => ∃ c fs ds i d, objAt S1 x = some (c, fs, ds) ∧ FldAt c fs f i ∧ ds[i]? = some d ∧ Q d S1
/-- a method, an initialiser -/
def FnM (C : Ct) (CX : CXT) (k : Nat) (d : He.DefD) (ps : List Str) (sp : SpD) : Prop :=
  ∃ fd, FnOk C.P C.w C.K C.mg C.base CX k (He.fAd C.K d.at_) fd ps (upF C.K sp) ∧ Binds C.K fd ps []
theorem FnM.mono {C : Ct} {CX : CXT} {j k : Nat} {d : He.DefD} {ps : List Str} {sp : SpD} (F : FnM C CX j d ps sp) (h : j ≤ k) : FnM C CX k d ps sp := by
  obtain ⟨fd, h1, h2⟩ := F
  exact ⟨fd, h1.mono h, h2⟩
theorem FnM.of {C : Ct} {CX : CXT} {k : Nat} {d : He.DefD} {ps : List Str} {sp : SpD} {x qual : Str} {params : Arguments} {body : List Stmt} {scope : Scope} {fd : FuncData}
    (F : FunD C.K x qual params body scope [] [] (He.fAd C.K d.at_) fd) (hb : ∀ (kV doc pm : Value) (an : Option Addr) (cdv ct : Value) (us : List Value), us.length = ps.length → bindArgs (PySem.W.fnOf x qual params body scope .none kV doc pm an cdv ct) ⟨us, []⟩ = pure (ps.zip us))
    (G : FnOk C.P C.w C.K C.mg C.base CX k (He.fAd C.K d.at_) fd ps (upF C.K sp)) : FnM C CX k d ps sp := ⟨fd, G, F.bindsN hb⟩
section
variable {X : Cx} {CX : CXT} {k : Nat} {e o value : Expr} {es : List Expr} {de dv_ : DTE} {dr : DTA} {f m c x : Str} {ps : List Str} {sp : SpD} {p pos apos pos' : Pos} {d : He.DefD}
theorem de_fld (T : Txt (Cx.ct X)) (he : DE X e de) (hb : attributeBase e f X.env (eval e X.env) = eval e X.env := by rfl) : DE X (.Attribute e f pos) (dFld f de) :=
  up_of (pe_fld he hb) fun M ρ S QD σ H Q s cc l q => ⟨M, ρ, S, _, s, cc, fun M1 v H1 dx S1 g1 c1 hd ⟨c, fs, ds, i, d, e1, e2, e3, q1⟩ => by
    obtain ⟨a, dd, vs, ev, ha, hk, hl⟩ := obj_inv c1 hd e1
    obtain ⟨w, hw, hdw⟩ := hl.get e3
    exact ⟨a, _, dd, _, w, ev, ha, (T.fld e2).1, (T.fld e2).2, look_at e2 (by rw [hk, hl.len]) hw, l M1 w H1 d S1 g1 c1 hdw q1⟩, q⟩
/-- self.f = value, the attribute is new -/
def dPutF (f : Str) (dv_ de : DTE) : DTS := fun E ρ S => dv_ ρ S fun y S1 => de ρ S1 fun x S2 => ∃ n c fs ds, x = .hdl n ∧ S2[n]? = some (.obj c fs ds) ∧ PutAt c fs f ∧ E.nx ρ (S2.set n (.obj c (fs ++ [f]) (ds ++ [y])))
theorem ds_fld (T : Txt (Cx.ct X)) (ho : DE X o de) (hv : DE X value dv_) (hs : swapsWith value (some (.Attribute o f pos')) pos.line X.env = pure false := by rfl) : DS X (.Assign [.Attribute o f pos'] value pos) (dPutF f dv_ de) :=
  upS_of (ps_fld ho hv hs) fun M ρ S DD D σ H s cc l q => ⟨M, ρ, S, _, s, cc, fun M1 y H1 dy S1 g1 c1 hy q1 => ⟨M1, ρ, S1, _, s.mono g1, c1, fun M2 v H2 dx S2 g2 c2 hx ⟨n, c, fs, ds, ex, hn, hp, q2⟩ => by
    subst ex
    obtain ⟨a, ev, ha⟩ := hx.hdl_inv
    obtain ⟨dd, vs, h1, h2, hl⟩ := c2.ok n a _ ha hn
    have g := g1.trans g2
    refine ⟨a, _, dd, _, ev, h1, (T.put hp).1, (T.put hp).2, ?_, ?_⟩
    · rw [List.length_zip]
      have : fs.length ≤ 2 := by cases hp <;> decide
      omega
    · rw [put_at hp (by rw [h2, hl.len])]
      have gw : ∀ {o : HO}, Grow M2 H2 M2 (upd H2 a o) := grow_wr c2 ha
      refine l.nx M2 σ _ ρ _ (g.trans gw) (s.mono (g.trans gw)) (c2.wr (c := .obj c (fs ++ [f]) (ds ++ [dy])) ha ⟨dd, vs ++ [y], upd_same, by rw [List.length_append, List.length_append, h2]; rfl, (hl.append (DpL.cons (hy.mono g2) DpL.nil)).mono gw⟩) q2, q1⟩, q⟩
/-- C(..): the new object becomes data -/
def dMake (c : Str) (sp : SpD) (dr : DTA) : DTE := fun ρ S Q => dr ρ S fun ds S1 => Wf S1.length S1 → sp (.hdl S1.length :: ds) (S1 ++ [.obj c [] []]) (fun v S2 => v = .non ∧ ThawV S1.length Q (.hdl S1.length) S2) fun _ _ => False
theorem de_make (hM : Mk X.K (He.ga X.K c) (He.fAd X.K d.at_)) (F : FnM (Cx.ct X) CX k d ps sp) (hr : Room (k + 1) X.A) (hg : Gl X c) (hm : X.mg c = some (.ref (He.ga X.K c))) (hx : Passes CX X E0) (ha : DA X (e :: es) dr) (hdb : (c == ("__debug__" : Str)) = false := by decide)
    (he : starEach (e :: es) X.env = (false, eval e X.env) :: starEach es X.env := by rfl) (hpl : (backTo pos (starEach es X.env)).any (·.1) = false := by rfl) : DE X (.Call (.Name c p) (e :: es) [] pos) (dMake c sp dr) := by
  obtain ⟨fd, G, hb⟩ := F
  refine up_of (pe_make hM G hr hg hm hb .nil hx ha hdb he hpl) fun M ρ S QD σ H Q s cc l q => ⟨M, ρ, S, _, s, cc, fun M1 ws H1 ds S1 g1 c1 hl q1 => ?_, q⟩
  intro x dx hx1 hdx hne
  rw [List.append_nil]
  have hx2 : upd H1 dx (.own x) x = none := by rw [upd_ne (Ne.symm hne)]; exact hx1
  have c2 : Cells X.K M1 (upd H1 dx (.own x)) S1 := c1.new hdx
  have g2 : Grow M1 H1 M1 (upd H1 dx (.own x)) := Grow.new hdx
  have c3 : Cells X.K (M1.add x) (upd (upd H1 dx (.own x)) x (.ins (He.ga X.K c) dx [])) (S1 ++ [.obj c [] []]) := c2.hdl hx2 ⟨dx, [], upd_same, rfl, DpL.nil⟩
  have g3 : Grow M1 H1 (M1.add x) (upd (upd H1 dx (.own x)) x (.ins (He.ga X.K c) dx [])) := g2.trans (Grow.hdl hx2)
  refine ⟨M1.add x, .hdl S1.length :: ds, _, _, _, DpL.cons (dp_hdl (m_add c2)) (hl.mono g3), c3, fun M' v H' d' S' g c' hd ⟨ev, q2⟩ => ?_, linkx0, q1 c1.wf⟩
  subst ev
  refine ⟨hd.non_inv, ?_⟩
  exact LinkE.thaw c1 (l.mono g1) M' (.ref x) H' _ S' (g3.trans g) c' (dp_hdl (g.later.mt _ _ (m_add c2))) q2
/-- o.m(..) -/
def dMeth (m : Str) (sp : SpD) (de : DTE) (dr : DTA) (c : Str) : DTE := fun ρ S Q => de ρ S fun x S1 => ∃ fs ds, objAt S1 x = some (c, fs, ds) ∧ MethAt c fs m ∧ dr ρ S1 fun xs S2 => sp (x :: xs) S2 Q fun _ _ => False
theorem de_meth {pl : Sem Bool} (T : Txt (Cx.ct X)) (hc : Cls X.K (He.ga X.K c) ∧ Meth X.K (He.ga X.K c) m (He.fAd X.K d.at_)) (F : FnM (Cx.ct X) CX k d ps sp) (hr : Room k X.A) (he : DE X o de) (hx : Passes CX X E0) (ha : DA X (e :: es) dr)
    (hst : starEach (e :: es) X.env = (false, eval e X.env) :: starEach es X.env := by rfl) (hpl : (backTo pos (starEach es X.env)).any (·.1) = false := by rfl)
    (ht : eval (.Call (.Attribute o m apos) (e :: es) [] pos) X.env = (do
      let ov ← eval o X.env
      standAt apos.atName
      let (f, first) ← holding [ov] (getMethod ov m pl)
      callWith pos f first (backTo pos (starEach (e :: es) X.env)) (backToKw pos (keywordEach [] X.env))) := by rfl) : DE X (.Call (.Attribute o m apos) (e :: es) [] pos) (dMeth m sp de dr c) := by
  obtain ⟨fd, G, hb⟩ := F
  refine up_of (pe_meth (pl := pl) he hc.1 hc.2 G hr hb .nil hx ha hst hpl ht) fun M ρ S QD σ H Q s cc l q => ⟨M, ρ, S, _, s, cc, fun M1 v H1 dx S1 g1 c1 hd ⟨fs, ds, e1, e2, q1⟩ => ?_, q⟩
  obtain ⟨a, dd, vs, ev, hA, hk, hl⟩ := obj_inv c1 hd e1
  refine ⟨a, dd, _, ev, hA, meth_at e2 (by rw [hk, hl.len]), M1, ρ, S1, _, s.mono g1, c1, fun M2 ws H2 xs S2 g2 c2 hxs q2 => ?_, q1⟩
  show upF X.K sp (v :: (ws ++ [])) H2 Q E0
  rw [List.append_nil]
  exact ⟨M2, dx :: xs, S2, _, _, DpL.cons (hd.mono g2) hxs, c2, l.mono (g1.trans g2), linkx0, q2⟩
end
end TA
set_option Elab.async false
set_option linter.all false
set_option maxRecDepth 100000
set_option maxHeartbeats 4000000
namespace TA
open PySem PySem.Spec L2
open PyProof.Rows hiding St
/-! ## what was neither becomes mutable -/
section
variable {K : PySem.W.Frag} {M M0 : Rg} {H H0 : Hp} {S : Stt} {p : Addr}
theorem later_own : Later (M.pro p) H (M.add p) H := by
  refine ⟨fun a u ha n => ⟨⟨fun hm => ?_, fun hm => n.2 (List.mem_cons_of_mem _ hm)⟩, ha⟩, fun n a h => ?_⟩
  · rcases List.mem_append.mp hm with hm | hm
    · exact n.1 hm
    · rw [List.mem_singleton.mp hm] at n
      exact n.2 (List.mem_cons_self ..)
  · show (M.m ++ [p])[n]? = some a
    have h : M.m[n]? = some a := h
    rw [List.getElem?_append_left (List.getElem?_eq_some_iff.mp h).1]
    exact h
theorem Cells.own (c : Cells K (M.pro p) H S) (np : p ∉ M.y) {cc : Cell} (hc : CellOk K (M.add p) H p cc) : Cells K (M.add p) H (S ++ [cc]) := by
  have npm : p ∉ M.m := (c.yd p (List.mem_cons_self ..)).2
  refine ⟨by show (M.m ++ [p]).length = _; rw [List.length_append, List.length_append, show M.m.length = S.length from c.len]; rfl, ?_, fun y hy => ⟨(c.yd y (List.mem_cons_of_mem _ hy)).1, fun hm => ?_⟩, fun n a u k1 k2 => ?_⟩
  · show (M.m ++ [p]).Nodup
    rw [List.nodup_append]
    refine ⟨c.nd, by simp, fun x hx y hy => ?_⟩
    rw [List.mem_singleton.mp hy]
    exact fun z => npm (z ▸ hx)
  · rcases List.mem_append.mp (show y ∈ M.m ++ [p] from hm) with hm | hm
    · exact (c.yd y (List.mem_cons_of_mem _ hy)).2 hm
    · rw [List.mem_singleton.mp hm] at hy
      exact np hy
  · have k1 : (M.m ++ [p])[n]? = some a := k1
    have cl : M.m.length = S.length := c.len
    by_cases hn : n < M.m.length
    · rw [List.getElem?_append_left hn] at k1
      rw [List.getElem?_append_left (by rw [← cl]; exact hn)] at k2
      exact (c.ok n a u k1 k2).later later_own rfl
    · have hn2 : n = M.m.length := by
        have := (List.getElem?_eq_some_iff.mp k1).1
        rw [List.length_append, List.length_singleton] at this
        omega
      subst hn2
      rw [List.getElem?_append_right (Nat.le_refl _), Nat.sub_self] at k1
      rw [List.getElem?_append_right (by rw [cl]; exact Nat.le_refl _), cl, Nat.sub_self] at k2
      cases k1
      cases k2
      exact hc
theorem Grow.own (g : Grow M0 H0 M H) (h : H0 p = none) : Grow M0 H0 (M.add p) H := by
  obtain ⟨r, e1, f⟩ := g.pre
  refine ⟨g.yy, ⟨r ++ [p], by show M.m ++ [p] = _; rw [e1, List.append_assoc], fun x hx => ?_⟩, g.keep, g.dom⟩
  rcases List.mem_append.mp hx with hx | hx
  · exact f x hx
  · rw [List.mem_singleton.mp hx]; exact h
end
section
variable {X : Cx} {elt tg iter : Expr} {ifs : List Expr} {scope : Scope} {pos : Pos} {di : DTI} {dg : DTG} {dt : DTT} {de : DTE} {own : List (Str × Nat)} {g : TG}
/-- x = [.. for ..], the list mutable -/
def dSetLcH (di : DTI) (dg : DTG) (dt : DTT) (de : DTE) (vs : List Nat) (i : Nat) : DTS := fun E ρ S => dLcL di dg dt de vs ρ S fun acc S2 => E.nx (st ρ i (.hdl S2.length)) (S2 ++ [.lst acc])
theorem ds_setLcH {i : Nat} {y : Str} {py spos : Pos} (hc : X.calm = true) (hN : X.N.Nodup) (hy : X.N[i]? = some y) (hyl : X.env.scope.names.lookup y = some .local)
    (hsw : swapsWith (.ListComp elt [⟨tg, iter, ifs, 0⟩] scope pos) (some (.Name y py)) spos.line X.env = pure true) (hi : DI X tg iter di) (ok : BlkOk X.N X.env.scope scope own) (ho : OwnG dg g X.K (own.map (·.2)))
    (hg : ∀ (s : Shared) (H : Hp) (C : Addr) (cl : List (Str × Addr)) (fp : List Addr), PG (X.blk s H scope (compEnvC scope cl C X.env) fp) tg g) (ht : ∀ (s : Shared) (H : Hp) (C : Addr) (cl : List (Str × Addr)) (fp : List Addr), DTs (X.blk s H scope (compEnvC scope cl C X.env) fp) ifs dt)
    (he : ∀ (s : Shared) (H : Hp) (C : Addr) (cl : List (Str × Addr)) (fp : List Addr), DE (X.blk s H scope (compEnvC scope cl C X.env) fp) elt de) (hs : ∀ x, foldedSetIterable iter X.env x = pure x := by intro _; rfl) :
    DS X (.Assign [.Name y py] (.ListComp elt [⟨tg, iter, ifs, 0⟩] scope pos) spos) (dSetLcH di dg dt de (own.map (·.2)) i) :=
  upS_of (ps_setLc hc hN hy hyl hsw hi ok hg ht he hs) fun M ρ S DD D σ H s c l q => by
    refine lc_gen (dt := dt) (de := de) (fun _ _ _ h => h) ho M ρ S (fun acc S2 => DD.nx (st ρ i (.hdl S2.length)) (S2 ++ [Cell.lst acc])) σ H _ s c (fun M2 H2 S2 acc vs2 L g2 hL c2 nL hL2 hacc q2 => ?_) q fun σ => wipe_wipe σ _
    have cl : M2.m.length = S2.length := c2.len
    have g3 := g2.own hL
    refine l.nx (M2.add L) _ H2 _ _ g3 ((s.mono g3).set (dp_hdl ?_) i) (c2.own nL.2 (cc := .lst acc) ⟨vs2, hL2, hacc.later later_own⟩) q2
    show (M2.m ++ [L])[S2.length]? = some L
    rw [← cl, List.getElem?_append_right (Nat.le_refl _), Nat.sub_self]
    rfl
end
/-! ## a text's signs -/
section
variable {X : Cx} {tg e : Expr} {de : DTE}
def signsD (x : Str) : List D := x.cps.toList.map fun c => .str ⟨#[c]⟩
def diStr (de : DTE) : DTI := fun ρ S R => de ρ S fun d S1 => ∃ x : Str, d = .str x ∧ R (signsD x) S1
theorem itd_str {K : PySem.W.Frag} {M : Rg} {H : Hp} {x : Str} : ItD K M H (Its x) (signsD x) := fun M' H' lt i => by
  have hl : (signsD x).length = x.cps.size := by unfold signsD; rw [List.length_map, Array.length_toList]
  refine ⟨fun hi => show x.cps.size ≤ i by omega, fun d hd => ?_⟩
  have hi : i < x.cps.size := by rw [← hl]; exact (List.getElem?_eq_some_iff.mp hd).1
  refine ⟨hi, fun v H2 hy => ?_⟩
  obtain ⟨e1, c, hc, ev⟩ := hy
  subst e1 ev
  have ed : d = .str ⟨#[c]⟩ := by
    unfold signsD at hd
    rw [List.getElem?_map, Array.getElem?_toList, hc] at hd
    exact (Option.some.inj hd).symm
  subst ed
  exact ⟨Fresh.refl, fun _ _ => dp_str⟩
theorem di_str (he : DE X e de) : DI X tg e (diStr de) :=
  (pi_str he).up fun σ H R ⟨M, ρ, S, RD, s, c, l, q⟩ => ⟨M, ρ, S, _, s, c, fun M1 v H1 d S1 g1 c1 hd ⟨x, ed, q1⟩ => by
    subst ed
    exact ⟨x, hd.str_inv, l M1 H1 _ _ S1 g1 c1 itd_str q1⟩, q⟩
end
theorem hu_of {k : Nat} {A : Around} (h : Room k A) : A.units + 1 < cLine := by have := h.un; omega
theorem rdIx_of {S : Stt} {x : D} {ds : List D} {i : Int} {d : D} {Q : QE} (h : seqD S x = some ds) (e : ixD ds i = some d) (q : Q d S) : rdIx x (.int i) S Q := by
  unfold rdIx
  rw [h]
  show (match ixD ds i with
    | some d => Q d S
    | none => False)
  rw [e]
  exact q
theorem ixD_nat {ds : List D} {n : Nat} : ixD ds (n : Int) = ds[n]? := by
  show nth ds n = _
  exact nth_eq ds n
theorem rdLen_of {S : Stt} {x : D} {ds : List D} {Q : QE} (h : seqD S x = some ds) (q : Q (.int (ds.length : Int)) S) : rdLen [x] S Q := by
  cases x with
  | hdl n =>
    show (match seqD S (.hdl n) with
      | some es => Q (.int (es.length : Int)) S
      | none => False)
    rw [h]
    exact q
  | tup es => cases h; exact q
  | lst es => cases h; exact q
  | _ => cases h
theorem cdiv_of {i j : Int} (h1 : 0 < j := by decide) (h2 : j < 1073741824 := by decide) : CDiv i j := ⟨h1, h2⟩
/-- a def whose defaults are never used -/
theorem Fn.ofB {C : Ct} {x : Str} {f : Addr} {fd : FuncData} {ps : List Str} {k : Nat} {sp : SpD} {CX : CXT} {us : List Value} (hk : PySem.W.keepIn C.K (.ref f) = true) (hm : C.mg x = some (.ref f)) (hb : L2.Binds C.K fd ps us) (hv : Vals [] us)
    (G : FnOk C.P C.w C.K C.mg C.base CX k f fd ps (upF C.K sp)) : Fn C CX k x ps [] sp := ⟨f, fd, us, [], hm, hk, G, hb, hv, fun _ _ => DpL.nil⟩
/-! ### parts of a list -/
theorem sIx_nat (n d i : Nat) : HT.sIx n d (some (i : Int)) = min i n := HT.sIx_nat n d i
theorem sIx_end (n d : Nat) : HT.sIx n d none = d := by
  unfold HT.sIx
  rfl
theorem cut_from (ds : List D) (i : Nat) : cutD ds (some (i : Int)) none = ds.drop i := by
  unfold cutD
  rw [sIx_nat, sIx_end]
  by_cases h : i ≤ ds.length
  · rw [Nat.min_eq_left h]
    exact List.take_of_length_le (by rw [List.length_drop]; exact Nat.le_refl _)
  · rw [Nat.min_eq_right (by omega), List.drop_of_length_le (Nat.le_refl _), List.drop_of_length_le (by omega)]
    simp
theorem cut_to (ds : List D) (i : Nat) : cutD ds none (some (i : Int)) = ds.take i := by
  unfold cutD
  rw [sIx_nat, sIx_end, Nat.sub_zero, List.drop_zero]
  by_cases h : i ≤ ds.length
  · rw [Nat.min_eq_left h]
  · rw [Nat.min_eq_right (by omega), List.take_of_length_le (Nat.le_refl _), List.take_of_length_le (by omega)]
theorem cut_all_but (ds : List D) : cutD ds none (some (-1)) = ds.dropLast := by
  unfold cutD
  rw [sIx_end, Nat.sub_zero, List.drop_zero, List.dropLast_eq_take]
  have e : HT.sIx ds.length ds.length (some (-1)) = ds.length - 1 := by
    show (if (-1 : Int) < 0 then ((-1 : Int) + (ds.length : Int)).toNat else min (-1 : Int).toNat ds.length) = ds.length - 1
    rw [if_pos (by decide)]
    omega
  rw [e]
theorem Fn.imp {C : Ct} {CX : CXT} {k : Nat} {name : Str} {ps : List Str} {dvs : List D} {sp sp' : SpD} (F : Fn C CX k name ps dvs sp) (h : ∀ ds S Q E, sp' ds S Q E → sp ds S Q E) : Fn C CX k name ps dvs sp' := by
  obtain ⟨f, fd, us, vs, h1, h2, h3, h4⟩ := F
  exact ⟨f, fd, us, vs, h1, h2, h3.imp fun ws H Q E ⟨M, ds, S, QD, ED, hl, c, l, lx, q⟩ => ⟨M, ds, S, QD, ED, hl, c, l, lx, h _ _ _ _ q⟩, h4⟩
end TA
set_option Elab.async false
set_option linter.all false
set_option maxRecDepth 100000
set_option maxHeartbeats 4000000
namespace TA
open PySem PySem.Spec L2 RT
open PyProof.Rows hiding St
/-! ## list(reversed(a tuple)) -/
theorem nolen_rt : typeLookup (.type "reversed") "__len__" = pure none := by rw [typeLookup_type, builtinLookup_eq_fast]; kernel_rfl
theorem slot_rt_hint : Slot "reversed" "__length_hint__" "reversed.__length_hint__" :=
  .of (owner := "reversed") (n := "__length_hint__") (by rw [typeLookup_type, builtinLookup_eq_fast]; kernel_rfl) (by decide +kernel) (by decide +kernel) (by decide +kernel)
    (by first | exact .inl (by decide +kernel) | exact .inr (by decide +kernel)) (by rw [isSubtype_type]; kernel_rfl)
theorem entry_rt_hint : entryFor table "reversed.__length_hint__" = some Builtin.«reversed.__length_hint__» := entryFor_of_tree (by kernel_rfl)
theorem args_rt_hint (a : Value) : argsOk "reversed.__length_hint__" ⟨[a], []⟩ := by
  unfold argsOk; rw [signature?_of (id := "reversed.__length_hint__") (n := ['_', '_', 't', 'n', 'i', 'h', '_', 'h', 't', 'g', 'n', 'e', 'l', '_', '_']) (o := ['d', 'e', 's', 'r', 'e', 'v', 'e', 'r']) (by kernel_rfl) owner_rt]; kernel_rfl
theorem tup_at {h h' : Heap} {t : Addr} {items : Array Value} (x : IsTup h t items) (e : ∀ o, h.get? t = some o → h'.get? t = some o) : IsTup h' t items := let ⟨o, ho, r⟩ := x; ⟨o, e _ ho, r⟩
section
variable {prog : Program} {w : World} {A : Around} {E : Value → Shared → Prop} {s : Shared}
theorem hint_rt {it t : Addr} {items : Array Value} {Q : Bool → Shared → Prop} (hit : IsRt s.heap it t ((items.size : Int) - 1)) (ht : IsTup s.heap t items) (hsz : items.size ≤ 2 ^ 20)
    (h : ∀ b tk, Q b { s with toks := tk }) : wpAny (model prog w) A (Builtin.List.listLengthHint (.ref it)) Q E s := by
  obtain ⟨o, ho, hc, hd⟩ := id hit
  have hT := hit.typeIs
  unfold Builtin.List.listLengthHint
  refine wpAny_bind (wpAny_specialOf hT nolen_rt ?_)
  show wpAny _ _ (specialOf (Value.ref it) (Str.ofString "__length_hint__") >>= _) _ _ _
  refine wpAny_bind (wpAny_specialOf hT slot_rt_hint.lookup ?_)
  have hb := slot_rt_hint.bind
  have hsl := @wpAny_call_entry prog w
  generalize hid : ("reversed.__length_hint__" : String) = id0
  wp_delta
  rw [show splitId id0 = some ("reversed", "__length_hint__") from by subst hid; decide +kernel]
  subst hid
  refine wpAny_bind (wpAny_isInstance (b := true) hT (by rw [isSubtype_type]; kernel_rfl) ?_)
  refine wpAny_ite_split (fun hab => absurd hab (by decide)) (fun _ => ?_)
  refine wpAny_ite_split (fun hab => absurd hab (by decide +kernel)) (fun _ => ?_)
  refine wpAny_bind (wpAny_rule ?_)
  refine wpAny_bind (wpAny_of_eq (hb _) ?_)
  refine wpAny_bind (wpAny_attempt (wpAny_call_entry slot_rt_hint hT entry_rt_hint ?_ (args_rt_hint _)))
  unfold Builtin.«reversed.__length_hint__»
  refine wpAny_bind (wpAny_of_eq (a := Value.ref it) rfl ?_)
  try dsimp only
  refine wpAny_bind (wpAny_field ho hd (x := .ref t) rfl ?_)
  refine wpAny_ite_split (fun hab => Bool.noConfusion hab) (fun _ => ?_)
  refine wpAny_bind (len_tuple ht (by omega) ?_)
  refine wpAny_bind (wpAny_of_eq (a := some ((items.size : Nat) : Int)) rfl ?_)
  try dsimp only
  refine wpAny_bind (wpAny_field ho hd (x := rawInt ((items.size : Int) - 1)) rfl ?_)
  show wpAny _ _ (if _ then _ else _) _ _ _
  rw [if_neg (by omega)]
  refine wpAny_bind (m := mkInt _) (wpAny_mkInt ?_)
  refine wpAny_pure ⟨_, rfl, ?_⟩
  have en : ((items.size : Int) - 1 + 1) = (items.size : Int) := by omega
  rw [en]
  dsimp only
  have ea : (asInt? (Value.int (items.size : Int) (s.toks + 1 + 1)) : Sem (Option Int)) = pure (some (items.size : Int)) := rfl
  rw [ea]
  generalize ev : some ((items.size : Nat) : Int) = v
  refine wpAny_bind (wpAny_pure ?_)
  subst ev
  have h1 : Builtin.List.listFitsIndex (items.size : Int) = true := by
    have a1 : -(2 ^ 63 : Int) ≤ (items.size : Int) := by omega
    have a2 : (items.size : Int) < 2 ^ 63 := by omega
    exact (Bool.and_eq_true_iff (x := decide _) (y := decide _)).mpr ⟨decide_eq_true a1, decide_eq_true a2⟩
  have h2 : Builtin.List.listTooLong ((items.size : Int).toNat) = false := by
    unfold Builtin.List.listTooLong
    rw [sizeLine_eq]
    simp only [decide_eq_false_iff_not, Int.toNat_natCast]
    omega
  try dsimp only
  rw [if_neg (by rw [h1]; decide), if_neg (by omega), if_neg (by rw [h2]; decide)]
  exact wpAny_pure (h _ _)
theorem walks_rt (hh : A.handled = none) (I l : Addr) (hne : l ≠ I) (items : Array Value) (hsz : items.size ≤ 2 ^ 20) :
    Walks prog w A I [I, l] [I] items.size (fun i v => items[items.size - 1 - i]? = some v) (fun i h => i ≤ items.size ∧ IsRt h I l ((items.size : Int) - 1 - (i : Int)) ∧ IsTup h l items) where
  sub := fun b hb => by simp at hb; simp [hb]
  frame := fun _ _ _ x hk => ⟨x.1, x.2.1.at fun o e => hk I (by simp) o e, tup_at x.2.2 fun o e => hk l (by simp) o e⟩
  item := fun i s Q E hi x hQ => by
    have e : (items.size : Int) - 1 - (i : Int) = ((items.size - 1 - i : Nat) : Int) := by omega
    have hit := x.2.1
    rw [e] at hit
    have hx : items[items.size - 1 - i]? = some (items[items.size - 1 - i]'(by omega)) := Array.getElem?_eq_getElem (by omega)
    refine next_rt_item hit x.2.2 hx (by rw [sizeLine_eq]; omega) fun h' hit' hs' => ?_
    have e2 : ((items.size - 1 - i : Nat) : Int) - 1 = (items.size : Int) - 1 - ((i + 1 : Nat) : Int) := by omega
    rw [e2] at hit'
    exact hQ _ h' (s.toks + 1) hx ⟨hi, hit', tup_at x.2.2 fun o eo => (hs'.2 l hne).trans eo⟩ fun b o hb eo => hs'.extBut b o (fun h => hb (by simp [h])) eo
  done := fun s Q E x hQ => by
    have e : (items.size : Int) - 1 - (items.size : Int) = -1 := by omega
    have hit := x.2.1
    rw [e] at hit
    exact next_rt_end hh hit fun h' he' => hQ h' s.toks fun b o hb eo => he' b o (fun h => hb (by simp [h])) eo
  self := fun _ _ _ _ x hQ => iter_rt x.2.1 hQ
theorem extend_rt {R : Result → Shared → Prop} {r t : Addr} {items : Array Value} (hh : A.handled = none) (hit : IsRt s.heap r t ((items.size : Int) - 1)) (ht : IsTup s.heap t items) (hne : t ≠ r) (hsz : items.size ≤ 2 ^ 20)
    (S : Addr) (hSr : S ≠ r) (hSt : S ≠ t) (res : Value) (c₀ : Nat) (hS : s.heap.get? S = some { cls := .type "list", data := .seq #[] c₀ })
    (hR : ∀ h' tk acc' c', (∀ b o, b ≠ S → b ≠ r → s.heap.get? b = some o → h'.get? b = some o) → h'.get? S = some { cls := .type "list", dict := none, data := .seq acc' c', slots := #[] } → ItemsOf (fun i v => items[items.size - 1 - i]? = some v) acc' items.size → R (.ok (.ret res)) { s with heap := h', toks := tk }) :
    wpAny (model prog w) A.in1 (Builtin.List.listExtendWith (.ref S) (.ref r) res)
      (fun fin s' => match fin with | .done f => R (.ok f) s' | .again c' => c'.quiet = true ∧ codeAny (model prog w) A c' R s') (fun e s' => R (.error e) s') s := by
  have hSf : S ∉ [r, t] := by simp only [List.mem_cons, List.not_mem_nil, or_false, not_or]; exact ⟨hSr, hSt⟩
  have W := (walks_rt (prog := prog) (w := w) (A := A.in1) hh r t hne items hsz).toS
  have e0 : ((items.size : Nat) : Int) - 1 - ((0 : Nat) : Int) = (items.size : Int) - 1 := by omega
  have key : ∀ (h : Heap) (c₁ tk : Nat), (∀ b o, b ≠ S → s.heap.get? b = some o → h.get? b = some o) →
      h.get? S = some { cls := .type "list", data := .seq #[] c₁ } → codeAny (model prog w) A (.builtin "list.extend.loop" ⟨[.ref S, .ref r, res], []⟩) R { s with heap := h, toks := tk } := by
    intro h c₁ tk hk hS₁
    refine codeAny_extend_loopS W (by rw [sizeLine_eq]; omega) S hSf res items.size 0 _ #[] c₁ rfl (Nat.zero_le _) ⟨Nat.zero_le _, by rw [e0]; exact hit.at fun o e => hk r o hSr.symm e, tup_at ht fun o e => hk t o hSt.symm e⟩ hS₁ (ItemsOf.nil _) fun s' acc' c' hm hS' hacc => ?_
    rw [Moved.eq_with hm]
    refine hR s'.heap s'.toks acc' c' (fun b o hb hb2 e => hm.heap b o (fun hmem => ?_) (hk b o hb e)) hS' hacc
    rcases List.mem_cons.mp hmem with e' | hmem
    · exact hb e'
    · exact hb2 (List.mem_singleton.mp hmem)
  unfold Builtin.List.listExtendWith
  refine wpAny_bind (wpAny_typeOf (T := "reversed") hit.typeIs ?_)
  have h1 : Builtin.List.listSameRef (.ref S) (.ref r) = false := by simp [Builtin.List.listSameRef, hSr]
  have h2 : (Value.type "reversed" == Value.type "list") = false := by decide
  have h3 : (Value.type "reversed" == Value.type "tuple") = false := by decide
  simp only [h1, h2, h3, Bool.or_false, Bool.false_eq_true, if_false]
  refine wpAny_bind (iter_rt hit ?_)
  refine wpAny_bind (wpAny_holding (hint_rt hit ht hsz fun b tk => ?_))
  refine wpAny_ite_split (fun _ => ?_) (fun _ => wpAny_pure ⟨plainId_quiet PySem.F.plain_extend_loop _, key _ c₀ _ (fun b o _ e => e) hS⟩)
  refine wpAny_bind (wpAny_rule ?_)
  refine wpAny_bind ?_
  show wpAny _ _ (updateSeq S (·.push .none) >>= fun _ => updateSeq S (·.pop)) _ _ _
  refine wpAny_bind (wpAny_updateSeq (s := { s with toks := tk }) hS rfl ?_)
  have hS₂ := Heap.get?_update_self (Obj.mapSeq (·.push Value.none)) hS rfl
  refine wpAny_updateSeq (hz := by seq_fits) hS₂ rfl ?_
  have hS₃ := Heap.get?_update_self (Obj.mapSeq (·.pop)) hS₂ rfl
  refine wpAny_pure ⟨plainId_quiet PySem.F.plain_extend_loop _, key _ _ _ (fun b o hb e => ?_) hS₃⟩
  exact (Heap.get?_update_other _ _ (Ne.symm hb)).trans ((Heap.get?_update_other _ _ (Ne.symm hb)).trans e)
theorem call_list_rt {Q : Value → Shared → Prop} {r t : Addr} {items : Array Value} (hh : A.handled = none) (hit : IsRt s.heap r t ((items.size : Int) - 1)) (ht : IsTup s.heap t items) (hne : t ≠ r) (hsz : items.size ≤ 2 ^ 20)
    (hQ : ∀ h' tk acc' c', (∀ b o, b ≠ r → s.heap.get? b = some o → h'.get? b = some o) → h'.get? s.heap.objs.size = some { cls := .type "list", dict := none, data := .seq acc' c', slots := #[] } → ItemsOf (fun i v => items[items.size - 1 - i]? = some v) acc' items.size → Q (.ref s.heap.objs.size) { s with heap := h', toks := tk }) :
    wpAny (model prog w) A (call (.type "list") [.ref r]) Q E s := by
  refine callType_codes (Q₁ := fun obj s₁ => obj = .ref s.heap.objs.size ∧ s₁ = { s with heap := s.heap.push { cls := .type "list", data := .seq #[] } }) PySem.F.called_list (PySem.F.typeCall_list_1 _) PySem.F.entry_list_init
    (code_list_new _ ⟨rfl, rfl⟩) fun obj s₁ h₁ => ?_
  obtain ⟨rfl, rfl⟩ := h₁
  have hS : (s.heap.push { cls := .type "list", data := .seq #[] }).get? s.heap.objs.size = some { cls := .type "list", data := .seq #[] } := Heap.get?_push_size _ rfl
  obtain ⟨_, hr, _⟩ := id hit
  obtain ⟨_, htt, _⟩ := id ht
  have l1 : s.heap.objs.size ≠ r := Nat.ne_of_gt (Heap.lt_size hr)
  have l2 : s.heap.objs.size ≠ t := Nat.ne_of_gt (Heap.lt_size htt)
  refine ⟨⟨_, hS, rfl⟩, PySem.F.args_list_init_2 _ _, ?_⟩
  show wpAny _ _ (do let old ← Builtin.List.listItems (.ref s.heap.objs.size); Builtin.List.listUpdate (.ref s.heap.objs.size) (fun _ => #[]); letGo old.toList.reverse; Builtin.List.listExtendWith (.ref s.heap.objs.size) (.ref r) .none) _ _ _
  refine wpAny_bind ?_
  unfold Builtin.List.listItems
  refine wpAny_bind (wpAny_seqItems hS rfl (wpAny_pure ?_))
  show wpAny _ _ (updateSeq s.heap.objs.size (fun _ => #[]) >>= fun _ => letGo (#[] : Array Value).toList.reverse >>= fun _ => Builtin.List.listExtendWith (.ref s.heap.objs.size) (.ref r) .none) _ _ _
  refine wpAny_bind (wpAny_updateSeq hS rfl ?_)
  have hS₂ := Heap.get?_update_self (Obj.mapSeq (fun _ => (#[] : Array Value))) hS rfl
  have oth : ∀ b o, b ≠ s.heap.objs.size → s.heap.get? b = some o → ((s.heap.push { cls := .type "list", data := .seq #[] }).update s.heap.objs.size (Obj.mapSeq (fun _ => (#[] : Array Value)))).get? b = some o :=
    fun b o hb e => (Heap.get?_update_other _ _ (Ne.symm hb)).trans (Heap.get?_push_of_some _ e)
  refine wpAny_bind (wpAny_letGo ?_)
  refine extend_rt (prog := prog) (w := w) (A := A.in1) (s := { s with heap := (s.heap.push { cls := .type "list", data := .seq #[] }).update s.heap.objs.size (Obj.mapSeq (fun _ => (#[] : Array Value))) }) hh (hit.at fun o e => oth r o l1.symm e) (tup_at ht fun o e => oth t o l2.symm e) hne hsz _ l1 l2 .none _ hS₂ (fun h' tk acc' c' hk hS' hacc => ?_)
  exact ⟨rfl, hQ h' tk acc' c' (fun b o hb e => hk b o (Nat.ne_of_lt (Heap.lt_size e)) hb (oth b o (Nat.ne_of_lt (Heap.lt_size e)) e)) hS' hacc⟩
end
section
variable {X : Cx}
/-- list(reversed(x)), x a tuple: a new list -/
def tLstRev (K : PySem.W.Frag) (te : TE) : TE := fun σ H Q => te σ H fun v H1 => ∃ (a : Addr) (xs : List V), v = .ref a ∧ SqT K H1 a xs ∧ xs.length ≤ 100000 ∧ ∀ q, H1 q = none → Q (.ref q) (upd H1 q (.lst xs.reverse))
theorem pe_listRev {e : Expr} {te : TE} {p p2 pos pos2 : Pos} (hc : X.calm = true) (hg : Gl X "list") (hm : X.mg "list" = none) (hg2 : Gl X "reversed") (hm2 : X.mg "reversed" = none) (he : PE X e te)
    (hs : starEach [e] X.env = (false, eval e X.env) :: starEach [] X.env := by rfl)
    (hs2 : starEach [.Call (.Name "reversed" p2) [e] [] pos2] X.env = (false, eval (.Call (.Name "reversed" p2) [e] [] pos2) X.env) :: starEach [] X.env := by rfl) :
    PE X (.Call (.Name "list" p) [.Call (.Name "reversed" p2) [e] [] pos2] [] pos) (tLstRev X.K te) := by
  refine ⟨fun pins s σ H Q I h => ?_⟩
  refine Call_ (ld_blt I hg hm boot_list (PyProof.Rows.callWith_type1 (args_cons (Call_ (ld_blt I hg2 hm2 PyProof.Rows.boot_reversed (PyProof.Rows.callWith_type1 (args_cons (thn (he.run pins s σ H _ I h) fun u s1 ⟨v, H1, I1, r1, q1⟩ => args_nil ?_) hs) hs rfl))) hs2) hs2 rfl))
  obtain ⟨a, xs, ev, hq, hle, q⟩ := q1
  subst ev
  obtain rfl : u = Value.ref a := r1
  obtain ⟨its, rv, p', hz⟩ := I1.tuple hq
  have hl := rv.length
  have hsz : its.toArray.size ≤ 2 ^ 20 := by rw [List.size_toArray, ← hl]; omega
  refine call_reversed_tup p' (fun A E Q k => len_tuple p' (by omega) k) (args_nil ?_)
  obtain ⟨ol, hol, _⟩ := id p'
  have hne : a ≠ s1.heap.objs.size := Nat.ne_of_lt (Heap.lt_size hol)
  have k0 : ∀ b o, s1.heap.get? b = some o → (s1.heap.push (rtObj a ((its.toArray.size : Int) - 1))).get? b = some o := fun b o e => Heap.get?_push_of_some _ e
  refine call_list_rt (s := { s1 with heap := s1.heap.push (rtObj a ((its.toArray.size : Int) - 1)), toks := s1.toks + 1 + 1 }) (I1.ok.hd hc) ⟨_, Heap.get?_push_size _ rfl, rfl, rfl⟩ (tup_at p' fun o e => k0 a o e) hne hsz fun h' tk acc c' hk hS hi => ?_
  have hkk : ∀ b o, s1.heap.get? b = some o → h'.get? b = some o := fun b o e => hk b o (Nat.ne_of_lt (Heap.lt_size e)) (k0 b o e)
  have hA : s1.heap.objs.size ≤ (s1.heap.push (rtObj a ((its.toArray.size : Int) - 1))).objs.size := by
    show _ ≤ (s1.heap.objs.push _).size
    rw [Array.size_push]; omega
  refine ⟨.ref _, upd H1 (s1.heap.push (rtObj a ((its.toArray.size : Int) - 1))).objs.size (.lst xs.reverse), I1.laid hkk hA (show ObjOk X.prog X.w _ _ _ (.lst xs.reverse) from ⟨by rw [List.length_reverse]; exact hz, acc.toList, c', vals_rev rv hi, ?_⟩), rfl, q _ (I1.hok.fresh hA)⟩
  rw [Array.toArray_toList]; exact hS
end
section
variable {X : Cx} {e : Expr} {de : DTE} {p pos : Pos} {K : PySem.W.Frag} {M : Rg} {H : Hp}
/-- list(reversed(a tuple)) -/
def dListRev (da : DTE) : DTE := fun ρ S Q => da ρ S fun d S1 => ∃ ds, d = .tup ds ∧ ds.length ≤ 100000 ∧ Q (.lst ds.reverse) S1
theorem DpL.rev : ∀ {ds : List D} {vs : List V}, DpL K M H ds vs → DpL K M H ds.reverse vs.reverse
  | [], vs, h => by
    have : vs = [] := by
      have := h.len
      cases vs with
      | nil => rfl
      | cons => simp at this
    subst this
    exact DpL.nil
  | d :: ds, vs, h => by
    obtain ⟨v, r, rfl, hd, hr⟩ := h.uncons
    rw [List.reverse_cons, List.reverse_cons]
    exact (DpL.rev hr).append (DpL.cons hd DpL.nil)
theorem de_listRev {p2 pos2 : Pos} (hc : X.calm = true) (hm : X.mg "list" = none) (hm2 : X.mg "reversed" = none) (he : DE X e de) (hg : Gl X "list" := by rfl) (hg2 : Gl X "reversed" := by rfl) (na : starEach [e] X.env = (false, eval e X.env) :: starEach [] X.env := by rfl)
    (na2 : starEach [.Call (.Name "reversed" p2) [e] [] pos2] X.env = (false, eval (.Call (.Name "reversed" p2) [e] [] pos2) X.env) :: starEach [] X.env := by rfl) :
    DE X (.Call (.Name "list" p) [.Call (.Name "reversed" p2) [e] [] pos2] [] pos) (dListRev de) :=
  up_of (pe_listRev hc hg hm hg2 hm2 he na na2) fun M ρ S QD σ H Q s c l q => ⟨M, ρ, S, _, s, c, fun M1 x H1 dx S1 g1 c1 hx ⟨ds, ex, hn, q1⟩ => by
    subst ex
    obtain ⟨a, vs, ev, na, ha, hl⟩ := hx.tup_inv
    exact ⟨a, vs, ev, .inl (.inl ha), by rw [← hl.len]; exact hn, l.lst g1 c1 hl.rev q1⟩, q⟩
end
end TA
set_option Elab.async false
set_option linter.all false
set_option maxRecDepth 100000
set_option maxHeartbeats 4000000
namespace TA
open PySem PySem.Spec L2
open PyProof.Rows hiding St
/-! ## lots as bits -/
def nextFrom : Nat → List Nat → Nat → Nat → Nat
  | _, [], _, acc => acc
  | k, r :: row, lot, acc => nextFrom (k + 1) row lot (if lot.testBit k then acc ||| r else acc)
def nextL (row : List Nat) (lot : Nat) : Nat := nextFrom 0 row lot 0
abbrev nI (n : Nat) : D := .int (n : Int)
theorem and_nat (a b : Nat) : Builtin.bitAnd (a : Int) (b : Int) = ((a &&& b : Nat) : Int) := by
  unfold Builtin.bitAnd
  rw [decide_eq_true (Int.natCast_nonneg a), decide_eq_true (Int.natCast_nonneg b)]
  rfl
theorem or_nat (a b : Nat) : Builtin.bitOr (a : Int) (b : Int) = ((a ||| b : Nat) : Int) := by
  unfold Builtin.bitOr Builtin.bitAnd Builtin.bitNot
  have ha : ¬ (0 : Int) ≤ -(a : Int) - 1 := by omega
  have hb : ¬ (0 : Int) ≤ -(b : Int) - 1 := by omega
  rw [decide_eq_false ha, decide_eq_false hb]
  show -(-(((-(-(a : Int) - 1) - 1).toNat ||| (-(-(b : Int) - 1) - 1).toNat : Nat) : Int) - 1) - 1 = _
  have e1 : (-(-(a : Int) - 1) - 1).toNat = a := by omega
  have e2 : (-(-(b : Int) - 1) - 1).toNat = b := by omega
  rw [e1, e2]
  omega
theorem shr_nat (lot k : Nat) : ((lot : Int) / 2 ^ ((k : Int)).toNat) = ((lot >>> k : Nat) : Int) := by
  rw [Nat.shiftRight_eq_div_pow, Int.toNat_natCast]
  simp
theorem bit1 (lot k : Nat) : decide (Builtin.bitAnd ((lot : Int) / 2 ^ ((k : Int)).toNat) 1 = 1) = lot.testBit k := by
  rw [shr_nat, show (1 : Int) = ((1 : Nat) : Int) from rfl, and_nat, Nat.testBit, Nat.and_comm]
  have h : 1 &&& lot >>> k = 0 ∨ 1 &&& lot >>> k = 1 := by
    rw [Nat.and_comm, Nat.and_one_is_mod]
    omega
  rcases h with h | h <;> rw [h] <;> rfl
theorem bit2 (lot k : Nat) : decide (((lot : Int) / 2 ^ ((0 : Int) + (k : Int)).toNat) % 2 = 1) = lot.testBit k := by
  rw [Int.zero_add, shr_nat, Nat.testBit, Nat.and_comm, Nat.and_one_is_mod]
  have h : lot >>> k % 2 = 0 ∨ lot >>> k % 2 = 1 := by omega
  rcases h with h | h
  · rw [h, decide_eq_false (by omega)]; rfl
  · rw [h, decide_eq_true (by omega)]; rfl
def spNext : SpD := fun ds S Q _ => ∃ (row : List Nat) (lot : Nat), ds = [.tup (row.map nI), nI lot] ∧ Q (nI (nextL row lot)) S
theorem len_next_lot : ∀ (ds : List D) (S : Stt) (Q : QE) (E : Str → Stt → Prop), spNext ds S Q E → ds.length = 2 := by intro ds S Q E h; delta spNext at h; (repeat obtain ⟨_, h⟩ := h); subst_vars; rfl
theorem ok_next_lot (C : Ct) (T : Txt C) : Fn C CX0 (0 + 1) "next_lot" ["row", "lot"] [] spNext := by
  obtain ⟨fd, F⟩ := T.def_ 16 (d := d_next_lot)
  refine Fn.of F (T.glo "next_lot") (fun _ _ _ _ _ _ us hl => match us, hl with | [_, _], _ => rfl) (fnD F sc_next_lot len_next_lot (by decide) fun cdv A outer s H E hr => ⟨_,
    (dss_cons (ds_set (i := 2) sc_next_lot.nd rfl (by first | exact Or.inl rfl | exact Or.inr rfl) de_int)
      (dss_cons (ds_for PassesOwn.never rfl (di_enum (by rfl) (T.free "enumerate") (dv 0)) (dg_tup (n := 2) rfl (dgs_cons (dg_name (i := 3) sc_next_lot.nd rfl (by first | exact Or.inl rfl | exact Or.inr rfl)) (dgs_cons (dg_name (i := 4) sc_next_lot.nd rfl (by first | exact Or.inl rfl | exact Or.inr rfl)) dgs_nil))) (dss_one (ds_if (dt_cmp op_eq opd_eq (de_op op_and opd_I (de_op op_shr opd_IC (dv 1) (dv 3)) de_int) de_int (nomark _)) (dss_one (ds_set (i := 2) sc_next_lot.nd rfl (by first | exact Or.inl rfl | exact Or.inr rfl) (de_op op_or opd_I (dv 2) (dv 4)))) dss_nil)))
      (dss_one (ds_ret (dv 2))))), fun ds S QD ED h => ?_⟩)
  obtain ⟨row, lot, rfl, q⟩ := h
  refine ⟨fun r ρ S' => ∃ k rs acc o3 o4, r = enumD k (List.map nI rs) ∧ ρ = [some (.tup (row.map nI)), some (nI lot), some (nI acc), o3, o4] ∧ S' = S ∧ nextFrom k rs lot acc = nextL row lot,
    ⟨0, row, 0, none, none, rfl, rfl, rfl, rfl⟩, ?_, ?_⟩
  · rintro x r ρ S' ⟨k, rs, acc, o3, o4, e, rfl, rfl, en⟩
    cases rs with
    | nil => cases e
    | cons y ys =>
      cases e
      have en : nextFrom (k + 1) ys lot (if lot.testBit k then acc ||| y else acc) = nextL row lot := en
      refine ⟨rfl, Int.natCast_nonneg _, ite2 (fun h => ?_) (fun h => ?_)⟩
      · rw [bit1] at h
        rw [if_pos h] at en
        exact ⟨k + 1, ys, acc ||| y, some (nI k), some (nI y), rfl, or_nat acc y ▸ rfl, rfl, en⟩
      · rw [bit1] at h
        rw [if_neg h] at en
        exact ⟨k + 1, ys, acc, some (nI k), some (nI y), rfl, rfl, rfl, en⟩
  · rintro ρ S' ⟨k, rs, acc, o3, o4, e, rfl, rfl, en⟩
    cases rs with
    | nil =>
      have en : acc = nextL row lot := en
      show QD (nI acc) S'
      rw [en]
      exact q
    | cons y ys => cases e
theorem shl1 (v : Nat) : ((1 : Int) * 2 ^ ((v : Int)).toNat) = ((2 ^ v : Nat) : Int) := by
  rw [Int.one_mul, Int.toNat_natCast]
  simp
theorem two_pos (v : Nat) : 1 ≤ 2 ^ v := Nat.one_le_two_pow
theorem every_eq (v : Nat) : ((1 : Int) * 2 ^ ((v : Int)).toNat) - 1 = ((2 ^ v - 1 : Nat) : Int) := by
  rw [shl1]
  have := two_pos v
  omega
/-! ## small defs of the law -/
def spEvery : SpD := fun ds S Q _ => ∃ v : Nat, ds = [nI v] ∧ v ≤ 64 ∧ Q (nI (2 ^ v - 1)) S
theorem len__law_every : ∀ (ds : List D) (S : Stt) (Q : QE) (E : Str → Stt → Prop), spEvery ds S Q E → ds.length = 1 := by intro ds S Q E h; delta spEvery at h; (repeat obtain ⟨_, h⟩ := h); subst_vars; rfl
theorem ok__law_every (C : Ct) (T : Txt C) : Fn C CX0 (0 + 1) "_law_every" ["_law_v"] [] spEvery := by
  obtain ⟨fd, F⟩ := T.def_ 38 (d := d__law_every)
  refine Fn.of F (T.glo "_law_every") (fun _ _ _ _ _ _ us hl => match us, hl with | [_], _ => rfl) (fnD F sc__law_every len__law_every (by decide) fun cdv A outer s H E hr => ⟨_,
    (dss_one (ds_ret (de_op op_sub opd_I (de_op op_shl opd_IC de_int (dv 0)) de_int))), fun ds S QD ED h => ?_⟩)
  obtain ⟨v, rfl, hv, q⟩ := h
  refine ⟨⟨by omega, by omega, by decide⟩, ?_⟩
  show QD (.int ((1 : Int) * 2 ^ ((v : Int)).toNat - 1)) S
  rw [every_eq]
  exact q
def spWithin : SpD := fun ds S Q _ => ∃ a b : Nat, ds = [nI a, nI b] ∧ Q (.bl (decide (a &&& b = a))) S
theorem within_eq (a b : Nat) : decide (Builtin.bitAnd (a : Int) (b : Int) = (a : Int)) = decide (a &&& b = a) := by
  rw [and_nat]
  by_cases h : a &&& b = a
  · rw [decide_eq_true h, decide_eq_true (by rw [h])]
  · rw [decide_eq_false h, decide_eq_false (fun z => h (by exact_mod_cast z))]
theorem len__law_within : ∀ (ds : List D) (S : Stt) (Q : QE) (E : Str → Stt → Prop), spWithin ds S Q E → ds.length = 2 := by intro ds S Q E h; delta spWithin at h; (repeat obtain ⟨_, h⟩ := h); subst_vars; rfl
theorem ok__law_within (C : Ct) (T : Txt C) : Fn C CX0 (0 + 1) "_law_within" ["_law_one", "_law_other"] [] spWithin := by
  obtain ⟨fd, F⟩ := T.def_ 39 (d := d__law_within)
  refine Fn.of F (T.glo "_law_within") (fun _ _ _ _ _ _ us hl => match us, hl with | [_, _], _ => rfl) (fnD F sc__law_within len__law_within (by decide) fun cdv A outer s H E hr => ⟨_,
    (dss_one (ds_ret (de_cmp op_eq opd_eq (de_op op_and opd_I (dv 0) (dv 1)) (dv 0) (nomark _)))), fun ds S QD ED h => ?_⟩)
  obtain ⟨a, b, rfl, q⟩ := h
  show QD (.bl (decide (Builtin.bitAnd (a : Int) (b : Int) = (a : Int)))) S
  rw [within_eq]
  exact q
/-! ### rounded -/
def rndFrom : List Nat → Nat → Nat → Nat
  | [], _, acc => acc
  | m :: r, lot, acc => rndFrom r lot (if lot &&& m = lot then acc &&& m else acc)
def lastN (ms : List Nat) : Nat := (ms[ms.length - 1]?).getD 0
def rnd (ms : List Nat) (lot : Nat) : Nat := rndFrom ms lot (lastN ms)
theorem last_ix {ms : List Nat} (h : ms ≠ []) : ixD (ms.map nI) (-1) = some (nI (lastN ms)) := by
  have hl : 0 < ms.length := List.length_pos_iff.mpr h
  show (if 0 < (ms.map nI).length then nth (ms.map nI) ((ms.map nI).length - 1 - 0) else none) = _
  rw [List.length_map, if_pos hl, nth_eq, Nat.sub_zero, List.getElem?_map]
  unfold lastN
  rw [List.getElem?_eq_getElem (by omega)]
  rfl
def spRounded : SpD := fun ds S Q _ => ∃ (ms : List Nat) (lot : Nat), ds = [.lst (ms.map nI), nI lot] ∧ ms ≠ [] ∧ Q (nI (rnd ms lot)) S
theorem len__law_rounded : ∀ (ds : List D) (S : Stt) (Q : QE) (E : Str → Stt → Prop), spRounded ds S Q E → ds.length = 2 := by intro ds S Q E h; delta spRounded at h; (repeat obtain ⟨_, h⟩ := h); subst_vars; rfl
theorem ok__law_rounded (C : Ct) (T : Txt C) : Fn C CX0 (0 + 1) "_law_rounded" ["_law_members_here", "_law_lot_here"] [] spRounded := by
  obtain ⟨fd, F⟩ := T.def_ 42 (d := d__law_rounded)
  refine Fn.of F (T.glo "_law_rounded") (fun _ _ _ _ _ _ us hl => match us, hl with | [_, _], _ => rfl) (fnD F sc__law_rounded len__law_rounded (by decide) fun cdv A outer s H E hr => ⟨_,
    (dss_cons (ds_set (i := 2) sc__law_rounded.nd rfl (by first | exact Or.inl rfl | exact Or.inr rfl) (de_ix ix_seq opd_ix (dv 0) (de_un un_neg und_neg de_int) (fun _ _ => rfl)))
      (dss_cons (ds_for PassesOwn.never rfl (di_seq (dv 0)) (dg_name (i := 3) sc__law_rounded.nd rfl (by first | exact Or.inl rfl | exact Or.inr rfl)) (dss_one (ds_if (dt_cmp op_eq opd_eq (de_op op_and opd_I (dv 1) (dv 3)) (dv 1) (nomark _)) (dss_one (ds_set (i := 2) sc__law_rounded.nd rfl (by first | exact Or.inl rfl | exact Or.inr rfl) (de_op op_and opd_I (dv 2) (dv 3)))) dss_nil)))
      (dss_one (ds_ret (dv 2))))), fun ds S QD ED h => ?_⟩)
  obtain ⟨ms, lot, rfl, hne, q⟩ := h
  refine rdIx_of (S := S) (x := .lst (ms.map nI)) (i := -1) rfl (last_ix hne) ?_
  refine ⟨fun r ρ S' => ∃ rs acc o3, r = List.map nI rs ∧ ρ = [some (.lst (ms.map nI)), some (nI lot), some (nI acc), o3] ∧ S' = S ∧ rndFrom rs lot acc = rnd ms lot,
    ⟨ms, lastN ms, none, rfl, rfl, rfl, rfl⟩, ?_, ?_⟩
  · rintro x r ρ S' ⟨rs, acc, o3, e, rfl, rfl, en⟩
    cases rs with
    | nil => cases e
    | cons y ys =>
      cases e
      have en : rndFrom ys lot (if lot &&& y = lot then acc &&& y else acc) = rnd ms lot := en
      refine ite2 (fun h => ?_) (fun h => ?_)
      · rw [within_eq, decide_eq_true_iff] at h
        rw [if_pos h] at en
        exact ⟨ys, acc &&& y, some (nI y), rfl, and_nat acc y ▸ rfl, rfl, en⟩
      · rw [within_eq, decide_eq_true_iff] at h
        rw [if_neg h] at en
        exact ⟨ys, acc, some (nI y), rfl, rfl, rfl, en⟩
  · rintro ρ S' ⟨rs, acc, o3, e, rfl, rfl, en⟩
    cases rs with
    | nil =>
      have en : acc = rnd ms lot := en
      show QD (nI acc) S'
      rw [en]
      exact q
    | cons y ys => cases e
/-! ### drawing -/
def spMixed : SpD := fun ds S Q _ => ∃ a t : Int, ds = [.int a, .int t] ∧ ∀ m : Int, Q (.int m) S
theorem len__law_mixed : ∀ (ds : List D) (S : Stt) (Q : QE) (E : Str → Stt → Prop), spMixed ds S Q E → ds.length = 2 := by intro ds S Q E h; delta spMixed at h; (repeat obtain ⟨_, h⟩ := h); subst_vars; rfl
theorem ok__law_mixed (C : Ct) (T : Txt C) : Fn C CX0 (0 + 1) "_law_mixed" ["_law_number", "_law_turn"] [] spMixed := by
  obtain ⟨fd, F⟩ := T.def_ 35 (d := d__law_mixed)
  refine Fn.of F (T.glo "_law_mixed") (fun _ _ _ _ _ _ us hl => match us, hl with | [_, _], _ => rfl) (fnD F sc__law_mixed len__law_mixed (by decide) fun cdv A outer s H E hr => ⟨_,
    (dss_cons (ds_set (i := 2) sc__law_mixed.nd rfl (by first | exact Or.inl rfl | exact Or.inr rfl) (de_op op_mod opd_IC (de_cty call_int1 calld_int (by rfl) (T.free "int") (by decide +kernel) (da_cons (de_op op_add opd_I (de_op op_add opd_I (de_op op_mul opd_IC (dv 0) de_int) (de_op op_mul opd_IC (dv 1) de_int)) de_int) da_nil)) de_int))
      (dss_cons (ds_set (i := 3) sc__law_mixed.nd rfl (by first | exact Or.inl rfl | exact Or.inr rfl) (de_op op_mod opd_IC (de_cty call_int1 calld_int (by rfl) (T.free "int") (by decide +kernel) (da_cons (de_op op_add opd_I (de_op op_add opd_I (de_op op_mul opd_IC (dv 2) (dv 2)) (de_op op_mul opd_IC (dv 1) de_int)) (de_op op_fdiv opd_IC (dv 2) de_int)) da_nil)) de_int))
      (dss_one (ds_ret (de_op op_fdiv opd_IC (de_cty call_int1 calld_int (by rfl) (T.free "int") (by decide +kernel) (da_cons (de_op op_mod opd_IC (de_cty call_int1 calld_int (by rfl) (T.free "int") (by decide +kernel) (da_cons (de_op op_add opd_I (de_op op_mul opd_IC (dv 3) de_int) (de_op op_fdiv opd_IC (dv 2) de_int)) da_nil)) de_int) da_nil)) de_int))))), fun ds S QD ED h => ?_⟩)
  obtain ⟨a, t, rfl, q⟩ := h
  have hb : ∀ x y : Int, 0 < y → y < 2 ^ 64 → -(2 ^ 64) < x % y ∧ x % y < 2 ^ 64 := fun x y h1 h2 => ⟨by have := Int.emod_nonneg x (by omega : y ≠ 0); omega, by have := Int.emod_lt_of_pos x h1; omega⟩
  refine ⟨.inr (by decide), .inr (by decide), (by decide : (0 : Int) < 2147483399), ?_⟩
  refine ⟨.inl (hb _ _ (by decide) (by decide)), .inr (by decide), cdiv_of, (by decide : (0 : Int) < 2147483629), ?_⟩
  exact ⟨.inr (by decide), cdiv_of, (by decide : (0 : Int) < 2147483587), cdiv_of, q _⟩
def spTake0 : SpD := fun ds S Q _ => ∃ (many : Int) (hd : List D) (ns : List Int) (S2 : Stt), ds = [.hdl 0, .int many] ∧ 0 < many ∧ many < 1073741824 ∧ S = .lst hd :: S2 ∧ HandP hd ns ∧
  ∀ (r : Int) (hd' : List D), 0 ≤ r → r < many → HandP hd' ns → Q (.int r) (.lst hd' :: S2)
theorem len__law_take : ∀ (ds : List D) (S : Stt) (Q : QE) (E : Str → Stt → Prop), spTake0 ds S Q E → ds.length = 2 := by intro ds S Q E h; delta spTake0 at h; (repeat obtain ⟨_, h⟩ := h); subst_vars; rfl
theorem take0 (C : Ct) (T : Txt C) : Fn C CX0 (1 + 1) "_law_take" ["_law_hand_here", "_law_many"] [] spTake0 := by
  obtain ⟨fd, F⟩ := T.def_ 36 (d := d__law_take)
  have F__law_mixed := (ok__law_mixed C T).mono (show 1 ≤ 1 by omega)
  refine Fn.of F (T.glo "_law_take") (fun _ _ _ _ _ _ us hl => match us, hl with | [_, _], _ => rfl) (fnD F sc__law_take len__law_take (by decide) fun cdv A outer s H E hr => ⟨_,
    (dss_cons (ds_if (dt_bop (dw_and (dt_cmp op_eq opd_eq (de_ix ix_seq opd_ix (dv 0) de_int (fun _ _ => rfl)) de_int (nomark _)) (dw_and1 (dt_cmp op_lt opd_B (de_ix ix_seq opd_ix (dv 0) de_int (fun _ _ => rfl)) (de_cb call_len calld_len (by rfl) (T.free "len") (by decide +kernel) (da_cons (de_ix ix_seq opd_ix (dv 0) de_int (fun _ _ => rfl)) da_nil)) (nomark _))))) (dss_cons (ds_set (i := 2) sc__law_take.nd rfl (by first | exact Or.inl rfl | exact Or.inr rfl) (de_ix ix_seq opd_ix (de_ix ix_seq opd_ix (dv 0) de_int (fun _ _ => rfl)) (de_ix ix_seq opd_ix (dv 0) de_int (fun _ _ => rfl)) (fun _ _ => rfl)))
      (dss_cons (ds_asg (de_op op_add opd_I (de_ix ix_seq opd_ix (dv 0) de_int (fun _ _ => rfl)) de_int) (dg_setL (dv 0) de_int))
      (dss_cons (ds_if (dt_cmp op_lt opd_B (dv 2) (de_op op_pow opd_IC de_int de_int) (nomark _)) (dss_one (ds_ret (de_op op_mod opd_IC (de_cty call_int1 calld_int (by rfl) (T.free "int") (by decide +kernel) (da_cons (de_call F__law_mixed hr (by rfl) pass0 (da_cons (de_op op_mod opd_IC (de_cty call_int1 calld_int (by rfl) (T.free "int") (by decide +kernel) (da_cons (dv 2) da_nil)) de_int) (da_cons (de_ix ix_seq opd_ix (dv 0) de_int (fun _ _ => rfl)) da_nil))) da_nil)) (dv 1)))) dss_nil)
      (dss_one (ds_asg (dv 2) (dg_setL (dv 0) de_int)))))) dss_nil)
      (dss_cons (ds_if (dt_cmp op_gt opd_B (de_ix ix_seq opd_ix (dv 0) de_int (fun _ _ => rfl)) de_int (nomark _)) (dss_cons (ds_set (i := 3) sc__law_take.nd rfl (by first | exact Or.inl rfl | exact Or.inr rfl) (de_ix ix_seq opd_ix (dv 0) de_int (fun _ _ => rfl)))
      (dss_cons (ds_asg (de_op op_fdiv opd_IC (de_cty call_int1 calld_int (by rfl) (T.free "int") (by decide +kernel) (da_cons (dv 3) da_nil)) (dv 1)) (dg_setL (dv 0) de_int))
      (dss_one (ds_ret (de_op op_mod opd_IC (de_cty call_int1 calld_int (by rfl) (T.free "int") (by decide +kernel) (da_cons (dv 3) da_nil)) (dv 1)))))) dss_nil)
      (dss_cons (ds_asg (de_op op_mod opd_IC (de_cty call_int1 calld_int (by rfl) (T.free "int") (by decide +kernel) (da_cons (de_op op_add opd_I (de_ix ix_seq opd_ix (dv 0) de_int (fun _ _ => rfl)) de_int) da_nil)) de_int) (dg_setL (dv 0) de_int))
      (dss_one (ds_ret (de_op op_mod opd_IC (de_cty call_int1 calld_int (by rfl) (T.free "int") (by decide +kernel) (da_cons (de_call F__law_mixed hr (by rfl) pass0 (da_cons (de_ix ix_seq opd_ix (dv 0) de_int (fun _ _ => rfl)) (da_cons (de_ix ix_seq opd_ix (dv 0) de_int (fun _ _ => rfl)) da_nil))) da_nil)) (dv 1))))))), fun ds S QD ED h => ?_⟩)
  obtain ⟨many, hd, ns, S2, rfl, hm, hm2, rfl, hp, q⟩ := h
  obtain ⟨⟨i, r, t, rfl, hi, hr0, ht, ht2⟩, hn⟩ := hp
  have fin : ∀ (m : Int) (i r t : Int), 0 ≤ i → 0 ≤ r → 0 ≤ t → t < 2147483549 → QD (.int (m % many)) (.lst [.lst (ns.map D.int), .int i, .int r, .int t] :: S2) := fun m i r t h1 h2 h3 h4 =>
    q _ _ (Int.emod_nonneg _ (by omega)) (Int.emod_lt_of_pos _ hm) ⟨⟨i, r, t, rfl, h1, h2, h3, h4⟩, hn⟩
  obtain ⟨k, rfl⟩ := Int.eq_ofNat_of_zero_le hi
  have tail2 : ∀ r : Int, 0 ≤ r → 0 ≤ r / many := fun r h => Int.ediv_nonneg h (by omega)
  have tmod : ∀ t : Int, 0 ≤ t % 2147483549 ∧ t % 2147483549 < 2147483549 := fun t => ⟨Int.emod_nonneg _ (by decide), Int.emod_lt_of_pos _ (by decide)⟩
  refine ite2 (fun h1 => ?_) (fun h1 => ?_)
  · refine ite2 (fun h2 => ?_) (fun h2 => ?_)
    · have h2 : (k : Int) < (((ns.map D.int).length : Nat) : Int) := of_decide_eq_true h2
      have hk : k < ns.length := by rw [List.length_map] at h2; omega
      refine rdIx_of (S := .lst [.lst (ns.map D.int), .int (k : Int), .int r, .int t] :: S2) (x := .lst (ns.map D.int)) (i := (k : Int)) (d := .int ns[k]) rfl (by rw [ixD_nat, List.getElem?_map, List.getElem?_eq_getElem hk]; rfl) ?_
      have h0 := hn _ (List.getElem_mem hk)
      refine ⟨0, 1, _, rfl, rfl, rfl, by show 1 < 4; decide, ⟨by decide, by decide, by decide⟩, ite2 (fun h3 => ?_) (fun h3 => ?_)⟩
      · exact ⟨(by decide : (0 : Int) < 2147483399), _, _, rfl, fun m => ⟨hm, fin m _ _ _ (by omega) hr0 ht ht2⟩⟩
      · refine ⟨0, 2, _, rfl, rfl, rfl, by show 2 < 4; decide, ?_⟩
        refine ite2 (fun h4 => ?_) (fun h4 => ?_)
        · exact ⟨⟨hm, hm2⟩, 0, 2, _, rfl, rfl, rfl, by show 2 < 4; decide, hm, fin _ _ _ _ (by omega) (tail2 _ h0) ht ht2⟩
        · exact ⟨(by decide : (0 : Int) < 2147483549), 0, 3, _, rfl, rfl, rfl, by show 3 < 4; decide, _, _, rfl, fun m => ⟨hm, fin m _ _ _ (by omega) h0 (tmod _).1 (tmod _).2⟩⟩
    · refine ite2 (fun h4 => ?_) (fun h4 => ?_)
      · exact ⟨⟨hm, hm2⟩, 0, 2, _, rfl, rfl, rfl, by show 2 < 4; decide, hm, fin _ _ _ _ (by omega) (tail2 _ hr0) ht ht2⟩
      · exact ⟨(by decide : (0 : Int) < 2147483549), 0, 3, _, rfl, rfl, rfl, by show 3 < 4; decide, _, _, rfl, fun m => ⟨hm, fin m _ _ _ (by omega) hr0 (tmod _).1 (tmod _).2⟩⟩
  · refine ite2 (fun h => absurd h Bool.false_ne_true) fun _ => ?_
    refine ite2 (fun h4 => ?_) (fun h4 => ?_)
    · exact ⟨⟨hm, hm2⟩, 0, 2, _, rfl, rfl, rfl, by show 2 < 4; decide, hm, fin _ _ _ _ (by omega) (tail2 _ hr0) ht ht2⟩
    · exact ⟨(by decide : (0 : Int) < 2147483549), 0, 3, _, rfl, rfl, rfl, by show 3 < 4; decide, _, _, rfl, fun m => ⟨hm, fin m _ _ _ (by omega) hr0 (tmod _).1 (tmod _).2⟩⟩
def spTake : SpD := fun ds S Q _ => ∃ (many : Nat) (S2 : Stt), ds = [.hdl 0, nI many] ∧ 0 < many ∧ many < 1073741824 ∧ S = .hand :: S2 ∧ ∀ r : Nat, r < many → Q (nI r) (.hand :: S2)
theorem ok__law_take (C : Ct) (T : Txt C) : Fn C CX0 2 "_law_take" ["_law_hand_here", "_law_many"] [] spTake := (take0 C T).hand fun ds S Q E ⟨many, S2, e1, h1, h2, e2, q⟩ => by
  subst e1 e2
  refine ⟨0, rfl, fun hd ns hp => ⟨(many : Int), hd, ns, S2, rfl, by omega, by omega, rfl, hp, fun r hd' h3 h4 hp' => ⟨hd', ns, rfl, hp', ?_⟩⟩⟩
  obtain ⟨k, rfl⟩ := Int.eq_ofNat_of_zero_le h3
  exact q k (by omega)
end TA
set_option Elab.async false
set_option linter.all false
set_option maxRecDepth 100000
set_option maxHeartbeats 4000000
namespace TA
open PySem PySem.Spec L2
open PyProof.Rows hiding St
theorem iteF {p q : Prop} (h : q) : (if (false = true) then p else q) := by rw [if_neg Bool.false_ne_true]; exact h
theorem iteT {p q : Prop} (h : p) : (if (true = true) then p else q) := by rw [if_pos rfl]; exact h
theorem nat_lt {a b : Nat} : decide ((a : Int) < (b : Int)) = decide (a < b) := by
  by_cases h : a < b
  · rw [decide_eq_true h, decide_eq_true (by omega)]
  · rw [decide_eq_false h, decide_eq_false (by omega)]
theorem p2_bound {v : Nat} (h : v ≤ 6) : 2 ^ v ≤ 64 := by
  have : v = 0 ∨ v = 1 ∨ v = 2 ∨ v = 3 ∨ v = 4 ∨ v = 5 ∨ v = 6 := by omega
  rcases this with h | h | h | h | h | h | h <;> subst h <;> decide
def spStands : SpD := fun ds S Q _ => ∃ S2 : Stt, ds = [.hdl 0] ∧ S = .hand :: S2 ∧ ∀ v : Nat, 1 ≤ v → v ≤ 6 → Q (nI v) (.hand :: S2)
theorem len__law_stands : ∀ (ds : List D) (S : Stt) (Q : QE) (E : Str → Stt → Prop), spStands ds S Q E → ds.length = 1 := by intro ds S Q E h; delta spStands at h; (repeat obtain ⟨_, h⟩ := h); subst_vars; rfl
theorem ok__law_stands (C : Ct) (T : Txt C) : Fn C CX0 (2 + 1) "_law_stands" ["_law_hand_here"] [] spStands := by
  obtain ⟨fd, F⟩ := T.def_ 37 (d := d__law_stands)
  have F__law_take := (ok__law_take C T).mono (show 2 ≤ 2 by omega)
  refine Fn.of F (T.glo "_law_stands") (fun _ _ _ _ _ _ us hl => match us, hl with | [_], _ => rfl) (fnD F sc__law_stands len__law_stands (by decide) fun cdv A outer s H E hr => ⟨_,
    (dss_one (ds_ret (de_ix ix_seq opd_ix (de_tup (da_cons de_int (da_cons de_int (da_cons de_int (da_cons de_int (da_cons de_int (da_cons de_int (da_cons de_int (da_cons de_int (da_cons de_int (da_cons de_int (da_cons de_int (da_cons de_int (da_cons de_int (da_cons de_int (da_cons de_int (da_cons de_int da_nil))))))))))))))))) (de_call F__law_take hr (by rfl) pass0 (da_cons (dv 0) (da_cons de_int da_nil))) (fun _ _ => rfl)))), fun ds S QD ED h => ?_⟩)
  obtain ⟨S2, rfl, rfl, q⟩ := h
  refine ⟨by decide, 16, S2, rfl, by decide, by decide, rfl, fun r hr => ?_⟩
  have all : ∀ v ∈ [3, 4, 3, 4, 3, 4, 3, 4, 2, 2, 5, 5, 6, 6, 3, 1], 1 ≤ v ∧ v ≤ 6 := by decide
  have hl : r < [3, 4, 3, 4, 3, 4, 3, 4, 2, 2, 5, 5, 6, 6, 3, 1].length := hr
  have h2 := all _ (List.getElem_mem hl)
  refine rdIx_of (S := .hand :: S2) (x := .tup ([3, 4, 3, 4, 3, 4, 3, 4, 2, 2, 5, 5, 6, 6, 3, 1].map nI)) (i := (r : Int)) (d := nI ([3, 4, 3, 4, 3, 4, 3, 4, 2, 2, 5, 5, 6, 6, 3, 1][r])) rfl (by rw [ixD_nat, List.getElem?_map, List.getElem?_eq_getElem hl]; rfl) ?_
  exact q _ h2.1 h2.2
def spStart : SpD := fun ds S Q _ => ∃ (v : Nat) (S2 : Stt), ds = [.hdl 0, nI v] ∧ S = .hand :: S2 ∧ 1 ≤ v ∧ v ≤ 6 ∧ ∀ l : Nat, l < 2 ^ v → Q (nI l) (.hand :: S2)
theorem shl_q {v : Nat} {S : Stt} {Q : QE} (q : Q (nI (2 ^ v)) S) : Q (.int ((1 : Int) * 2 ^ ((v : Int)).toNat)) S := by rw [shl1]; exact q
theorem args_shl (v : Nat) : [D.hdl 0, .int ((1 : Int) * 2 ^ ((v : Int)).toNat)] = [.hdl 0, nI (2 ^ v)] := by rw [shl1]
theorem snoc_nI (row : List Nat) (b : Nat) : row.map nI ++ [nI b] = (row ++ [b]).map nI := by rw [List.map_append]; rfl
theorem snoc_shl (row : List Nat) (b : Nat) : row.map nI ++ [.int ((1 : Int) * 2 ^ ((b : Int)).toNat)] = (row ++ [2 ^ b]).map nI := by rw [shl1, snoc_nI]
theorem rng_next (k v : Nat) : (List.range' (k + 1) (v - (k + 1))).map nI = (List.range' (k + 1) (v - k - 1)).map nI := by rw [Nat.sub_sub]
theorem cpow1 {v : Nat} (h : v ≤ 64) : CPow 1 (v : Int) := ⟨by omega, by omega, by decide⟩
theorem pow_lt_pow' {a b : Nat} (h : a < b) : 2 ^ a < 2 ^ b := Nat.pow_lt_pow_right (by decide) h
theorem len__law_start : ∀ (ds : List D) (S : Stt) (Q : QE) (E : Str → Stt → Prop), spStart ds S Q E → ds.length = 2 := by intro ds S Q E h; delta spStart at h; (repeat obtain ⟨_, h⟩ := h); subst_vars; rfl
theorem ok__law_start (C : Ct) (T : Txt C) : Fn C CX0 (2 + 1) "_law_start" ["_law_hand_here", "_law_v"] [] spStart := by
  obtain ⟨fd, F⟩ := T.def_ 57 (d := d__law_start)
  have F__law_take := (ok__law_take C T).mono (show 2 ≤ 2 by omega)
  refine Fn.of F (T.glo "_law_start") (fun _ _ _ _ _ _ us hl => match us, hl with | [_, _], _ => rfl) (fnD F sc__law_start len__law_start (by decide) fun cdv A outer s H E hr => ⟨_,
    (dss_cons (ds_if (dt_truth trud (de_call F__law_take hr (by rfl) pass0 (da_cons (dv 0) (da_cons de_int da_nil)))) (dss_one (ds_ret (de_op op_shl opd_IC de_int (de_call F__law_take hr (by rfl) pass0 (da_cons (dv 0) (da_cons (dv 1) da_nil)))))) dss_nil)
      (dss_one (ds_ret (de_call F__law_take hr (by rfl) pass0 (da_cons (dv 0) (da_cons (de_op op_shl opd_IC de_int (dv 1)) da_nil)))))), fun ds S QD ED h => ?_⟩)
  obtain ⟨v, S2, rfl, rfl, hv, hv6, q⟩ := h
  have hb := p2_bound hv6
  refine ⟨2, S2, rfl, by decide, by decide, rfl, fun r hr => ite2 (fun h => ?_) (fun h => ?_)⟩
  · refine ⟨v, S2, rfl, by omega, by omega, rfl, fun r hr => ⟨cpow1 (by omega), ?_⟩⟩
    exact shl_q (Q := QD) (q _ (pow_lt_pow' hr))
  · refine ⟨cpow1 (by omega), 2 ^ v, S2, args_shl v, two_pos v, by omega, rfl, fun r hr => ?_⟩
    exact q _ hr
def RowOk (v : Nat) (row : List Nat) : Prop := row.length = v ∧ ∀ x ∈ row, x < 2 ^ v
theorem RowOk.snoc {n v : Nat} {row : List Nat} {x : Nat} (h : row.length = n ∧ ∀ x ∈ row, x < 2 ^ v) (hx : x < 2 ^ v) : (row ++ [x]).length = n + 1 ∧ ∀ y ∈ row ++ [x], y < 2 ^ v :=
  ⟨by rw [List.length_append, h.1]; rfl, fun y hy => (List.mem_append.mp hy).elim (h.2 y) fun z => by rw [List.mem_singleton] at z; rw [z]; exact hx⟩
theorem ints_cons {lo n : Nat} {x : D} {r : List D} (h : x :: r = (List.range' lo n).map nI) : ∃ n', n = n' + 1 ∧ x = nI lo ∧ r = (List.range' (lo + 1) n').map nI := by
  cases n with
  | zero => cases h
  | succ n' => cases h; exact ⟨n', rfl, rfl, rfl⟩
theorem ints0 (n : Nat) : intsFrom 0 (n : Int).toNat = (List.range' 0 n).map nI := by
  unfold intsFrom
  rw [Int.toNat_natCast, List.range_eq_range']
  apply List.map_congr_left
  intro k _
  show D.int (0 + (k : Int)) = _
  rw [Int.zero_add]
theorem intsA (a b : Nat) : intsFrom (a : Int) ((b : Int) - (a : Int)).toNat = (List.range' a (b - a)).map nI := by
  unfold intsFrom
  have e : ((b : Int) - (a : Int)).toNat = b - a := by omega
  rw [e, List.range'_eq_map_range, List.map_map]
  apply List.map_congr_left
  intro k _
  show D.int ((a : Int) + (k : Int)) = .int ((a + k : Nat) : Int)
  rw [Int.natCast_add]
/-- a comprehension without a test, each item's result told by R -/
inductive All2 (R : D → D → Prop) : List D → List D → Prop where
  | nil : All2 R [] []
  | cons {x y : D} {xs ys : List D} : R x y → All2 R xs ys → All2 R (x :: xs) (y :: ys)
theorem All2.snoc {R : D → D → Prop} : ∀ {xs ys : List D} {x y : D}, All2 R xs ys → R x y → All2 R (xs ++ [x]) (ys ++ [y])
  | _, _, _, _, .nil, h => .cons h .nil
  | _, _, _, _, .cons a b, h => .cons a (All2.snoc b h)
theorem lc_map {dg : DTG} {de : DTE} {vs : List Nat} {ρ : Rho} {S : Stt} {Q : List D → Stt → Prop} {items : List D} (R : D → D → Prop) (hl : items.length ≤ 100000)
    (turn : ∀ x ∈ items, ∀ K : D → Stt → Prop, (∀ y, R x y → K y S) → dg x (wipeD ρ vs) S fun ρ1 S1 => de ρ1 S1 K) (fin : ∀ ys, All2 R items ys → Q ys S) :
    items.length ≤ 100000 ∧ ∃ W : List D → List D → Stt → Prop, W items [] S ∧
      (∀ x r acc S, W (x :: r) acc S → dg x (wipeD ρ vs) S fun ρ1 S1 => dYes ρ1 S1 fun b S2 => if b = true then de ρ1 S2 fun y S3 => W r (acc ++ [y]) S3 else W r acc S2) ∧ ∀ acc S, W [] acc S → Q acc S := by
  refine ⟨hl, fun r acc S' => S' = S ∧ ∃ done, items = done ++ r ∧ All2 R done acc, ⟨rfl, [], rfl, .nil⟩, ?_, ?_⟩
  · rintro x r acc S' ⟨rfl, done, e, h⟩
    refine turn x (by rw [e]; simp) (fun y S3 => S3 = S' ∧ ∃ done, items = done ++ r ∧ All2 R done (acc ++ [y])) fun y hy => ⟨rfl, done ++ [x], by rw [e]; simp, h.snoc hy⟩
  · rintro acc S' ⟨rfl, done, e, h⟩
    rw [List.append_nil] at e
    subst e
    exact fin acc h
theorem all2_nI {R : D → D → Prop} {P : Nat → Prop} (h : ∀ x y, R x y → ∃ b, y = nI b ∧ P b) : ∀ {xs ys : List D}, All2 R xs ys → ∃ row : List Nat, ys = row.map nI ∧ row.length = xs.length ∧ ∀ x ∈ row, P x
  | _, _, .nil => ⟨[], rfl, rfl, by simp⟩
  | _, _, .cons a b => by
    obtain ⟨k, e, hk⟩ := h _ _ a
    obtain ⟨row, e2, e3, e4⟩ := all2_nI h b
    exact ⟨k :: row, by rw [e, e2]; rfl, by rw [List.length_cons, e3]; rfl, fun x hx => by
      rcases List.mem_cons.mp hx with z | z
      · rw [z]; exact hk
      · exact e4 x z⟩
theorem mem_rng {k n : Nat} {x : D} (h : x ∈ (List.range' 0 n).map nI) : ∃ j, j < n ∧ x = nI j := by
  obtain ⟨j, hj, e⟩ := List.mem_map.mp h
  rw [List.mem_range'] at hj
  obtain ⟨i, hi, e2⟩ := hj
  exact ⟨i, hi, by rw [← e, e2]; simp⟩
/-- a comprehension over range(v) that draws a row -/
theorem lc_draw {dg : DTG} {de : DTE} {vs : List Nat} {ρ : Rho} {S : Stt} {Q : List D → Stt → Prop} {n : Nat} (P : Nat → Prop) (hn : n ≤ 1000)
    (turn : ∀ j, j < n → ∀ K : D → Stt → Prop, (∀ b, P b → K (nI b) S) → dg (nI j) (wipeD ρ vs) S fun ρ1 S1 => de ρ1 S1 K) (fin : ∀ row : List Nat, row.length = n → (∀ x ∈ row, P x) → Q (row.map nI) S) :
    (n : Int) < 4611686018427387904 ∧ -4611686018427387904 ≤ (n : Int) ∧ (intsFrom 0 (n : Int).toNat).length ≤ 100000 ∧ ∃ W : List D → List D → Stt → Prop, W (intsFrom 0 (n : Int).toNat) [] S ∧
      (∀ x r acc S, W (x :: r) acc S → dg x (wipeD ρ vs) S fun ρ1 S1 => dYes ρ1 S1 fun b S2 => if b = true then de ρ1 S2 fun y S3 => W r (acc ++ [y]) S3 else W r acc S2) ∧ ∀ acc S, W [] acc S → Q acc S := by
  refine ⟨by omega, by omega, ?_⟩
  rw [ints0]
  refine lc_map (fun _ y => ∃ b, y = nI b ∧ P b) (by rw [List.length_map, List.length_range']; omega) (fun x hx K hK => ?_) fun ys h => ?_
  · obtain ⟨j, hj, e⟩ := mem_rng (k := 0) hx
    subst e
    exact turn j hj K fun b hb => hK _ ⟨b, rfl, hb⟩
  · obtain ⟨row, e1, e2, e3⟩ := all2_nI (fun x y h => h) h
    subst e1
    refine fin row ?_ e3
    rw [e2, List.length_map, List.length_range']
def spSingle : SpD := fun ds S Q _ => ∃ (v : Nat) (S2 : Stt), ds = [.hdl 0, nI v] ∧ S = .hand :: S2 ∧ 1 ≤ v ∧ v ≤ 6 ∧ ∀ row : List Nat, RowOk v row → Q (.lst (row.map nI)) (.hand :: S2)
theorem len__law_single : ∀ (ds : List D) (S : Stt) (Q : QE) (E : Str → Stt → Prop), spSingle ds S Q E → ds.length = 2 := by intro ds S Q E h; delta spSingle at h; (repeat obtain ⟨_, h⟩ := h); subst_vars; rfl
theorem ok__law_single (C : Ct) (T : Txt C) : Fn C CX0 (2 + 1) "_law_single" ["_law_hand_here", "_law_v"] [] spSingle := by
  obtain ⟨fd, F⟩ := T.def_ 43 (d := d__law_single)
  have F__law_take := (ok__law_take C T).mono (show 2 ≤ 2 by omega)
  refine Fn.of F (T.glo "_law_single") (fun _ _ _ _ _ _ us hl => match us, hl with | [_, _], _ => rfl) (fnD F sc__law_single len__law_single (by decide) fun cdv A outer s H E hr => ⟨_,
    (dss_one (ds_ret (de_lc (own := [("_law_s", 2)]) (g := gName 2) (dg := gN 2) rfl sc__law_single.nd (di_rng1 (by rfl) (T.free "range") (da_cons (dv 1) da_nil)) (blkOk_by (N := ["_law_hand_here", "_law_v", "_law_s"]) (sc := defScope (topS 67)) (by decide +kernel)) (own_name (by decide)) (fun _ _ _ _ _ => pg_name (i := 2) sc__law_single.nd rfl (by first | exact Or.inl rfl | exact Or.inr rfl)) (fun _ _ _ _ _ => dts_nil) (fun _ _ _ _ _ => (de_op op_shl opd_IC de_int (de_call F__law_take hr (by rfl) pass0 (da_cons (dv 0) (da_cons (dv 1) da_nil)))))))), fun ds S QD ED h => ?_⟩)
  obtain ⟨v, S2, rfl, rfl, hv, hv6, q⟩ := h
  refine lc_draw (fun x => x < 2 ^ v) (by omega) (fun j hj K hK => ?_) fun row h1 h2 => q row ⟨h1, h2⟩
  exact ⟨v, S2, rfl, by omega, by omega, rfl, fun b hb => ⟨cpow1 (by omega), shl_q (Q := K) (hK _ (pow_lt_pow' hb))⟩⟩
theorem and_lt {a b n : Nat} (h : b < n) : a &&& b < n := Nat.lt_of_le_of_lt Nat.and_le_right h
theorem and_lt' {a b n : Nat} (h : a < n) : a &&& b < n := Nat.lt_of_le_of_lt Nat.and_le_left h
theorem len__law_drawn_row : ∀ (ds : List D) (S : Stt) (Q : QE) (E : Str → Stt → Prop), spSingle ds S Q E → ds.length = 2 := by intro ds S Q E h; delta spSingle at h; (repeat obtain ⟨_, h⟩ := h); subst_vars; rfl
theorem ok__law_drawn_row (C : Ct) (T : Txt C) : Fn C CX0 (3 + 1) "_law_drawn_row" ["_law_hand_here", "_law_v"] [] spSingle := by
  obtain ⟨fd, F⟩ := T.def_ 44 (d := d__law_drawn_row)
  have F__law_single := (ok__law_single C T).mono (show 3 ≤ 3 by omega)
  have F__law_take := (ok__law_take C T).mono (show 2 ≤ 3 by omega)
  refine Fn.of F (T.glo "_law_drawn_row") (fun _ _ _ _ _ _ us hl => match us, hl with | [_, _], _ => rfl) (fnD F sc__law_drawn_row len__law_drawn_row (by decide) fun cdv A outer s H E hr => ⟨_,
    (dss_cons (ds_set (i := 2) sc__law_drawn_row.nd rfl (by first | exact Or.inl rfl | exact Or.inr rfl) (de_call F__law_take hr (by rfl) pass0 (da_cons (dv 0) (da_cons de_int da_nil))))
      (dss_cons (ds_if (dt_cmp op_lt opd_B (dv 2) de_int (nomark _)) (dss_one (ds_ret (de_call F__law_single hr (by rfl) pass0 (da_cons (dv 0) (da_cons (dv 1) da_nil))))) dss_nil)
      (dss_cons (ds_if (dt_cmp op_eq opd_eq (dv 2) de_int (nomark _)) (dss_cons (ds_set (i := 3) sc__law_drawn_row.nd rfl (by first | exact Or.inl rfl | exact Or.inr rfl) (de_call F__law_take hr (by rfl) pass0 (da_cons (dv 0) (da_cons (de_op op_shl opd_IC de_int (dv 1)) da_nil))))
      (dss_one (ds_ret (de_lc (own := [("_law_s", 5)]) (g := gName 5) (dg := gN 5) rfl sc__law_drawn_row.nd (di_rng1 (by rfl) (T.free "range") (da_cons (dv 1) da_nil)) (blkOk_by (N := ["_law_hand_here", "_law_v", "_law_way", "_law_kept", "_law_one", "_law_s"]) (sc := defScope (topS 68)) (by decide +kernel)) (own_name (by decide)) (fun _ _ _ _ _ => pg_name (i := 5) sc__law_drawn_row.nd rfl (by first | exact Or.inl rfl | exact Or.inr rfl)) (fun _ _ _ _ _ => dts_nil) (fun _ _ _ _ _ => (de_op op_and opd_I (de_op op_shl opd_IC de_int (dv 5)) (dv 3))))))) dss_nil)
      (dss_cons (ds_if (dt_cmp op_eq opd_eq (dv 2) de_int (nomark _)) (dss_cons (ds_set (i := 4) sc__law_drawn_row.nd rfl (by first | exact Or.inl rfl | exact Or.inr rfl) (de_call F__law_take hr (by rfl) pass0 (da_cons (dv 0) (da_cons (dv 1) da_nil))))
      (dss_one (ds_ret (de_lc (own := [("_law_s", 5)]) (g := gName 5) (dg := gN 5) rfl sc__law_drawn_row.nd (di_rng1 (by rfl) (T.free "range") (da_cons (dv 1) da_nil)) (blkOk_by (N := ["_law_hand_here", "_law_v", "_law_way", "_law_kept", "_law_one", "_law_s"]) (sc := defScope (topS 68)) (by decide +kernel)) (own_name (by decide)) (fun _ _ _ _ _ => pg_name (i := 5) sc__law_drawn_row.nd rfl (by first | exact Or.inl rfl | exact Or.inr rfl)) (fun _ _ _ _ _ => dts_nil) (fun _ _ _ _ _ => (de_op op_shl opd_IC de_int (de_ifE (dt_cmp op_ne opd_ne (dv 5) (dv 4) (nomark _)) (dv 5) (de_call F__law_take hr (by rfl) pass0 (da_cons (dv 0) (da_cons (dv 1) da_nil)))))))))) dss_nil)
      (dss_cons (ds_if (dt_cmp op_eq opd_eq (dv 2) de_int (nomark _)) (dss_one (ds_ret (de_lc (own := [("_law_s", 5)]) (g := gName 5) (dg := gN 5) rfl sc__law_drawn_row.nd (di_rng1 (by rfl) (T.free "range") (da_cons (dv 1) da_nil)) (blkOk_by (N := ["_law_hand_here", "_law_v", "_law_way", "_law_kept", "_law_one", "_law_s"]) (sc := defScope (topS 68)) (by decide +kernel)) (own_name (by decide)) (fun _ _ _ _ _ => pg_name (i := 5) sc__law_drawn_row.nd rfl (by first | exact Or.inl rfl | exact Or.inr rfl)) (fun _ _ _ _ _ => dts_nil) (fun _ _ _ _ _ => (de_ifE (dt_truth trud (de_call F__law_take hr (by rfl) pass0 (da_cons (dv 0) (da_cons de_int da_nil)))) (de_op op_shl opd_IC de_int (de_call F__law_take hr (by rfl) pass0 (da_cons (dv 0) (da_cons (dv 1) da_nil)))) de_int))))) dss_nil)
      (dss_one (ds_ret (de_lc (own := [("_law_s", 5)]) (g := gName 5) (dg := gN 5) rfl sc__law_drawn_row.nd (di_rng1 (by rfl) (T.free "range") (da_cons (dv 1) da_nil)) (blkOk_by (N := ["_law_hand_here", "_law_v", "_law_way", "_law_kept", "_law_one", "_law_s"]) (sc := defScope (topS 68)) (by decide +kernel)) (own_name (by decide)) (fun _ _ _ _ _ => pg_name (i := 5) sc__law_drawn_row.nd rfl (by first | exact Or.inl rfl | exact Or.inr rfl)) (fun _ _ _ _ _ => dts_nil) (fun _ _ _ _ _ => (de_call F__law_take hr (by rfl) pass0 (da_cons (dv 0) (da_cons (de_op op_shl opd_IC de_int (dv 1)) da_nil)))))))))))), fun ds S QD ED h => ?_⟩)
  obtain ⟨v, S2, rfl, rfl, hv, hv6, q⟩ := h
  have hb := p2_bound hv6
  refine ⟨8, S2, rfl, by decide, by decide, rfl, fun way hw => ite2 (fun h => ?_) (fun h => ?_)⟩
  · exact ⟨v, S2, rfl, rfl, hv, hv6, q⟩
  refine ite2 (fun h => ?_) (fun h => ?_)
  · refine ⟨cpow1 (by omega), 2 ^ v, S2, args_shl v, two_pos v, by omega, rfl, fun kept hk => ?_⟩
    refine lc_draw (fun x => x < 2 ^ v) (by omega) (fun j hj K hK => ⟨cpow1 (by omega), ?_⟩) fun row h1 h2 => q row ⟨h1, h2⟩
    show K (.int (Builtin.bitAnd ((1 : Int) * 2 ^ ((j : Int)).toNat) (kept : Int))) _
    rw [shl1, and_nat]
    exact hK _ (and_lt hk)
  refine ite2 (fun h => ?_) (fun h => ?_)
  · refine ⟨v, S2, rfl, by omega, by omega, rfl, fun one ho => ?_⟩
    refine lc_draw (fun x => x < 2 ^ v) (by omega) (fun j hj K hK => ite2 (fun h => ?_) (fun h => ?_)) fun row h1 h2 => q row ⟨h1, h2⟩
    · exact ⟨cpow1 (by omega), shl_q (Q := K) (hK _ (pow_lt_pow' hj))⟩
    · exact ⟨v, S2, rfl, by omega, by omega, rfl, fun b hb => ⟨cpow1 (by omega), shl_q (Q := K) (hK _ (pow_lt_pow' hb))⟩⟩
  refine ite2 (fun h => ?_) (fun h => ?_)
  · refine lc_draw (fun x => x < 2 ^ v) (by omega) (fun j hj K hK => ⟨3, S2, rfl, by decide, by decide, rfl, fun r hr => ite2 (fun h => ?_) (fun h => ?_)⟩) fun row h1 h2 => q row ⟨h1, h2⟩
    · exact ⟨v, S2, rfl, by omega, by omega, rfl, fun b hb => ⟨cpow1 (by omega), shl_q (Q := K) (hK _ (pow_lt_pow' hb))⟩⟩
    · exact hK 0 (two_pos v)
  · refine lc_draw (fun x => x < 2 ^ v) (by omega) (fun j hj K hK => ⟨cpow1 (by omega), 2 ^ v, S2, args_shl v, two_pos v, by omega, rfl, fun b hb => hK b hb⟩) fun row h1 h2 => q row ⟨h1, h2⟩
end TA
set_option Elab.async false
set_option linter.all false
set_option maxRecDepth 100000
set_option maxHeartbeats 4000000
namespace TA
open PySem PySem.Spec L2
open PyProof.Rows hiding St
/-! ## more small defs -/
theorem pos_of {a b : Nat} (h : a < b) : 0 < b := by omega
theorem or_lt2 {a b v : Nat} (h : a < 2 ^ v) (k : b < 2 ^ v) : a ||| b < 2 ^ v := Nat.or_lt_two_pow h k
theorem seq_h {S : Stt} {n : Nat} {ds : List D} (h : S[n]? = some (.lst ds)) : seqD S (.hdl n) = some ds := lstAt_of h
theorem ix_nI {row : List Nat} {k : Nat} (h : k < row.length) : ixD (row.map nI) (k : Int) = some (nI row[k]) := by rw [ixD_nat, List.getElem?_map, List.getElem?_eq_getElem h]; rfl
def spNextL : SpD := fun ds S Q _ => ∃ (row : List Nat) (lot : Nat), ds = [.lst (row.map nI), nI lot] ∧ row.length ≤ 1000 ∧ Q (nI (nextL row lot)) S
theorem nextFrom_drop (row : List Nat) (lot : Nat) (k : Nat) (acc : Nat) (h : k < row.length) : nextFrom k (row.drop k) lot acc = nextFrom (k + 1) (row.drop (k + 1)) lot (if lot.testBit k then acc ||| row[k] else acc) := by
  rw [List.drop_eq_getElem_cons h]
  rfl
theorem rng_cases {k n : Nat} {x : D} {r : List D} (hk : k ≤ n) (e : x :: r = (List.range' k (n - k)).map nI) : k < n ∧ x = nI k ∧ r = (List.range' (k + 1) (n - (k + 1))).map nI := by
  obtain ⟨n', e1, e2, e3⟩ := ints_cons e
  have : n' = n - (k + 1) := by omega
  subst this
  exact ⟨by omega, e2, e3⟩
theorem rng_end {k n : Nat} (hk : k ≤ n) (e : [] = (List.range' k (n - k)).map nI) : k = n := by
  cases h : n - k with
  | zero => omega
  | succ m => rw [h] at e; cases e
theorem len__law_next : ∀ (ds : List D) (S : Stt) (Q : QE) (E : Str → Stt → Prop), spNextL ds S Q E → ds.length = 2 := by intro ds S Q E h; delta spNextL at h; (repeat obtain ⟨_, h⟩ := h); subst_vars; rfl
theorem ok__law_next (C : Ct) (T : Txt C) : Fn C CX0 (0 + 1) "_law_next" ["_law_row", "_law_lot_here"] [] spNextL := by
  obtain ⟨fd, F⟩ := T.def_ 45 (d := d__law_next)
  refine Fn.of F (T.glo "_law_next") (fun _ _ _ _ _ _ us hl => match us, hl with | [_, _], _ => rfl) (fnD F sc__law_next len__law_next (by decide) fun cdv A outer s H E hr => ⟨_,
    (dss_cons (ds_set (i := 2) sc__law_next.nd rfl (by first | exact Or.inl rfl | exact Or.inr rfl) de_int)
      (dss_cons (ds_for PassesOwn.never rfl (di_rng1 (by rfl) (T.free "range") (da_cons (de_cb call_len calld_len (by rfl) (T.free "len") (by decide +kernel) (da_cons (dv 0) da_nil)) da_nil)) (dg_name (i := 3) sc__law_next.nd rfl (by first | exact Or.inl rfl | exact Or.inr rfl)) (dss_one (ds_if (dt_cmp op_eq opd_eq (de_op op_mod opd_IC (de_cty call_int1 calld_int (by rfl) (T.free "int") (by decide +kernel) (da_cons (de_op op_shr opd_IC (dv 1) (dv 3)) da_nil)) de_int) de_int (nomark _)) (dss_one (ds_set (i := 2) sc__law_next.nd rfl (by first | exact Or.inl rfl | exact Or.inr rfl) (de_op op_or opd_I (dv 2) (de_ix ix_seq opd_ix (dv 0) (dv 3) (fun _ _ => rfl))))) dss_nil)))
      (dss_one (ds_ret (dv 2))))), fun ds S QD ED h => ?_⟩)
  obtain ⟨row, lot, rfl, hl, q⟩ := h
  refine ⟨by rw [List.length_map]; omega, by omega, ?_⟩
  rw [ints0, List.length_map]
  refine ⟨fun r ρ S' => ∃ k acc o3, k ≤ row.length ∧ r = (List.range' k (row.length - k)).map nI ∧ ρ = [some (.lst (row.map nI)), some (nI lot), some (nI acc), o3] ∧ S' = S ∧ nextFrom k (row.drop k) lot acc = nextL row lot,
    ⟨0, 0, none, by omega, by simp, rfl, rfl, rfl⟩, ?_, ?_⟩
  · rintro x r ρ S' ⟨k, acc, o3, hk, e, rfl, rfl, en⟩
    obtain ⟨h1, rfl, rfl⟩ := rng_cases hk e
    rw [nextFrom_drop row lot k acc h1] at en
    refine ⟨Int.natCast_nonneg _, (by decide : (0 : Int) < 2), ite2 (fun h => ?_) (fun h => ?_)⟩
    · rw [show decide ((lot : Int) / 2 ^ ((k : Int)).toNat % 2 = 1) = lot.testBit k from by have := bit2 lot k; rwa [Int.zero_add] at this] at h
      rw [if_pos h] at en
      conv => whnf
      rw [ix_nI h1]
      exact ⟨k + 1, acc ||| row[k], some (nI k), h1, rfl, (by show [_, _, some (D.int (Builtin.bitOr (acc : Int) (row[k] : Int))), _] = _; rw [or_nat]), rfl, en⟩
    · rw [show decide ((lot : Int) / 2 ^ ((k : Int)).toNat % 2 = 1) = lot.testBit k from by have := bit2 lot k; rwa [Int.zero_add] at this] at h
      rw [if_neg h] at en
      exact ⟨k + 1, acc, some (nI k), h1, rfl, rfl, rfl, en⟩
  · rintro ρ S' ⟨k, acc, o3, hk, e, rfl, rfl, en⟩
    have := rng_end hk e
    subst this
    have en : nextFrom row.length (row.drop row.length) lot acc = nextL row lot := en
    rw [List.drop_length] at en
    have en : acc = nextL row lot := en
    show QD (nI acc) S'
    rw [en]
    exact q
def spBack : SpD := fun ds S Q _ => ∃ (row : List Nat) (lot : Nat), ds = [.lst (row.map nI), nI lot] ∧ row.length ≤ 64 ∧ ∀ b : Nat, b < 2 ^ row.length → Q (nI b) S
theorem len__law_back : ∀ (ds : List D) (S : Stt) (Q : QE) (E : Str → Stt → Prop), spBack ds S Q E → ds.length = 2 := by intro ds S Q E h; delta spBack at h; (repeat obtain ⟨_, h⟩ := h); subst_vars; rfl
theorem ok__law_back (C : Ct) (T : Txt C) : Fn C CX0 (0 + 1) "_law_back" ["_law_row", "_law_lot_here"] [] spBack := by
  obtain ⟨fd, F⟩ := T.def_ 46 (d := d__law_back)
  refine Fn.of F (T.glo "_law_back") (fun _ _ _ _ _ _ us hl => match us, hl with | [_, _], _ => rfl) (fnD F sc__law_back len__law_back (by decide) fun cdv A outer s H E hr => ⟨_,
    (dss_cons (ds_set (i := 2) sc__law_back.nd rfl (by first | exact Or.inl rfl | exact Or.inr rfl) de_int)
      (dss_cons (ds_for PassesOwn.never rfl (di_rng1 (by rfl) (T.free "range") (da_cons (de_cb call_len calld_len (by rfl) (T.free "len") (by decide +kernel) (da_cons (dv 0) da_nil)) da_nil)) (dg_name (i := 3) sc__law_back.nd rfl (by first | exact Or.inl rfl | exact Or.inr rfl)) (dss_one (ds_if (dt_cmp op_eq opd_eq (de_op op_and opd_I (de_ix ix_seq opd_ix (dv 0) (dv 3) (fun _ _ => rfl)) (dv 1)) (de_ix ix_seq opd_ix (dv 0) (dv 3) (fun _ _ => rfl)) (nomark _)) (dss_one (ds_set (i := 2) sc__law_back.nd rfl (by first | exact Or.inl rfl | exact Or.inr rfl) (de_op op_or opd_I (dv 2) (de_op op_shl opd_IC de_int (dv 3))))) dss_nil)))
      (dss_one (ds_ret (dv 2))))), fun ds S QD ED h => ?_⟩)
  obtain ⟨row, lot, rfl, hl, q⟩ := h
  refine ⟨by rw [List.length_map]; omega, by omega, ?_⟩
  rw [ints0, List.length_map]
  refine ⟨fun r ρ S' => ∃ k acc o3, k ≤ row.length ∧ r = (List.range' k (row.length - k)).map nI ∧ ρ = [some (.lst (row.map nI)), some (nI lot), some (nI acc), o3] ∧ S' = S ∧ acc < 2 ^ row.length,
    ⟨0, 0, none, by omega, by simp, rfl, rfl, two_pos _⟩, ?_, ?_⟩
  · rintro x r ρ S' ⟨k, acc, o3, hk, e, rfl, rfl, en⟩
    obtain ⟨h1, rfl, rfl⟩ := rng_cases hk e
    conv => whnf
    rw [ix_nI h1]
    conv => whnf
    rw [ix_nI h1]
    refine ite2 (fun h => ?_) (fun h => ?_)
    · refine ⟨cpow1 (by omega), ?_⟩
      refine ⟨k + 1, acc ||| 2 ^ k, some (nI k), h1, rfl, ?_, rfl, or_lt2 en (pow_lt_pow' h1)⟩
      show [_, _, some (D.int (Builtin.bitOr (acc : Int) ((1 : Int) * 2 ^ ((k : Int)).toNat))), _] = _
      rw [shl1, or_nat]
    · exact ⟨k + 1, acc, some (nI k), h1, rfl, rfl, rfl, en⟩
  · rintro ρ S' ⟨k, acc, o3, hk, e, rfl, rfl, en⟩
    exact q acc en
theorem nat_dec {a b : Nat} : decide ((a : Int) = (b : Int)) = decide (a = b) := by
  by_cases h : a = b
  · rw [decide_eq_true h, decide_eq_true (by rw [h])]
  · rw [decide_eq_false h, decide_eq_false (by omega)]
def sharpB (ms row : List Nat) (lot : Nat) : Bool := decide (rnd ms (nextL row lot) = rnd ms (nextL row (rnd ms lot)))
def spSharp : SpD := fun ds S Q _ => ∃ (ms row : List Nat) (lot : Nat), ds = [.lst (ms.map nI), .lst (row.map nI), nI lot] ∧ ms ≠ [] ∧ row.length ≤ 1000 ∧ Q (.bl (sharpB ms row lot)) S
theorem len__law_sharp : ∀ (ds : List D) (S : Stt) (Q : QE) (E : Str → Stt → Prop), spSharp ds S Q E → ds.length = 3 := by intro ds S Q E h; delta spSharp at h; (repeat obtain ⟨_, h⟩ := h); subst_vars; rfl
theorem ok__law_sharp (C : Ct) (T : Txt C) : Fn C CX0 (1 + 1) "_law_sharp" ["_law_members_here", "_law_row", "_law_lot_here"] [] spSharp := by
  obtain ⟨fd, F⟩ := T.def_ 54 (d := d__law_sharp)
  have F__law_next := (ok__law_next C T).mono (show 1 ≤ 1 by omega)
  have F__law_rounded := (ok__law_rounded C T).mono (show 1 ≤ 1 by omega)
  refine Fn.of F (T.glo "_law_sharp") (fun _ _ _ _ _ _ us hl => match us, hl with | [_, _, _], _ => rfl) (fnD F sc__law_sharp len__law_sharp (by decide) fun cdv A outer s H E hr => ⟨_,
    (dss_cons (ds_set (i := 3) sc__law_sharp.nd rfl (by first | exact Or.inl rfl | exact Or.inr rfl) (de_call F__law_next hr (by rfl) pass0 (da_cons (dv 1) (da_cons (de_call F__law_rounded hr (by rfl) pass0 (da_cons (dv 0) (da_cons (dv 2) da_nil))) da_nil))))
      (dss_one (ds_ret (de_cmp op_eq opd_eq (de_call F__law_rounded hr (by rfl) pass0 (da_cons (dv 0) (da_cons (de_call F__law_next hr (by rfl) pass0 (da_cons (dv 1) (da_cons (dv 2) da_nil))) da_nil))) (de_call F__law_rounded hr (by rfl) pass0 (da_cons (dv 0) (da_cons (dv 3) da_nil))) (nomark _))))), fun ds S QD ED h => ?_⟩)
  obtain ⟨ms, row, lot, rfl, hm, hl, q⟩ := h
  refine ⟨ms, lot, rfl, hm, row, _, rfl, hl, row, lot, rfl, hl, ms, _, rfl, hm, ms, _, rfl, hm, ?_⟩
  show QD (.bl (decide ((rnd ms (nextL row lot) : Int) = (rnd ms (nextL row (rnd ms lot)) : Int)))) S
  rw [nat_dec]
  exact q
theorem dec_t {p q : Prop} {i : Decidable p} {a : Prop} (h : p) (k : a) : (if decide p = true then a else q) := by rw [if_pos (decide_eq_true h)]; exact k
theorem dec_f {p q : Prop} {i : Decidable p} {a : Prop} (h : ¬ p) (k : q) : (if decide p = true then a else q) := by rw [if_neg (by simpa using h)]; exact k
/-! ### kinds of data -/
def isIn : D → Bool
  | .int _ => true
  | _ => false
def spInt : SpD := fun ds S Q _ => ∃ d, ds = [d] ∧ hasT d ∧ Q (.bl (isIn d)) S
theorem len__law_int : ∀ (ds : List D) (S : Stt) (Q : QE) (E : Str → Stt → Prop), spInt ds S Q E → ds.length = 1 := by intro ds S Q E h; delta spInt at h; (repeat obtain ⟨_, h⟩ := h); subst_vars; rfl
theorem ok__law_int (C : Ct) (T : Txt C) : Fn C CX0 (0 + 1) "_law_int" ["_law_thing"] [] spInt := by
  obtain ⟨fd, F⟩ := T.def_ 52 (d := d__law_int)
  refine Fn.of F (T.glo "_law_int") (fun _ _ _ _ _ _ us hl => match us, hl with | [_], _ => rfl) (fnD F sc__law_int len__law_int (by decide) fun cdv A outer s H E hr => ⟨_,
    (dss_one (ds_ret (de_and (de_isiint (T.free "isinstance") (T.free "int") (dv 0)) (de_one (de_not (de_isibool (T.free "isinstance") (T.free "bool") (dv 0))))))), fun ds S QD ED h => ?_⟩)
  obtain ⟨d, rfl, hd, q⟩ := h
  refine ⟨hd, ?_⟩
  cases d <;> first | exact q | exact ⟨hd, q⟩ | cases hd
def lotB (v : Nat) : D → Bool
  | .int i => decide (0 ≤ i) && decide (i < ((2 ^ v : Nat) : Int))
  | _ => false
def spLot : SpD := fun ds S Q _ => ∃ v d, ds = [nI v, d] ∧ v ≤ 64 ∧ hasT d ∧ Q (.bl (lotB v d)) S
theorem len__law_lot : ∀ (ds : List D) (S : Stt) (Q : QE) (E : Str → Stt → Prop), spLot ds S Q E → ds.length = 2 := by intro ds S Q E h; delta spLot at h; (repeat obtain ⟨_, h⟩ := h); subst_vars; rfl
theorem ok__law_lot (C : Ct) (T : Txt C) : Fn C CX0 (1 + 1) "_law_lot" ["_law_v", "_law_thing"] [] spLot := by
  obtain ⟨fd, F⟩ := T.def_ 61 (d := d__law_lot)
  have F__law_int := (ok__law_int C T).mono (show 1 ≤ 1 by omega)
  refine Fn.of F (T.glo "_law_lot") (fun _ _ _ _ _ _ us hl => match us, hl with | [_, _], _ => rfl) (fnD F sc__law_lot len__law_lot (by decide) fun cdv A outer s H E hr => ⟨_,
    (dss_one (ds_ret (de_and (de_call F__law_int hr (by rfl) pass0 (da_cons (dv 1) da_nil)) (de_one (de_chain op_le op_lt opd_B opd_B de_int (dv 1) (de_op op_shl opd_IC de_int (dv 0))))))), fun ds S QD ED h => ?_⟩)
  obtain ⟨v, d, rfl, hv, hd, q⟩ := h
  refine ⟨d, rfl, hd, ?_⟩
  cases d with
  | int i =>
    refine iteT ?_
    by_cases h0 : (0 : Int) ≤ i
    · refine dec_t h0 ⟨cpow1 hv, ?_⟩
      show QD (.bl (decide (i < (1 : Int) * 2 ^ ((v : Int)).toNat))) S
      rw [shl1]
      have e : lotB v (.int i) = decide (i < ((2 ^ v : Nat) : Int)) := by show (decide (0 ≤ i) && _) = _; rw [decide_eq_true h0]; rfl
      rw [← e]
      exact q
    · refine dec_f h0 ?_
      have e : lotB v (.int i) = false := by show (decide (0 ≤ i) && _) = _; rw [decide_eq_false h0]; rfl
      rw [e] at q
      exact q
  | _ => first | exact q | exact iteF q | cases hd
def spPut : SpD := fun ds S Q _ => ∃ n x ls, ds = [.hdl n, x] ∧ S[n]? = some (.lst ls) ∧ ls.length < 100000 ∧ Q (nI ls.length) (S.set n (.lst (ls ++ [x])))
theorem len__law_put : ∀ (ds : List D) (S : Stt) (Q : QE) (E : Str → Stt → Prop), spPut ds S Q E → ds.length = 2 := by intro ds S Q E h; delta spPut at h; (repeat obtain ⟨_, h⟩ := h); subst_vars; rfl
theorem ok__law_put (C : Ct) (T : Txt C) : Fn C CX0 (0 + 1) "_law_put" ["_law_lines", "_law_line"] [] spPut := by
  obtain ⟨fd, F⟩ := T.def_ 72 (d := d__law_put)
  refine Fn.of F (T.glo "_law_put") (fun _ _ _ _ _ _ us hl => match us, hl with | [_, _], _ => rfl) (fnD F sc__law_put len__law_put (by decide) fun cdv A outer s H E hr => ⟨_,
    (dss_cons (ds_expr (de_append (dv 0) (dv 1)))
      (dss_one (ds_ret (de_op op_sub opd_I (de_cb call_len calld_len (by rfl) (T.free "len") (by decide +kernel) (da_cons (dv 0) da_nil)) de_int)))), fun ds S QD ED h => ?_⟩)
  obtain ⟨n, x, ls, rfl, hn, hl, q⟩ := h
  refine ⟨n, ls, rfl, hn, ls, hn, hl, ?_⟩
  have hlt : n < S.length := (List.getElem?_eq_some_iff.mp hn).1
  conv => whnf
  rw [seq_h (List.getElem?_set_self hlt)]
  show QD (.int (((ls ++ [x]).length : Int) - 1)) _
  rw [List.length_append, List.length_singleton]
  have e : (((ls.length + 1 : Nat) : Int) - 1) = (ls.length : Int) := by omega
  rw [e]
  exact q
/-! ### what is due above a line -/
def dueR (w : Str) (p : D) : Option (List D) :=
  if w = "grow" then some [p]
  else if w = "behind" ∨ w = "either" then (match p with
    | .tup (_ :: a :: b :: _) => some [a, b]
    | _ => none)
  else if w = "more" then (match p with
    | .tup (_ :: a :: _) => some [a, p]
    | _ => none)
  else if w = "closed" then (match p with
    | .tup (_ :: a :: _) => some [a]
    | _ => none)
  else some []
def spDueL : SpD := fun ds S Q _ => ∃ w p r, ds = [.str w, p] ∧ dueR w p = some r ∧ Q (.lst r) S
theorem len__law_due_programs : ∀ (ds : List D) (S : Stt) (Q : QE) (E : Str → Stt → Prop), spDueL ds S Q E → ds.length = 2 := by intro ds S Q E h; delta spDueL at h; (repeat obtain ⟨_, h⟩ := h); subst_vars; rfl
theorem ok__law_due_programs (C : Ct) (T : Txt C) : Fn C CX0 (0 + 1) "_law_due_programs" ["_law_how", "_law_program_here"] [] spDueL := by
  obtain ⟨fd, F⟩ := T.def_ 64 (d := d__law_due_programs)
  refine Fn.of F (T.glo "_law_due_programs") (fun _ _ _ _ _ _ us hl => match us, hl with | [_, _], _ => rfl) (fnD F sc__law_due_programs len__law_due_programs (by decide) fun cdv A outer s H E hr => ⟨_,
    (dss_cons (ds_if (dt_cmp op_eq opd_eq (dv 0) de_str (nomark _)) (dss_one (ds_ret (de_lst (da_cons (dv 1) da_nil)))) dss_nil)
      (dss_cons (ds_if (dt_bop (dw_or (dt_cmp op_eq opd_eq (dv 0) de_str (nomark _)) (dw_or1 (dt_cmp op_eq opd_eq (dv 0) de_str (nomark _))))) (dss_one (ds_ret (de_lst (da_cons (de_ix ix_seq opd_ix (dv 1) de_int (fun _ _ => rfl)) (da_cons (de_ix ix_seq opd_ix (dv 1) de_int (fun _ _ => rfl)) da_nil))))) dss_nil)
      (dss_cons (ds_if (dt_cmp op_eq opd_eq (dv 0) de_str (nomark _)) (dss_one (ds_ret (de_lst (da_cons (de_ix ix_seq opd_ix (dv 1) de_int (fun _ _ => rfl)) (da_cons (dv 1) da_nil))))) dss_nil)
      (dss_one (ds_ret (de_ifE (dt_cmp op_eq opd_eq (dv 0) de_str (nomark _)) (de_lst (da_cons (de_ix ix_seq opd_ix (dv 1) de_int (fun _ _ => rfl)) da_nil)) (de_lst da_nil))))))), fun ds S QD ED h => ?_⟩)
  obtain ⟨w, p, r, rfl, hr, q⟩ := h
  unfold dueR at hr
  by_cases h1 : w = "grow"
  · rw [if_pos h1] at hr
    cases hr
    exact dec_t h1 ⟨by show 1 ≤ 100000; decide, q⟩
  rw [if_neg h1] at hr
  refine dec_f h1 ?_
  by_cases h2 : w = "behind" ∨ w = "either"
  · rw [if_pos h2] at hr
    split at hr
    · cases hr
      rcases h2 with h2 | h2
      · exact dec_t h2 ⟨by show 2 ≤ 100000; decide, q⟩
      · by_cases h3 : w = "behind"
        · exact dec_t h3 ⟨by show 2 ≤ 100000; decide, q⟩
        · exact dec_f h3 (dec_t h2 ⟨by show 2 ≤ 100000; decide, q⟩)
    · cases hr
  rw [if_neg h2] at hr
  refine dec_f (fun z => h2 (.inl z)) (dec_f (fun z => h2 (.inr z)) ?_)
  by_cases h3 : w = "more"
  · rw [if_pos h3] at hr
    split at hr
    · cases hr
      exact dec_t h3 ⟨by show 2 ≤ 100000; decide, q⟩
    · cases hr
  rw [if_neg h3] at hr
  refine dec_f h3 ?_
  by_cases h4 : w = "closed"
  · rw [if_pos h4] at hr
    split at hr
    · cases hr
      exact dec_t h4 ⟨by show 1 ≤ 100000; decide, q⟩
    · cases hr
  rw [if_neg h4] at hr
  cases hr
  exact dec_f h4 ⟨by decide, q⟩
end TA
set_option Elab.async false
set_option linter.all false
set_option maxRecDepth 100000
set_option maxHeartbeats 4000000
namespace TA
open PySem PySem.Spec L2
open PyProof.Rows hiding St
/-! ## the program's small defs -/
def spSeq : SpD := fun ds S Q _ => ∃ d, ds = [d] ∧ hasT d ∧ Q (.bl (isSq d)) S
theorem len_is_sequence : ∀ (ds : List D) (S : Stt) (Q : QE) (E : Str → Stt → Prop), spSeq ds S Q E → ds.length = 1 := by intro ds S Q E h; delta spSeq at h; (repeat obtain ⟨_, h⟩ := h); subst_vars; rfl
theorem ok_is_sequence (C : Ct) (T : Txt C) : Fn C CX0 (0 + 1) "is_sequence" ["thing"] [] spSeq := by
  obtain ⟨fd, F⟩ := T.def_ 1 (d := d_is_sequence)
  refine Fn.of F (T.glo "is_sequence") (fun _ _ _ _ _ _ us hl => match us, hl with | [_], _ => rfl) (fnD F sc_is_sequence len_is_sequence (by decide) fun cdv A outer s H E hr => ⟨_,
    (dss_one (ds_ret (de_isiSeq (T.free "isinstance") (T.free "list") (T.free "tuple") (dv 0)))), fun ds S QD ED h => ?_⟩)
  obtain ⟨d, rfl, hd, q⟩ := h
  exact ⟨hd, q⟩
def whB (d : D) (lo hi : Int) : Bool := match d with
  | .int i => decide (lo ≤ i) && decide (i ≤ hi)
  | _ => false
def spWhole : SpD := fun ds S Q _ => ∃ d lo hi, ds = [d, .int lo, .int hi] ∧ hasT d ∧ Q (.bl (whB d lo hi)) S
theorem len_is_whole : ∀ (ds : List D) (S : Stt) (Q : QE) (E : Str → Stt → Prop), spWhole ds S Q E → ds.length = 3 := by intro ds S Q E h; delta spWhole at h; (repeat obtain ⟨_, h⟩ := h); subst_vars; rfl
theorem ok_is_whole (C : Ct) (T : Txt C) : Fn C CX0 (0 + 1) "is_whole" ["thing", "low", "high"] [] spWhole := by
  obtain ⟨fd, F⟩ := T.def_ 2 (d := d_is_whole)
  obtain ⟨dsx, vx, bx⟩ := FunD.binds1 (ps := ["thing", "low", "high"]) F 3 2 (List.cons_ne_nil _ _) rfl (fun T kV doc pm an cdv ct us its hl hl2 => match us, its, hl, hl2 with | [_, _, _], [_, _], _, _ => ⟨_, rfl, rfl⟩)
  refine Fn.ofB F.kp (T.glo "is_whole") bx vx (fnD F sc_is_whole len_is_whole (by decide) fun cdv A outer s H E hr => ⟨_,
    (dss_cons (ds_if (dt_bop (dw_or (dt_val (de_isibool (T.free "isinstance") (T.free "bool") (dv 0))) (dw_or1 (dt_not (dt_val (de_isiint (T.free "isinstance") (T.free "int") (dv 0))))))) (dss_one (ds_ret de_bl)) dss_nil)
      (dss_cons (ds_if (dt_bop (dw_and (dt_cmp op_notN opd_notN (dv 1) de_non (nomark _)) (dw_and1 (dt_cmp op_lt opd_B (dv 0) (dv 1) (nomark _))))) (dss_one (ds_ret de_bl)) dss_nil)
      (dss_one (ds_ret (de_or (de_cmp op_isN opd_isN (dv 2) de_non (nomark _)) (de_one (de_cmp op_le opd_B (dv 0) (dv 2) (nomark _)))))))), fun ds S QD ED h => ?_⟩)
  obtain ⟨d, lo, hi, rfl, hd, q⟩ := h
  refine ⟨hd, ?_⟩
  cases d with
  | int i =>
    refine ⟨hd, ?_⟩
    by_cases h0 : i < lo
    · refine dec_t h0 ?_
      have e : whB (.int i) lo hi = false := by show (decide (lo ≤ i) && _) = _; rw [decide_eq_false (by omega)]; rfl
      rw [e] at q
      exact q
    · refine dec_f h0 ?_
      have e : whB (.int i) lo hi = decide (i ≤ hi) := by show (decide (lo ≤ i) && _) = _; rw [decide_eq_true (by omega)]; rfl
      rw [e] at q
      exact q
  | bl b => exact q
  | _ => first | exact ⟨hd, q⟩ | cases hd
def spCS : SpD := fun ds S Q _ => ∃ v : Nat, ds = [nI v] ∧ 1 ≤ v ∧ v ≤ 6 ∧ Q (nI v) S
theorem whB_nat {a lo hi : Nat} (h1 : lo ≤ a) (h2 : a ≤ hi) : whB (nI a) (lo : Int) (hi : Int) = true := by
  show (decide ((lo : Int) ≤ a) && decide ((a : Int) ≤ hi)) = true
  rw [decide_eq_true (by omega), decide_eq_true (by omega)]
  rfl
theorem ite_true {b : Bool} {p q : Prop} (h : b = true) (k : p) : (if b = true then p else q) := by rw [if_pos h]; exact k
theorem ite_false {b : Bool} {p q : Prop} (h : b = false) (k : q) : (if b = true then p else q) := by rw [h, if_neg Bool.false_ne_true]; exact k
theorem len_check_stands : ∀ (ds : List D) (S : Stt) (Q : QE) (E : Str → Stt → Prop), spCS ds S Q E → ds.length = 1 := by intro ds S Q E h; delta spCS at h; (repeat obtain ⟨_, h⟩ := h); subst_vars; rfl
theorem ok_check_stands (C : Ct) (T : Txt C) : Fn C CX0 (1 + 1) "check_stands" ["v"] [] spCS := by
  obtain ⟨fd, F⟩ := T.def_ 3 (d := d_check_stands)
  have F_is_whole := (ok_is_whole C T).mono (show 1 ≤ 1 by omega)
  refine Fn.of F (T.glo "check_stands") (fun _ _ _ _ _ _ us hl => match us, hl with | [_], _ => rfl) (fnD F sc_check_stands len_check_stands (by decide) fun cdv A outer s H E hr => ⟨_,
    (dss_cons (ds_if (dt_not (dt_val (de_call F_is_whole hr (by rfl) pass0 (da_cons (dv 0) (da_cons de_int (da_cons de_int da_nil)))))) (dss_one ds_never) dss_nil)
      (dss_one (ds_ret (dv 0)))), fun ds S QD ED h => ?_⟩)
  obtain ⟨v, rfl, h1, h6, q⟩ := h
  refine ⟨nI v, 1, 6, rfl, rfl, ?_⟩
  exact ite_false (by rw [show whB (nI v) 1 6 = true from whB_nat (lo := 1) (hi := 6) h1 h6]; rfl) q
def spAll : SpD := fun ds S Q _ => ∃ v : Nat, ds = [nI v] ∧ 1 ≤ v ∧ v ≤ 6 ∧ Q (nI (2 ^ v - 1)) S
theorem len_all_stands : ∀ (ds : List D) (S : Stt) (Q : QE) (E : Str → Stt → Prop), spAll ds S Q E → ds.length = 1 := by intro ds S Q E h; delta spAll at h; (repeat obtain ⟨_, h⟩ := h); subst_vars; rfl
theorem ok_all_stands (C : Ct) (T : Txt C) : Fn C CX0 (2 + 1) "all_stands" ["v"] [] spAll := by
  obtain ⟨fd, F⟩ := T.def_ 4 (d := d_all_stands)
  have F_check_stands := (ok_check_stands C T).mono (show 2 ≤ 2 by omega)
  refine Fn.of F (T.glo "all_stands") (fun _ _ _ _ _ _ us hl => match us, hl with | [_], _ => rfl) (fnD F sc_all_stands len_all_stands (by decide) fun cdv A outer s H E hr => ⟨_,
    (dss_one (ds_ret (de_op op_sub opd_I (de_op op_shl opd_IC de_int (de_call F_check_stands hr (by rfl) pass0 (da_cons (dv 0) da_nil))) de_int))), fun ds S QD ED h => ?_⟩)
  obtain ⟨v, rfl, h1, h6, q⟩ := h
  refine ⟨v, rfl, h1, h6, cpow1 (by omega), ?_⟩
  show QD (.int ((1 : Int) * 2 ^ ((v : Int)).toNat - 1)) S
  rw [every_eq]
  exact q
def spCL : SpD := fun ds S Q _ => ∃ v lot : Nat, ds = [nI v, nI lot] ∧ 1 ≤ v ∧ v ≤ 6 ∧ lot < 2 ^ v ∧ Q (nI lot) S
theorem len_check_lot : ∀ (ds : List D) (S : Stt) (Q : QE) (E : Str → Stt → Prop), spCL ds S Q E → ds.length = 2 := by intro ds S Q E h; delta spCL at h; (repeat obtain ⟨_, h⟩ := h); subst_vars; rfl
theorem ok_check_lot (C : Ct) (T : Txt C) : Fn C CX0 (3 + 1) "check_lot" ["v", "lot"] [] spCL := by
  obtain ⟨fd, F⟩ := T.def_ 5 (d := d_check_lot)
  have F_all_stands := (ok_all_stands C T).mono (show 3 ≤ 3 by omega)
  have F_is_whole := (ok_is_whole C T).mono (show 1 ≤ 3 by omega)
  refine Fn.of F (T.glo "check_lot") (fun _ _ _ _ _ _ us hl => match us, hl with | [_, _], _ => rfl) (fnD F sc_check_lot len_check_lot (by decide) fun cdv A outer s H E hr => ⟨_,
    (dss_cons (ds_if (dt_not (dt_val (de_call F_is_whole hr (by rfl) pass0 (da_cons (dv 1) (da_cons de_int (da_cons (de_call F_all_stands hr (by rfl) pass0 (da_cons (dv 0) da_nil)) da_nil)))))) (dss_one ds_never) dss_nil)
      (dss_one (ds_ret (dv 1)))), fun ds S QD ED h => ?_⟩)
  obtain ⟨v, lot, rfl, h1, h6, hl, q⟩ := h
  refine ⟨v, rfl, h1, h6, nI lot, 0, _, rfl, rfl, ?_⟩
  exact ite_false (by rw [show whB (nI lot) 0 ((2 ^ v - 1 : Nat) : Int) = true from whB_nat (lo := 0) (Nat.zero_le _) (by omega)]; rfl) q
def spWithinP : SpD := fun ds S Q _ => ∃ a b : Nat, ds = [nI a, nI b] ∧ a < 64 ∧ b < 64 ∧ Q (.bl (decide (a &&& b = a))) S
theorem len_is_within : ∀ (ds : List D) (S : Stt) (Q : QE) (E : Str → Stt → Prop), spWithinP ds S Q E → ds.length = 2 := by intro ds S Q E h; delta spWithinP at h; (repeat obtain ⟨_, h⟩ := h); subst_vars; rfl
theorem ok_is_within (C : Ct) (T : Txt C) : Fn C CX0 (4 + 1) "is_within" ["one", "other"] [] spWithinP := by
  obtain ⟨fd, F⟩ := T.def_ 6 (d := d_is_within)
  have F_check_lot := (ok_check_lot C T).mono (show 4 ≤ 4 by omega)
  refine Fn.of F (T.glo "is_within") (fun _ _ _ _ _ _ us hl => match us, hl with | [_, _], _ => rfl) (fnD F sc_is_within len_is_within (by decide) fun cdv A outer s H E hr => ⟨_,
    (dss_cons (ds_expr (de_call F_check_lot hr (by rfl) pass0 (da_cons de_int (da_cons (dv 0) da_nil))))
      (dss_cons (ds_expr (de_call F_check_lot hr (by rfl) pass0 (da_cons de_int (da_cons (dv 1) da_nil))))
      (dss_one (ds_ret (de_cmp op_eq opd_eq (de_op op_and opd_I (dv 0) (dv 1)) (dv 0) (nomark _)))))), fun ds S QD ED h => ?_⟩)
  obtain ⟨a, b, rfl, ha, hb, q⟩ := h
  refine ⟨6, a, rfl, by decide, by decide, ha, 6, b, rfl, by decide, by decide, hb, ?_⟩
  show QD (.bl (decide (Builtin.bitAnd (a : Int) (b : Int) = (a : Int)))) S
  rw [within_eq]
  exact q
def spCRow : SpD := fun ds S Q _ => ∃ (v : Nat) (row : List Nat), ds = [nI v, .tup (row.map nI)] ∧ 1 ≤ v ∧ v ≤ 6 ∧ RowOk v row ∧ Q (.tup (row.map nI)) S
theorem len_check_row : ∀ (ds : List D) (S : Stt) (Q : QE) (E : Str → Stt → Prop), spCRow ds S Q E → ds.length = 2 := by intro ds S Q E h; delta spCRow at h; (repeat obtain ⟨_, h⟩ := h); subst_vars; rfl
theorem ok_check_row (C : Ct) (T : Txt C) : Fn C CX0 (3 + 1) "check_row" ["stands", "row"] [] spCRow := by
  obtain ⟨fd, F⟩ := T.def_ 15 (d := d_check_row)
  have F_all_stands := (ok_all_stands C T).mono (show 3 ≤ 3 by omega)
  have F_check_stands := (ok_check_stands C T).mono (show 2 ≤ 3 by omega)
  have F_is_sequence := (ok_is_sequence C T).mono (show 1 ≤ 3 by omega)
  have F_is_whole := (ok_is_whole C T).mono (show 1 ≤ 3 by omega)
  refine Fn.of F (T.glo "check_row") (fun _ _ _ _ _ _ us hl => match us, hl with | [_, _], _ => rfl) (fnD F sc_check_row len_check_row (by decide) fun cdv A outer s H E hr => ⟨_,
    (dss_cons (ds_expr (de_call F_check_stands hr (by rfl) pass0 (da_cons (dv 0) da_nil)))
      (dss_cons (ds_if (dt_bop (dw_or (dt_not (dt_val (de_call F_is_sequence hr (by rfl) pass0 (da_cons (dv 1) da_nil)))) (dw_or1 (dt_cmp op_ne opd_ne (de_cb call_len calld_len (by rfl) (T.free "len") (by decide +kernel) (da_cons (dv 1) da_nil)) (dv 0) (nomark _))))) (dss_one ds_never) dss_nil)
      (dss_cons (ds_for PassesOwn.never rfl (di_enum (by rfl) (T.free "enumerate") (dv 1)) (dg_tup (n := 2) rfl (dgs_cons (dg_name (i := 2) sc_check_row.nd rfl (by first | exact Or.inl rfl | exact Or.inr rfl)) (dgs_cons (dg_name (i := 3) sc_check_row.nd rfl (by first | exact Or.inl rfl | exact Or.inr rfl)) dgs_nil))) (dss_one (ds_if (dt_not (dt_val (de_call F_is_whole hr (by rfl) pass0 (da_cons (dv 3) (da_cons de_int (da_cons (de_call F_all_stands hr (by rfl) pass0 (da_cons (dv 0) da_nil)) da_nil)))))) (dss_one ds_never) dss_nil)))
      (dss_one (ds_ret (de_cty call_tuple_of calld_tuple (by rfl) (T.free "tuple") (by decide +kernel) (da_cons (dv 1) da_nil))))))), fun ds S QD ED h => ?_⟩)
  obtain ⟨v, row, rfl, h1, h6, hr, q⟩ := h
  refine ⟨v, rfl, h1, h6, .tup (row.map nI), rfl, rfl, ?_⟩
  refine iteF ?_
  show (if (!decide ((((row.map nI).length : Nat) : Int) = (v : Int))) = true then _ else _)
  rw [List.length_map, hr.1]
  refine ite_false (by simp) ?_
  refine ⟨fun r ρ S' => ∃ k rs o2 o3, r = enumD k (List.map nI rs) ∧ ρ = [some (nI v), some (.tup (row.map nI)), o2, o3] ∧ S' = S ∧ ∀ x ∈ rs, x < 2 ^ v, ⟨0, row, none, none, rfl, rfl, rfl, hr.2⟩, ?_, ?_⟩
  · rintro x r ρ S' ⟨k, rs, o2, o3, e, rfl, rfl, hx⟩
    cases rs with
    | nil => cases e
    | cons y ys =>
      cases e
      have hy := hx y (List.mem_cons_self ..)
      refine ⟨rfl, v, rfl, h1, h6, nI y, 0, _, rfl, rfl, ?_⟩
      refine ite_false (by rw [show whB (nI y) 0 ((2 ^ v - 1 : Nat) : Int) = true from whB_nat (lo := 0) (Nat.zero_le _) (by omega)]; rfl) ?_
      exact ⟨k + 1, ys, some (nI k), some (nI y), rfl, rfl, rfl, fun z hz => hx z (List.mem_cons_of_mem _ hz)⟩
  · rintro ρ S' ⟨k, rs, o2, o3, e, rfl, rfl, hx⟩
    exact q
def namesT : List Str := ["step", "nothing", "grow", "behind", "either", "more", "closed"]
def spNames : SpD := fun ds S Q _ => ds = [] ∧ Q (.tup (namesT.map D.str)) S
theorem len_rule_names : ∀ (ds : List D) (S : Stt) (Q : QE) (E : Str → Stt → Prop), spNames ds S Q E → ds.length = 0 := by intro ds S Q E h; delta spNames at h; (repeat obtain ⟨_, h⟩ := h); subst_vars; rfl
theorem ok_rule_names (C : Ct) (T : Txt C) : Fn C CX0 (0 + 1) "rule_names" [] [] spNames := by
  obtain ⟨fd, F⟩ := T.def_ 20 (d := d_rule_names)
  refine Fn.of F (T.glo "rule_names") (fun _ _ _ _ _ _ us hl => match us, hl with | [], _ => rfl) (fnD F sc_rule_names len_rule_names (by decide) fun cdv A outer s H E hr => ⟨_,
    (dss_one (ds_ret (de_tup (da_cons de_str (da_cons de_str (da_cons de_str (da_cons de_str (da_cons de_str (da_cons de_str (da_cons de_str da_nil)))))))))), fun ds S QD ED h => ?_⟩)
  obtain ⟨rfl, q⟩ := h
  exact ⟨by show 7 ≤ 100000; decide, q⟩
def spInner : SpD := fun ds S Q _ => ∃ w ps, ds = [.tup (.str w :: ps)] ∧ (w = "step" ∨ ps.length ≤ 1000) ∧ Q (.tup (if w = "step" then [] else ps)) S
theorem len_inner_programs : ∀ (ds : List D) (S : Stt) (Q : QE) (E : Str → Stt → Prop), spInner ds S Q E → ds.length = 1 := by intro ds S Q E h; delta spInner at h; (repeat obtain ⟨_, h⟩ := h); subst_vars; rfl
theorem ok_inner_programs (C : Ct) (T : Txt C) : Fn C CX0 (0 + 1) "inner_programs" ["program"] [] spInner := by
  obtain ⟨fd, F⟩ := T.def_ 12 (d := d_inner_programs)
  refine Fn.of F (T.glo "inner_programs") (fun _ _ _ _ _ _ us hl => match us, hl with | [_], _ => rfl) (fnD F sc_inner_programs len_inner_programs (by decide) fun cdv A outer s H E hr => ⟨_,
    (dss_cons (ds_if (dt_cmp op_eq opd_eq (de_ix ix_seq opd_ix (dv 0) de_int (fun _ _ => rfl)) de_str (nomark _)) (dss_one (ds_ret (de_tup da_nil))) dss_nil)
      (dss_one (ds_ret (de_slice sl_tupA sld_tup (dv 0) (do_some de_int) do_none)))), fun ds S QD ED h => ?_⟩)
  obtain ⟨w, ps, rfl, hl, q⟩ := h
  by_cases h : w = "step"
  · rw [if_pos h] at q
    exact dec_t h ⟨by decide, q⟩
  · rw [if_neg h] at q
    refine dec_f h ?_
    show QD (.tup (cutD (.str w :: ps) (some ((1 : Nat) : Int)) none)) S
    rw [cut_from]
    exact q
/-! ### glasses -/
abbrev glD (v : Nat) (ms : List Nat) : D := .obj "Glasses" ["stands", "members"] [nI v, .tup (ms.map nI)]
theorem rndFrom_lt {n : Nat} : ∀ (ms : List Nat) (lot acc : Nat), acc < n → rndFrom ms lot acc < n
  | [], _, _, h => h
  | m :: r, lot, acc, h => by
    show rndFrom r lot (if lot &&& m = lot then acc &&& m else acc) < n
    by_cases q : lot &&& m = lot
    · rw [if_pos q]; exact rndFrom_lt r lot _ (and_lt' h)
    · rw [if_neg q]; exact rndFrom_lt r lot _ h
structure Good (v : Nat) (ms : List Nat) : Prop where
  v1 : 1 ≤ v
  v6 : v ≤ 6
  ne : ms ≠ []
  lt : ∀ m ∈ ms, m < 2 ^ v
  up : ms.Pairwise (· < ·)
  last : lastN ms = 2 ^ v - 1
  meet : ∀ a ∈ ms, ∀ b ∈ ms, a &&& b ∈ ms
theorem Good.last_lt {v : Nat} {ms : List Nat} (g : Good v ms) : lastN ms < 2 ^ v := by rw [g.last]; have := two_pos v; omega
theorem Good.rnd_lt {v : Nat} {ms : List Nat} (g : Good v ms) (lot : Nat) : rnd ms lot < 2 ^ v := rndFrom_lt ms lot _ g.last_lt
theorem nextFrom_lt {n : Nat} (lot : Nat) : ∀ (row : List Nat) (k acc : Nat), (∀ x ∈ row, x < 2 ^ n) → acc < 2 ^ n → nextFrom k row lot acc < 2 ^ n
  | [], _, _, _, h => h
  | r :: row, k, acc, hr, h => by
    show nextFrom (k + 1) row lot (if lot.testBit k then acc ||| r else acc) < 2 ^ n
    by_cases q : lot.testBit k = true
    · rw [if_pos q]; exact nextFrom_lt lot row _ _ (fun x hx => hr x (List.mem_cons_of_mem _ hx)) (or_lt2 h (hr r (List.mem_cons_self ..)))
    · rw [if_neg q]; exact nextFrom_lt lot row _ _ (fun x hx => hr x (List.mem_cons_of_mem _ hx)) h
theorem RowOk.next_lt {v : Nat} {row : List Nat} (h : RowOk v row) (lot : Nat) : nextL row lot < 2 ^ v := nextFrom_lt lot row 0 0 h.2 (two_pos v)
def spRndM : SpD := fun ds S Q _ => ∃ (v : Nat) (ms : List Nat) (lot : Nat), ds = [glD v ms, nI lot] ∧ Good v ms ∧ lot < 2 ^ v ∧ Q (nI (rnd ms lot)) S
theorem len_Glasses_rounded : ∀ (ds : List D) (S : Stt) (Q : QE) (E : Str → Stt → Prop), spRndM ds S Q E → ds.length = 2 := by intro ds S Q E h; delta spRndM at h; (repeat obtain ⟨_, h⟩ := h); subst_vars; rfl
theorem ok_Glasses_rounded (C : Ct) (T : Txt C) : FnM C CX0 (4 + 1) d_Glasses_rounded ["self", "lot"] spRndM := by
  obtain ⟨fd, F⟩ := T.def_ 9 (d := d_Glasses_rounded)
  have F_check_lot := (ok_check_lot C T).mono (show 4 ≤ 4 by omega)
  refine FnM.of F (fun _ _ _ _ _ _ us hl => match us, hl with | [_, _], _ => rfl) (fnD F sc_Glasses_rounded len_Glasses_rounded (by decide) fun cdv A outer s H E hr => ⟨_,
    (dss_cons (ds_expr (de_call F_check_lot hr (by rfl) pass0 (da_cons (de_fld T (dv 0)) (da_cons (dv 1) da_nil))))
      (dss_cons (ds_set (i := 2) sc_Glasses_rounded.nd rfl (by first | exact Or.inl rfl | exact Or.inr rfl) (de_ix ix_seq opd_ix (de_fld T (dv 0)) (de_un un_neg und_neg de_int) (fun _ _ => rfl)))
      (dss_cons (ds_for PassesOwn.never rfl (di_seq (de_fld T (dv 0))) (dg_name (i := 3) sc_Glasses_rounded.nd rfl (by first | exact Or.inl rfl | exact Or.inr rfl)) (dss_one (ds_if (dt_cmp op_eq opd_eq (de_op op_and opd_I (dv 1) (dv 3)) (dv 1) (nomark _)) (dss_one (ds_set (i := 2) sc_Glasses_rounded.nd rfl (by first | exact Or.inl rfl | exact Or.inr rfl) (de_op op_and opd_I (dv 2) (dv 3)))) dss_nil)))
      (dss_one (ds_ret (dv 2)))))), fun ds S QD ED h => ?_⟩)
  obtain ⟨v, ms, lot, rfl, g, hl, q⟩ := h
  refine ⟨_, _, _, _, _, rfl, .g0, rfl, v, lot, rfl, g.v1, g.v6, hl, _, _, _, _, _, rfl, .g1, rfl, ?_⟩
  conv => whnf
  rw [last_ix g.ne]
  refine ⟨_, _, _, _, _, rfl, .g1, rfl, ?_⟩
  refine ⟨fun r ρ S' => ∃ rs acc o3, r = List.map nI rs ∧ ρ = [some (glD v ms), some (nI lot), some (nI acc), o3] ∧ S' = S ∧ rndFrom rs lot acc = rnd ms lot,
    ⟨ms, lastN ms, none, rfl, rfl, rfl, rfl⟩, ?_, ?_⟩
  · rintro x r ρ S' ⟨rs, acc, o3, e, rfl, rfl, en⟩
    cases rs with
    | nil => cases e
    | cons y ys =>
      cases e
      have en : rndFrom ys lot (if lot &&& y = lot then acc &&& y else acc) = rnd ms lot := en
      refine ite2 (fun h => ?_) (fun h => ?_)
      · rw [within_eq, decide_eq_true_iff] at h
        rw [if_pos h] at en
        exact ⟨ys, acc &&& y, some (nI y), rfl, and_nat acc y ▸ rfl, rfl, en⟩
      · rw [within_eq, decide_eq_true_iff] at h
        rw [if_neg h] at en
        exact ⟨ys, acc, some (nI y), rfl, rfl, rfl, en⟩
  · rintro ρ S' ⟨rs, acc, o3, e, rfl, rfl, en⟩
    cases rs with
    | nil =>
      have en : acc = rnd ms lot := en
      show QD (nI acc) S'
      rw [en]
      exact q
    | cons y ys => cases e
def spAlike : SpD := fun ds S Q _ => ∃ (v : Nat) (ms row : List Nat) (lot : Nat), ds = [glD v ms, .tup (row.map nI), nI lot] ∧ Good v ms ∧ RowOk v row ∧ lot < 2 ^ v ∧ Q (.bl (sharpB ms row lot)) S
theorem len_rounded_alike : ∀ (ds : List D) (S : Stt) (Q : QE) (E : Str → Stt → Prop), spAlike ds S Q E → ds.length = 3 := by intro ds S Q E h; delta spAlike at h; (repeat obtain ⟨_, h⟩ := h); subst_vars; rfl
theorem ok_rounded_alike (C : Ct) (T : Txt C) : Fn C CX0 (5 + 1) "rounded_alike" ["glasses", "row", "lot"] [] spAlike := by
  obtain ⟨fd, F⟩ := T.def_ 18 (d := d_rounded_alike)
  have F_Glasses_rounded := (ok_Glasses_rounded C T).mono (show 5 ≤ 5 by omega)
  have F_next_lot := (ok_next_lot C T).mono (show 1 ≤ 5 by omega)
  refine Fn.of F (T.glo "rounded_alike") (fun _ _ _ _ _ _ us hl => match us, hl with | [_, _, _], _ => rfl) (fnD F sc_rounded_alike len_rounded_alike (by decide) fun cdv A outer s H E hr => ⟨_,
    (dss_cons (ds_set (i := 3) sc_rounded_alike.nd rfl (by first | exact Or.inl rfl | exact Or.inr rfl) (de_meth (d := d_Glasses_rounded) (c := "Glasses") T (T.meth .g) F_Glasses_rounded hr (dv 0) pass0 (da_cons (de_call F_next_lot hr (by rfl) pass0 (da_cons (dv 1) (da_cons (dv 2) da_nil))) da_nil)))
      (dss_one (ds_ret (de_cmp op_eq opd_eq (dv 3) (de_meth (d := d_Glasses_rounded) (c := "Glasses") T (T.meth .g) F_Glasses_rounded hr (dv 0) pass0 (da_cons (de_call F_next_lot hr (by rfl) pass0 (da_cons (dv 1) (da_cons (de_meth (d := d_Glasses_rounded) (c := "Glasses") T (T.meth .g) F_Glasses_rounded hr (dv 0) pass0 (da_cons (dv 2) da_nil)) da_nil))) da_nil)) (nomark _))))), fun ds S QD ED h => ?_⟩)
  obtain ⟨v, ms, row, lot, rfl, g, hr, hl, q⟩ := h
  refine ⟨_, _, rfl, .g, row, lot, rfl, v, ms, _, rfl, g, hr.next_lt _, ?_⟩
  refine ⟨_, _, rfl, .g, _, _, rfl, .g, v, ms, lot, rfl, g, hl, row, _, rfl, v, ms, _, rfl, g, hr.next_lt _, ?_⟩
  show QD (.bl (decide ((rnd ms (nextL row lot) : Int) = (rnd ms (nextL row (rnd ms lot)) : Int)))) S
  rw [nat_dec]
  exact q
theorem len_sharp_at : ∀ (ds : List D) (S : Stt) (Q : QE) (E : Str → Stt → Prop), spAlike ds S Q E → ds.length = 3 := by intro ds S Q E h; delta spAlike at h; (repeat obtain ⟨_, h⟩ := h); subst_vars; rfl
theorem ok_sharp_at (C : Ct) (T : Txt C) : Fn C CX0 (6 + 1) "sharp_at" ["glasses", "row", "lot"] [] spAlike := by
  obtain ⟨fd, F⟩ := T.def_ 19 (d := d_sharp_at)
  have F_check_lot := (ok_check_lot C T).mono (show 4 ≤ 6 by omega)
  have F_check_row := (ok_check_row C T).mono (show 4 ≤ 6 by omega)
  have F_rounded_alike := (ok_rounded_alike C T).mono (show 6 ≤ 6 by omega)
  refine Fn.of F (T.glo "sharp_at") (fun _ _ _ _ _ _ us hl => match us, hl with | [_, _, _], _ => rfl) (fnD F sc_sharp_at len_sharp_at (by decide) fun cdv A outer s H E hr => ⟨_,
    (dss_cons (ds_set (i := 1) sc_sharp_at.nd rfl (by first | exact Or.inl rfl | exact Or.inr rfl) (de_call F_check_row hr (by rfl) pass0 (da_cons (de_fld T (dv 0)) (da_cons (dv 1) da_nil))))
      (dss_one (ds_ret (de_call F_rounded_alike hr (by rfl) pass0 (da_cons (dv 0) (da_cons (dv 1) (da_cons (de_call F_check_lot hr (by rfl) pass0 (da_cons (de_fld T (dv 0)) (da_cons (dv 2) da_nil))) da_nil))))))), fun ds S QD ED h => ?_⟩)
  obtain ⟨v, ms, row, lot, rfl, g, hr, hl, q⟩ := h
  refine ⟨_, _, _, _, _, rfl, .g0, rfl, v, row, rfl, g.v1, g.v6, hr, ?_⟩
  refine ⟨_, _, _, _, _, rfl, .g0, rfl, v, lot, rfl, g.v1, g.v6, hl, ?_⟩
  exact ⟨v, ms, row, lot, rfl, g, hr, hl, q⟩
end TA
set_option Elab.async false
set_option linter.all false
set_option maxRecDepth 100000
set_option maxHeartbeats 4000000
namespace TA
open PySem PySem.Spec L2
open PyProof.Rows hiding St
/-! ## the hand -/
def spHand : SpD := fun ds S Q _ => ∃ ns : List Int, ds = [.scr ns] ∧ ns.length ≤ 63 ∧ S = [] ∧ Q (.hdl 0) [.hand]
theorem len__law_hand : ∀ (ds : List D) (S : Stt) (Q : QE) (E : Str → Stt → Prop), spHand ds S Q E → ds.length = 1 := by intro ds S Q E h; delta spHand at h; (repeat obtain ⟨_, h⟩ := h); subst_vars; rfl
theorem ok__law_hand (C : Ct) (T : Txt C) : Fn C CX0 (0 + 1) "_law_hand" ["_law_script"] [] spHand := by
  obtain ⟨fd, F⟩ := T.def_ 34 (d := d__law_hand)
  refine Fn.of F (T.glo "_law_hand") (fun _ _ _ _ _ _ us hl => match us, hl with | [_], _ => rfl) (fnD F sc__law_hand len__law_hand (by decide) fun cdv A outer s H E hr => ⟨_,
    (dss_blk (dsk_cons (ds_set (i := 1) sc__law_hand.nd rfl (by first | exact Or.inl rfl | exact Or.inr rfl) (de_op op_add opd_I (de_cb call_len calld_len (by rfl) (T.free "len") (by decide +kernel) (da_cons (dv 0) da_nil)) de_int)) (dsk_cons (ds_set (i := 2) sc__law_hand.nd rfl (by first | exact Or.inl rfl | exact Or.inr rfl) (de_lstH da_nil)) (dsk_one (ds_for PassesOwn.never rfl (di_seq (dv 0)) (dg_name (i := 3) sc__law_hand.nd rfl (by first | exact Or.inl rfl | exact Or.inr rfl)) (dss_cons (ds_set (i := 1) sc__law_hand.nd rfl (by first | exact Or.inl rfl | exact Or.inr rfl) (de_op op_mod opd_IC (de_cty call_int1 calld_int (by rfl) (T.free "int") (by decide +kernel) (da_cons (de_op op_add opd_I (de_op op_mul opd_IC (dv 1) de_int) (de_cty call_int1 calld_int (by rfl) (T.free "int") (by decide +kernel) (da_cons (dv 3) da_nil))) da_nil)) de_int))
      (dss_one (ds_expr (de_append (dv 2) (de_cb call_abs calld_abs (by rfl) (T.free "abs") (by decide +kernel) (da_cons (de_cty call_int1 calld_int (by rfl) (T.free "int") (by decide +kernel) (da_cons (dv 3) da_nil)) da_nil))))))))))
      (dss_one (ds_ret (de_lstHand (da_cons (dv 2) (da_cons de_int (da_cons de_int (da_cons (dv 1) da_nil)))))))), fun ds S QD ED h => ?_⟩)
  obtain ⟨ns, rfl, hl, rfl, q⟩ := h
  intro _
  refine ⟨by decide, fun r ρ S' => ∃ dn rs cs o3 t, ns = dn ++ rs ∧ r = rs.map D.int ∧ ρ = [some (.scr ns), some (.int t), some (.hdl 0), o3] ∧ S' = [.lst (cs.map D.int)] ∧ cs.length = dn.length ∧ (∀ c ∈ cs, (0 : Int) ≤ c) ∧ 0 ≤ t ∧ t < 2147483549,
    ⟨[], ns, [], none, ((ns.length : Nat) : Int) + 41, rfl, rfl, rfl, rfl, rfl, by simp, by omega, by omega⟩, ?_, ?_⟩
  · rintro x r ρ S' ⟨dn, rs, cs, o3, t, e0, e, rfl, rfl, hc, h0, t0, t1⟩
    cases rs with
    | nil => cases e
    | cons y ys =>
      cases e
      refine ⟨.inr (by decide), (by decide : (0 : Int) < 2147483549), ?_⟩
      have hlt : cs.length < 63 := by
        rw [hc]
        have : ns.length = dn.length + (ys.length + 1) := by rw [e0, List.length_append, List.length_cons]
        omega
      refine ⟨0, _, rfl, rfl, _, rfl, by rw [List.length_map]; omega, ?_⟩
      refine ⟨dn ++ [y], ys, cs ++ [if y < 0 then -y else y], some (.int y), (t * 1721 + y) % 2147483549, by rw [e0]; simp, rfl, rfl, ?_, by rw [List.length_append, List.length_append, hc]; rfl, ?_, Int.emod_nonneg _ (by decide), Int.emod_lt_of_pos _ (by decide)⟩
      · rw [List.map_append]
        rfl
      · intro c hc
        rcases List.mem_append.mp hc with z | z
        · exact h0 c z
        · rw [List.mem_singleton.mp z]; split <;> omega
  · rintro ρ S' ⟨dn, rs, cs, o3, t, e0, e, rfl, rfl, hc, h0, t0, t1⟩
    have hb : belL 0 (cs.map D.int) = true := belL_mem.mpr fun d hd => by
      obtain ⟨n, _, e⟩ := List.mem_map.mp hd
      rw [← e]; rfl
    refine ⟨fun c hc => (by cases hc), [some (.scr ns), some (.int t), some (.lst (cs.map D.int)), none], .cons (.same rfl) (.cons (.same rfl) (.cons (.lst (Nat.zero_le _) rfl hb) (.cons (by cases o3 <;> trivial) .nil))), ?_⟩
    exact ⟨⟨cs, ⟨⟨0, 0, t, rfl, Int.le_refl _, Int.le_refl _, t0, t1⟩, h0⟩⟩, q⟩
/-! ## closure under meet -/
theorem len_of_lt : ∀ (n : Nat) (l : List Nat), l.Nodup → (∀ x ∈ l, x < n) → l.length ≤ n
  | 0, [], _, _ => Nat.le_refl _
  | 0, x :: _, _, h => absurd (h x (List.mem_cons_self ..)) (by omega)
  | n + 1, l, nd, h => by
    have h2 := len_of_lt n (l.erase n) (nd.erase n) fun x hx => by
      have h3 := h x (List.mem_of_mem_erase hx)
      have h4 : x ≠ n := fun z => by
        subst z
        exact (nd.not_mem_erase) hx
      omega
    rw [List.length_erase] at h2
    split at h2 <;> omega
def keyN (n : Nat) : Key := .inl (n : Int)
structure MetP (v : Nat) (ks : List Nat) : Prop where
  nd : ks.Nodup
  lt : ∀ k ∈ ks, k < 2 ^ v
  top : 2 ^ v - 1 ∈ ks
theorem MetP.len {v : Nat} {ks : List Nat} (h : MetP v ks) (h6 : v ≤ 6) : ks.length ≤ 64 := Nat.le_trans (len_of_lt _ _ h.nd h.lt) (p2_bound h6)
def Closed (ks : List Nat) : Prop := ∀ a ∈ ks, ∀ b ∈ ks, a &&& b ∈ ks
theorem keyN_inj {a b : Nat} (h : keyN a = keyN b) : a = b := by
  have := Sum.inl.inj h
  omega
theorem mem_keys {a : Nat} {ks : List Nat} : keyN a ∈ ks.map keyN ↔ a ∈ ks := by
  constructor
  · intro h
    obtain ⟨b, hb, e⟩ := List.mem_map.mp h
    rw [← keyN_inj e]; exact hb
  · exact fun h => List.mem_map_of_mem h
theorem repl_true (k : Key) : ∀ (ks : List Nat), replD k (.bl true) (ks.map keyN) (ks.map fun _ => D.bl true) = ks.map fun _ => D.bl true
  | [] => rfl
  | a :: ks => by
    show (if keyN a = k then D.bl true else D.bl true) :: replD k (.bl true) (ks.map keyN) (ks.map fun _ => D.bl true) = _
    rw [repl_true k ks]
    split <;> rfl
theorem good_of {v : Nat} {ks : List Nat} (h1 : 1 ≤ v) (h6 : v ≤ 6) (h : MetP v ks) (c : Closed ks) {ms : List Int} (hp : ms.Perm (ks.map fun k : Nat => (k : Int))) (hs : ms.Pairwise (· ≤ ·)) : ∃ ns : List Nat, ms.map D.int = ns.map nI ∧ Good v ns := by
  obtain ⟨ns, e⟩ : ∃ ns : List Nat, ms = ns.map fun k : Nat => (k : Int) := by
    have : ∀ m ∈ ms, 0 ≤ m := fun m hm => by
      obtain ⟨k, _, e⟩ := List.mem_map.mp (hp.mem_iff.mp hm)
      omega
    clear hp hs
    induction ms with
    | nil => exact ⟨[], rfl⟩
    | cons m r ih =>
      obtain ⟨ns, e⟩ := ih fun x hx => this x (List.mem_cons_of_mem _ hx)
      obtain ⟨k, rfl⟩ := Int.eq_ofNat_of_zero_le (this m (List.mem_cons_self ..))
      exact ⟨k :: ns, by rw [e]; rfl⟩
  subst e
  have hmem : ∀ x : Nat, x ∈ ns ↔ x ∈ ks := fun x => by
    have a := hp.mem_iff (a := (x : Int))
    constructor
    · intro hx
      obtain ⟨y, hy, e⟩ := List.mem_map.mp (a.mp (List.mem_map.mpr ⟨x, hx, rfl⟩))
      have : y = x := by omega
      rw [← this]; exact hy
    · intro hx
      obtain ⟨y, hy, e⟩ := List.mem_map.mp (a.mpr (List.mem_map.mpr ⟨x, hx, rfl⟩))
      have : y = x := by omega
      rw [← this]; exact hy
  have nd : ns.Nodup := by
    have h2 : (ks.map fun k : Nat => (k : Int)).Nodup := List.Pairwise.map _ (fun a b hab z => hab (by omega)) h.nd
    have h3 := (hp.nodup_iff).mpr h2
    exact List.Pairwise.of_map (fun k : Nat => (k : Int)) (fun a b hab z => hab (by rw [z])) h3
  have up : ns.Pairwise (· < ·) := by
    have h4 : ns.Pairwise (fun a b : Nat => (a : Int) ≤ b) := List.Pairwise.of_map (fun k : Nat => (k : Int)) (fun a b hab => hab) hs
    refine (h4.and nd).imp fun {a b} hab => ?_
    have h5 := hab.1
    have h6 := hab.2
    omega
  have ne : ns ≠ [] := fun z => by
    have := (hmem _).mpr h.top
    rw [z] at this
    cases this
  have hlen : 0 < ns.length := List.length_pos_iff.mpr ne
  have last : lastN ns = 2 ^ v - 1 := by
    unfold lastN
    rw [List.getElem?_eq_getElem (by omega)]
    show ns[ns.length - 1] = _
    have hm := (hmem _).mpr h.top
    obtain ⟨i, hi, e⟩ := List.mem_iff_getElem.mp hm
    by_cases q : i = ns.length - 1
    · subst q; exact e
    · have h7 := List.pairwise_iff_getElem.mp up i (ns.length - 1) hi (by omega) (by omega)
      have h8 := h.lt _ ((hmem _).mp (List.getElem_mem (show ns.length - 1 < ns.length by omega)))
      rw [e] at h7
      omega
  exact ⟨ns, by rw [List.map_map]; rfl, ⟨h1, h6, ne, fun m hm => h.lt m ((hmem m).mp hm), up, last, fun a ha b hb => (hmem _).mpr (c a ((hmem a).mp ha) b ((hmem b).mp hb))⟩⟩
theorem hAt {S : Stt} {c : Cell} : (S ++ [c])[S.length]? = some c := by rw [List.getElem?_append_right (Nat.le_refl _), Nat.sub_self]; rfl
theorem hSet {S : Stt} {c c' : Cell} : (S ++ [c]).set S.length c' = S ++ [c'] := by rw [List.set_append_right _ _ (Nat.le_refl _), Nat.sub_self]; rfl
theorem hTake {S T : Stt} : (S ++ T).take S.length = S := by rw [List.take_append_of_le_length (Nat.le_refl _), List.take_length]
theorem dicAt_h {S : Stt} {n : Nat} {ks : List Key} {ds : List D} (h : S[n]? = some (.dic ks ds)) : dicAt S (.hdl n) = some (ks, ds) := by
  show (match S[n]? with
    | some (.dic ks ds) => some (ks, ds)
    | _ => none) = _
  rw [h]
theorem thaw_same {S T : Stt} {Q : QE} {d : D} (w : Wf S.length S) (b : bel S.length d = true) (q : Q d S) : ThawV S.length Q d (S ++ T) := by
  refine ⟨?_, d, .same b, ?_⟩
  · rw [hTake]; exact w
  · rw [hTake]; exact q
theorem pure_nI : ∀ ns : List Nat, pureL (ns.map nI) = true
  | [] => rfl
  | n :: r => by
    show (true && pureL (r.map nI)) = true
    rw [pure_nI r]
    rfl
theorem bel_nI {k : Nat} (ns : List Nat) : belL k (ns.map nI) = true := belL_pure _ (pure_nI ns)
theorem keys_D (ks : List Nat) : (ks.map keyN).map keyD = (ks.map fun k : Nat => (k : Int)).map D.int := by rw [List.map_map, List.map_map]; rfl
abbrev metC (ks : List Nat) : Cell := .dic (ks.map keyN) (ks.map fun _ => D.bl true)
def spMet : SpD := fun ds S Q _ => ∃ (v : Nat) (ls : List Nat), ds = [nI v, .lst (ls.map nI)] ∧ 1 ≤ v ∧ v ≤ 6 ∧ (∀ l ∈ ls, l < 2 ^ v) ∧ ∀ ms : List Nat, Good v ms → Q (.lst (ms.map nI)) S
theorem and_and_and {a b l : Nat} : (a &&& l) &&& (b &&& l) = (a &&& b) &&& l := by
  apply Nat.eq_of_testBit_eq
  intro i
  simp only [Nat.testBit_and]
  cases a.testBit i <;> cases b.testBit i <;> cases l.testBit i <;> rfl
theorem len__law_met : ∀ (ds : List D) (S : Stt) (Q : QE) (E : Str → Stt → Prop), spMet ds S Q E → ds.length = 2 := by intro ds S Q E h; delta spMet at h; (repeat obtain ⟨_, h⟩ := h); subst_vars; rfl
theorem ok__law_met (C : Ct) (T : Txt C) : Fn C CX0 (1 + 1) "_law_met" ["_law_v", "_law_lots"] [] spMet := by
  obtain ⟨fd, F⟩ := T.def_ 40 (d := d__law_met)
  have F__law_every := (ok__law_every C T).mono (show 1 ≤ 1 by omega)
  refine Fn.of F (T.glo "_law_met") (fun _ _ _ _ _ _ us hl => match us, hl with | [_, _], _ => rfl) (fnD F sc__law_met len__law_met (by decide) fun cdv A outer s H E hr => ⟨_,
    (dss_thaw (dss_cons (ds_set (i := 2) sc__law_met.nd rfl (by first | exact Or.inl rfl | exact Or.inr rfl) (de_disp1 (de_call F__law_every hr (by rfl) pass0 (da_cons (dv 0) da_nil)) de_bl))
      (dss_cons (ds_for PassesOwn.never rfl (di_seq (dv 1)) (dg_name (i := 3) sc__law_met.nd rfl (by first | exact Or.inl rfl | exact Or.inr rfl)) (dss_one (ds_for PassesOwn.never rfl (di_seq (de_listKeys rfl (T.free "list") (dv 2))) (dg_name (i := 4) sc__law_met.nd rfl (by first | exact Or.inl rfl | exact Or.inr rfl)) (dss_one (ds_asg de_bl (dg_setD (hu_of hr) (dv 2) (de_op op_and opd_I (dv 4) (dv 3))))))))
      (dss_one (ds_ret (de_cb cr_sortedI calld_sorted (by rfl) (T.free "sorted") (by decide +kernel) (da_cons (de_listKeys rfl (T.free "list") (dv 2)) da_nil))))))), fun ds S QD ED h => ?_⟩)
  obtain ⟨v, ls, rfl, h1, h6, hl, q⟩ := h
  intro wf
  refine ⟨v, rfl, by omega, keyN (2 ^ v - 1), rfl, ?_⟩
  refine ⟨fun r ρ S' => ∃ rs ks o3 o4, r = List.map nI rs ∧ ρ = [some (nI v), some (.lst (ls.map nI)), some (.hdl S.length), o3, o4] ∧ S' = S ++ [metC ks] ∧ MetP v ks ∧ Closed ks ∧ ∀ l ∈ rs, l < 2 ^ v,
    ⟨ls, [2 ^ v - 1], none, none, rfl, rfl, rfl, ⟨by simp, fun k hk => ?_, by simp⟩, fun a ha b hb => ?_, hl⟩, ?_, ?_⟩
  · rw [List.mem_singleton.mp hk]
    have := two_pos v
    omega
  · rw [List.mem_singleton.mp ha, List.mem_singleton.mp hb, Nat.and_self]
    simp
  · rintro x r ρ S' ⟨rs, ks0, o3, o4, e, rfl, rfl, hp, hc, hr⟩
    cases rs with
    | nil => cases e
    | cons l ys =>
      cases e
      have hl0 := hr l (List.mem_cons_self ..)
      refine ⟨_, _, dicAt_h hAt, ?_⟩
      refine ⟨fun r ρ S' => ∃ dn rs ks o4, ks0 = dn ++ rs ∧ r = (rs.map keyN).map keyD ∧ ρ = [some (nI v), some (.lst (ls.map nI)), some (.hdl S.length), some (nI l), o4] ∧ S' = S ++ [metC ks] ∧ MetP v ks ∧
        (∀ k ∈ ks0, k ∈ ks) ∧ (∀ k ∈ dn, k &&& l ∈ ks) ∧ ∀ k ∈ ks, k ∈ ks0 ∨ ∃ o ∈ ks0, k = o &&& l,
        ⟨[], ks0, ks0, o4, rfl, rfl, rfl, rfl, hp, fun _ h => h, by simp, fun _ h => .inl h⟩, ?_, ?_⟩
      · rintro x r ρ S' ⟨dn, rs, ks, o4, e0, e, rfl, rfl, hk, hsub, hdn, hall⟩
        cases rs with
        | nil => cases e
        | cons o os =>
          cases e
          have ho : o ∈ ks0 := by rw [e0]; simp
          refine ⟨S.length, keyN (o &&& l), _, _, rfl, ?_, hAt, ?_, fun hin => ?_, fun hout => ?_⟩
          · show some (Sum.inl (Builtin.bitAnd (o : Int) (l : Int))) = some (keyN (o &&& l))
            rw [and_nat]
            rfl
          · have := hk.len h6
            rw [List.length_map]
            omega
          · rw [hSet, repl_true]
            refine ⟨dn ++ [o], os, ks, some (nI o), by rw [e0]; simp, rfl, rfl, rfl, hk, hsub, fun k hk2 => ?_, hall⟩
            rcases List.mem_append.mp hk2 with z | z
            · exact hdn k z
            · rw [List.mem_singleton.mp z]; exact mem_keys.mp hin
          · rw [hSet]
            have hn : o &&& l ∉ ks := fun z => hout (mem_keys.mpr z)
            refine ⟨dn ++ [o], os, ks ++ [o &&& l], some (nI o), by rw [e0]; simp, rfl, rfl, ?_, ⟨?_, ?_, ?_⟩, ?_, ?_, ?_⟩
            · rw [show metC (ks ++ [o &&& l]) = .dic (ks.map keyN ++ [keyN (o &&& l)]) ((ks.map fun _ => D.bl true) ++ [.bl true]) by unfold metC; rw [List.map_append, List.map_append]; rfl]
            · rw [List.nodup_append]
              exact ⟨hk.nd, by simp, fun a ha b hb z => hn (by rw [List.mem_singleton.mp hb] at z; rw [← z]; exact ha)⟩
            · intro k hk2
              rcases List.mem_append.mp hk2 with z | z
              · exact hk.lt k z
              · rw [List.mem_singleton.mp z]; exact and_lt hl0
            · exact List.mem_append_left _ hk.top
            · exact fun k z => List.mem_append_left _ (hsub k z)
            · intro k hk2
              rcases List.mem_append.mp hk2 with z | z
              · exact List.mem_append_left _ (hdn k z)
              · rw [List.mem_singleton.mp z]; simp
            · intro k hk2
              rcases List.mem_append.mp hk2 with z | z
              · exact hall k z
              · exact .inr ⟨o, ho, List.mem_singleton.mp z⟩
      · rintro ρ S' ⟨dn, rs, ks, o4, e0, e, rfl, rfl, hk, hsub, hdn, hall⟩
        cases rs with
        | cons o os => cases e
        | nil =>
          rw [List.append_nil] at e0
          subst e0
          refine ⟨ys, ks, some (nI l), o4, rfl, rfl, rfl, hk, fun a ha b hb => ?_, fun z hz => hr z (List.mem_cons_of_mem _ hz)⟩
          rcases hall a ha with ha | ⟨x, hx, ea⟩
          · rcases hall b hb with hb | ⟨y, hy, eb⟩
            · exact hsub _ (hc a ha b hb)
            · rw [eb, ← Nat.and_assoc]; exact hdn _ (hc a ha y hy)
          · rcases hall b hb with hb | ⟨y, hy, eb⟩
            · rw [ea, Nat.and_assoc, Nat.and_comm l b, ← Nat.and_assoc]; exact hdn _ (hc x hx b hb)
            · rw [ea, eb, and_and_and]; exact hdn _ (hc x hx y hy)
  · rintro ρ S' ⟨rs, ks, o3, o4, e, rfl, rfl, hp, hc, hr⟩
    refine ⟨_, _, dicAt_h hAt, ?_⟩
    show rdSorted [.lst ((ks.map keyN).map keyD)] _ _
    rw [keys_D]
    show (match intsD ((ks.map fun k : Nat => (k : Int)).map D.int) with
      | some ns => ∀ ms : List Int, ms.Perm ns → ms.Pairwise (· ≤ ·) → ThawV S.length QD (.lst (ms.map D.int)) (S ++ [metC ks])
      | none => False)
    rw [intsD_map]
    intro ms hperm hsort
    obtain ⟨ns, e1, g⟩ := good_of h1 h6 hp hc hperm hsort
    rw [e1]
    exact thaw_same wf (bel_nI ns) (q ns g)
end TA
set_option Elab.async false
set_option linter.all false
set_option maxRecDepth 100000
set_option maxHeartbeats 4000000
namespace TA
open PySem PySem.Spec L2
open PyProof.Rows hiding St
/-! ## members, names, rows -/
theorem bel_hdl {k n : Nat} (h : n < k) : bel k (.hdl n) = true := decide_eq_true h
theorem d_shl (v : Nat) : D.int ((1 : Int) * 2 ^ ((v : Int)).toNat) = nI (2 ^ v) := by rw [shl1]
def spMembers : SpD := fun ds S Q _ => ∃ (v : Nat) (S2 : Stt), ds = [.hdl 0, nI v] ∧ S = .hand :: S2 ∧ 1 ≤ v ∧ v ≤ 6 ∧ ∀ ms : List Nat, Good v ms → Q (.lst (ms.map nI)) (.hand :: S2)
theorem lastN_get {ms : List Nat} (h : 0 < ms.length) : lastN ms = ms[ms.length - 1]'(by omega) := by
  unfold lastN
  rw [List.getElem?_eq_getElem (by omega)]
  rfl
theorem good_all {v : Nat} (h1 : 1 ≤ v) (h6 : v ≤ 6) : Good v (List.range' 0 (2 ^ v)) := by
  have tp := two_pos v
  refine ⟨h1, h6, fun z => ?_, fun m hm => ?_, ?_, ?_, fun a ha b hb => ?_⟩
  · have := congrArg List.length z
    rw [List.length_range'] at this
    simp at this
  · rw [List.mem_range'] at hm
    obtain ⟨i, hi, e⟩ := hm
    omega
  · exact List.pairwise_lt_range'
  · rw [lastN_get (by rw [List.length_range']; omega), List.getElem_range', List.length_range']
    omega
  · rw [List.mem_range'] at ha ⊢
    obtain ⟨i, hi, e⟩ := ha
    exact ⟨a &&& b, and_lt' (by omega), by omega⟩
theorem good_one {v : Nat} (h1 : 1 ≤ v) (h6 : v ≤ 6) : Good v [2 ^ v - 1] := by
  have tp := two_pos v
  refine ⟨h1, h6, by simp, fun m hm => ?_, by simp, rfl, fun a ha b hb => ?_⟩
  · rw [List.mem_singleton.mp hm]; omega
  · rw [List.mem_singleton.mp ha, List.mem_singleton.mp hb, Nat.and_self]; simp
theorem len__law_members : ∀ (ds : List D) (S : Stt) (Q : QE) (E : Str → Stt → Prop), spMembers ds S Q E → ds.length = 2 := by intro ds S Q E h; delta spMembers at h; (repeat obtain ⟨_, h⟩ := h); subst_vars; rfl
theorem ok__law_members (C : Ct) (T : Txt C) : Fn C CX0 (2 + 1) "_law_members" ["_law_hand_here", "_law_v"] [] spMembers := by
  obtain ⟨fd, F⟩ := T.def_ 41 (d := d__law_members)
  have F__law_every := (ok__law_every C T).mono (show 1 ≤ 2 by omega)
  have F__law_met := (ok__law_met C T).mono (show 2 ≤ 2 by omega)
  have F__law_take := (ok__law_take C T).mono (show 2 ≤ 2 by omega)
  refine Fn.of F (T.glo "_law_members") (fun _ _ _ _ _ _ us hl => match us, hl with | [_, _], _ => rfl) (fnD F sc__law_members len__law_members (by decide) fun cdv A outer s H E hr => ⟨_,
    (dss_thaw (dss_cons (ds_set (i := 2) sc__law_members.nd rfl (by first | exact Or.inl rfl | exact Or.inr rfl) (de_call F__law_take hr (by rfl) pass0 (da_cons (dv 0) (da_cons de_int da_nil))))
      (dss_cons (ds_if (dt_cmp op_eq opd_eq (dv 2) de_int (nomark _)) (dss_one (ds_ret (de_listRange rfl (T.free "list") (T.free "range") (de_op op_shl opd_IC de_int (dv 1))))) dss_nil)
      (dss_cons (ds_if (dt_cmp op_eq opd_eq (dv 2) de_int (nomark _)) (dss_one (ds_ret (de_lst (da_cons (de_call F__law_every hr (by rfl) pass0 (da_cons (dv 1) da_nil)) da_nil)))) dss_nil)
      (dss_blk (dsk_cons (ds_setLcH (i := 3) (own := [("_law_k", 4)]) (g := gName 4) (dg := gN 4) rfl sc__law_members.nd rfl rfl (sw_true rfl rfl rfl (by decide +kernel)) (di_rng1 (by rfl) (T.free "range") (da_cons (de_op op_add opd_I de_int (de_call F__law_take hr (by rfl) pass0 (da_cons (dv 0) (da_cons de_int da_nil)))) da_nil)) (blkOk_by (N := ["_law_hand_here", "_law_v", "_law_way", "_law_lots", "_law_k"]) (sc := defScope (topS 65)) (by decide +kernel)) (own_name (by decide)) (fun _ _ _ _ _ => pg_name (i := 4) sc__law_members.nd rfl (by first | exact Or.inl rfl | exact Or.inr rfl)) (fun _ _ _ _ _ => dts_nil) (fun _ _ _ _ _ => (de_call F__law_take hr (by rfl) pass0 (da_cons (dv 0) (da_cons (de_op op_shl opd_IC de_int (dv 1)) da_nil))))) (dsk_one (ds_if (dt_truth trud (de_call F__law_take hr (by rfl) pass0 (da_cons (dv 0) (da_cons de_int da_nil)))) (dss_one (ds_expr (de_append (dv 3) de_int))) dss_nil)))
      (dss_one (ds_ret (de_call F__law_met hr (by rfl) pass0 (da_cons (dv 1) (da_cons (dv 3) da_nil)))))))))), fun ds S QD ED h => ?_⟩)
  obtain ⟨v, S2, rfl, rfl, h1, h6, q⟩ := h
  intro wf
  have hb := p2_bound h6
  have fin : ∀ {T : Stt} (ms : List Nat), Good v ms → ThawV (Cell.hand :: S2).length QD (.lst (ms.map nI)) (.hand :: S2) := fun ms g => by
    have := thaw_same (S := .hand :: S2) (T := []) (Q := QD) (d := .lst (ms.map nI)) wf (bel_nI ms) (q ms g)
    rwa [List.append_nil] at this
  refine ⟨16, S2, rfl, by decide, by decide, rfl, fun way hw => ite2 (fun h => ?_) (fun h => ?_)⟩
  · refine ⟨cpow1 (by omega), 2 ^ v, d_shl v, by omega, ?_⟩
    have e : intsFrom 0 (2 ^ v) = (List.range' 0 (2 ^ v)).map nI := by
      have := ints0 (2 ^ v)
      rwa [Int.toNat_natCast] at this
    rw [e]
    exact fin (T := []) _ (good_all h1 h6)
  refine ite2 (fun h => ?_) (fun h => ?_)
  · exact ⟨v, rfl, by omega, by show 1 ≤ 100000; decide, fin (T := []) _ (good_one h1 h6)⟩
  intro wf2
  refine ⟨4, S2, rfl, by decide, by decide, rfl, fun r hr => ?_⟩
  have e : ((1 : Int) + (r : Int)) = ((1 + r : Nat) : Int) := by omega
  show _ ∧ _ ∧ _
  rw [e]
  refine lc_draw (fun x => x < 2 ^ v) (by omega) (fun j hj K hK => ⟨cpow1 (by omega), 2 ^ v, S2, args_shl v, two_pos v, by omega, rfl, fun b hb => hK b hb⟩) fun row hlen hlt => ?_
  have fin2 : ∀ (l2 : List Nat) (w o5 : Option D) (ho : ∀ d, w = some d → bel (Cell.hand :: S2).length d = true), (∀ x ∈ l2, x < 2 ^ v) → ThawN (Cell.hand :: S2).length
      (fun ρ S => dRet (dCall spMet [] (dCons (dVar 1) (dCons (dVar 3) dNil))) { nx := fun _ S => ThawV (Cell.hand :: S2).length QD .non S, rt := ThawV (Cell.hand :: S2).length QD } ρ S) [some (.hdl 0), some (nI v), w, some (.hdl (Cell.hand :: S2).length), o5] ((.hand :: S2) ++ [.lst (l2.map nI)]) := fun l2 w o5 ho hl => by
    refine ⟨by rw [hTake]; exact wf, [some (.hdl 0), some (nI v), w, some (.lst (l2.map nI)), none], .cons (.same (bel_hdl (Nat.succ_pos _))) (.cons (.same rfl) (.cons ?_ (.cons (.lst (Nat.le_refl _) hAt (bel_nI l2)) (.cons (by cases o5 <;> trivial) .nil)))), ?_⟩
    · cases w with
      | none => trivial
      | some d => exact .same (ho d rfl)
    · rw [hTake]
      exact ⟨v, l2, rfl, h1, h6, hl, fun ms g => fin (T := []) ms g⟩
  refine ⟨2, S2 ++ [Cell.lst (row.map nI)], rfl, by decide, by decide, rfl, fun t ht => ite2 (fun h => ?_) (fun h => ?_)⟩
  · refine ⟨(Cell.hand :: S2).length, _, rfl, hAt, _, hAt, by rw [List.length_map]; omega, ?_⟩
    have e2 : ((Cell.hand :: S2) ++ [Cell.lst (row.map nI)]).set (Cell.hand :: S2).length (Cell.lst (row.map nI ++ [nI 0])) = (Cell.hand :: S2) ++ [Cell.lst ((row ++ [0]).map nI)] := by rw [hSet, snoc_nI]
    have key := fin2 (row ++ [0]) (some (nI way)) none (fun d e => by cases e; rfl) (fun x hx => by
      rcases List.mem_append.mp hx with z | z
      · exact hlt x z
      · rw [List.mem_singleton.mp z]; exact two_pos v)
    rw [← e2] at key
    exact key
  · exact fin2 row (some (nI way)) none (fun d e => by cases e; rfl) hlt
/-! ### names -/
def pool : List Str := ["f", "g", "h", "ab", "zz", "go", "longname", "n", "nothings", "a", "again", "step", "grow", "either", "r", "s"]
theorem pool_nd : pool.Nodup := by decide
def spNamesL : SpD := fun ds S Q _ => ∃ (many : Nat) (S2 : Stt), ds = [.hdl 0, nI many] ∧ S = .hand :: S2 ∧ many ≤ 3 ∧ ∀ ns : List Str, ns.length = many → ns.Nodup → (∀ n ∈ ns, n ∈ pool) → Q (.lst (ns.map D.str)) (.hand :: S2)
theorem bel_str {k : Nat} (ns : List Str) : belL k (ns.map D.str) = true := belL_mem.mpr fun d hd => by
  obtain ⟨n, _, e⟩ := List.mem_map.mp hd
  rw [← e]; rfl
theorem hAt1 {c0 c : Cell} {S : Stt} : (c0 :: (S ++ [c]))[S.length + 1]? = some c := by
  rw [List.getElem?_cons_succ]; exact hAt
theorem hSet1 {c0 c c' : Cell} {S : Stt} : (c0 :: (S ++ [c])).set (S.length + 1) c' = c0 :: (S ++ [c']) := by
  rw [List.set_cons_succ, hSet]
theorem thaw_lst {S : Stt} {ds : List D} {Q : QE} (w : Wf S.length S) (b : belL S.length ds = true) (q : Q (.lst ds) S) : ThawV S.length Q (.hdl S.length) (S ++ [.lst ds]) := by
  refine ⟨?_, .lst ds, .lst (Nat.le_refl _) hAt b, ?_⟩
  · rw [hTake]; exact w
  · rw [hTake]; exact q
theorem thaw_dic {S : Stt} {ks : List Key} {ds : List D} {Q : QE} (w : Wf S.length S) (b : belL S.length ds = true) (q : Q (.dic ks ds) S) : ThawV S.length Q (.hdl S.length) (S ++ [.dic ks ds]) := by
  refine ⟨?_, .dic ks ds, .dic (Nat.le_refl _) hAt b, ?_⟩
  · rw [hTake]; exact w
  · rw [hTake]; exact q
theorem len__law_names : ∀ (ds : List D) (S : Stt) (Q : QE) (E : Str → Stt → Prop), spNamesL ds S Q E → ds.length = 2 := by intro ds S Q E h; delta spNamesL at h; (repeat obtain ⟨_, h⟩ := h); subst_vars; rfl
theorem ok__law_names (C : Ct) (T : Txt C) : Fn C CX0 (2 + 1) "_law_names" ["_law_hand_here", "_law_many"] [] spNamesL := by
  obtain ⟨fd, F⟩ := T.def_ 47 (d := d__law_names)
  have F__law_take := (ok__law_take C T).mono (show 2 ≤ 2 by omega)
  refine Fn.of F (T.glo "_law_names") (fun _ _ _ _ _ _ us hl => match us, hl with | [_, _], _ => rfl) (fnD F sc__law_names len__law_names (by decide) fun cdv A outer s H E hr => ⟨_,
    (dss_thaw (dss_cons (ds_set (i := 2) sc__law_names.nd rfl (by first | exact Or.inl rfl | exact Or.inr rfl) (de_lst (da_cons de_str (da_cons de_str (da_cons de_str (da_cons de_str (da_cons de_str (da_cons de_str (da_cons de_str (da_cons de_str (da_cons de_str (da_cons de_str (da_cons de_str (da_cons de_str (da_cons de_str (da_cons de_str (da_cons de_str (da_cons de_str da_nil))))))))))))))))))
      (dss_cons (ds_set (i := 3) sc__law_names.nd rfl (by first | exact Or.inl rfl | exact Or.inr rfl) (de_lstH da_nil))
      (dss_cons (ds_for PassesOwn.never rfl (di_rng1 (by rfl) (T.free "range") (da_cons (dv 1) da_nil)) (dg_name (i := 4) sc__law_names.nd rfl (by first | exact Or.inl rfl | exact Or.inr rfl)) (dss_cons (ds_set (i := 5) sc__law_names.nd rfl (by first | exact Or.inl rfl | exact Or.inr rfl) (de_call F__law_take hr (by rfl) pass0 (da_cons (dv 0) (da_cons (de_cb call_len calld_len (by rfl) (T.free "len") (by decide +kernel) (da_cons (dv 2) da_nil)) da_nil))))
      (dss_cons (ds_expr (de_append (dv 3) (de_ix ix_seq opd_ix (dv 2) (dv 5) (fun _ _ => rfl))))
      (dss_one (ds_set (i := 2) sc__law_names.nd rfl (by first | exact Or.inl rfl | exact Or.inr rfl) (de_op op_cat opd_catL (de_slice sl_list sld_list (dv 2) do_none (do_some (dv 5))) (de_slice sl_list sld_list (dv 2) (do_some (de_op op_add opd_I (dv 5) de_int)) do_none)))))))
      (dss_one (ds_ret (dv 3))))))), fun ds S QD ED h => ?_⟩)
  obtain ⟨many, S2, rfl, rfl, hm, q⟩ := h
  intro wf
  refine ⟨by show 16 ≤ 100000; decide, by decide, by omega, by omega, ?_⟩
  rw [ints0]
  refine ⟨fun r ρ S' => ∃ k P ns o4 o5, k ≤ many ∧ r = (List.range' k (many - k)).map nI ∧ ρ = [some (.hdl 0), some (nI many), some (.lst (P.map D.str)), some (.hdl (S2.length + 1)), o4, o5] ∧ S' = .hand :: (S2 ++ [.lst (ns.map D.str)]) ∧
    P.Nodup ∧ (∀ p ∈ P, p ∈ pool) ∧ P.length = 16 - k ∧ ns.length = k ∧ ns.Nodup ∧ (∀ n ∈ ns, n ∈ pool) ∧ ∀ n ∈ ns, n ∉ P, ⟨0, pool, [], none, none, by omega, by simp, rfl, rfl, pool_nd, fun _ h => h, rfl, rfl, by simp, by simp, by simp⟩, ?_, ?_⟩
  · rintro x r ρ S' ⟨k, P, ns, o4, o5, hk, e, rfl, rfl, pd, pp, pl, nl, nd, np, nx⟩
    obtain ⟨h1, rfl, rfl⟩ := rng_cases hk e
    refine ⟨P.length, S2 ++ [.lst (ns.map D.str)], by show [D.hdl 0, D.int (((P.map D.str).length : Nat) : Int)] = _; rw [List.length_map], by omega, by omega, rfl, fun r hr => ?_⟩
    have hP : P[r] ∈ P := List.getElem_mem hr
    refine ⟨S2.length + 1, _, rfl, hAt1, ?_⟩
    conv => whnf
    rw [show ixD (P.map D.str) (r : Int) = some (.str P[r]) by rw [ixD_nat, List.getElem?_map, List.getElem?_eq_getElem hr]; rfl]
    refine ⟨_, hAt1, by rw [List.length_map]; omega, ?_⟩
    rw [hSet1]
    have ee : (r : Int) + 1 = ((r + 1 : Nat) : Int) := by omega
    show (cutD (P.map D.str) none (some (r : Int))).length + (cutD (P.map D.str) (some ((r : Int) + 1)) none).length ≤ _ ∧ _
    rw [cut_to, ee, cut_from]
    refine ⟨by rw [List.length_take, List.length_drop, List.length_map]; omega, ?_⟩
    have eP : (P.map D.str).take r ++ (P.map D.str).drop (r + 1) = (P.eraseIdx r).map D.str := by
      rw [List.eraseIdx_eq_take_drop_succ, List.map_append, List.map_take, List.map_drop]
    refine ⟨k + 1, P.eraseIdx r, ns ++ [P[r]], some (nI k), some (nI r), h1, rfl, ?_, ?_, ?_, ?_, ?_, ?_, ?_, ?_, ?_⟩
    · show [_, _, some (D.lst ((P.map D.str).take r ++ (P.map D.str).drop (r + 1))), _, _, _] = _
      rw [eP]
    · rw [List.map_append]; rfl
    · exact pd.sublist (List.eraseIdx_sublist _ _)
    · exact fun p hp => pp p (List.mem_of_mem_eraseIdx hp)
    · rw [List.length_eraseIdx, if_pos hr]; omega
    · rw [List.length_append, nl]; rfl
    · rw [List.nodup_append]
      exact ⟨nd, by simp, fun a ha b hb z => nx a ha (by rw [z, List.mem_singleton.mp hb]; exact hP)⟩
    · intro n hn
      rcases List.mem_append.mp hn with z | z
      · exact np n z
      · rw [List.mem_singleton.mp z]; exact pp _ hP
    · intro n hn hin
      rcases List.mem_append.mp hn with z | z
      · exact nx n z (List.mem_of_mem_eraseIdx hin)
      · rw [List.mem_singleton.mp z] at hin
        obtain ⟨j, hj, e3⟩ := List.mem_iff_getElem.mp hin
        have hj2 : j < P.length := by rw [List.length_eraseIdx, if_pos hr] at hj; omega
        rw [List.getElem_eraseIdx] at e3
        have hj3 : j + 1 < P.length := by rw [List.length_eraseIdx, if_pos hr] at hj; omega
        split at e3
        · exact absurd ((List.getElem_inj pd).mp e3) (by omega)
        · exact absurd ((List.getElem_inj pd).mp e3) (by omega)
  · rintro ρ S' ⟨k, P, ns, o4, o5, hk, e, rfl, rfl, pd, pp, pl, nl, nd, np, nx⟩
    have := rng_end hk e
    subst this
    exact thaw_lst (S := .hand :: S2) wf (bel_str ns) (q ns nl nd np)
end TA
set_option Elab.async false
set_option linter.all false
set_option maxRecDepth 100000
set_option maxHeartbeats 4000000
namespace TA
open PySem PySem.Spec L2
open PyProof.Rows hiding St
/-! ## the steps' entries -/
abbrev Ent := Str × List Nat
abbrev rowL (e : Ent) : D := .lst (e.2.map nI)
abbrev entD (e : Ent) : D := .tup [.str e.1, rowL e]
abbrev keyE (e : Ent) : Key := .inr e.1
theorem bel_rows {k : Nat} (es : List Ent) : belL k (es.map rowL) = true := belL_mem.mpr fun d hd => by
  obtain ⟨n, _, e⟩ := List.mem_map.mp hd
  rw [← e]; exact bel_nI _
def spRowsOf : SpD := fun ds S Q _ => ∃ es : List Ent, ds = [.lst (es.map entD)] ∧ es.length ≤ 1000 ∧ (es.map (·.1)).Nodup ∧ Q (.dic (es.map keyE) (es.map rowL)) S
theorem len__law_rows_of : ∀ (ds : List D) (S : Stt) (Q : QE) (E : Str → Stt → Prop), spRowsOf ds S Q E → ds.length = 1 := by intro ds S Q E h; delta spRowsOf at h; (repeat obtain ⟨_, h⟩ := h); subst_vars; rfl
theorem ok__law_rows_of (C : Ct) (T : Txt C) : Fn C CX0 (0 + 1) "_law_rows_of" ["_law_entries"] [] spRowsOf := by
  obtain ⟨fd, F⟩ := T.def_ 48 (d := d__law_rows_of)
  refine Fn.of F (T.glo "_law_rows_of") (fun _ _ _ _ _ _ us hl => match us, hl with | [_], _ => rfl) (fnD F sc__law_rows_of len__law_rows_of (by decide) fun cdv A outer s H E hr => ⟨_,
    (dss_thaw (dss_cons (ds_set (i := 1) sc__law_rows_of.nd rfl (by first | exact Or.inl rfl | exact Or.inr rfl) de_dicH)
      (dss_cons (ds_for PassesOwn.never rfl (di_seq (dv 0)) (dg_tup (n := 2) rfl (dgs_cons (dg_name (i := 2) sc__law_rows_of.nd rfl (by first | exact Or.inl rfl | exact Or.inr rfl)) (dgs_cons (dg_name (i := 3) sc__law_rows_of.nd rfl (by first | exact Or.inl rfl | exact Or.inr rfl)) dgs_nil))) (dss_one (ds_asg (dv 3) (dg_setD (hu_of hr) (dv 1) (dv 2)))))
      (dss_one (ds_ret (dv 1)))))), fun ds S QD ED h => ?_⟩)
  obtain ⟨es, rfl, hl, nd, q⟩ := h
  intro wf
  refine ⟨fun r ρ S' => ∃ dn rs o2 o3, es = dn ++ rs ∧ r = List.map entD rs ∧ ρ = [some (.lst (es.map entD)), some (.hdl S.length), o2, o3] ∧ S' = S ++ [.dic (dn.map keyE) (dn.map rowL)], ⟨[], es, none, none, rfl, rfl, rfl, rfl⟩, ?_, ?_⟩
  · rintro x r ρ S' ⟨dn, rs, o2, o3, e0, e, rfl, rfl⟩
    cases rs with
    | nil => cases e
    | cons y ys =>
      cases e
      refine ⟨rfl, S.length, keyE y, _, _, rfl, rfl, hAt, ?_, fun hin => ?_, fun hout => ?_⟩
      · rw [List.length_map]
        rw [e0, List.length_append] at hl
        omega
      · obtain ⟨z, hz, ez⟩ := List.mem_map.mp hin
        have ez : z.1 = y.1 := Sum.inr.inj ez
        rw [e0, List.map_append, List.map_cons, List.nodup_append] at nd
        exact absurd ez (nd.2.2 z.1 (List.mem_map_of_mem hz) y.1 (List.mem_cons_self ..))
      · rw [hSet]
        exact ⟨dn ++ [y], ys, some (.str y.1), some (rowL y), by rw [e0]; simp, rfl, rfl, by rw [List.map_append, List.map_append]; rfl⟩
  · rintro ρ S' ⟨dn, rs, o2, o3, e0, e, rfl, rfl⟩
    cases rs with
    | cons y ys => cases e
    | nil =>
      rw [List.append_nil] at e0
      subst e0
      exact thaw_dic wf (bel_rows es) q
def spList : SpD := fun ds S Q _ => ∃ x items S2, ds = [.hdl 0, x] ∧ S = .hand :: S2 ∧ seqD S x = some items ∧ Q (.lst items) S ∧ Q (.tup items) S
theorem len__law_list : ∀ (ds : List D) (S : Stt) (Q : QE) (E : Str → Stt → Prop), spList ds S Q E → ds.length = 2 := by intro ds S Q E h; delta spList at h; (repeat obtain ⟨_, h⟩ := h); subst_vars; rfl
theorem ok__law_list (C : Ct) (T : Txt C) : Fn C CX0 (2 + 1) "_law_list" ["_law_hand_here", "_law_items"] [] spList := by
  obtain ⟨fd, F⟩ := T.def_ 51 (d := d__law_list)
  have F__law_take := (ok__law_take C T).mono (show 2 ≤ 2 by omega)
  refine Fn.of F (T.glo "_law_list") (fun _ _ _ _ _ _ us hl => match us, hl with | [_, _], _ => rfl) (fnD F sc__law_list len__law_list (by decide) fun cdv A outer s H E hr => ⟨_,
    (dss_one (ds_ret (de_ifE (dt_truth trud (de_call F__law_take hr (by rfl) pass0 (da_cons (dv 0) (da_cons de_int da_nil)))) (de_cty call_list_of calld_list (by rfl) (T.free "list") (by decide +kernel) (da_cons (dv 1) da_nil)) (de_cty call_tuple_of calld_tuple (by rfl) (T.free "tuple") (by decide +kernel) (da_cons (dv 1) da_nil))))), fun ds S QD ED h => ?_⟩)
  obtain ⟨x, items, S2, rfl, rfl, hs, q1, q2⟩ := h
  refine ⟨2, S2, rfl, by decide, by decide, rfl, fun t ht => ite2 (fun h => ?_) (fun h => ?_)⟩
  · conv => whnf
    rw [hs]
    exact q1
  · conv => whnf
    rw [hs]
    exact q2
/-! ## programs -/
inductive Prog where
  | nothing
  | step (n : Str)
  | behind (p q : Prog)
  | either (p q : Prog)
  | again (p : Prog)
def progD : Prog → D
  | .nothing => .tup [.str "nothing"]
  | .step n => .tup [.str "step", .str n]
  | .behind p q => .tup [.str "behind", progD p, progD q]
  | .either p q => .tup [.str "either", progD p, progD q]
  | .again p => .tup [.str "again", progD p]
theorem prog_pure : ∀ p : Prog, pureD (progD p) = true
  | .nothing => rfl
  | .step n => rfl
  | .behind p q => by
    show (true && (pureD (progD p) && (pureD (progD q) && true))) = true
    rw [prog_pure p, prog_pure q]; rfl
  | .either p q => by
    show (true && (pureD (progD p) && (pureD (progD q) && true))) = true
    rw [prog_pure p, prog_pure q]; rfl
  | .again p => by
    show (true && (pureD (progD p) && true)) = true
    rw [prog_pure p]; rfl
/-- drawn with these leaves and agains -/
def Drawn (ns : List Str) : Prog → Nat → Nat → Prop
  | .nothing, L, _ => L = 1
  | .step n, L, _ => L = 1 ∧ n ∈ ns
  | .behind p q, L, d => ∃ l, 1 ≤ l ∧ l < L ∧ Drawn ns p l d ∧ Drawn ns q (L - l) d
  | .either p q, L, d => ∃ l, 1 ≤ l ∧ l < L ∧ Drawn ns p l d ∧ Drawn ns q (L - l) d
  | .again p, L, d => 1 ≤ d ∧ Drawn ns p L (d - 1)
theorem and_ite {c1 c2 : Bool} {A B : Prop} (ha : c1 = true → c2 = true → A) (hb : ¬ (c1 = true ∧ c2 = true) → B) : (if c1 = true then (if c2 = true then A else B) else (if false = true then A else B)) := by
  cases c1 with
  | false => exact hb (fun z => Bool.false_ne_true z.1)
  | true => cases c2 with
    | false => exact hb (fun z => Bool.false_ne_true z.2)
    | true => exact ha rfl rfl
def spProgram (f : Nat) : SpD := fun ds S Q _ => ∃ (ns : List Str) (L d : Nat) (S2 : Stt), ds = [.hdl 0, .lst (ns.map D.str), nI L, nI d] ∧ S = .hand :: S2 ∧ 1 ≤ L ∧ L + d ≤ f ∧ L + d ≤ 1000 ∧ ns ≠ [] ∧ ns.length ≤ 1000 ∧ ∀ p, Drawn ns p L d → Q (progD p) (.hand :: S2)
theorem none__law_program (C : Ct) (T : Txt C) : Fn C CX0 1 "_law_program" ["_law_hand_here", "_law_names_here", "_law_leaves", "_law_deep"] [] (fun _ _ _ _ => False) := by
  obtain ⟨fd, F⟩ := T.def_ 49 (d := d__law_program)
  exact Fn.of F (T.glo "_law_program") (fun _ _ _ _ _ _ us hl => match us, hl with | [_, _, _, _], _ => rfl) (fnD F sc__law_program (fun _ _ _ _ h => h.elim) (by decide) fun cdv A outer s H E hr => ⟨_, dss_never, fun _ _ _ _ h => h.elim⟩)
theorem len__law_program : ∀ (ds : List D) (S : Stt) (Q : QE) (E : Str → Stt → Prop), (spProgram (f + 1)) ds S Q E → ds.length = 4 := by intro ds S Q E h; delta spProgram at h; (repeat obtain ⟨_, h⟩ := h); subst_vars; rfl
theorem step__law_program (C : Ct) (T : Txt C) (f : Nat) (F__law_program : Fn C CX0 (f + 3) "_law_program" ["_law_hand_here", "_law_names_here", "_law_leaves", "_law_deep"] [] (spProgram f)) : Fn C CX0 ((f + 3) + 1) "_law_program" ["_law_hand_here", "_law_names_here", "_law_leaves", "_law_deep"] [] (spProgram (f + 1)) := by
  obtain ⟨fd, F⟩ := T.def_ 49 (d := d__law_program)
  have F__law_take := (ok__law_take C T).mono (show 2 ≤ (f + 3) by omega)
  refine Fn.of F (T.glo "_law_program") (fun _ _ _ _ _ _ us hl => match us, hl with | [_, _, _, _], _ => rfl) (fnD F sc__law_program len__law_program (by decide) fun cdv A outer s H E hr => ⟨_,
    (dss_cons (ds_set (i := 4) sc__law_program.nd rfl (by first | exact Or.inl rfl | exact Or.inr rfl) (de_call F__law_take hr (by rfl) pass0 (da_cons (dv 0) (da_cons de_int da_nil))))
      (dss_cons (ds_if (dt_bop (dw_and (dt_cmp op_gt opd_B (dv 3) de_int (nomark _)) (dw_and1 (dt_cmp op_lt opd_B (dv 4) de_int (nomark _))))) (dss_one (ds_ret (de_tup (da_cons de_str (da_cons (de_call F__law_program hr (by rfl) pass0 (da_cons (dv 0) (da_cons (dv 1) (da_cons (dv 2) (da_cons (de_op op_sub opd_I (dv 3) de_int) da_nil))))) da_nil))))) dss_nil)
      (dss_cons (ds_if (dt_cmp op_lt opd_B (dv 2) de_int (nomark _)) (dss_cons (ds_if (dt_bop (dw_and (dt_cmp op_eq opd_eq (dv 4) de_int (nomark _)) (dw_and1 (dt_cmp op_eq opd_eq (de_call F__law_take hr (by rfl) pass0 (da_cons (dv 0) (da_cons de_int da_nil))) de_int (nomark _))))) (dss_one (ds_ret (de_tup (da_cons de_str da_nil)))) dss_nil)
      (dss_one (ds_ret (de_tup (da_cons de_str (da_cons (de_ix ix_seq opd_ix (dv 1) (de_call F__law_take hr (by rfl) pass0 (da_cons (dv 0) (da_cons (de_cb call_len calld_len (by rfl) (T.free "len") (by decide +kernel) (da_cons (dv 1) da_nil)) da_nil))) (fun _ _ => rfl)) da_nil)))))) dss_nil)
      (dss_cons (ds_set (i := 5) sc__law_program.nd rfl (by first | exact Or.inl rfl | exact Or.inr rfl) (de_op op_add opd_I de_int (de_call F__law_take hr (by rfl) pass0 (da_cons (dv 0) (da_cons (de_op op_sub opd_I (dv 2) de_int) da_nil)))))
      (dss_cons (ds_set (i := 6) sc__law_program.nd rfl (by first | exact Or.inl rfl | exact Or.inr rfl) (de_ifE (dt_cmp op_lt opd_B (dv 4) de_int (nomark _)) de_str de_str))
      (dss_cons (ds_set (i := 7) sc__law_program.nd rfl (by first | exact Or.inl rfl | exact Or.inr rfl) (de_call F__law_program hr (by rfl) pass0 (da_cons (dv 0) (da_cons (dv 1) (da_cons (dv 5) (da_cons (dv 3) da_nil))))))
      (dss_one (ds_ret (de_tup (da_cons (dv 6) (da_cons (dv 7) (da_cons (de_call F__law_program hr (by rfl) pass0 (da_cons (dv 0) (da_cons (dv 1) (da_cons (de_op op_sub opd_I (dv 2) (dv 5)) (da_cons (dv 3) da_nil))))) da_nil)))))))))))), fun ds S QD ED h => ?_⟩)
  obtain ⟨ns, L, d, S2, rfl, rfl, hL, hf, hk, hne, hnl, q⟩ := h
  have hn0 : 0 < ns.length := List.length_pos_iff.mpr hne
  refine ⟨8, S2, rfl, by decide, by decide, rfl, fun way hw => ?_⟩
  refine and_ite (fun h1 h2 => ?_) (fun h12 => ?_)
  · have hd : (0 : Int) < (d : Int) := of_decide_eq_true h1
    refine ⟨ns, L, d - 1, S2, ?_, rfl, hL, by omega, by omega, hne, hnl, fun p hp => ⟨by show 2 ≤ 100000; decide, q (.again p) ⟨by omega, hp⟩⟩⟩
    show [D.hdl 0, D.lst (ns.map D.str), nI L, D.int ((d : Int) - 1)] = _
    rw [show (d : Int) - 1 = ((d - 1 : Nat) : Int) by omega]
  refine ite2 (fun h3 => ?_) (fun h3 => ?_)
  · have hL1 : L = 1 := by
      have : (L : Int) < 2 := of_decide_eq_true h3
      omega
    subst hL1
    have leaf : ∀ (ρ : Rho), gt ρ 0 = some (.hdl 0) → gt ρ 1 = some (.lst (ns.map D.str)) → (dRet (dTup (dCons (dC (.str "step")) (dCons (dOp rdIx (dVar 1) (dCall spTake [] (dCons (dVar 0) (dCons (dCB rdLen (dCons (dVar 1) dNil)) dNil)))) dNil)))) (endsD QD) ρ (.hand :: S2) := fun ρ e0 e1 => by
      show (match gt ρ 1 with
        | some d => _
        | none => False)
      rw [e1]
      show (match gt ρ 0 with
        | some d => _
        | none => False)
      rw [e0]
      show (match gt ρ 1 with
        | some d => _
        | none => False)
      rw [e1]
      refine ⟨ns.length, S2, by show [D.hdl 0, D.int (((ns.map D.str).length : Nat) : Int)] = _; rw [List.length_map], hn0, by omega, rfl, fun r hr => ?_⟩
      conv => whnf
      rw [show ixD (ns.map D.str) (r : Int) = some (.str ns[r]) by rw [ixD_nat, List.getElem?_map, List.getElem?_eq_getElem hr]; rfl]
      exact ⟨by show 2 ≤ 100000; decide, q (.step ns[r]) ⟨rfl, List.getElem_mem hr⟩⟩
    refine ite2 (fun h4 => ?_) (fun h4 => ?_)
    · refine ⟨3, S2, rfl, by decide, by decide, rfl, fun r hr => ite2 (fun h5 => ?_) (fun h5 => ?_)⟩
      · exact ⟨by show 1 ≤ 100000; decide, q .nothing rfl⟩
      · exact leaf [some (.hdl 0), some (.lst (ns.map D.str)), some (nI 1), some (nI d), some (nI way), none, none, none] rfl rfl
    · exact leaf [some (.hdl 0), some (.lst (ns.map D.str)), some (nI 1), some (nI d), some (nI way), none, none, none] rfl rfl
  · have hL2 : ¬ (L : Int) < 2 := fun z => h3 (decide_eq_true z)
    refine ⟨L - 1, S2, ?_, by omega, by omega, rfl, fun l hl => ?_⟩
    · show [D.hdl 0, D.int ((L : Int) - 1)] = _
      rw [show (L : Int) - 1 = ((L - 1 : Nat) : Int) by omega]
    have two : ∀ (mk : Prog → Prog → Prog) (w : Str) (o7 : Option D), (∀ p q, progD (mk p q) = .tup [.str w, progD p, progD q]) → (∀ p q, Drawn ns (mk p q) L d ↔ ∃ l, 1 ≤ l ∧ l < L ∧ Drawn ns p l d ∧ Drawn ns q (L - l) d) →
        (dSeq (dAsg (dCall (spProgram f) [] (dCons (dVar 0) (dCons (dVar 1) (dCons (dVar 5) (dCons (dVar 3) dNil))))) (gN 7))
          (dRet (dTup (dCons (dVar 6) (dCons (dVar 7) (dCons (dCall (spProgram f) [] (dCons (dVar 0) (dCons (dVar 1) (dCons (dOp (rdI HSub.hSub) (dVar 2) (dVar 5)) (dCons (dVar 3) dNil))))) dNil)))))) (endsD QD)
          [some (.hdl 0), some (.lst (ns.map D.str)), some (nI L), some (nI d), some (nI way), some (nI (1 + l)), some (.str w), o7] (.hand :: S2) := fun mk w o7 e1 e2 => by
      refine ⟨ns, 1 + l, d, S2, rfl, rfl, by omega, by omega, by omega, hne, hnl, fun p hp => ?_⟩
      refine ⟨ns, L - (1 + l), d, S2, ?_, rfl, by omega, by omega, by omega, hne, hnl, fun p2 hp2 => ⟨by show 3 ≤ 100000; decide, ?_⟩⟩
      · show [D.hdl 0, D.lst (ns.map D.str), D.int ((L : Int) - ((1 + l : Nat) : Int)), nI d] = _
        rw [show (L : Int) - ((1 + l : Nat) : Int) = ((L - (1 + l) : Nat) : Int) by omega]
      · rw [← e1]
        exact q _ ((e2 p p2).mpr ⟨1 + l, by omega, by omega, hp, hp2⟩)
    have el : ((1 : Int) + (l : Int)) = ((1 + l : Nat) : Int) := by omega
    refine ite2 (fun h5 => ?_) (fun h5 => ?_)
    · have := two .behind "behind" none (fun _ _ => rfl) (fun _ _ => Iff.rfl)
      show (dSeq _ _) (endsD QD) [_, _, _, _, _, some (D.int ((1 : Int) + (l : Int))), _, _] _
      rw [el]
      exact this
    · have := two .either "either" none (fun _ _ => rfl) (fun _ _ => Iff.rfl)
      show (dSeq _ _) (endsD QD) [_, _, _, _, _, some (D.int ((1 : Int) + (l : Int))), _, _] _
      rw [el]
      exact this
theorem program_all (C : Ct) (T : Txt C) : ∀ f, Fn C CX0 (f + 3) "_law_program" ["_law_hand_here", "_law_names_here", "_law_leaves", "_law_deep"] [] (spProgram f)
  | 0 => ((none__law_program C T).mono (by omega)).imp fun ds S Q E ⟨ns, L, d, S2, _, _, h1, h2, _⟩ => by omega
  | f + 1 => step__law_program C T f (program_all C T f)
theorem ok__law_program (C : Ct) (T : Txt C) : Fn C CX0 9 "_law_program" ["_law_hand_here", "_law_names_here", "_law_leaves", "_law_deep"] [] (spProgram 6) := program_all C T 6
end TA
set_option Elab.async false
set_option linter.all false
set_option maxRecDepth 100000
set_option maxHeartbeats 4000000
namespace TA
open PySem PySem.Spec L2
open PyProof.Rows hiding St
/-! ## a run -/
def rowOf : List Ent → Str → List Nat
  | [], _ => []
  | e :: es, n => if e.1 = n then e.2 else rowOf es n
abbrev rowsD (es : List Ent) : D := .dic (es.map keyE) (es.map rowL)
theorem look_row {n : Str} : ∀ {es : List Ent}, n ∈ es.map (·.1) → lookK (.inr n) (es.map keyE) (es.map rowL) = some (.lst ((rowOf es n).map nI))
  | [], h => by cases h
  | e :: es, h => by
    show (if keyE e = .inr n then some (rowL e) else lookK (.inr n) (es.map keyE) (es.map rowL)) = _
    by_cases q : e.1 = n
    · rw [if_pos (show keyE e = .inr n by rw [← q])]
      unfold rowOf
      rw [if_pos q]
    · rw [if_neg (fun z => q (Sum.inr.inj z))]
      unfold rowOf
      rw [if_neg q]
      refine look_row ?_
      rcases List.mem_cons.mp h with z | z
      · exact absurd z.symm q
      · exact z
theorem look_none {n : Str} : ∀ {es : List Ent}, n ∉ es.map (·.1) → lookK (.inr n) (es.map keyE) (es.map rowL) = none
  | [], _ => rfl
  | e :: es, h => by
    show (if keyE e = .inr n then some (rowL e) else lookK (.inr n) (es.map keyE) (es.map rowL)) = _
    rw [if_neg (fun z => h (by rw [← Sum.inr.inj z]; exact List.mem_cons_self ..))]
    exact look_none fun z => h (List.mem_cons_of_mem _ z)
/-- the world's steps -/
structure Ents (v : Nat) (es : List Ent) : Prop where
  ne : es ≠ []
  few : es.length ≤ 3
  nd : (es.map (·.1)).Nodup
  pl : ∀ e ∈ es, e.1 ∈ pool
  ok : ∀ e ∈ es, RowOk v e.2
theorem row_ok {v : Nat} {n : Str} : ∀ {es : List Ent}, (∀ e ∈ es, RowOk v e.2) → n ∈ es.map (·.1) → RowOk v (rowOf es n)
  | [], _, h => by cases h
  | e :: es, ok, h => by
    unfold rowOf
    by_cases q : e.1 = n
    · rw [if_pos q]; exact ok e (List.mem_cons_self ..)
    · rw [if_neg q]
      refine row_ok (fun x hx => ok x (List.mem_cons_of_mem _ hx)) ?_
      rcases List.mem_cons.mp h with z | z
      · exact absurd z.symm q
      · exact z
/-- the steps of a program are among these -/
def StepsIn (ns : List Str) : Prog → Prop
  | .nothing => True
  | .step n => n ∈ ns
  | .behind p q => StepsIn ns p ∧ StepsIn ns q
  | .either p q => StepsIn ns p ∧ StepsIn ns q
  | .again p => StepsIn ns p
def ht : Prog → Nat
  | .nothing => 1
  | .step _ => 1
  | .behind p q => max (ht p) (ht q) + 1
  | .either p q => max (ht p) (ht q) + 1
  | .again p => ht p + 1
def cnt : Prog → Nat
  | .nothing => 0
  | .step _ => 1
  | .behind p q => cnt p + cnt q
  | .either p q => cnt p + cnt q
  | .again p => 8 * cnt p
def MetT (v : Nat) (x : D) : Prop := ∃ (path : List Nat) (n : Str) (l : Nat), x = .tup [.tup (path.map nI), .str n, nI l] ∧ l < 2 ^ v
def spRun (f : Nat) : SpD := fun ds S Q _ => ∃ (v : Nat) (es : List Ent) (p : Prog) (lot : Nat) (path : List Nat) (n : Nat) (ls : List D), ds = [rowsD es, progD p, nI lot, .tup (path.map nI), .hdl n] ∧ v ≤ 6 ∧ (∀ e ∈ es, RowOk v e.2) ∧ StepsIn (es.map (·.1)) p ∧ ht p ≤ f ∧
  lot < 2 ^ v ∧ path.length + f ≤ 1000 ∧ S[n]? = some (.lst ls) ∧ ls.length + cnt p ≤ 90000 ∧ ∀ (lot' : Nat) (more : List D), lot' < 2 ^ v → more.length ≤ cnt p → (∀ x ∈ more, MetT v x) → Q (nI lot') (S.set n (.lst (ls ++ more)))
theorem or_test {a b : Nat} : decide (Builtin.bitOr (a : Int) (b : Int) = (a : Int)) = decide (a ||| b = a) := by
  rw [or_nat, nat_dec]
theorem get_set {S : Stt} {n : Nat} {ls ls' : List D} (h : S[n]? = some (.lst ls)) : (S.set n (.lst ls'))[n]? = some (.lst ls') := List.getElem?_set_self (List.getElem?_eq_some_iff.mp h).1
theorem none__law_run (C : Ct) (T : Txt C) : Fn C CX0 1 "_law_run" ["_law_rows", "_law_program_here", "_law_lot_here", "_law_path", "_law_out"] [] (fun _ _ _ _ => False) := by
  obtain ⟨fd, F⟩ := T.def_ 50 (d := d__law_run)
  exact Fn.of F (T.glo "_law_run") (fun _ _ _ _ _ _ us hl => match us, hl with | [_, _, _, _, _], _ => rfl) (fnD F sc__law_run (fun _ _ _ _ h => h.elim) (by decide) fun cdv A outer s H E hr => ⟨_, dss_never, fun _ _ _ _ h => h.elim⟩)
theorem len__law_run : ∀ (ds : List D) (S : Stt) (Q : QE) (E : Str → Stt → Prop), (spRun (f + 1)) ds S Q E → ds.length = 5 := by intro ds S Q E h; delta spRun at h; (repeat obtain ⟨_, h⟩ := h); subst_vars; rfl
theorem step__law_run (C : Ct) (T : Txt C) (f : Nat) (F__law_run : Fn C CX0 (f + 2) "_law_run" ["_law_rows", "_law_program_here", "_law_lot_here", "_law_path", "_law_out"] [] (spRun f)) : Fn C CX0 ((f + 2) + 1) "_law_run" ["_law_rows", "_law_program_here", "_law_lot_here", "_law_path", "_law_out"] [] (spRun (f + 1)) := by
  obtain ⟨fd, F⟩ := T.def_ 50 (d := d__law_run)
  have F__law_next := (ok__law_next C T).mono (show 1 ≤ (f + 2) by omega)
  refine Fn.of F (T.glo "_law_run") (fun _ _ _ _ _ _ us hl => match us, hl with | [_, _, _, _, _], _ => rfl) (fnD F sc__law_run len__law_run (by decide) fun cdv A outer s H E hr => ⟨_,
    (dss_cons (ds_set (i := 5) sc__law_run.nd rfl (by first | exact Or.inl rfl | exact Or.inr rfl) (de_ix ix_seq opd_ix (dv 1) de_int (fun _ _ => rfl)))
      (dss_cons (ds_if (dt_cmp op_eq opd_eq (dv 5) de_str (nomark _)) (dss_one (ds_ret (dv 2))) dss_nil)
      (dss_cons (ds_if (dt_cmp op_eq opd_eq (dv 5) de_str (nomark _)) (dss_cons (ds_expr (de_append (dv 4) (de_tup (da_cons (dv 3) (da_cons (de_ix ix_seq opd_ix (dv 1) de_int (fun _ _ => rfl)) (da_cons (dv 2) da_nil))))))
      (dss_one (ds_ret (de_call F__law_next hr (by rfl) pass0 (da_cons (de_dget (hu_of hr) (dv 0) (de_ix ix_seq opd_ix (dv 1) de_int (fun _ _ => rfl)) (fun _ _ => rfl)) (da_cons (dv 2) da_nil)))))) dss_nil)
      (dss_cons (ds_if (dt_cmp op_eq opd_eq (dv 5) de_str (nomark _)) (dss_cons (ds_set (i := 6) sc__law_run.nd rfl (by first | exact Or.inl rfl | exact Or.inr rfl) (de_call F__law_run hr (by rfl) pass0 (da_cons (dv 0) (da_cons (de_ix ix_seq opd_ix (dv 1) de_int (fun _ _ => rfl)) (da_cons (dv 2) (da_cons (de_op op_catA opd_catT (dv 3) (de_tup (da_cons de_int da_nil))) (da_cons (dv 4) da_nil)))))))
      (dss_one (ds_ret (de_call F__law_run hr (by rfl) pass0 (da_cons (dv 0) (da_cons (de_ix ix_seq opd_ix (dv 1) de_int (fun _ _ => rfl)) (da_cons (dv 6) (da_cons (de_op op_catA opd_catT (dv 3) (de_tup (da_cons de_int da_nil))) (da_cons (dv 4) da_nil))))))))) dss_nil)
      (dss_cons (ds_if (dt_cmp op_eq opd_eq (dv 5) de_str (nomark _)) (dss_cons (ds_set (i := 7) sc__law_run.nd rfl (by first | exact Or.inl rfl | exact Or.inr rfl) (de_call F__law_run hr (by rfl) pass0 (da_cons (dv 0) (da_cons (de_ix ix_seq opd_ix (dv 1) de_int (fun _ _ => rfl)) (da_cons (dv 2) (da_cons (de_op op_catA opd_catT (dv 3) (de_tup (da_cons de_int da_nil))) (da_cons (dv 4) da_nil)))))))
      (dss_one (ds_ret (de_op op_or opd_I (dv 7) (de_call F__law_run hr (by rfl) pass0 (da_cons (dv 0) (da_cons (de_ix ix_seq opd_ix (dv 1) de_int (fun _ _ => rfl)) (da_cons (dv 2) (da_cons (de_op op_catA opd_catT (dv 3) (de_tup (da_cons de_int da_nil))) (da_cons (dv 4) da_nil)))))))))) dss_nil)
      (dss_cons (ds_for PassesOwn.never rfl (di_rng1 (by rfl) (T.free "range") (da_cons de_int da_nil)) (dg_name (i := 8) sc__law_run.nd rfl (by first | exact Or.inl rfl | exact Or.inr rfl)) (dss_cons (ds_set (i := 9) sc__law_run.nd rfl (by first | exact Or.inl rfl | exact Or.inr rfl) (de_op op_or opd_I (dv 2) (de_call F__law_run hr (by rfl) pass0 (da_cons (dv 0) (da_cons (de_ix ix_seq opd_ix (dv 1) de_int (fun _ _ => rfl)) (da_cons (dv 2) (da_cons (de_op op_catA opd_catT (dv 3) (de_tup (da_cons (dv 8) da_nil))) (da_cons (dv 4) da_nil))))))))
      (dss_cons (ds_if (dt_cmp op_eq opd_eq (dv 9) (dv 2) (nomark _)) (dss_one (ds_ret (dv 2))) dss_nil)
      (dss_one (ds_set (i := 2) sc__law_run.nd rfl (by first | exact Or.inl rfl | exact Or.inr rfl) (dv 9))))))
      (dss_one (ds_ret (dv 2))))))))), fun ds S QD ED h => ?_⟩)
  obtain ⟨v, es, p, lot, path, n, ls, rfl, h6, hr, hs, hh, hl, hp, hn, hc, q⟩ := h
  have same : S.set n (.lst (ls ++ [])) = S := by
    rw [List.append_nil]
    apply List.ext_getElem?
    intro i
    by_cases e : i = n
    · subst e; rw [get_set hn, hn]
    · rw [List.getElem?_set_ne (Ne.symm e)]
  have pathL : (path.map nI).length = path.length := List.length_map ..
  have sub : ∀ k : Nat, (path.map nI) ++ [nI k] = (path ++ [k]).map nI := fun k => snoc_nI path k
  cases p with
  | nothing =>
    have := q lot [] hl (Nat.le_refl _) (by simp)
    rw [same] at this
    exact this
  | step m =>
    have hs : m ∈ es.map (·.1) := hs
    refine ⟨n, ls, rfl, hn, by show 3 ≤ 100000; decide, ls, hn, by show ls.length < 100000; omega, ?_⟩
    refine ⟨_, _, _, _, rfl, rfl, look_row hs, rowOf es m, lot, rfl, ?_, ?_⟩
    · rw [(row_ok hr hs).1]; omega
    · exact q _ [_] ((row_ok hr hs).next_lt lot) (Nat.le_refl _) fun x hx => ⟨path, m, lot, List.mem_singleton.mp hx, hl⟩
  | behind a b =>
    have hh : max (ht a) (ht b) + 1 ≤ f + 1 := hh
    have hc : ls.length + (cnt a + cnt b) ≤ 90000 := hc
    refine ⟨by show 1 ≤ 100000; decide, by rw [pathL]; show path.length + 1 ≤ 100000; omega, v, es, a, lot, path ++ [0], n, ls, ?_, h6, hr, hs.1, by omega, hl, by rw [List.length_append]; show path.length + 1 + f ≤ 1000; omega, hn, by omega, fun l1 m1 h1 h2 h3 => ?_⟩
    · rw [← sub]; rfl
    refine ⟨by show 1 ≤ 100000; decide, by rw [pathL]; show path.length + 1 ≤ 100000; omega, v, es, b, l1, path ++ [1], n, ls ++ m1, ?_, h6, hr, hs.2, by omega, h1, by rw [List.length_append]; show path.length + 1 + f ≤ 1000; omega, get_set hn, by rw [List.length_append]; omega, fun l2 m2 h4 h5 h6 => ?_⟩
    · rw [← sub]; rfl
    rw [List.set_set, List.append_assoc]
    exact q l2 (m1 ++ m2) h4 (by rw [List.length_append]; show _ ≤ cnt a + cnt b; omega) fun x hx => (List.mem_append.mp hx).elim (h3 x) (h6 x)
  | either a b =>
    have hh : max (ht a) (ht b) + 1 ≤ f + 1 := hh
    have hc : ls.length + (cnt a + cnt b) ≤ 90000 := hc
    refine ⟨by show 1 ≤ 100000; decide, by rw [pathL]; show path.length + 1 ≤ 100000; omega, v, es, a, lot, path ++ [0], n, ls, ?_, h6, hr, hs.1, by omega, hl, by rw [List.length_append]; show path.length + 1 + f ≤ 1000; omega, hn, by omega, fun l1 m1 h1 h2 h3 => ?_⟩
    · rw [← sub]; rfl
    refine ⟨by show 1 ≤ 100000; decide, by rw [pathL]; show path.length + 1 ≤ 100000; omega, v, es, b, lot, path ++ [1], n, ls ++ m1, ?_, h6, hr, hs.2, by omega, hl, by rw [List.length_append]; show path.length + 1 + f ≤ 1000; omega, get_set hn, by rw [List.length_append]; omega, fun l2 m2 h4 h5 h6 => ?_⟩
    · rw [← sub]; rfl
    rw [List.set_set, List.append_assoc]
    show QD (.int (Builtin.bitOr (l1 : Int) (l2 : Int))) _
    rw [or_nat]
    exact q _ (m1 ++ m2) (or_lt2 h1 h4) (by rw [List.length_append]; show _ ≤ cnt a + cnt b; omega) fun x hx => (List.mem_append.mp hx).elim (h3 x) (h6 x)
  | again a =>
    have hh : ht a + 1 ≤ f + 1 := hh
    have hc : ls.length + 8 * cnt a ≤ 90000 := hc
    refine ⟨by decide, by decide, ?_⟩
    rw [show intsFrom 0 (8 : Int).toNat = (List.range' 0 8).map nI from ints0 8]
    refine ⟨fun r ρ S' => ∃ k lt more o5 o6 o7 o8 o9, k ≤ 8 ∧ r = (List.range' k (8 - k)).map nI ∧ ρ = [some (rowsD es), some (progD (.again a)), some (nI lt), some (.tup (path.map nI)), some (.hdl n), o5, o6, o7, o8, o9] ∧ S' = S.set n (.lst (ls ++ more)) ∧ lt < 2 ^ v ∧ more.length ≤ k * cnt a ∧ ∀ x ∈ more, MetT v x,
      ⟨0, lot, [], _, _, _, _, _, by omega, rfl, rfl, same.symm, hl, by simp, by simp⟩, ?_, ?_⟩
    · rintro x r ρ S' ⟨k, lt, more, o5, o6, o7, o8, o9, hk, e, rfl, rfl, hlt, hm, hmt⟩
      obtain ⟨h1, rfl, rfl⟩ := rng_cases hk e
      have hkm : k * cnt a ≤ 7 * cnt a := Nat.mul_le_mul_right _ (by omega)
      refine ⟨by show 1 ≤ 100000; decide, by rw [pathL]; show path.length + 1 ≤ 100000; omega, v, es, a, lt, path ++ [k], n, ls ++ more, ?_, h6, hr, hs, by omega, hlt, by rw [List.length_append]; show path.length + 1 + f ≤ 1000; omega, get_set hn, by rw [List.length_append]; omega, fun l1 m1 h2 h3 h4 => ?_⟩
      · rw [← sub]; rfl
      rw [List.set_set, List.append_assoc]
      have hmore : (more ++ m1).length ≤ (k + 1) * cnt a := by rw [List.length_append, Nat.succ_mul]; omega
      have h8 : (k + 1) * cnt a ≤ 8 * cnt a := Nat.mul_le_mul_right _ (by omega)
      have hmt2 : ∀ x ∈ more ++ m1, MetT v x := fun x hx => (List.mem_append.mp hx).elim (hmt x) (h4 x)
      refine ite2 (fun h => ?_) (fun h => ?_)
      · exact q lt (more ++ m1) hlt (Nat.le_trans hmore h8) hmt2
      · refine ⟨k + 1, lt ||| l1, more ++ m1, o5, o6, o7, some (nI k), some (nI (lt ||| l1)), h1, rfl, ?_, rfl, or_lt2 hlt h2, hmore, hmt2⟩
        show [_, _, some (D.int (Builtin.bitOr (lt : Int) (l1 : Int))), _, _, _, _, _, _, some (D.int (Builtin.bitOr (lt : Int) (l1 : Int)))] = _
        rw [or_nat]
    · rintro ρ S' ⟨k, lt, more, o5, o6, o7, o8, o9, hk, e, rfl, rfl, hlt, hm, hmt⟩
      have := rng_end hk e
      subst this
      exact q lt more hlt hm hmt
theorem run_all (C : Ct) (T : Txt C) : ∀ f, Fn C CX0 (f + 2) "_law_run" ["_law_rows", "_law_program_here", "_law_lot_here", "_law_path", "_law_out"] [] (spRun f)
  | 0 => ((none__law_run C T).mono (by omega)).imp fun ds S Q E ⟨v, es, p, lot, path, n, ls, _, _, _, _, h, _⟩ => by cases p <;> simp [ht] at h
  | f + 1 => step__law_run C T f (run_all C T f)
theorem ok__law_run (C : Ct) (T : Txt C) : Fn C CX0 9 "_law_run" ["_law_rows", "_law_program_here", "_law_lot_here", "_law_path", "_law_out"] [] (spRun 7) := run_all C T 7
end TA
set_option Elab.async false
set_option linter.all false
set_option maxRecDepth 100000
set_option maxHeartbeats 4000000
namespace TA
open PySem PySem.Spec L2
open PyProof.Rows hiding St
/-! ## data that == may be asked of -/
structure OkD (k : Nat) (d : D) : Prop where
  pure : pureD d = true
  lay : PyData.canLay0 (toPy d) = true
  dep : PyData.depth (toPy d) ≤ k
theorem OkD.mono {j k : Nat} {d : D} (h : OkD j d) (e : j ≤ k) : OkD k d := ⟨h.pure, h.lay, Nat.le_trans h.dep e⟩
theorem ok_int {k : Nat} (i : Int) : OkD k (.int i) := ⟨rfl, rfl, Nat.zero_le _⟩
theorem ok_bl {k : Nat} (i : Bool) : OkD k (.bl i) := ⟨rfl, rfl, Nat.zero_le _⟩
theorem ok_non {k : Nat} : OkD k .non := ⟨rfl, rfl, Nat.zero_le _⟩
theorem ok_str {k : Nat} (x : Str) (h : PyData.canLay0 (.str x) = true) : OkD k (.str x) := ⟨rfl, h, Nat.zero_le _⟩
theorem ok_list {k : Nat} : ∀ {ds : List D}, (∀ d ∈ ds, OkD k d) → pureL ds = true ∧ PyData.canLayAll0 (toPyL ds) = true ∧ PyData.depthAll (toPyL ds) ≤ k
  | [], _ => ⟨rfl, rfl, Nat.zero_le _⟩
  | d :: ds, h => by
    obtain ⟨h1, h2, h3⟩ := h d (List.mem_cons_self ..)
    obtain ⟨h4, h5, h6⟩ := ok_list (ds := ds) fun x hx => h x (List.mem_cons_of_mem _ hx)
    refine ⟨?_, ?_, ?_⟩
    · show (pureD d && pureL ds) = true
      rw [h1, h4]; rfl
    · show (PyData.canLay0 (toPy d) && PyData.canLayAll0 (toPyL ds)) = true
      rw [h2, h5]; rfl
    · show max (PyData.depth (toPy d)) (PyData.depthAll (toPyL ds)) ≤ k
      omega
theorem ok_tup {k : Nat} {ds : List D} (h : ∀ d ∈ ds, OkD k d) : OkD (k + 1) (.tup ds) := by
  obtain ⟨h1, h2, h3⟩ := ok_list h
  exact ⟨h1, h2, Nat.succ_le_succ h3⟩
theorem ok_lst {k : Nat} {ds : List D} (h : ∀ d ∈ ds, OkD k d) : OkD (k + 1) (.lst ds) := by
  obtain ⟨h1, h2, h3⟩ := ok_list h
  exact ⟨h1, h2, Nat.succ_le_succ h3⟩
theorem OkD.eq {k : Nat} {d : D} (h : OkD k d) (e : k ≤ 64 := by decide) : eqOk d := ⟨h.pure, by
  unfold SeqAt.shaped
  rw [h.lay, decide_eq_true (Nat.le_trans h.dep e)]
  rfl⟩
theorem ok_nIs {k : Nat} (ms : List Nat) : OkD (k + 1) (.lst (ms.map nI)) := ok_lst fun d hd => by
  obtain ⟨n, _, e⟩ := List.mem_map.mp hd
  rw [← e]; exact ok_int _
/-! ## the steps that a run meets -/
def spMetS : SpD := fun ds S Q _ => ∃ (v : Nat) (es : List Ent) (p : Prog) (lot : Nat), ds = [rowsD es, progD p, nI lot] ∧ v ≤ 6 ∧ (∀ e ∈ es, RowOk v e.2) ∧ StepsIn (es.map (·.1)) p ∧ ht p ≤ 7 ∧ cnt p ≤ 9000 ∧ lot < 2 ^ v ∧
  ∀ more : List D, more.length ≤ cnt p → (∀ x ∈ more, MetT v x) → Q (.lst more) S
theorem met_bel {v k : Nat} {more : List D} (h : ∀ x ∈ more, MetT v x) : belL k more = true := belL_mem.mpr fun d hd => by
  obtain ⟨path, n, l, e, _⟩ := h d hd
  rw [e]
  show (bel k (.tup (path.map nI)) && _) = true
  rw [show bel k (.tup (path.map nI)) = true from bel_nI path]
  rfl
theorem len__law_met_steps : ∀ (ds : List D) (S : Stt) (Q : QE) (E : Str → Stt → Prop), spMetS ds S Q E → ds.length = 3 := by intro ds S Q E h; delta spMetS at h; (repeat obtain ⟨_, h⟩ := h); subst_vars; rfl
theorem ok__law_met_steps (C : Ct) (T : Txt C) : Fn C CX0 (9 + 1) "_law_met_steps" ["_law_rows", "_law_program_here", "_law_lot_here"] [] spMetS := by
  obtain ⟨fd, F⟩ := T.def_ 55 (d := d__law_met_steps)
  have F__law_run := (ok__law_run C T).mono (show 9 ≤ 9 by omega)
  refine Fn.of F (T.glo "_law_met_steps") (fun _ _ _ _ _ _ us hl => match us, hl with | [_, _, _], _ => rfl) (fnD F sc__law_met_steps len__law_met_steps (by decide) fun cdv A outer s H E hr => ⟨_,
    (dss_thaw (dss_cons (ds_set (i := 3) sc__law_met_steps.nd rfl (by first | exact Or.inl rfl | exact Or.inr rfl) (de_lstH da_nil))
      (dss_cons (ds_expr (de_call F__law_run hr (by rfl) pass0 (da_cons (dv 0) (da_cons (dv 1) (da_cons (dv 2) (da_cons (de_tup da_nil) (da_cons (dv 3) da_nil)))))))
      (dss_one (ds_ret (dv 3)))))), fun ds S QD ED h => ?_⟩)
  obtain ⟨v, es, p, lot, rfl, h6, hr, hs, hh, hc, hl, q⟩ := h
  intro wf
  refine ⟨by decide, by decide, v, es, p, lot, [], S.length, [], rfl, h6, hr, hs, hh, hl, by decide, hAt, by show 0 + cnt p ≤ 90000; omega, fun l1 m1 h1 h2 h3 => ?_⟩
  rw [hSet]
  exact thaw_lst wf (met_bel h3) (q m1 h2 h3)
/-! ## refined -/
theorem Good.len {v : Nat} {ms : List Nat} (g : Good v ms) : ms.length ≤ 64 :=
  Nat.le_trans (len_of_lt _ _ (g.up.imp fun h => Nat.ne_of_lt h) g.lt) (p2_bound g.v6)
def spRefined : SpD := fun ds S Q _ => ∃ (v : Nat) (ms : List Nat) (es : List Ent), ds = [nI v, .lst (ms.map nI), .lst (es.map entD)] ∧ Good v ms ∧ es.length ≤ 3 ∧ (∀ e ∈ es, RowOk v e.2) ∧ ∀ ms' : List Nat, Good v ms' → Q (.lst (ms'.map nI)) S
theorem all2_len {R : D → D → Prop} : ∀ {xs ys : List D}, All2 R xs ys → xs.length = ys.length
  | _, _, .nil => rfl
  | _, _, .cons _ b => by rw [List.length_cons, List.length_cons, all2_len b]
theorem len__law_refined : ∀ (ds : List D) (S : Stt) (Q : QE) (E : Str → Stt → Prop), spRefined ds S Q E → ds.length = 3 := by intro ds S Q E h; delta spRefined at h; (repeat obtain ⟨_, h⟩ := h); subst_vars; rfl
theorem ok__law_refined (C : Ct) (T : Txt C) : Fn C CX0 (2 + 1) "_law_refined" ["_law_v", "_law_members_here", "_law_entries"] [] spRefined := by
  obtain ⟨fd, F⟩ := T.def_ 58 (d := d__law_refined)
  have F__law_back := (ok__law_back C T).mono (show 1 ≤ 2 by omega)
  have F__law_met := (ok__law_met C T).mono (show 2 ≤ 2 by omega)
  refine Fn.of F (T.glo "_law_refined") (fun _ _ _ _ _ _ us hl => match us, hl with | [_, _, _], _ => rfl) (fnD F sc__law_refined len__law_refined (by decide) fun cdv A outer s H E hr => ⟨_,
    (dss_cons (ds_set (i := 3) sc__law_refined.nd rfl (by first | exact Or.inl rfl | exact Or.inr rfl) (de_cty call_list_of calld_list (by rfl) (T.free "list") (by decide +kernel) (da_cons (dv 1) da_nil)))
      (dss_cons (ds_for PassesOwn.never rfl (di_rng1 (by rfl) (T.free "range") (da_cons de_int da_nil)) (dg_name (i := 4) sc__law_refined.nd rfl (by first | exact Or.inl rfl | exact Or.inr rfl)) (dss_cons (ds_set (i := 5) sc__law_refined.nd rfl (by first | exact Or.inl rfl | exact Or.inr rfl) (de_cty call_list_of calld_list (by rfl) (T.free "list") (by decide +kernel) (da_cons (dv 3) da_nil)))
      (dss_cons (ds_for PassesOwn.never rfl (di_seq (dv 2)) (dg_tup (n := 2) rfl (dgs_cons (dg_name (i := 6) sc__law_refined.nd rfl (by first | exact Or.inl rfl | exact Or.inr rfl)) (dgs_cons (dg_name (i := 7) sc__law_refined.nd rfl (by first | exact Or.inl rfl | exact Or.inr rfl)) dgs_nil))) (dss_one (ds_set (i := 5) sc__law_refined.nd rfl (by first | exact Or.inl rfl | exact Or.inr rfl) (de_op op_cat opd_catL (dv 5) (de_lc (own := [("_law_lot_here", 9)]) (g := gName 9) (dg := gN 9) rfl sc__law_refined.nd (di_seq (dv 3)) (blkOk_by (N := ["_law_v", "_law_members_here", "_law_entries", "_law_found", "_law_turn", "_law_more_here", "_law_name", "_law_row", "_law_grown", "_law_lot_here"]) (sc := defScope (topS 82)) (by decide +kernel)) (own_name (by decide)) (fun _ _ _ _ _ => pg_name (i := 9) sc__law_refined.nd rfl (by first | exact Or.inl rfl | exact Or.inr rfl)) (fun _ _ _ _ _ => dts_nil) (fun _ _ _ _ _ => (de_call F__law_back hr (by rfl) pass0 (da_cons (dv 7) (da_cons (dv 9) da_nil)))))))))
      (dss_cons (ds_set (i := 8) sc__law_refined.nd rfl (by first | exact Or.inl rfl | exact Or.inr rfl) (de_call F__law_met hr (by rfl) pass0 (da_cons (dv 0) (da_cons (dv 5) da_nil))))
      (dss_cons (ds_if (dt_cmp (op_eqD hr.units) opd_eqD (dv 8) (dv 3) (nomark _)) (dss_one (ds_ret (dv 3))) dss_nil)
      (dss_one (ds_set (i := 3) sc__law_refined.nd rfl (by first | exact Or.inl rfl | exact Or.inr rfl) (dv 8))))))))
      (dss_one (ds_ret (dv 3))))), fun ds S QD ED h => ?_⟩)
  obtain ⟨v, ms, es, rfl, g, hl, hr, q⟩ := h
  refine ⟨by decide, by decide, ?_⟩
  rw [show intsFrom 0 (64 : Int).toNat = (List.range' 0 64).map nI from ints0 64]
  refine ⟨fun r ρ S' => ∃ ms' o4 o5 o6 o7 o8 o9, ρ = [some (nI v), some (.lst (ms.map nI)), some (.lst (es.map entD)), some (.lst (ms'.map nI)), o4, o5, o6, o7, o8, o9] ∧ S' = S ∧ Good v ms', ⟨ms, _, _, _, _, _, _, rfl, rfl, g⟩, ?_, ?_⟩
  · rintro x r ρ S' ⟨ms', o4, o5, o6, o7, o8, o9, rfl, rfl, g'⟩
    have gl := g'.len
    refine ⟨fun r2 ρ S2 => ∃ dn rs mo o6 o7 o9, es = dn ++ rs ∧ r2 = List.map entD rs ∧ ρ = [some (nI v), some (.lst (ms.map nI)), some (.lst (es.map entD)), some (.lst (ms'.map nI)), some x, some (.lst (mo.map nI)), o6, o7, o8, o9] ∧ S2 = S' ∧ (∀ m ∈ mo, m < 2 ^ v) ∧ mo.length ≤ 64 * (dn.length + 1),
      ⟨[], es, ms', o6, o7, o9, rfl, rfl, rfl, rfl, g'.lt, by omega⟩, ?_, ?_⟩
    · rintro y r2 ρ S2 ⟨dn, rs, mo, o6, o7, o9, e0, e, rfl, rfl, hm, hml⟩
      cases rs with
      | nil => cases e
      | cons z zs =>
        cases e
        have hz := hr z (by rw [e0]; simp)
        have hd3 : dn.length ≤ 2 := by rw [e0, List.length_append, List.length_cons] at hl; omega
        refine ⟨rfl, ?_⟩
        refine lc_map (fun _ y => ∃ b, y = nI b ∧ b < 2 ^ v) (by rw [List.length_map]; omega) (fun x hx K hK => ?_) fun ys h => ?_
        · obtain ⟨m, hm2, e2⟩ := List.mem_map.mp hx
          subst e2
          refine ⟨z.2, m, rfl, by rw [hz.1]; have := g.v6; omega, fun b hb => hK _ ⟨b, rfl, by rw [hz.1] at hb; exact hb⟩⟩
        · obtain ⟨row, e1, e2, e3⟩ := all2_nI (fun x y h => h) h
          subst e1
          rw [List.length_map] at e2
          refine ⟨by rw [List.length_map, List.length_map]; omega, ?_⟩
          refine ⟨dn ++ [z], zs, mo ++ row, some (.str z.1), some (rowL z), o9, by rw [e0]; simp, rfl, ?_, rfl, fun m hm2 => (List.mem_append.mp hm2).elim (hm m) (e3 m), by rw [List.length_append, List.length_append]; show mo.length + row.length ≤ 64 * (dn.length + 1 + 1); omega⟩
          rw [List.map_append]
          rfl
    · rintro ρ S2 ⟨dn, rs, mo, o6, o7, o9, e0, e, rfl, rfl, hm, hml⟩
      refine ⟨v, mo, rfl, g.v1, g.v6, hm, fun ms2 g2 => ?_⟩
      refine ⟨(ok_nIs (k := 0) ms2).eq, (ok_nIs (k := 0) ms').eq, ite2 (fun h => ?_) (fun h => ?_)⟩
      · exact q ms' g'
      · exact ⟨ms2, _, _, _, _, _, _, rfl, rfl, g2⟩
  · rintro ρ S' ⟨ms', o4, o5, o6, o7, o8, o9, rfl, rfl, g'⟩
    exact q ms' g'
end TA
set_option Elab.async false
set_option linter.all false
set_option maxRecDepth 100000
set_option maxHeartbeats 4000000
namespace TA
open PySem PySem.Spec L2
open PyProof.Rows hiding St
/-! ## the world -/
abbrev wC (v : Nat) (ms : List Nat) (es : List Ent) : Cell := .lst [nI v, .lst (ms.map nI), rowsD es, .lst (es.map entD)]
theorem ents_of {v : Nat} : ∀ {ns : List Str} {ys : List D}, All2 (fun x y => ∃ n row, x = .str n ∧ y = entD (n, row) ∧ RowOk v row) (ns.map D.str) ys → ∃ es : List Ent, ys = es.map entD ∧ es.map (·.1) = ns ∧ ∀ e ∈ es, RowOk v e.2
  | [], _, h => by
    cases h
    exact ⟨[], rfl, rfl, by simp⟩
  | n :: ns, _, h => by
    cases h with
    | cons a b =>
      obtain ⟨m, row, e1, e2, e3⟩ := a
      obtain ⟨es, e4, e5, e6⟩ := ents_of b
      cases e1
      exact ⟨(n, row) :: es, by rw [e2, e4]; rfl, by rw [List.map_cons, e5], fun e he => by
        rcases List.mem_cons.mp he with z | z
        · rw [z]; exact e3
        · exact e6 e z⟩
theorem rdMin_of {S : Stt} {Q : QE} {i j m : Int} (e : (if j < i then j else i) = m) (q : Q (.int m) S) : rdMin [.int i, .int j] S Q := by
  show Q (.int (if j < i then j else i)) S
  rw [e]
  exact q
def spWorld : SpD := fun ds S Q _ => ds = [.hdl 0, nI 6] ∧ S = [.hand] ∧ ∀ (v : Nat) (ms : List Nat) (es : List Ent), Good v ms → Ents v es → Q (.hdl 1) [.hand, wC v ms es]
theorem len__law_world : ∀ (ds : List D) (S : Stt) (Q : QE) (E : Str → Stt → Prop), spWorld ds S Q E → ds.length = 2 := by intro ds S Q E h; delta spWorld at h; (repeat obtain ⟨_, h⟩ := h); subst_vars; rfl
theorem ok__law_world (C : Ct) (T : Txt C) : Fn C CX0 (4 + 1) "_law_world" ["_law_hand_here", "_law_most"] [] spWorld := by
  obtain ⟨fd, F⟩ := T.def_ 56 (d := d__law_world)
  have F__law_drawn_row := (ok__law_drawn_row C T).mono (show 4 ≤ 4 by omega)
  have F__law_members := (ok__law_members C T).mono (show 3 ≤ 4 by omega)
  have F__law_met := (ok__law_met C T).mono (show 2 ≤ 4 by omega)
  have F__law_names := (ok__law_names C T).mono (show 3 ≤ 4 by omega)
  have F__law_rows_of := (ok__law_rows_of C T).mono (show 1 ≤ 4 by omega)
  have F__law_single := (ok__law_single C T).mono (show 3 ≤ 4 by omega)
  have F__law_stands := (ok__law_stands C T).mono (show 3 ≤ 4 by omega)
  have F__law_take := (ok__law_take C T).mono (show 2 ≤ 4 by omega)
  refine Fn.of F (T.glo "_law_world") (fun _ _ _ _ _ _ us hl => match us, hl with | [_, _], _ => rfl) (fnD F sc__law_world len__law_world (by decide) fun cdv A outer s H E hr => ⟨_,
    (dss_cons (ds_set (i := 2) sc__law_world.nd rfl (by first | exact Or.inl rfl | exact Or.inr rfl) (de_cb (call_min2 rfl) calld_min (by rfl) (T.free "min") (by decide +kernel) (da_cons (dv 1) (da_cons (de_call F__law_stands hr (by rfl) pass0 (da_cons (dv 0) da_nil)) da_nil))))
      (dss_cons (ds_set (i := 3) sc__law_world.nd rfl (by first | exact Or.inl rfl | exact Or.inr rfl) (de_call F__law_members hr (by rfl) pass0 (da_cons (dv 0) (da_cons (dv 2) da_nil))))
      (dss_cons (ds_if (dt_truth trud (de_call F__law_take hr (by rfl) pass0 (da_cons (dv 0) (da_cons de_int da_nil)))) (dss_one (ds_set (i := 3) sc__law_world.nd rfl (by first | exact Or.inl rfl | exact Or.inr rfl) (de_call F__law_met hr (by rfl) pass0 (da_cons (dv 2) (da_cons (de_op op_cat opd_catL (de_lc (own := [("_law_k", 6)]) (g := gName 6) (dg := gN 6) rfl sc__law_world.nd (di_rng1 (by rfl) (T.free "range") (da_cons (de_op op_add opd_I de_int (de_call F__law_take hr (by rfl) pass0 (da_cons (dv 0) (da_cons de_int da_nil)))) da_nil)) (blkOk_by (N := ["_law_hand_here", "_law_most", "_law_v", "_law_members_here", "_law_names_here", "_law_entries", "_law_k", "_law_name"]) (sc := defScope (topS 80)) (by decide +kernel)) (own_name (by decide)) (fun _ _ _ _ _ => pg_name (i := 6) sc__law_world.nd rfl (by first | exact Or.inl rfl | exact Or.inr rfl)) (fun _ _ _ _ _ => dts_nil) (fun _ _ _ _ _ => (de_call F__law_take hr (by rfl) pass0 (da_cons (dv 0) (da_cons (de_op op_shl opd_IC de_int (dv 2)) da_nil))))) (de_lst (da_cons de_int da_nil))) da_nil))))) dss_nil)
      (dss_cons (ds_set (i := 4) sc__law_world.nd rfl (by first | exact Or.inl rfl | exact Or.inr rfl) (de_call F__law_names hr (by rfl) pass0 (da_cons (dv 0) (da_cons (de_op op_add opd_I de_int (de_call F__law_take hr (by rfl) pass0 (da_cons (dv 0) (da_cons de_int da_nil)))) da_nil))))
      (dss_cons (ds_setLc (i := 5) (own := [("_law_name", 7)]) (g := gName 7) (dg := gN 7) rfl sc__law_world.nd rfl rfl (sw_true rfl rfl rfl (by decide +kernel)) (di_seq (dv 4)) (blkOk_by (N := ["_law_hand_here", "_law_most", "_law_v", "_law_members_here", "_law_names_here", "_law_entries", "_law_k", "_law_name"]) (sc := defScope (topS 80)) (by decide +kernel)) (own_name (by decide)) (fun _ _ _ _ _ => pg_name (i := 7) sc__law_world.nd rfl (by first | exact Or.inl rfl | exact Or.inr rfl)) (fun _ _ _ _ _ => dts_nil) (fun _ _ _ _ _ => (de_tup (da_cons (dv 7) (da_cons (de_ifE (dt_truth trud (de_call F__law_take hr (by rfl) pass0 (da_cons (dv 0) (da_cons de_int da_nil)))) (de_call F__law_single hr (by rfl) pass0 (da_cons (dv 0) (da_cons (dv 2) da_nil))) (de_call F__law_drawn_row hr (by rfl) pass0 (da_cons (dv 0) (da_cons (dv 2) da_nil)))) da_nil)))))
      (dss_one (ds_ret (de_lstH (da_cons (dv 2) (da_cons (dv 3) (da_cons (de_call F__law_rows_of hr (by rfl) pass0 (da_cons (dv 5) da_nil)) (da_cons (dv 5) da_nil)))))))))))), fun ds S QD ED h => ?_⟩)
  obtain ⟨rfl, rfl, q⟩ := h
  refine ⟨[], rfl, rfl, fun v0 h1 h6 => ?_⟩
  have ev : (if (v0 : Int) < ((6 : Nat) : Int) then (v0 : Int) else ((6 : Nat) : Int)) = (v0 : Int) := by split <;> omega
  refine ⟨v0, [], by show [D.hdl 0, D.int (if (v0 : Int) < ((6 : Nat) : Int) then (v0 : Int) else ((6 : Nat) : Int))] = _; rw [ev], rfl, h1, h6, fun ms0 g0 => ?_⟩
  have hb := p2_bound h6
  have rest : ∀ (x2 : Int) (hx2 : x2 = (v0 : Int)) (ms : List Nat) (o4 o5 o6 o7 : Option D), Good v0 ms →
      (dSeq (dAsg (dCall spNamesL [] (dCons (dVar 0) (dCons (dOp (rdI HAdd.hAdd) (dC (.int 1)) (dCall spTake [] (dCons (dVar 0) (dCons (dC (.int 3)) dNil)))) dNil))) (gN 4))
        (dSeq (dAsg (dLc (diSeq (dVar 4)) (gN 7) dYes (dTup (dCons (dVar 7) (dCons (dIfE (dTru rdTru (dCall spTake [] (dCons (dVar 0) (dCons (dC (.int 2)) dNil)))) (dCall spSingle [] (dCons (dVar 0) (dCons (dVar 2) dNil))) (dCall spSingle [] (dCons (dVar 0) (dCons (dVar 2) dNil)))) dNil))) [7]) (gN 5))
          (dRet (dLstH (dCons (dVar 2) (dCons (dVar 3) (dCons (dCall spRowsOf [] (dCons (dVar 5) dNil)) (dCons (dVar 5) dNil)))))))) (endsD QD)
        [some (.hdl 0), some (nI 6), some (.int x2), some (.lst (ms.map nI)), o4, o5, o6, o7] [.hand] := fun x2 hx2 ms o4 o5 o6 o7 g => by
    subst hx2
    refine ⟨3, [], rfl, by decide, by decide, rfl, fun r hr => ?_⟩
    refine ⟨1 + r, [], ?_, rfl, by omega, fun ns hl hnd hpl => ?_⟩
    · show [D.hdl 0, D.int ((1 : Int) + (r : Int))] = _
      rw [show (1 : Int) + (r : Int) = ((1 + r : Nat) : Int) by omega]
    refine lc_map (fun x y => ∃ n row, x = .str n ∧ y = entD (n, row) ∧ RowOk v0 row) (by rw [List.length_map]; omega) (fun x hx K hK => ?_) fun ys h => ?_
    · obtain ⟨n, hn, e⟩ := List.mem_map.mp hx
      subst e
      refine ⟨2, [], rfl, by decide, by decide, rfl, fun r hr => ite2 (fun h => ?_) (fun h => ?_)⟩
      · exact ⟨v0, [], rfl, rfl, h1, h6, fun row hrow => ⟨by show 2 ≤ 100000; decide, hK _ ⟨n, row, rfl, rfl, hrow⟩⟩⟩
      · exact ⟨v0, [], rfl, rfl, h1, h6, fun row hrow => ⟨by show 2 ≤ 100000; decide, hK _ ⟨n, row, rfl, rfl, hrow⟩⟩⟩
    · obtain ⟨es, e1, e2, e3⟩ := ents_of h
      subst e1
      have hlen : es.length = ns.length := by rw [← e2, List.length_map]
      refine ⟨es, rfl, by omega, by rw [e2]; exact hnd, by show 4 ≤ 100000; decide, q v0 ms es g ⟨fun z => ?_, by omega, by rw [e2]; exact hnd, fun e he => hpl _ (by rw [← e2]; exact List.mem_map_of_mem he), e3⟩⟩
      rw [z] at hlen
      simp at hlen
      omega
  refine ⟨2, [], rfl, by decide, by decide, rfl, fun t ht => ite2 (fun h => ?_) (fun h => ?_)⟩
  · refine ⟨5, [], rfl, by decide, by decide, rfl, fun r hr => ?_⟩
    show _ ∧ _ ∧ _
    rw [show (2 : Int) + (r : Int) = ((2 + r : Nat) : Int) by omega]
    refine lc_draw (fun x => x < 2 ^ v0) (by omega) (fun j hj K hK => ⟨by rw [ev]; exact cpow1 (by omega), 2 ^ v0, [], by show [D.hdl 0, D.int ((1 : Int) * 2 ^ (if (v0 : Int) < ((6 : Nat) : Int) then (v0 : Int) else ((6 : Nat) : Int)).toNat)] = _; rw [ev]; exact args_shl v0, two_pos v0, by omega, rfl, fun b hb => hK b hb⟩) fun row hlen hlt => ?_
    refine ⟨by show 1 ≤ 100000; decide, by rw [List.length_map]; show row.length + 1 ≤ 100000; omega, ?_⟩
    refine ⟨v0, row ++ [0], by show [D.int (if (v0 : Int) < ((6 : Nat) : Int) then (v0 : Int) else ((6 : Nat) : Int)), _] = _; rw [ev, List.map_append]; rfl, h1, h6, fun x hx => ?_, fun ms g => rest _ ev ms _ _ _ _ g⟩
    rcases List.mem_append.mp hx with z | z
    · exact hlt x z
    · rw [List.mem_singleton.mp z]; exact two_pos v0
  · exact rest _ ev ms0 _ _ _ _ g0
/-! ## steered -/
theorem erase_nI (row : List Nat) (j : Nat) : (row.map nI).eraseIdx j = (row.eraseIdx j).map nI := by
  rw [List.eraseIdx_eq_take_drop_succ, List.eraseIdx_eq_take_drop_succ, List.map_append, List.map_take, List.map_drop]
theorem or_ite {c1 c2 : Bool} {A B : Prop} (ha : c1 = true ∨ c2 = true → A) (hb : ¬ (c1 = true ∨ c2 = true) → B) : (if c1 = true then (if true = true then A else B) else (if c2 = true then A else B)) := by
  cases c1 with
  | true => exact ha (.inl rfl)
  | false => cases c2 with
    | true => exact ha (.inr rfl)
    | false => exact hb (fun z => z.elim (fun z => Bool.false_ne_true z) (fun z => Bool.false_ne_true z))
def spSteered : SpD := fun ds S Q _ => ∃ (v : Nat) (ms : List Nat) (es : List Ent) (p : Prog) (lot : Nat), ds = [.hdl 0, .hdl 1, progD p, nI lot] ∧ S = [.hand, wC v ms es] ∧ Good v ms ∧ Ents v es ∧ StepsIn (es.map (·.1)) p ∧ ht p ≤ 7 ∧ cnt p ≤ 9000 ∧ lot < 2 ^ v ∧
  ∀ ms' : List Nat, Good v ms' → Q (.hdl 1) [.hand, wC v ms' es]
theorem wf_w {v : Nat} {ms : List Nat} {es : List Ent} {k : Nat} : Wf k [.hand, wC v ms es] := fun c hc => by
  rcases List.mem_cons.mp hc with z | z
  · rw [z]; rfl
  · rw [List.mem_singleton.mp z]
    have h3 : belL k (es.map entD) = true := belL_mem.mpr fun d hd => by
      obtain ⟨e, _, ee⟩ := List.mem_map.mp hd
      rw [← ee]
      show (true && (belL k (e.2.map nI) && true)) = true
      rw [bel_nI]; rfl
    show (true && (belL k (ms.map nI) && (belL k (es.map rowL) && (belL k (es.map entD) && true)))) = true
    rw [bel_nI, bel_rows, h3]
    rfl
theorem len__law_steered : ∀ (ds : List D) (S : Stt) (Q : QE) (E : Str → Stt → Prop), spSteered ds S Q E → ds.length = 4 := by intro ds S Q E h; delta spSteered at h; (repeat obtain ⟨_, h⟩ := h); subst_vars; rfl
theorem ok__law_steered (C : Ct) (T : Txt C) : Fn C CX0 (10 + 1) "_law_steered" ["_law_hand_here", "_law_world_here", "_law_program_here", "_law_lot_here"] [] spSteered := by
  obtain ⟨fd, F⟩ := T.def_ 59 (d := d__law_steered)
  have F__law_met := (ok__law_met C T).mono (show 2 ≤ 10 by omega)
  have F__law_met_steps := (ok__law_met_steps C T).mono (show 10 ≤ 10 by omega)
  have F__law_refined := (ok__law_refined C T).mono (show 3 ≤ 10 by omega)
  have F__law_take := (ok__law_take C T).mono (show 2 ≤ 10 by omega)
  refine Fn.of F (T.glo "_law_steered") (fun _ _ _ _ _ _ us hl => match us, hl with | [_, _, _, _], _ => rfl) (fnD F sc__law_steered len__law_steered (by decide) fun cdv A outer s H E hr => ⟨_,
    (dss_thaw (dss_cons (ds_set (i := 4) sc__law_steered.nd rfl (by first | exact Or.inl rfl | exact Or.inr rfl) (de_call F__law_take hr (by rfl) pass0 (da_cons (dv 0) (da_cons de_int da_nil))))
      (dss_cons (ds_if (dt_cmp op_eq opd_eq (dv 4) de_int (nomark _)) (dss_one (ds_asg (de_call F__law_refined hr (by rfl) pass0 (da_cons (de_ix ix_seq opd_ix (dv 1) de_int (fun _ _ => rfl)) (da_cons (de_ix ix_seq opd_ix (dv 1) de_int (fun _ _ => rfl)) (da_cons (de_ix ix_seq opd_ix (dv 1) de_int (fun _ _ => rfl)) da_nil)))) (dg_setL (dv 1) de_int))) dss_nil)
      (dss_cons (ds_if (dt_bop (dw_or (dt_cmp op_eq opd_eq (dv 4) de_int (nomark _)) (dw_or1 (dt_cmp op_eq opd_eq (dv 4) de_int (nomark _))))) (dss_cons (ds_setLcH (i := 5) (own := [("_law_met_here", 6)]) (g := gName 6) (dg := gN 6) rfl sc__law_steered.nd rfl rfl (sw_true rfl rfl rfl (by decide +kernel)) (di_seq (de_call F__law_met_steps hr (by rfl) pass0 (da_cons (de_ix ix_seq opd_ix (dv 1) de_int (fun _ _ => rfl)) (da_cons (dv 2) (da_cons (dv 3) da_nil))))) (blkOk_by (N := ["_law_hand_here", "_law_world_here", "_law_program_here", "_law_lot_here", "_law_way", "_law_lots", "_law_met_here"]) (sc := defScope (topS 83)) (by decide +kernel)) (own_name (by decide)) (fun _ _ _ _ _ => pg_name (i := 6) sc__law_steered.nd rfl (by first | exact Or.inl rfl | exact Or.inr rfl)) (fun _ _ _ _ _ => dts_nil) (fun _ _ _ _ _ => (de_ix ix_seq opd_ix (dv 6) de_int (fun _ _ => rfl))))
      (dss_cons (ds_if (dt_bop (dw_and (dt_cmp op_eq opd_eq (dv 4) de_int (nomark _)) (dw_and1 (dt_truth trud (dv 5))))) (dss_one (ds_expr (de_popAt (dv 5) (de_call F__law_take hr (by rfl) pass0 (da_cons (dv 0) (da_cons (de_cb call_len calld_len (by rfl) (T.free "len") (by decide +kernel) (da_cons (dv 5) da_nil)) da_nil)))))) dss_nil)
      (dss_one (ds_asg (de_call F__law_met hr (by rfl) pass0 (da_cons (de_ix ix_seq opd_ix (dv 1) de_int (fun _ _ => rfl)) (da_cons (de_op op_cat opd_catL (de_ix ix_seq opd_ix (dv 1) de_int (fun _ _ => rfl)) (dv 5)) da_nil))) (dg_setL (dv 1) de_int))))) dss_nil)
      (dss_one (ds_ret (dv 1))))))), fun ds S QD ED h => ?_⟩)
  obtain ⟨v, ms, es, p, lot, rfl, rfl, g, E, hs, hh, hc, hl, q⟩ := h
  intro wf
  have fin : ∀ (T : Stt) (ms' : List Nat), Good v ms' → ThawV 2 QD (.hdl 1) ([.hand, wC v ms' es] ++ T) := fun T ms' g' => thaw_same (S := [.hand, wC v ms' es]) wf_w (by rfl) (q ms' g')
  have gl := g.len
  refine ⟨6, [wC v ms es], rfl, by decide, by decide, rfl, fun way hw => ?_⟩
  have second : ∀ (ms1 : List Nat), Good v ms1 → ∀ o5 o6 : Option D, (dSeq (dIf (dOr (dTest (dOp rdEq (dVar 4) (dC (.int 1)))) (dTest (dOp rdEq (dVar 4) (dC (.int 2)))))
      (dSeq (dSetLcH (diSeq (dCall spMetS [] (dCons (dOp rdIx (dVar 1) (dC (.int 2))) (dCons (dVar 2) (dCons (dVar 3) dNil))))) (gN 6) dYes (dOp rdIx (dVar 6) (dC (.int 2))) [6] 5)
        (dSeq (dIf (dAnd (dTest (dOp rdEq (dVar 4) (dC (.int 2)))) (dTru rdTru (dVar 5))) (dDrop (dPopAt (dVar 5) (dCall spTake [] (dCons (dVar 0) (dCons (dCB rdLen (dCons (dVar 5) dNil)) dNil))))) dNext)
          (dAsg (dCall spMet [] (dCons (dOp rdIx (dVar 1) (dC (.int 0))) (dCons (dOp rdCatL (dOp rdIx (dVar 1) (dC (.int 1))) (dVar 5)) dNil))) (gSetL (dVar 1) (dC (.int 1)))))) dNext) (dRet (dVar 1)))
      { nx := ThawN 2 (endsD QD).nx, rt := ThawV 2 QD } [some (.hdl 0), some (.hdl 1), some (progD p), some (nI lot), some (nI way), o5, o6] [.hand, wC v ms1 es] := fun ms1 g1 o5 o6 => by
    have g1l := g1.len
    have body : (dSeq (dSetLcH (diSeq (dCall spMetS [] (dCons (dOp rdIx (dVar 1) (dC (.int 2))) (dCons (dVar 2) (dCons (dVar 3) dNil))))) (gN 6) dYes (dOp rdIx (dVar 6) (dC (.int 2))) [6] 5)
        (dSeq (dIf (dAnd (dTest (dOp rdEq (dVar 4) (dC (.int 2)))) (dTru rdTru (dVar 5))) (dDrop (dPopAt (dVar 5) (dCall spTake [] (dCons (dVar 0) (dCons (dCB rdLen (dCons (dVar 5) dNil)) dNil))))) dNext)
          (dAsg (dCall spMet [] (dCons (dOp rdIx (dVar 1) (dC (.int 0))) (dCons (dOp rdCatL (dOp rdIx (dVar 1) (dC (.int 1))) (dVar 5)) dNil))) (gSetL (dVar 1) (dC (.int 1))))))
        { nx := dRet (dVar 1) { nx := ThawN 2 (endsD QD).nx, rt := ThawV 2 QD }, rt := ThawV 2 QD } [some (.hdl 0), some (.hdl 1), some (progD p), some (nI lot), some (nI way), o5, o6] [.hand, wC v ms1 es] := by
      refine ⟨v, es, p, lot, rfl, g.v6, E.ok, hs, hh, hc, hl, fun more hm hmt => ?_⟩
      refine lc_map (fun _ y => ∃ b, y = nI b ∧ b < 2 ^ v) (by omega) (fun x hx K hK => ?_) fun ys h => ?_
      · obtain ⟨path, n, l, e, hlt⟩ := hmt x hx
        subst e
        exact hK _ ⟨l, rfl, hlt⟩
      · obtain ⟨row, e1, e2, e3⟩ := all2_nI (fun x y h => h) h
        subst e1
        have last : ∀ row2 : List Nat, row2.length ≤ 9000 → (∀ x ∈ row2, x < 2 ^ v) → (dAsg (dCall spMet [] (dCons (dOp rdIx (dVar 1) (dC (.int 0))) (dCons (dOp rdCatL (dOp rdIx (dVar 1) (dC (.int 1))) (dVar 5)) dNil))) (gSetL (dVar 1) (dC (.int 1))))
            { nx := dRet (dVar 1) { nx := ThawN 2 (endsD QD).nx, rt := ThawV 2 QD }, rt := ThawV 2 QD } [some (.hdl 0), some (.hdl 1), some (progD p), some (nI lot), some (nI way), some (.hdl 2), o6] [.hand, wC v ms1 es, .lst (row2.map nI)] := fun row2 hl2 hlt2 => by
          refine ⟨by rw [List.length_map, List.length_map]; omega, v, ms1 ++ row2, by rw [List.map_append]; rfl, g.v1, g.v6, fun x hx => ?_, fun ms2 g2 => ⟨1, 1, _, rfl, rfl, rfl, by show 1 < 4; decide, fin [_] ms2 g2⟩⟩
          rcases List.mem_append.mp hx with z | z
          · exact g1.lt x z
          · exact hlt2 x z
        refine and_ite (fun h1 h2 => ?_) (fun h12 => ?_)
        · have hne : row ≠ [] := fun z => by rw [z] at h2; cases h2
          have h0 : 0 < row.length := List.length_pos_iff.mpr hne
          refine ⟨2, _, rfl, rfl, row.length, [wC v ms1 es, .lst (row.map nI)], by show [D.hdl 0, D.int (((row.map nI).length : Nat) : Int)] = _; rw [List.length_map], h0, by omega, rfl, fun j hj => ?_⟩
          refine ⟨_, j, nI row[j], rfl, by omega, rfl, by rw [List.getElem?_map, List.getElem?_eq_getElem hj]; rfl, ?_⟩
          rw [erase_nI]
          refine last (row.eraseIdx j) ?_ fun x hx => e3 x (List.mem_of_mem_eraseIdx hx)
          rw [List.length_eraseIdx, if_pos hj]
          omega
        · exact last row (by omega) e3
    refine or_ite (fun h => body) (fun h => ?_)
    have := fin [] ms1 g1
    rwa [List.append_nil] at this
  refine ite2 (fun h => ?_) (fun h => ?_)
  · refine ⟨v, ms, es, rfl, g, E.few, E.ok, fun ms1 g1 => ⟨1, 1, _, rfl, rfl, rfl, by show 1 < 4; decide, second ms1 g1 _ _⟩⟩
  · exact second ms g _ _
end TA
set_option Elab.async false
set_option linter.all false
set_option maxRecDepth 100000
set_option maxHeartbeats 4000000
namespace TA
open PySem PySem.Spec L2
open PyProof.Rows hiding St
/-! ## the classes -/
theorem inD_nI {a : Nat} : ∀ {ms : List Nat}, inD (nI a) (ms.map nI) = true ↔ a ∈ ms
  | [] => by simp [inD]
  | m :: ms => by
    show ((((m : Int) == (a : Int)) || inD (nI a) (ms.map nI)) = true) ↔ _
    rw [Bool.or_eq_true, inD_nI, List.mem_cons, beq_iff_eq]
    refine ⟨fun h => h.imp (fun z => ?_) id, fun h => h.imp (fun z => ?_) id⟩ <;> omega
theorem flat_nI : ∀ ms : List Nat, (ms.map nI).all flatD = true
  | [] => rfl
  | m :: ms => by
    rw [List.map_cons, List.all_cons, flat_nI ms]; rfl
theorem notin_false {a : Nat} {ms : List Nat} (h : a ∈ ms) : (if true = true then !inD (nI a) (ms.map nI) else inD (nI a) (ms.map nI)) = false := by
  rw [if_pos rfl, inD_nI.mpr h]; rfl
/-- a list or a tuple of these -/
def SeqOf (x : D) (ds : List D) : Prop := x = .lst ds ∨ x = .tup ds
def spUnmet : SpD := fun ds S Q _ => ∃ (v : Nat) (ms : List Nat) (x : D), ds = [x] ∧ SeqOf x (ms.map nI) ∧ Good v ms ∧ Q .non S
theorem len_first_unmet : ∀ (ds : List D) (S : Stt) (Q : QE) (E : Str → Stt → Prop), spUnmet ds S Q E → ds.length = 1 := by intro ds S Q E h; delta spUnmet at h; (repeat obtain ⟨_, h⟩ := h); subst_vars; rfl
theorem ok_first_unmet (C : Ct) (T : Txt C) : Fn C CX0 (0 + 1) "first_unmet" ["members"] [] spUnmet := by
  obtain ⟨fd, F⟩ := T.def_ 7 (d := d_first_unmet)
  refine Fn.of F (T.glo "first_unmet") (fun _ _ _ _ _ _ us hl => match us, hl with | [_], _ => rfl) (fnD F sc_first_unmet len_first_unmet (by decide) fun cdv A outer s H E hr => ⟨_,
    (dss_cons (ds_for PassesOwn.never rfl (di_rng1 (by rfl) (T.free "range") (da_cons (de_cb call_len calld_len (by rfl) (T.free "len") (by decide +kernel) (da_cons (dv 0) da_nil)) da_nil)) (dg_name (i := 1) sc_first_unmet.nd rfl (by first | exact Or.inl rfl | exact Or.inr rfl)) (dss_one (ds_for PassesOwn.never rfl (di_rng2 (by rfl) (T.free "range") (da_cons (de_op op_add opd_I (dv 1) de_int) (da_cons (de_cb call_len calld_len (by rfl) (T.free "len") (by decide +kernel) (da_cons (dv 0) da_nil)) da_nil))) (dg_name (i := 2) sc_first_unmet.nd rfl (by first | exact Or.inl rfl | exact Or.inr rfl)) (dss_one (ds_if (dt_cmp op_notIn_seq opd_notin (de_op op_and opd_I (de_ix ix_seq opd_ix (dv 0) (dv 1) (fun _ _ => rfl)) (de_ix ix_seq opd_ix (dv 0) (dv 2) (fun _ _ => rfl))) (dv 0) (nomarkin _)) (dss_one (ds_ret (de_tup (da_cons (dv 1) (da_cons (dv 2) da_nil))))) dss_nil)))))
      (dss_one (ds_ret de_non))), fun ds S QD ED h => ?_⟩)
  obtain ⟨v, ms, x, rfl, hx, g, q⟩ := h
  have gl := g.len
  rcases hx with rfl | rfl
  · refine ⟨by rw [List.length_map]; omega, by omega, ?_⟩
    rw [ints0, List.length_map]
    refine ⟨fun r ρ S' => ∃ k o1 o2, k ≤ ms.length ∧ r = (List.range' k (ms.length - k)).map nI ∧ ρ = [some (.lst (ms.map nI)), o1, o2] ∧ S' = S, ⟨0, none, none, by omega, rfl, rfl, rfl⟩, ?_, ?_⟩
    · rintro y r ρ S' ⟨k, o1, o2, hk, e, rfl, rfl⟩
      obtain ⟨h1, rfl, rfl⟩ := rng_cases hk e
      refine ⟨⟨by omega, by omega⟩, ⟨by rw [List.length_map]; omega, by omega⟩, ?_⟩
      rw [List.length_map, show ((k : Int) + 1) = ((k + 1 : Nat) : Int) by omega, intsA]
      refine ⟨fun r ρ S2 => ∃ j o2, k + 1 ≤ j ∧ j ≤ ms.length ∧ r = (List.range' j (ms.length - j)).map nI ∧ ρ = [some (.lst (ms.map nI)), some (nI k), o2] ∧ S2 = S', ⟨k + 1, o2, by omega, by omega, rfl, rfl, rfl⟩, ?_, ?_⟩
      · rintro y r ρ S2 ⟨j, o2, hj1, hj, e, rfl, rfl⟩
        obtain ⟨h2, rfl, rfl⟩ := rng_cases hj e
        conv => whnf
        rw [ix_nI h1]
        conv => whnf
        rw [ix_nI h2]
        have hm := g.meet _ (List.getElem_mem h1) _ (List.getElem_mem h2)
        refine ⟨rfl, flat_nI ms, ?_⟩
        show (if (if true = true then !inD (.int (Builtin.bitAnd (ms[k] : Int) (ms[j] : Int))) (ms.map nI) else _) = true then _ else _)
        rw [and_nat, if_pos rfl, inD_nI.mpr hm]
        exact ⟨j + 1, some (nI j), by omega, h2, rfl, rfl, rfl⟩
      · rintro ρ S2 ⟨j, o2, hj1, hj, e, rfl, rfl⟩
        exact ⟨k + 1, some (nI k), o2, h1, rfl, rfl, rfl⟩
    · rintro ρ S' ⟨k, o1, o2, hk, e, rfl, rfl⟩
      exact q
  · refine ⟨by rw [List.length_map]; omega, by omega, ?_⟩
    rw [ints0, List.length_map]
    refine ⟨fun r ρ S' => ∃ k o1 o2, k ≤ ms.length ∧ r = (List.range' k (ms.length - k)).map nI ∧ ρ = [some (.tup (ms.map nI)), o1, o2] ∧ S' = S, ⟨0, none, none, by omega, rfl, rfl, rfl⟩, ?_, ?_⟩
    · rintro y r ρ S' ⟨k, o1, o2, hk, e, rfl, rfl⟩
      obtain ⟨h1, rfl, rfl⟩ := rng_cases hk e
      refine ⟨⟨by omega, by omega⟩, ⟨by rw [List.length_map]; omega, by omega⟩, ?_⟩
      rw [List.length_map, show ((k : Int) + 1) = ((k + 1 : Nat) : Int) by omega, intsA]
      refine ⟨fun r ρ S2 => ∃ j o2, k + 1 ≤ j ∧ j ≤ ms.length ∧ r = (List.range' j (ms.length - j)).map nI ∧ ρ = [some (.tup (ms.map nI)), some (nI k), o2] ∧ S2 = S', ⟨k + 1, o2, by omega, by omega, rfl, rfl, rfl⟩, ?_, ?_⟩
      · rintro y r ρ S2 ⟨j, o2, hj1, hj, e, rfl, rfl⟩
        obtain ⟨h2, rfl, rfl⟩ := rng_cases hj e
        conv => whnf
        rw [ix_nI h1]
        conv => whnf
        rw [ix_nI h2]
        have hm := g.meet _ (List.getElem_mem h1) _ (List.getElem_mem h2)
        refine ⟨rfl, flat_nI ms, ?_⟩
        show (if (if true = true then !inD (.int (Builtin.bitAnd (ms[k] : Int) (ms[j] : Int))) (ms.map nI) else _) = true then _ else _)
        rw [and_nat, if_pos rfl, inD_nI.mpr hm]
        exact ⟨j + 1, some (nI j), by omega, h2, rfl, rfl, rfl⟩
      · rintro ρ S2 ⟨j, o2, hj1, hj, e, rfl, rfl⟩
        exact ⟨k + 1, some (nI k), o2, h1, rfl, rfl, rfl⟩
    · rintro ρ S' ⟨k, o1, o2, hk, e, rfl, rfl⟩
      exact q
def spGlInit : SpD := fun ds S Q _ => ∃ (v : Nat) (ms : List Nat) (x : D) (S0 : Stt), ds = [.hdl S0.length, nI v, x] ∧ SeqOf x (ms.map nI) ∧ Good v ms ∧ S = S0 ++ [.obj "Glasses" [] []] ∧ Q .non (S0 ++ [.obj "Glasses" ["stands", "members"] [nI v, .tup (ms.map nI)]])
theorem whB_v {v : Nat} (h1 : 1 ≤ v) (h6 : v ≤ 6) : whB (nI v) 1 6 = true := whB_nat (lo := 1) (hi := 6) h1 h6
theorem whB_lot {a v : Nat} (h : a < 2 ^ v) : whB (nI a) 0 ((2 ^ v - 1 : Nat) : Int) = true := whB_nat (lo := 0) (Nat.zero_le _) (by omega)
theorem len_Glasses__init_ : ∀ (ds : List D) (S : Stt) (Q : QE) (E : Str → Stt → Prop), spGlInit ds S Q E → ds.length = 3 := by intro ds S Q E h; delta spGlInit at h; (repeat obtain ⟨_, h⟩ := h); subst_vars; rfl
theorem ok_Glasses__init_ (C : Ct) (T : Txt C) : FnM C CX0 (1 + 1) d_Glasses__init_ ["self", "stands", "members"] spGlInit := by
  obtain ⟨fd, F⟩ := T.def_ 8 (d := d_Glasses__init_)
  have F_first_unmet := (ok_first_unmet C T).mono (show 1 ≤ 1 by omega)
  have F_is_sequence := (ok_is_sequence C T).mono (show 1 ≤ 1 by omega)
  have F_is_whole := (ok_is_whole C T).mono (show 1 ≤ 1 by omega)
  refine FnM.of F (fun _ _ _ _ _ _ us hl => match us, hl with | [_, _, _], _ => rfl) (fnD F sc_Glasses__init_ len_Glasses__init_ (by decide) fun cdv A outer s H E hr => ⟨_,
    (dss_cons (ds_if (dt_not (dt_val (de_call F_is_whole hr (by rfl) pass0 (da_cons (dv 1) (da_cons de_int (da_cons de_int da_nil)))))) (dss_one ds_never) dss_nil)
      (dss_cons (ds_if (dt_bop (dw_or (dt_not (dt_val (de_call F_is_sequence hr (by rfl) pass0 (da_cons (dv 2) da_nil)))) (dw_or1 (dt_cmp op_eq opd_eq (de_cb call_len calld_len (by rfl) (T.free "len") (by decide +kernel) (da_cons (dv 2) da_nil)) de_int (nomark _))))) (dss_one ds_never) dss_nil)
      (dss_cons (ds_set (i := 3) sc_Glasses__init_.nd rfl (by first | exact Or.inl rfl | exact Or.inr rfl) (de_op op_sub opd_I (de_op op_shl opd_IC de_int (dv 1)) de_int))
      (dss_cons (ds_set (i := 4) sc_Glasses__init_.nd rfl (by first | exact Or.inl rfl | exact Or.inr rfl) (de_un un_neg und_neg de_int))
      (dss_cons (ds_for PassesOwn.never rfl (di_enum (by rfl) (T.free "enumerate") (dv 2)) (dg_tup (n := 2) rfl (dgs_cons (dg_name (i := 5) sc_Glasses__init_.nd rfl (by first | exact Or.inl rfl | exact Or.inr rfl)) (dgs_cons (dg_name (i := 6) sc_Glasses__init_.nd rfl (by first | exact Or.inl rfl | exact Or.inr rfl)) dgs_nil))) (dss_cons (ds_if (dt_not (dt_val (de_call F_is_whole hr (by rfl) pass0 (da_cons (dv 6) (da_cons de_int (da_cons (dv 3) da_nil)))))) (dss_one ds_never) dss_nil)
      (dss_cons (ds_if (dt_cmp op_le opd_B (dv 6) (dv 4) (nomark _)) (dss_one ds_never) dss_nil)
      (dss_one (ds_set (i := 4) sc_Glasses__init_.nd rfl (by first | exact Or.inl rfl | exact Or.inr rfl) (dv 6))))))
      (dss_cons (ds_if (dt_cmp op_ne opd_ne (dv 4) (dv 3) (nomark _)) (dss_one ds_never) dss_nil)
      (dss_cons (ds_set (i := 7) sc_Glasses__init_.nd rfl (by first | exact Or.inl rfl | exact Or.inr rfl) (de_call F_first_unmet hr (by rfl) pass0 (da_cons (dv 2) da_nil)))
      (dss_cons (ds_if (dt_cmp op_notN opd_notN (dv 7) de_non (nomark _)) (dss_one ds_never) dss_nil)
      (dss_cons (ds_fld T (dv 0) (dv 1))
      (dss_one (ds_fld T (dv 0) (de_cty call_tuple_of calld_tuple (by rfl) (T.free "tuple") (by decide +kernel) (da_cons (dv 2) da_nil))))))))))))), fun ds S QD ED h => ?_⟩)
  obtain ⟨v, ms, x, S0, rfl, hx, g, rfl, q⟩ := h
  have gl := g.len
  have hne : 0 < ms.length := List.length_pos_iff.mpr g.ne
  refine ⟨nI v, 1, 6, rfl, rfl, ite_false (by rw [whB_v g.v1 g.v6]; rfl) ?_⟩
  rcases hx with rfl | rfl
  · refine ⟨.lst (ms.map nI), rfl, rfl, ?_⟩
    show (if (decide ((((ms.map nI).length : Nat) : Int) = 0)) = true then _ else _)
    refine ite_false (decide_eq_false (by rw [List.length_map]; omega)) ?_
    refine ⟨cpow1 (by have := g.v6; omega), ?_⟩
    have ev : ((1 : Int) * 2 ^ ((v : Int)).toNat - 1) = ((2 ^ v - 1 : Nat) : Int) := every_eq v
    refine ⟨fun r ρ S' => ∃ k dn rs l o6 o7 o8, ms = dn ++ rs ∧ r = enumD k (List.map nI rs) ∧ ρ = [some (.hdl S0.length), some (nI v), some (.lst (ms.map nI)), some (.int ((1 : Int) * 2 ^ ((v : Int)).toNat - 1)), some (.int l), o6, o7, o8] ∧ S' = S0 ++ [.obj "Glasses" [] []] ∧ (∀ m ∈ rs, l < (m : Int)) ∧ (rs = [] → l = ((2 ^ v - 1 : Nat) : Int)),
      ⟨0, [], ms, -1, none, none, none, rfl, rfl, rfl, rfl, fun m _ => by omega, fun z => absurd z g.ne⟩, ?_, ?_⟩
    · rintro y r ρ S' ⟨k, dn, rs, l, o6, o7, o8, e0, e, rfl, rfl, hlt, hend⟩
      cases rs with
      | nil => cases e
      | cons m rs =>
        cases e
        have hm : m ∈ ms := by rw [e0]; simp
        refine ⟨rfl, nI m, 0, _, by show [nI m, D.int 0, D.int ((1 : Int) * 2 ^ ((v : Int)).toNat - 1)] = _; rw [ev], rfl, ite_false (by rw [whB_lot (g.lt m hm)]; rfl) ?_⟩
        have hl := hlt m (List.mem_cons_self ..)
        refine dec_f (by omega) ?_
        refine ⟨k + 1, dn ++ [m], rs, (m : Int), some (nI k), some (nI m), o8, by rw [e0]; simp, rfl, rfl, rfl, fun m2 hm2 => ?_, fun z => ?_⟩
        · have up := g.up
          rw [e0, List.pairwise_append] at up
          have := (List.pairwise_cons.mp up.2.1).1 m2 hm2
          omega
        · subst z
          have hl2 : lastN ms = m := by
            rw [lastN_get hne]
            have : ms.length - 1 = dn.length := by rw [e0, List.length_append]; rfl
            simp only [e0]
            rw [List.getElem_append_right (by simp)]
            simp
          rw [← hl2, g.last]
    · rintro ρ S' ⟨k, dn, rs, l, o6, o7, o8, e0, e, rfl, rfl, hlt, hend⟩
      have hrs : rs = [] := by
        cases rs with
        | nil => rfl
        | cons m rs => cases e
      have hl := hend hrs
      subst hl
      refine ite_false (by rw [ev]; simp) ?_
      refine ⟨v, ms, _, rfl, by first | exact .inl rfl | exact .inr rfl, g, ?_⟩
      refine ⟨S0.length, "Glasses", [], [], rfl, hAt, .g0, ?_⟩
      rw [hSet]
      refine ⟨S0.length, "Glasses", ["stands"], _, rfl, hAt, .g1, ?_⟩
      rw [hSet]
      exact q
  · refine ⟨.tup (ms.map nI), rfl, rfl, ?_⟩
    show (if (decide ((((ms.map nI).length : Nat) : Int) = 0)) = true then _ else _)
    refine ite_false (decide_eq_false (by rw [List.length_map]; omega)) ?_
    refine ⟨cpow1 (by have := g.v6; omega), ?_⟩
    have ev : ((1 : Int) * 2 ^ ((v : Int)).toNat - 1) = ((2 ^ v - 1 : Nat) : Int) := every_eq v
    refine ⟨fun r ρ S' => ∃ k dn rs l o6 o7 o8, ms = dn ++ rs ∧ r = enumD k (List.map nI rs) ∧ ρ = [some (.hdl S0.length), some (nI v), some (.tup (ms.map nI)), some (.int ((1 : Int) * 2 ^ ((v : Int)).toNat - 1)), some (.int l), o6, o7, o8] ∧ S' = S0 ++ [.obj "Glasses" [] []] ∧ (∀ m ∈ rs, l < (m : Int)) ∧ (rs = [] → l = ((2 ^ v - 1 : Nat) : Int)),
      ⟨0, [], ms, -1, none, none, none, rfl, rfl, rfl, rfl, fun m _ => by omega, fun z => absurd z g.ne⟩, ?_, ?_⟩
    · rintro y r ρ S' ⟨k, dn, rs, l, o6, o7, o8, e0, e, rfl, rfl, hlt, hend⟩
      cases rs with
      | nil => cases e
      | cons m rs =>
        cases e
        have hm : m ∈ ms := by rw [e0]; simp
        refine ⟨rfl, nI m, 0, _, by show [nI m, D.int 0, D.int ((1 : Int) * 2 ^ ((v : Int)).toNat - 1)] = _; rw [ev], rfl, ite_false (by rw [whB_lot (g.lt m hm)]; rfl) ?_⟩
        have hl := hlt m (List.mem_cons_self ..)
        refine dec_f (by omega) ?_
        refine ⟨k + 1, dn ++ [m], rs, (m : Int), some (nI k), some (nI m), o8, by rw [e0]; simp, rfl, rfl, rfl, fun m2 hm2 => ?_, fun z => ?_⟩
        · have up := g.up
          rw [e0, List.pairwise_append] at up
          have := (List.pairwise_cons.mp up.2.1).1 m2 hm2
          omega
        · subst z
          have hl2 : lastN ms = m := by
            rw [lastN_get hne]
            have : ms.length - 1 = dn.length := by rw [e0, List.length_append]; rfl
            simp only [e0]
            rw [List.getElem_append_right (by simp)]
            simp
          rw [← hl2, g.last]
    · rintro ρ S' ⟨k, dn, rs, l, o6, o7, o8, e0, e, rfl, rfl, hlt, hend⟩
      have hrs : rs = [] := by
        cases rs with
        | nil => rfl
        | cons m rs => cases e
      have hl := hend hrs
      subst hl
      refine ite_false (by rw [ev]; simp) ?_
      refine ⟨v, ms, _, rfl, by first | exact .inl rfl | exact .inr rfl, g, ?_⟩
      refine ⟨S0.length, "Glasses", [], [], rfl, hAt, .g0, ?_⟩
      rw [hSet]
      refine ⟨S0.length, "Glasses", ["stands"], _, rfl, hAt, .g1, ?_⟩
      rw [hSet]
      exact q
end TA
set_option Elab.async false
set_option linter.all false
set_option maxRecDepth 100000
set_option maxHeartbeats 4000000
namespace TA
open PySem PySem.Spec L2
open PyProof.Rows hiding St
/-! ## names -/
def letters : Str := "abcdefghijklmnopqrstuvwxyz"
structure NameOk (n : Str) : Prop where
  lo : 1 ≤ n.length
  hi : n.length ≤ 8
  nt : n ≠ "nothing"
  low : ∀ c ∈ n.cps.toList, c ∈ letters.cps.toList
  st : PyData.canLay0 (.str n) = true
theorem pool_ok : ∀ n ∈ pool, NameOk n := by
  have h : ∀ n ∈ pool, 1 ≤ n.length ∧ n.length ≤ 8 ∧ n ≠ "nothing" ∧ (∀ c ∈ n.cps.toList, c ∈ letters.cps.toList) ∧ PyData.canLay0 (.str n) = true := by decide +kernel
  exact fun n hn => let ⟨a, b, c, d, e⟩ := h n hn; ⟨a, b, c, d, e⟩
def spIsName : SpD := fun ds S Q _ => ∃ n : Str, ds = [.str n] ∧ NameOk n ∧ Q (.bl true) S
theorem len_is_name : ∀ (ds : List D) (S : Stt) (Q : QE) (E : Str → Stt → Prop), spIsName ds S Q E → ds.length = 1 := by intro ds S Q E h; delta spIsName at h; (repeat obtain ⟨_, h⟩ := h); subst_vars; rfl
theorem ok_is_name (C : Ct) (T : Txt C) : Fn C CX0 (0 + 1) "is_name" ["thing"] [] spIsName := by
  obtain ⟨fd, F⟩ := T.def_ 29 (d := d_is_name)
  refine Fn.of F (T.glo "is_name") (fun _ _ _ _ _ _ us hl => match us, hl with | [_], _ => rfl) (fnD F sc_is_name len_is_name (by decide) fun cdv A outer s H E hr => ⟨_,
    (dss_cons (ds_if (dt_bop (dw_or (dt_not (dt_val (de_isistr (T.free "isinstance") (T.free "str") (dv 0)))) (dw_or (dt_not (dt_chain op_le op_le opd_B opd_B de_int (de_cb call_len calld_len (by rfl) (T.free "len") (by decide +kernel) (da_cons (dv 0) da_nil)) de_int)) (dw_or1 (dt_cmp op_eq opd_eq (dv 0) de_str (nomark _)))))) (dss_one (ds_ret de_bl)) dss_nil)
      (dss_one (ds_ret (de_cmp (op_eqD hr.units) opd_eqD (de_lc (own := [("sign", 1)]) (g := gName 1) (dg := gN 1) rfl sc_is_name.nd (di_str (dv 0)) (blkOk_by (N := ["thing", "sign"]) (sc := defScope (topS 54)) (by decide +kernel)) (own_name (by decide)) (fun _ _ _ _ _ => pg_name (i := 1) sc_is_name.nd rfl (by first | exact Or.inl rfl | exact Or.inr rfl)) (fun _ _ _ _ _ => dts_one (dt_cmp op_notIn_sign opd_notInS (dv 1) (de_globS rfl (T.str_ "LETTERS")) rfl)) (fun _ _ _ _ _ => (dv 1))) (de_lst da_nil) (nomark _))))), fun ds S QD ED h => ?_⟩)
  obtain ⟨n, rfl, hn, q⟩ := h
  have h1 := hn.lo
  have h2 := hn.hi
  refine ⟨rfl, ?_⟩
  refine ⟨by omega, ?_⟩
  refine dec_t (by omega) ?_
  show (if (!decide (((n.length : Nat) : Int) ≤ 8)) = true then _ else _)
  refine ite_false (by rw [decide_eq_true (by omega)]; rfl) ?_
  refine ite_false (decide_eq_false hn.nt) ?_
  refine ⟨n, rfl, ?_⟩
  have hlen : (signsD n).length ≤ 100000 := by
    have : (signsD n).length = n.length := by unfold signsD; rw [List.length_map, Array.length_toList]; rfl
    omega
  refine ⟨hlen, fun r acc S' => ∃ rs : List Nat, (∀ c ∈ rs, c ∈ n.cps.toList) ∧ r = rs.map (fun c => D.str ⟨#[c]⟩) ∧ acc = [] ∧ S' = S, ⟨n.cps.toList, fun _ h => h, rfl, rfl, rfl⟩, ?_, ?_⟩
  · rintro x r acc S' ⟨rs, hrs, e, rfl, rfl⟩
    cases rs with
    | nil => cases e
    | cons c rs =>
      cases e
      have hc := hn.low c (hrs c (List.mem_cons_self ..))
      refine ⟨c, letters, rfl, rfl, ?_⟩
      rw [decide_eq_true hc]
      exact ⟨rs, fun z hz => hrs z (List.mem_cons_of_mem _ hz), rfl, rfl, rfl⟩
  · rintro acc S' ⟨rs, hrs, e, rfl, rfl⟩
    exact ⟨by decide, (ok_lst (k := 0) (by simp)).eq, (ok_lst (k := 0) (by simp)).eq, q⟩
/-- an entry as it is handed in -/
def EntR (x : D) (e : Ent) : Prop := ∃ r, SeqOf r (e.2.map nI) ∧ SeqOf x [.str e.1, r]
theorem inD_str {a : Str} : ∀ {ns : List Str}, inD (.str a) (ns.map D.str) = true ↔ a ∈ ns
  | [] => by simp [inD]
  | m :: ms => by
    show (((m == a) || inD (.str a) (ms.map D.str)) = true) ↔ _
    rw [Bool.or_eq_true, inD_str, List.mem_cons, beq_iff_eq]
    exact ⟨fun h => h.imp Eq.symm id, fun h => h.imp Eq.symm id⟩
theorem flat_str : ∀ ms : List Str, (ms.map D.str).all flatD = true
  | [] => rfl
  | m :: ms => by
    rw [List.map_cons, List.all_cons, flat_str ms]; rfl
def spEntF : SpD := fun ds S Q _ => ∃ (v : Nat) (x : D) (e : Ent) (k : Nat) (names : List Str), ds = [nI v, x, .hdl k] ∧ EntR x e ∧ 1 ≤ v ∧ v ≤ 6 ∧ NameOk e.1 ∧ RowOk v e.2 ∧ e.1 ∉ names ∧ S[k]? = some (.lst (names.map D.str)) ∧ Q .non S
theorem len_entry_fault : ∀ (ds : List D) (S : Stt) (Q : QE) (E : Str → Stt → Prop), spEntF ds S Q E → ds.length = 3 := by intro ds S Q E h; delta spEntF at h; (repeat obtain ⟨_, h⟩ := h); subst_vars; rfl
theorem ok_entry_fault (C : Ct) (T : Txt C) : Fn C CX0 (3 + 1) "entry_fault" ["stands", "entry", "had"] [] spEntF := by
  obtain ⟨fd, F⟩ := T.def_ 30 (d := d_entry_fault)
  have F_all_stands := (ok_all_stands C T).mono (show 3 ≤ 3 by omega)
  have F_is_name := (ok_is_name C T).mono (show 1 ≤ 3 by omega)
  have F_is_sequence := (ok_is_sequence C T).mono (show 1 ≤ 3 by omega)
  have F_is_whole := (ok_is_whole C T).mono (show 1 ≤ 3 by omega)
  refine Fn.of F (T.glo "entry_fault") (fun _ _ _ _ _ _ us hl => match us, hl with | [_, _, _], _ => rfl) (fnD F sc_entry_fault len_entry_fault (by decide) fun cdv A outer s H E hr => ⟨_,
    (dss_cons (ds_if (dt_bop (dw_or (dt_not (dt_val (de_call F_is_sequence hr (by rfl) pass0 (da_cons (dv 1) da_nil)))) (dw_or (dt_cmp op_ne opd_ne (de_cb call_len calld_len (by rfl) (T.free "len") (by decide +kernel) (da_cons (dv 1) da_nil)) de_int (nomark _)) (dw_or (dt_not (dt_val (de_call F_is_name hr (by rfl) pass0 (da_cons (de_ix ix_seq opd_ix (dv 1) de_int (fun _ _ => rfl)) da_nil)))) (dw_or1 (dt_cmp op_in_seq opd_in (de_ix ix_seq opd_ix (dv 1) de_int (fun _ _ => rfl)) (dv 2) (nomarkin _))))))) (dss_one (ds_ret de_str)) dss_nil)
      (dss_cons (ds_if (dt_bop (dw_or (dt_not (dt_val (de_call F_is_sequence hr (by rfl) pass0 (da_cons (de_ix ix_seq opd_ix (dv 1) de_int (fun _ _ => rfl)) da_nil)))) (dw_or1 (dt_cmp op_ne opd_ne (de_cb call_len calld_len (by rfl) (T.free "len") (by decide +kernel) (da_cons (de_ix ix_seq opd_ix (dv 1) de_int (fun _ _ => rfl)) da_nil)) (dv 0) (nomark _))))) (dss_one (ds_ret de_str)) dss_nil)
      (dss_cons (ds_if (dt_cmp (op_neD hr.units) opd_neD (de_lc (own := [("lot", 3)]) (g := gName 3) (dg := gN 3) rfl sc_entry_fault.nd (di_seq (de_ix ix_seq opd_ix (dv 1) de_int (fun _ _ => rfl))) (blkOk_by (N := ["stands", "entry", "had", "lot"]) (sc := defScope (topS 55)) (by decide +kernel)) (own_name (by decide)) (fun _ _ _ _ _ => pg_name (i := 3) sc_entry_fault.nd rfl (by first | exact Or.inl rfl | exact Or.inr rfl)) (fun _ _ _ _ _ => dts_one (dt_not (dt_val (de_call F_is_whole hr (by rfl) pass0 (da_cons (dv 3) (da_cons de_int (da_cons (de_call F_all_stands hr (by rfl) pass0 (da_cons (dv 0) da_nil)) da_nil))))))) (fun _ _ _ _ _ => (dv 3))) (de_lst da_nil) (nomark _)) (dss_one (ds_ret de_str)) dss_nil)
      (dss_one (ds_ret de_non))))), fun ds S QD ED h => ?_⟩)
  obtain ⟨v, x, e, k, names, rfl, ⟨r, hr, hx⟩, h1, h6, hn, hrow, hnot, hk, q⟩ := h
  have hin : inD (.str e.1) (names.map D.str) = false := by
    cases z : inD (.str e.1) (names.map D.str) with
    | false => rfl
    | true => exact absurd (inD_str.mp z) hnot
  rcases hx with rfl | rfl
  · rcases hr with rfl | rfl
    all_goals
      refine ⟨_, rfl, rfl, ?_⟩
      refine ⟨e.1, rfl, hn, ?_⟩
      conv => whnf
      rw [seq_h hk]
      refine ⟨rfl, flat_str names, ?_⟩
      show (if inD (.str e.1) (names.map D.str) = true then _ else _)
      refine ite_false hin ?_
      refine ⟨_, rfl, rfl, ?_⟩
      show (if (!decide ((((e.2.map nI).length : Nat) : Int) = (v : Int))) = true then _ else _)
      refine ite_false (by rw [List.length_map, hrow.1]; simp) ?_
      refine ⟨by rw [List.length_map, hrow.1]; omega, fun r acc S' => ∃ rs : List Nat, (∀ c ∈ rs, c ∈ e.2) ∧ r = rs.map nI ∧ acc = [] ∧ S' = S, ⟨e.2, fun _ h => h, rfl, rfl, rfl⟩, ?_, ?_⟩
      · rintro x r acc S' ⟨rs, hrs, ee, rfl, rfl⟩
        cases rs with
        | nil => cases ee
        | cons c rs =>
          cases ee
          refine ⟨v, rfl, h1, h6, nI c, 0, _, rfl, rfl, ?_⟩
          rw [whB_lot (hrow.2 c (hrs c (List.mem_cons_self ..)))]
          exact ⟨rs, fun z hz => hrs z (List.mem_cons_of_mem _ hz), rfl, rfl, rfl⟩
      · rintro acc S' ⟨rs, hrs, ee, rfl, rfl⟩
        exact ⟨by decide, (ok_lst (k := 0) (by simp)).eq, (ok_lst (k := 0) (by simp)).eq, q⟩
  · rcases hr with rfl | rfl
    all_goals
      refine ⟨_, rfl, rfl, ?_⟩
      refine ⟨e.1, rfl, hn, ?_⟩
      conv => whnf
      rw [seq_h hk]
      refine ⟨rfl, flat_str names, ?_⟩
      show (if inD (.str e.1) (names.map D.str) = true then _ else _)
      refine ite_false hin ?_
      refine ⟨_, rfl, rfl, ?_⟩
      show (if (!decide ((((e.2.map nI).length : Nat) : Int) = (v : Int))) = true then _ else _)
      refine ite_false (by rw [List.length_map, hrow.1]; simp) ?_
      refine ⟨by rw [List.length_map, hrow.1]; omega, fun r acc S' => ∃ rs : List Nat, (∀ c ∈ rs, c ∈ e.2) ∧ r = rs.map nI ∧ acc = [] ∧ S' = S, ⟨e.2, fun _ h => h, rfl, rfl, rfl⟩, ?_, ?_⟩
      · rintro x r acc S' ⟨rs, hrs, ee, rfl, rfl⟩
        cases rs with
        | nil => cases ee
        | cons c rs =>
          cases ee
          refine ⟨v, rfl, h1, h6, nI c, 0, _, rfl, rfl, ?_⟩
          rw [whB_lot (hrow.2 c (hrs c (List.mem_cons_self ..)))]
          exact ⟨rs, fun z hz => hrs z (List.mem_cons_of_mem _ hz), rfl, rfl, rfl⟩
      · rintro acc S' ⟨rs, hrs, ee, rfl, rfl⟩
        exact ⟨by decide, (ok_lst (k := 0) (by simp)).eq, (ok_lst (k := 0) (by simp)).eq, q⟩
abbrev nameD (e : Ent) : D := .str e.1
abbrev rowT (e : Ent) : D := .tup (e.2.map nI)
abbrev stD (v : Nat) (es : List Ent) : D := .obj "Steps" ["stands", "names", "rows"] [nI v, .tup (es.map nameD), .tup (es.map rowT)]
inductive AllE : List D → List Ent → Prop where
  | nil : AllE [] []
  | cons {x : D} {e : Ent} {xs : List D} {es : List Ent} : EntR x e → AllE xs es → AllE (x :: xs) (e :: es)
theorem AllE.len : ∀ {xs : List D} {es : List Ent}, AllE xs es → xs.length = es.length
  | _, _, .nil => rfl
  | _, _, .cons _ b => by rw [List.length_cons, List.length_cons, b.len]
def spStInit : SpD := fun ds S Q _ => ∃ (v : Nat) (es : List Ent) (x : D) (xs : List D) (S0 : Stt), ds = [.hdl S0.length, nI v, x] ∧ SeqOf x xs ∧ AllE xs es ∧ 1 ≤ v ∧ v ≤ 6 ∧ es.length ≤ 3 ∧ (es.map (·.1)).Nodup ∧ (∀ e ∈ es, NameOk e.1) ∧ (∀ e ∈ es, RowOk v e.2) ∧ S = S0 ++ [.obj "Steps" [] []] ∧
  Q .non (S0 ++ [.obj "Steps" ["stands", "names", "rows"] [nI v, .tup (es.map nameD), .tup (es.map rowT)]])
theorem hAt2 {S : Stt} {a b : Cell} : (S ++ [a, b])[S.length]? = some a := by rw [List.getElem?_append_right (Nat.le_refl _), Nat.sub_self]; rfl
theorem hAt3 {S : Stt} {a b : Cell} : (S ++ [a, b])[S.length + 1]? = some b := by rw [List.getElem?_append_right (by omega), Nat.add_sub_cancel_left]; rfl
theorem hSet2 {S : Stt} {a b c : Cell} : (S ++ [a, b]).set S.length c = S ++ [c, b] := by rw [List.set_append_right _ _ (Nat.le_refl _), Nat.sub_self]; rfl
theorem hSet3 {S : Stt} {a b c : Cell} : (S ++ [a, b]).set (S.length + 1) c = S ++ [a, c] := by rw [List.set_append_right _ _ (by omega), Nat.add_sub_cancel_left]; rfl
theorem thwR_none {S : Stt} {k : Nat} : ∀ ρ : Rho, ThwR S k ρ (ρ.map fun _ => none)
  | [] => .nil
  | o :: ρ => .cons (by cases o <;> trivial) (thwR_none ρ)
theorem len_Steps__init_ : ∀ (ds : List D) (S : Stt) (Q : QE) (E : Str → Stt → Prop), spStInit ds S Q E → ds.length = 3 := by intro ds S Q E h; delta spStInit at h; (repeat obtain ⟨_, h⟩ := h); subst_vars; rfl
theorem ok_Steps__init_ (C : Ct) (T : Txt C) : FnM C CX0 (4 + 1) d_Steps__init_ ["self", "stands", "entries"] spStInit := by
  obtain ⟨fd, F⟩ := T.def_ 31 (d := d_Steps__init_)
  have F_entry_fault := (ok_entry_fault C T).mono (show 4 ≤ 4 by omega)
  have F_is_sequence := (ok_is_sequence C T).mono (show 1 ≤ 4 by omega)
  have F_is_whole := (ok_is_whole C T).mono (show 1 ≤ 4 by omega)
  refine FnM.of F (fun _ _ _ _ _ _ us hl => match us, hl with | [_, _, _], _ => rfl) (fnD F sc_Steps__init_ len_Steps__init_ (by decide) fun cdv A outer s H E hr => ⟨_,
    (dss_thaw (dss_cons (ds_if (dt_not (dt_val (de_call F_is_whole hr (by rfl) pass0 (da_cons (dv 1) (da_cons de_int (da_cons (de_globI rfl (T.int_ "MOST_STANDS" (i := 6))) da_nil)))))) (dss_one ds_never) dss_nil)
      (dss_cons (ds_if (dt_bop (dw_or (dt_not (dt_val (de_call F_is_sequence hr (by rfl) pass0 (da_cons (dv 2) da_nil)))) (dw_or1 (dt_cmp op_gt opd_B (de_cb call_len calld_len (by rfl) (T.free "len") (by decide +kernel) (da_cons (dv 2) da_nil)) (de_globI rfl (T.int_ "MOST_STEPS" (i := 20))) (nomark _))))) (dss_one ds_never) dss_nil)
      (dss_cons (ds_set (i := 3) sc_Steps__init_.nd rfl (by first | exact Or.inl rfl | exact Or.inr rfl) (de_lstH da_nil))
      (dss_cons (ds_for PassesOwn.never rfl (di_enum (by rfl) (T.free "enumerate") (dv 2)) (dg_tup (n := 2) rfl (dgs_cons (dg_name (i := 4) sc_Steps__init_.nd rfl (by first | exact Or.inl rfl | exact Or.inr rfl)) (dgs_cons (dg_name (i := 5) sc_Steps__init_.nd rfl (by first | exact Or.inl rfl | exact Or.inr rfl)) dgs_nil))) (dss_cons (ds_set (i := 6) sc_Steps__init_.nd rfl (by first | exact Or.inl rfl | exact Or.inr rfl) (de_call F_entry_fault hr (by rfl) pass0 (da_cons (dv 1) (da_cons (dv 5) (da_cons (dv 3) da_nil)))))
      (dss_cons (ds_if (dt_cmp op_notN opd_notN (dv 6) de_non (nomark _)) (dss_one ds_never) dss_nil)
      (dss_one (ds_expr (de_append (dv 3) (de_ix ix_seq opd_ix (dv 5) de_int (fun _ _ => rfl))))))))
      (dss_cons (ds_fld T (dv 0) (dv 1))
      (dss_cons (ds_fld T (dv 0) (de_cty call_tuple_of calld_tuple (by rfl) (T.free "tuple") (by decide +kernel) (da_cons (dv 3) da_nil)))
      (dss_one (ds_fld T (dv 0) (de_cty call_tuple_of calld_tuple (by rfl) (T.free "tuple") (by decide +kernel) (da_cons (de_lc (own := [("entry", 5)]) (g := gName 5) (dg := gN 5) rfl sc_Steps__init_.nd (di_seq (dv 2)) (blkOk_by (N := ["self", "stands", "entries", "names", "place", "entry", "word"]) (sc := defScope (inClass (topS 56) 0)) (by decide +kernel)) (own_name (by decide)) (fun _ _ _ _ _ => pg_name (i := 5) sc_Steps__init_.nd rfl (by first | exact Or.inl rfl | exact Or.inr rfl)) (fun _ _ _ _ _ => dts_nil) (fun _ _ _ _ _ => (de_cty call_tuple_of calld_tuple (by rfl) (T.free "tuple") (by decide +kernel) (da_cons (de_ix ix_seq opd_ix (dv 5) de_int (fun _ _ => rfl)) da_nil)))) da_nil))))))))))), fun ds S QD ED h => ?_⟩)
  obtain ⟨v, es, x, xs, S0, rfl, hx, ha, h1, h6, hl, hnd, hno, hro, rfl, q⟩ := h
  intro wf
  have hxl := ha.len
  have eS : ∀ c : Cell, (S0 ++ [Cell.obj "Steps" [] []]) ++ [c] = S0 ++ [Cell.obj "Steps" [] [], c] := fun c => by rw [List.append_assoc]; rfl
  have eL : (S0 ++ [Cell.obj "Steps" [] []]).length = S0.length + 1 := by rw [List.length_append]; rfl
  refine ⟨nI v, 1, 6, rfl, rfl, ite_false (by rw [whB_v h1 h6]; rfl) ?_⟩
  rcases hx with rfl | rfl
  · refine ⟨_, rfl, rfl, ?_⟩
    show (if decide ((20 : Int) < ((xs.length : Nat) : Int)) = true then _ else _)
    refine dec_f (by omega) ?_
    refine ⟨by decide, ?_⟩
    refine ⟨fun r ρ S' => ∃ k dn rs rx o4 o5 o6, es = dn ++ rs ∧ AllE rx rs ∧ r = enumD k rx ∧ ρ = [some (.hdl S0.length), some (nI v), some (.lst xs), some (.hdl (S0 ++ [Cell.obj "Steps" [] []]).length), o4, o5, o6] ∧ S' = (S0 ++ [Cell.obj "Steps" [] []]) ++ [.lst ((dn.map (·.1)).map D.str)],
      ⟨0, [], es, xs, none, none, none, rfl, ha, rfl, rfl, rfl⟩, ?_, ?_⟩
    · rintro y r ρ S' ⟨k, dn, rs, rx, o4, o5, o6, e0, hall, e, rfl, rfl⟩
      cases hall with
      | nil => cases e
      | @cons z ez zs ezs hz hzs =>
        cases e
        have hmem : ez ∈ es := by rw [e0]; simp
        have hnot : ez.1 ∉ dn.map (·.1) := fun hin => by
          rw [e0, List.map_append, List.map_cons, List.nodup_append] at hnd
          exact hnd.2.2 ez.1 hin ez.1 (List.mem_cons_self ..) rfl
        refine ⟨rfl, v, z, ez, _, dn.map (·.1), rfl, hz, h1, h6, hno _ hmem, hro _ hmem, hnot, hAt, ?_⟩
        obtain ⟨rr, hr, hzz⟩ := id hz
        rcases hzz with rfl | rfl
        all_goals
          refine ⟨_, _, rfl, hAt, _, hAt, by rw [List.length_map, List.length_map]; rw [e0, List.length_append] at hl; omega, ?_⟩
          rw [hSet]
          exact ⟨k + 1, dn ++ [ez], ezs, zs, _, _, _, by rw [e0]; simp, hzs, rfl, rfl, by rw [List.map_append, List.map_append]; rfl⟩
    · rintro ρ S' ⟨k, dn, rs, rx, o4, o5, o6, e0, hall, e, rfl, rfl⟩
      cases hall with
      | cons _ _ => cases e
      | nil =>
        rw [List.append_nil] at e0
        subst e0
        rw [eS, eL]
        refine ⟨S0.length, "Steps", [], [], rfl, hAt2, .s0, ?_⟩
        rw [hSet2]
        conv => whnf
        rw [seq_h hAt3]
        refine ⟨S0.length, "Steps", ["stands"], _, rfl, hAt2, .s1, ?_⟩
        rw [hSet2]
        refine ⟨by omega, fun r acc S' => ∃ d2 r2, es = d2 ++ r2 ∧ AllE r r2 ∧ acc = d2.map rowT ∧ S' = S0 ++ [Cell.obj "Steps" ((["stands"] : List Str) ++ (["names"] : List Str)) ([nI v] ++ [D.tup ((es.map (·.1)).map D.str)]), .lst ((es.map (·.1)).map D.str)], ⟨[], es, rfl, ha, rfl, rfl⟩, ?_, ?_⟩
        · rintro y r acc S' ⟨d2, r2, e2, hall2, rfl, rfl⟩
          cases hall2 with
          | @cons z ez zs ezs hz hzs =>
            obtain ⟨rr, hr, hzz⟩ := id hz
            rcases hzz with rfl | rfl
            all_goals
              rcases hr with rfl | rfl
            all_goals
              exact ⟨d2 ++ [ez], ezs, by rw [e2]; simp, hzs, by rw [List.map_append]; rfl, rfl⟩
        · rintro acc S' ⟨d2, r2, e2, hall2, rfl, rfl⟩
          cases hall2
          rw [List.append_nil] at e2
          subst e2
          refine ⟨S0.length, "Steps", ["stands", "names"], _, rfl, hAt2, .s2, ?_⟩
          rw [hSet2]
          have eN : (es.map (·.1)).map D.str = es.map nameD := by rw [List.map_map]; rfl
          rw [eN]
          have eT : (S0 ++ [Cell.obj "Steps" ["stands", "names", "rows"] [nI v, .tup (es.map nameD), .tup (es.map rowT)], .lst (es.map nameD)]).take (S0.length + 1) = S0 ++ [Cell.obj "Steps" ["stands", "names", "rows"] [nI v, .tup (es.map nameD), .tup (es.map rowT)]] := by
            rw [List.take_append, Nat.add_sub_cancel_left, List.take_of_length_le (by omega)]
            rfl
          have b1 : ∀ k, belL k (es.map nameD) = true := fun k => belL_mem.mpr fun d hd => by
            obtain ⟨e, _, ee⟩ := List.mem_map.mp hd
            rw [← ee]; rfl
          have b2 : ∀ k, belL k (es.map rowT) = true := fun k => belL_mem.mpr fun d hd => by
            obtain ⟨e, _, ee⟩ := List.mem_map.mp hd
            rw [← ee]; exact bel_nI e.2
          refine ⟨?_, _, thwR_none _, ?_⟩
          · show Wf _ (List.take _ (S0 ++ [Cell.obj "Steps" ["stands", "names", "rows"] [nI v, .tup (es.map nameD), .tup (es.map rowT)], .lst (es.map nameD)]))
            rw [eT]
            intro c hc
            rcases List.mem_append.mp hc with z | z
            · have := wf c (List.mem_append_left _ z)
              rwa [eL] at this
            · rw [List.mem_singleton.mp z]
              show (true && (belL _ (es.map nameD) && (belL _ (es.map rowT) && true))) = true
              rw [b1, b2]
              rfl
          · show QD .non (List.take _ (S0 ++ [Cell.obj "Steps" ["stands", "names", "rows"] [nI v, .tup (es.map nameD), .tup (es.map rowT)], .lst (es.map nameD)]))
            rw [eT]
            exact q
  · refine ⟨_, rfl, rfl, ?_⟩
    show (if decide ((20 : Int) < ((xs.length : Nat) : Int)) = true then _ else _)
    refine dec_f (by omega) ?_
    refine ⟨by decide, ?_⟩
    refine ⟨fun r ρ S' => ∃ k dn rs rx o4 o5 o6, es = dn ++ rs ∧ AllE rx rs ∧ r = enumD k rx ∧ ρ = [some (.hdl S0.length), some (nI v), some (.tup xs), some (.hdl (S0 ++ [Cell.obj "Steps" [] []]).length), o4, o5, o6] ∧ S' = (S0 ++ [Cell.obj "Steps" [] []]) ++ [.lst ((dn.map (·.1)).map D.str)],
      ⟨0, [], es, xs, none, none, none, rfl, ha, rfl, rfl, rfl⟩, ?_, ?_⟩
    · rintro y r ρ S' ⟨k, dn, rs, rx, o4, o5, o6, e0, hall, e, rfl, rfl⟩
      cases hall with
      | nil => cases e
      | @cons z ez zs ezs hz hzs =>
        cases e
        have hmem : ez ∈ es := by rw [e0]; simp
        have hnot : ez.1 ∉ dn.map (·.1) := fun hin => by
          rw [e0, List.map_append, List.map_cons, List.nodup_append] at hnd
          exact hnd.2.2 ez.1 hin ez.1 (List.mem_cons_self ..) rfl
        refine ⟨rfl, v, z, ez, _, dn.map (·.1), rfl, hz, h1, h6, hno _ hmem, hro _ hmem, hnot, hAt, ?_⟩
        obtain ⟨rr, hr, hzz⟩ := id hz
        rcases hzz with rfl | rfl
        all_goals
          refine ⟨_, _, rfl, hAt, _, hAt, by rw [List.length_map, List.length_map]; rw [e0, List.length_append] at hl; omega, ?_⟩
          rw [hSet]
          exact ⟨k + 1, dn ++ [ez], ezs, zs, _, _, _, by rw [e0]; simp, hzs, rfl, rfl, by rw [List.map_append, List.map_append]; rfl⟩
    · rintro ρ S' ⟨k, dn, rs, rx, o4, o5, o6, e0, hall, e, rfl, rfl⟩
      cases hall with
      | cons _ _ => cases e
      | nil =>
        rw [List.append_nil] at e0
        subst e0
        rw [eS, eL]
        refine ⟨S0.length, "Steps", [], [], rfl, hAt2, .s0, ?_⟩
        rw [hSet2]
        conv => whnf
        rw [seq_h hAt3]
        refine ⟨S0.length, "Steps", ["stands"], _, rfl, hAt2, .s1, ?_⟩
        rw [hSet2]
        refine ⟨by omega, fun r acc S' => ∃ d2 r2, es = d2 ++ r2 ∧ AllE r r2 ∧ acc = d2.map rowT ∧ S' = S0 ++ [Cell.obj "Steps" ((["stands"] : List Str) ++ (["names"] : List Str)) ([nI v] ++ [D.tup ((es.map (·.1)).map D.str)]), .lst ((es.map (·.1)).map D.str)], ⟨[], es, rfl, ha, rfl, rfl⟩, ?_, ?_⟩
        · rintro y r acc S' ⟨d2, r2, e2, hall2, rfl, rfl⟩
          cases hall2 with
          | @cons z ez zs ezs hz hzs =>
            obtain ⟨rr, hr, hzz⟩ := id hz
            rcases hzz with rfl | rfl
            all_goals
              rcases hr with rfl | rfl
            all_goals
              exact ⟨d2 ++ [ez], ezs, by rw [e2]; simp, hzs, by rw [List.map_append]; rfl, rfl⟩
        · rintro acc S' ⟨d2, r2, e2, hall2, rfl, rfl⟩
          cases hall2
          rw [List.append_nil] at e2
          subst e2
          refine ⟨S0.length, "Steps", ["stands", "names"], _, rfl, hAt2, .s2, ?_⟩
          rw [hSet2]
          have eN : (es.map (·.1)).map D.str = es.map nameD := by rw [List.map_map]; rfl
          rw [eN]
          have eT : (S0 ++ [Cell.obj "Steps" ["stands", "names", "rows"] [nI v, .tup (es.map nameD), .tup (es.map rowT)], .lst (es.map nameD)]).take (S0.length + 1) = S0 ++ [Cell.obj "Steps" ["stands", "names", "rows"] [nI v, .tup (es.map nameD), .tup (es.map rowT)]] := by
            rw [List.take_append, Nat.add_sub_cancel_left, List.take_of_length_le (by omega)]
            rfl
          have b1 : ∀ k, belL k (es.map nameD) = true := fun k => belL_mem.mpr fun d hd => by
            obtain ⟨e, _, ee⟩ := List.mem_map.mp hd
            rw [← ee]; rfl
          have b2 : ∀ k, belL k (es.map rowT) = true := fun k => belL_mem.mpr fun d hd => by
            obtain ⟨e, _, ee⟩ := List.mem_map.mp hd
            rw [← ee]; exact bel_nI e.2
          refine ⟨?_, _, thwR_none _, ?_⟩
          · show Wf _ (List.take _ (S0 ++ [Cell.obj "Steps" ["stands", "names", "rows"] [nI v, .tup (es.map nameD), .tup (es.map rowT)], .lst (es.map nameD)]))
            rw [eT]
            intro c hc
            rcases List.mem_append.mp hc with z | z
            · have := wf c (List.mem_append_left _ z)
              rwa [eL] at this
            · rw [List.mem_singleton.mp z]
              show (true && (belL _ (es.map nameD) && (belL _ (es.map rowT) && true))) = true
              rw [b1, b2]
              rfl
          · show QD .non (List.take _ (S0 ++ [Cell.obj "Steps" ["stands", "names", "rows"] [nI v, .tup (es.map nameD), .tup (es.map rowT)], .lst (es.map nameD)]))
            rw [eT]
            exact q
end TA
set_option Elab.async false
set_option linter.all false
set_option maxRecDepth 100000
set_option maxHeartbeats 4000000
namespace TA
open PySem PySem.Spec L2
open PyProof.Rows hiding St
/-! ## row_of, make -/
def spRowOf : SpD := fun ds S Q _ => ∃ (v : Nat) (es : List Ent) (n : Str), ds = [stD v es, .str n] ∧ n ∈ es.map (·.1) ∧ Q (.tup ((rowOf es n).map nI)) S
theorem len_Steps_row_of : ∀ (ds : List D) (S : Stt) (Q : QE) (E : Str → Stt → Prop), spRowOf ds S Q E → ds.length = 2 := by intro ds S Q E h; delta spRowOf at h; (repeat obtain ⟨_, h⟩ := h); subst_vars; rfl
theorem ok_Steps_row_of (C : Ct) (T : Txt C) : FnM C CX0 (0 + 1) d_Steps_row_of ["self", "name"] spRowOf := by
  obtain ⟨fd, F⟩ := T.def_ 33 (d := d_Steps_row_of)
  refine FnM.of F (fun _ _ _ _ _ _ us hl => match us, hl with | [_, _], _ => rfl) (fnD F sc_Steps_row_of len_Steps_row_of (by decide) fun cdv A outer s H E hr => ⟨_,
    (dss_cons (ds_for PassesOwn.never rfl (di_zip (by rfl) (T.free "zip") (de_fld T (dv 0)) (de_fld T (dv 0))) (dg_tup (n := 2) rfl (dgs_cons (dg_name (i := 2) sc_Steps_row_of.nd rfl (by first | exact Or.inl rfl | exact Or.inr rfl)) (dgs_cons (dg_name (i := 3) sc_Steps_row_of.nd rfl (by first | exact Or.inl rfl | exact Or.inr rfl)) dgs_nil))) (dss_one (ds_if (dt_bop (dw_and (dt_val (de_isistr (T.free "isinstance") (T.free "str") (dv 1))) (dw_and1 (dt_cmp op_eq opd_eq (dv 2) (dv 1) (nomark _))))) (dss_one (ds_ret (dv 3))) dss_nil)))
      (dss_one ds_never)), fun ds S QD ED h => ?_⟩)
  obtain ⟨v, es, n, rfl, hn, q⟩ := h
  refine ⟨_, _, _, _, _, rfl, .s1, rfl, _, _, _, _, _, rfl, .s2, rfl, ?_⟩
  refine ⟨fun r ρ S' => ∃ rs o2 o3, r = zipD (rs.map nameD) (rs.map rowT) ∧ ρ = [some (stD v es), some (.str n), o2, o3] ∧ S' = S ∧ n ∈ rs.map (·.1) ∧ rowOf rs n = rowOf es n, ⟨es, none, none, rfl, rfl, rfl, hn, rfl⟩, ?_, ?_⟩
  · rintro x r ρ S' ⟨rs, o2, o3, e, rfl, rfl, hm, er⟩
    cases rs with
    | nil => cases hm
    | cons y ys =>
      cases e
      refine ⟨rfl, rfl, ?_⟩
      have er : (if y.1 = n then y.2 else rowOf ys n) = rowOf es n := er
      by_cases h : y.1 = n
      · rw [if_pos h] at er
        refine dec_t h ?_
        rw [← er] at q
        exact q
      · rw [if_neg h] at er
        refine dec_f h ?_
        refine ⟨ys, _, _, rfl, rfl, rfl, ?_, er⟩
        rcases List.mem_cons.mp hm with z | z
        · exact absurd z.symm h
        · exact z
  · rintro ρ S' ⟨rs, o2, o3, e, rfl, rfl, hm, er⟩
    cases rs with
    | nil => cases hm
    | cons y ys => cases e
def spMake : SpD := fun ds S Q _ => ∃ (v : Nat) (ms : List Nat) (es : List Ent) (S2 : Stt), ds = [.hdl 0, .hdl 1] ∧ S = .hand :: wC v ms es :: S2 ∧ Good v ms ∧ Ents v es ∧ Q (.tup [glD v ms, stD v es]) S
theorem thaw_obj {S : Stt} {c : Str} {fs : List Str} {ds : List D} {Q : QE} (w : Wf S.length S) (b : belL S.length ds = true) (q : Q (.obj c fs ds) S) : ThawV S.length Q (.hdl S.length) (S ++ [.obj c fs ds]) := by
  refine ⟨?_, .obj c fs ds, .obj (Nat.le_refl _) hAt b, ?_⟩
  · rw [hTake]; exact w
  · rw [hTake]; exact q
theorem allE_of {R : D → D → Prop} : ∀ {es : List Ent} {ys : List D}, (∀ x y, R x y → ∃ e, x = entD e ∧ EntR y e) → All2 R (es.map entD) ys → AllE ys es
  | [], _, _, h => by
    cases h
    exact .nil
  | e :: es, _, f, h => by
    cases h with
    | cons a b =>
      obtain ⟨e2, h1, h2⟩ := f _ _ a
      have h1 : entD e = entD e2 := h1
      have : e = e2 := by
        obtain ⟨n, r⟩ := e
        obtain ⟨n2, r2⟩ := e2
        injection h1 with h1
        injection h1 with h3 h4
        injection h3 with h3
        injection h4 with h4 h5
        injection h4 with h4
        have h6 : r = r2 := by
          have inj : ∀ a b : List Nat, a.map nI = b.map nI → a = b := fun a => by
            induction a with
            | nil => intro b hb; cases b with
              | nil => rfl
              | cons _ _ => cases hb
            | cons x a ih => intro b hb; cases b with
              | nil => cases hb
              | cons y b =>
                injection hb with e1 e2
                injection e1 with e1
                rw [ih b e2, show x = y by omega]
          exact inj r r2 h4
        have h3 : n = n2 := h3
        rw [h3, h6]
      exact .cons (this ▸ h2) (allE_of f b)
theorem len__law_make : ∀ (ds : List D) (S : Stt) (Q : QE) (E : Str → Stt → Prop), spMake ds S Q E → ds.length = 2 := by intro ds S Q E h; delta spMake at h; (repeat obtain ⟨_, h⟩ := h); subst_vars; rfl
theorem ok__law_make (C : Ct) (T : Txt C) : Fn C CX0 (6 + 1) "_law_make" ["_law_hand_here", "_law_world_here"] [] spMake := by
  obtain ⟨fd, F⟩ := T.def_ 60 (d := d__law_make)
  have F_Glasses__init_ := (ok_Glasses__init_ C T).mono (show 2 ≤ 5 by omega)
  have F_Steps__init_ := (ok_Steps__init_ C T).mono (show 5 ≤ 5 by omega)
  have F__law_list := (ok__law_list C T).mono (show 3 ≤ 6 by omega)
  refine Fn.of F (T.glo "_law_make") (fun _ _ _ _ _ _ us hl => match us, hl with | [_, _], _ => rfl) (fnD F sc__law_make len__law_make (by decide) fun cdv A outer s H E hr => ⟨_,
    (dss_cons (ds_set (i := 2) sc__law_make.nd rfl (by first | exact Or.inl rfl | exact Or.inr rfl) (de_call F__law_list hr (by rfl) pass0 (da_cons (dv 0) (da_cons (de_ix ix_seq opd_ix (dv 1) de_int (fun _ _ => rfl)) da_nil))))
      (dss_cons (ds_set (i := 3) sc__law_make.nd rfl (by first | exact Or.inl rfl | exact Or.inr rfl) (de_call F__law_list hr (by rfl) pass0 (da_cons (dv 0) (da_cons (de_lc (own := [("_law_name", 4), ("_law_row", 5)]) (g := gTup _ 2 (gCons (gName 4) (gCons (gName 5) gNil))) (dg := gT 2 (gsCons (gN 4) (gsCons (gN 5) gsNil))) rfl sc__law_make.nd (di_seq (de_ix ix_seq opd_ix (dv 1) de_int (fun _ _ => rfl))) (blkOk_by (N := ["_law_hand_here", "_law_world_here", "_law_members_here", "_law_rows", "_law_name", "_law_row"]) (sc := defScope (topS 84)) (by decide +kernel)) (own_pair (by decide) (by decide)) (fun _ _ _ _ _ => pg_tup rfl (pgs_cons (pg_name (i := 4) sc__law_make.nd rfl (by first | exact Or.inl rfl | exact Or.inr rfl)) (pgs_cons (pg_name (i := 5) sc__law_make.nd rfl (by first | exact Or.inl rfl | exact Or.inr rfl)) pgs_nil))) (fun _ _ _ _ _ => dts_nil) (fun _ _ _ _ _ => (de_call F__law_list hr (by rfl) pass0 (da_cons (dv 0) (da_cons (de_lst (da_cons (dv 4) (da_cons (de_call F__law_list hr (by rfl) pass0 (da_cons (dv 0) (da_cons (dv 5) da_nil))) da_nil))) da_nil))))) da_nil))))
      (dss_one (ds_ret (de_tup (da_cons (de_make (d := d_Glasses__init_) T.mkG F_Glasses__init_ hr (by rfl) (T.glo "Glasses") pass0 (da_cons (de_ix ix_seq opd_ix (dv 1) de_int (fun _ _ => rfl)) (da_cons (dv 2) da_nil))) (da_cons (de_make (d := d_Steps__init_) T.mkS F_Steps__init_ hr (by rfl) (T.glo "Steps") pass0 (da_cons (de_ix ix_seq opd_ix (dv 1) de_int (fun _ _ => rfl)) (da_cons (dv 3) da_nil))) da_nil))))))), fun ds S QD ED h => ?_⟩)
  obtain ⟨v, ms, es, S2, rfl, rfl, g, E, q⟩ := h
  have gl := g.len
  have fin : ∀ (mx : D) (rx : D) (xs : List D) (o4 o5 : Option D), SeqOf mx (ms.map nI) → SeqOf rx xs → AllE xs es → (dRet (dTup (dCons (dMake "Glasses" spGlInit (dCons (dOp rdIx (dVar 1) (dC (.int 0))) (dCons (dVar 2) dNil))) (dCons (dMake "Steps" spStInit (dCons (dOp rdIx (dVar 1) (dC (.int 0))) (dCons (dVar 3) dNil))) dNil)))) (endsD QD)
      [some (.hdl 0), some (.hdl 1), some mx, some rx, o4, o5] (.hand :: wC v ms es :: S2) := fun mx rx xs o4 o5 hm hr hall => by
    intro wf
    refine ⟨v, ms, mx, .hand :: wC v ms es :: S2, rfl, hm, g, rfl, rfl, thaw_obj wf ?_ ?_⟩
    · show (true && (belL _ (ms.map nI) && true)) = true
      rw [bel_nI]; rfl
    intro wf
    refine ⟨v, es, rx, xs, .hand :: wC v ms es :: S2, rfl, hr, hall, g.v1, g.v6, E.few, E.nd, fun e he => pool_ok _ (E.pl e he), E.ok, rfl, rfl, thaw_obj wf ?_ ⟨by show 2 ≤ 100000; decide, q⟩⟩
    have b1 : ∀ k, belL k (es.map nameD) = true := fun k => belL_mem.mpr fun d hd => by
      obtain ⟨e, _, ee⟩ := List.mem_map.mp hd
      rw [← ee]; rfl
    have b2 : ∀ k, belL k (es.map rowT) = true := fun k => belL_mem.mpr fun d hd => by
      obtain ⟨e, _, ee⟩ := List.mem_map.mp hd
      rw [← ee]; exact bel_nI e.2
    show (true && (belL _ (es.map nameD) && (belL _ (es.map rowT) && true))) = true
    rw [b1, b2]; rfl
  have rows : ∀ (mx : D), SeqOf mx (ms.map nI) → ∀ o3 o4 o5 : Option D, (dSeq (dAsg (dCall spList [] (dCons (dVar 0) (dCons (dLc (diSeq (dOp rdIx (dVar 1) (dC (.int 3)))) (gT 2 (gsCons (gN 4) (gsCons (gN 5) gsNil))) dYes
      (dCall spList [] (dCons (dVar 0) (dCons (dLst (dCons (dVar 4) (dCons (dCall spList [] (dCons (dVar 0) (dCons (dVar 5) dNil))) dNil))) dNil))) [4, 5]) dNil))) (gN 3)) (dRet (dTup (dCons (dMake "Glasses" spGlInit (dCons (dOp rdIx (dVar 1) (dC (.int 0))) (dCons (dVar 2) dNil))) (dCons (dMake "Steps" spStInit (dCons (dOp rdIx (dVar 1) (dC (.int 0))) (dCons (dVar 3) dNil))) dNil))))) (endsD QD)
      [some (.hdl 0), some (.hdl 1), some mx, o3, o4, o5] (.hand :: wC v ms es :: S2) := fun mx hm o3 o4 o5 => by
    refine lc_map (fun x y => ∃ e, x = entD e ∧ EntR y e) (by rw [List.length_map]; have := E.few; omega) (fun x hx K hK => ?_) fun ys h => ?_
    · obtain ⟨e, he, ee⟩ := List.mem_map.mp hx
      subst ee
      have one : ∀ r, SeqOf r (e.2.map nI) → spList [.hdl 0, .lst [.str e.1, r]] (.hand :: wC v ms es :: S2) K fun _ _ => False := fun r hr =>
        ⟨_, [.str e.1, r], _, rfl, rfl, rfl, hK _ ⟨e, rfl, r, hr, .inl rfl⟩, hK _ ⟨e, rfl, r, hr, .inr rfl⟩⟩
      refine ⟨rfl, _, _, _, rfl, rfl, rfl, ⟨by show 2 ≤ 100000; decide, one _ (.inl rfl)⟩, ⟨by show 2 ≤ 100000; decide, one _ (.inr rfl)⟩⟩
    · have hall := allE_of (fun x y h => h) h
      exact ⟨_, ys, _, rfl, rfl, rfl, fin mx _ ys _ _ hm (.inl rfl) hall, fin mx _ ys _ _ hm (.inr rfl) hall⟩
  exact ⟨_, ms.map nI, _, rfl, rfl, rfl, rows _ (.inl rfl) _ _ _, rows _ (.inr rfl) _ _ _⟩
end TA
set_option Elab.async false
set_option linter.all false
set_option maxRecDepth 100000
set_option maxHeartbeats 4000000
namespace TA
open PySem PySem.Spec L2
open PyProof.Rows hiding St
/-! ## programs of any shape -/
def keyW (w : Str) : Prop := w = "step" ∨ w = "nothing" ∨ w = "behind" ∨ w = "either" ∨ w = "again"
def sizeW (w : Str) : Nat := if w = "step" then 2 else if w = "nothing" then 1 else if w = "behind" then 3 else if w = "either" then 3 else if w = "again" then 2 else 0
inductive WP : D → Prop where
  | other {d : D} : hasT d → isTup d = false → WP d
  | nil : WP (.tup [])
  | odd {x : D} {ps : List D} : hasT x → isStr x = false → WP (.tup (x :: ps))
  | short {w : Str} {ps : List D} : keyW w → ps.length + 1 ≠ sizeW w → WP (.tup (.str w :: ps))
  | nothing : WP (.tup [.str "nothing"])
  | step {x : D} : hasT x → WP (.tup [.str "step", x])
  | behind {p q : D} : WP p → WP q → WP (.tup [.str "behind", p, q])
  | either {p q : D} : WP p → WP q → WP (.tup [.str "either", p, q])
  | again {p : D} : WP p → WP (.tup [.str "again", p])
theorem WP.hasT {d : D} (h : WP d) : hasT d := by
  cases h with
  | other h _ => exact h
  | _ => rfl
/-- how many nodes; 0: not a program -/
inductive Nodes (ns : List Str) : D → Nat → Nat → Nat → Prop where
  | other {d : D} {dp ag : Nat} : hasT d → isTup d = false → Nodes ns d dp ag 0
  | nil {dp ag : Nat} : Nodes ns (.tup []) dp ag 0
  | deep {ds : List D} {dp ag : Nat} : 12 < dp → Nodes ns (.tup ds) dp ag 0
  | odd {x : D} {ps : List D} {dp ag : Nat} : dp ≤ 12 → hasT x → isStr x = false → Nodes ns (.tup (x :: ps)) dp ag 0
  | short {w : Str} {ps : List D} {dp ag : Nat} : dp ≤ 12 → keyW w → ps.length + 1 ≠ sizeW w → Nodes ns (.tup (.str w :: ps)) dp ag 0
  | nothing {dp ag : Nat} : dp ≤ 12 → Nodes ns (.tup [.str "nothing"]) dp ag 1
  | step {n : Str} {dp ag : Nat} : dp ≤ 12 → n ∈ ns → Nodes ns (.tup [.str "step", .str n]) dp ag 1
  | noname {x : D} {dp ag : Nat} : dp ≤ 12 → hasT x → (∀ n, x = .str n → n ∉ ns) → Nodes ns (.tup [.str "step", x]) dp ag 0
  | agains {p : D} {dp ag : Nat} : dp ≤ 12 → ag = 4 → Nodes ns (.tup [.str "again", p]) dp ag 0
  | again {p : D} {dp ag n : Nat} : dp ≤ 12 → ag < 4 → Nodes ns p (dp + 1) (ag + 1) n → Nodes ns (.tup [.str "again", p]) dp ag (if n = 0 then 0 else 1 + n)
  | two0 {w : Str} {p q : D} {dp ag : Nat} : dp ≤ 12 → w = "behind" ∨ w = "either" → Nodes ns p (dp + 1) ag 0 → Nodes ns (.tup [.str w, p, q]) dp ag 0
  | two {w : Str} {p q : D} {dp ag n m : Nat} : dp ≤ 12 → w = "behind" ∨ w = "either" → Nodes ns p (dp + 1) ag n → n ≠ 0 → Nodes ns q (dp + 1) ag m → Nodes ns (.tup [.str w, p, q]) dp ag (if m = 0 then 0 else 1 + n + m)
theorem nodes_all (ns : List Str) {d : D} (h : WP d) : ∀ dp ag, ag ≤ 4 → ∃ n, Nodes ns d dp ag n := by
  induction h with
  | other h1 h2 => exact fun dp ag _ => ⟨_, .other h1 h2⟩
  | nil => exact fun dp ag _ => ⟨_, .nil⟩
  | odd h1 h2 =>
    intro dp ag _
    by_cases hd : dp ≤ 12
    · exact ⟨_, .odd hd h1 h2⟩
    · exact ⟨_, .deep (by omega)⟩
  | short h1 h2 =>
    intro dp ag _
    by_cases hd : dp ≤ 12
    · exact ⟨_, .short hd h1 h2⟩
    · exact ⟨_, .deep (by omega)⟩
  | nothing =>
    intro dp ag _
    by_cases hd : dp ≤ 12
    · exact ⟨_, .nothing hd⟩
    · exact ⟨_, .deep (by omega)⟩
  | @step x h1 =>
    intro dp ag _
    by_cases hd : dp ≤ 12
    · by_cases hx : ∃ n, x = .str n ∧ n ∈ ns
      · obtain ⟨n, e, hn⟩ := hx
        subst e
        exact ⟨_, .step hd hn⟩
      · exact ⟨_, .noname hd h1 fun n e hn => hx ⟨n, e, hn⟩⟩
    · exact ⟨_, .deep (by omega)⟩
  | behind _ _ ih1 ih2 =>
    intro dp ag ha
    by_cases hd : dp ≤ 12
    · obtain ⟨n, hn⟩ := ih1 (dp + 1) ag ha
      by_cases z : n = 0
      · subst z
        exact ⟨_, .two0 hd (.inl rfl) hn⟩
      · obtain ⟨m, hm⟩ := ih2 (dp + 1) ag ha
        exact ⟨_, .two hd (.inl rfl) hn z hm⟩
    · exact ⟨_, .deep (by omega)⟩
  | either _ _ ih1 ih2 =>
    intro dp ag ha
    by_cases hd : dp ≤ 12
    · obtain ⟨n, hn⟩ := ih1 (dp + 1) ag ha
      by_cases z : n = 0
      · subst z
        exact ⟨_, .two0 hd (.inr rfl) hn⟩
      · obtain ⟨m, hm⟩ := ih2 (dp + 1) ag ha
        exact ⟨_, .two hd (.inr rfl) hn z hm⟩
    · exact ⟨_, .deep (by omega)⟩
  | again _ ih =>
    intro dp ag ha
    by_cases hd : dp ≤ 12
    · by_cases h4 : ag = 4
      · exact ⟨_, .agains hd h4⟩
      · obtain ⟨n, hn⟩ := ih (dp + 1) (ag + 1) (by omega)
        exact ⟨_, .again hd (by omega) hn⟩
    · exact ⟨_, .deep (by omega)⟩
/-- what a fine program is -/
theorem nodes_prog {ns : List Str} {d : D} {dp ag n : Nat} (h : Nodes ns d dp ag n) : n ≠ 0 → ∃ P, d = progD P ∧ StepsIn ns P ∧ dp + ht P ≤ 13 := by
  induction h with
  | nothing hd => exact fun _ => ⟨.nothing, rfl, trivial, by show _ + 1 ≤ 13; omega⟩
  | step hd hn => exact fun _ => ⟨.step _, rfl, hn, by show _ + 1 ≤ 13; omega⟩
  | @again p dp ag n hd ha _ ih =>
    intro z
    by_cases e : n = 0
    · rw [if_pos e] at z; exact absurd rfl z
    · obtain ⟨P, e1, e2, e3⟩ := ih e
      exact ⟨.again P, by rw [e1]; rfl, e2, by show _ + (ht P + 1) ≤ 13; omega⟩
  | @two w p q dp ag n m hd hw _ hn _ ih1 ih2 =>
    intro z
    by_cases e : m = 0
    · rw [if_pos e] at z; exact absurd rfl z
    · obtain ⟨P, e1, e2, e3⟩ := ih1 hn
      obtain ⟨R, f1, f2, f3⟩ := ih2 e
      rcases hw with hw | hw
      · subst hw
        exact ⟨.behind P R, by rw [e1, f1]; rfl, ⟨e2, f2⟩, by show _ + (max (ht P) (ht R) + 1) ≤ 13; omega⟩
      · subst hw
        exact ⟨.either P R, by rw [e1, f1]; rfl, ⟨e2, f2⟩, by show _ + (max (ht P) (ht R) + 1) ≤ 13; omega⟩
  | _ => exact fun z => absurd rfl z
abbrev sizesD : List (Str × D) := [("step", .int 2), ("nothing", .int 1), ("behind", .int 3), ("either", .int 3), ("again", .int 2)]
theorem size_get {w : Str} (h : keyW w) : ((lookK (.inr w) (sizesD.map fun q => .inr q.1) (sizesD.map (·.2))).getD (.int 0)) = nI (sizeW w) := by
  rcases h with h | h | h | h | h <;> subst h <;> rfl
theorem look_isSome {n : Str} {es : List Ent} : (lookK (.inr n) (es.map keyE) (es.map rowL)).isSome = decide (n ∈ es.map (·.1)) := by
  by_cases h : n ∈ es.map (·.1)
  · rw [look_row h, decide_eq_true h]; rfl
  · rw [look_none h, decide_eq_false h]; rfl
def spNodes (f : Nat) : SpD := fun ds S Q _ => ∃ (es : List Ent) (p : D) (dp ag n : Nat), ds = [rowsD es, p, nI dp, nI ag] ∧ 14 ≤ dp + f ∧ dp ≤ 13 ∧ ag ≤ 4 ∧ WP p ∧ Nodes (es.map (·.1)) p dp ag n ∧ Q (nI n) S
theorem size_ne {a b : Nat} (h : a ≠ b) : (!decide ((a : Int) = (b : Int))) = true := by
  rw [decide_eq_false (by omega)]; rfl
theorem key_ne {w : Str} (h : keyW w) : w = "step" ∨ w ≠ "step" := by by_cases q : w = "step"; exact .inl q; exact .inr q
theorem none__law_nodes (C : Ct) (T : Txt C) : Fn C CX0 1 "_law_nodes" ["_law_rows", "_law_program_here", "_law_depth", "_law_agains"] [] (fun _ _ _ _ => False) := by
  obtain ⟨fd, F⟩ := T.def_ 62 (d := d__law_nodes)
  exact Fn.of F (T.glo "_law_nodes") (fun _ _ _ _ _ _ us hl => match us, hl with | [_, _, _, _], _ => rfl) (fnD F sc__law_nodes (fun _ _ _ _ h => h.elim) (by decide) fun cdv A outer s H E hr => ⟨_, dss_never, fun _ _ _ _ h => h.elim⟩)
theorem len__law_nodes : ∀ (ds : List D) (S : Stt) (Q : QE) (E : Str → Stt → Prop), (spNodes (f + 1)) ds S Q E → ds.length = 4 := by intro ds S Q E h; delta spNodes at h; (repeat obtain ⟨_, h⟩ := h); subst_vars; rfl
theorem step__law_nodes (C : Ct) (T : Txt C) (f : Nat) (F__law_nodes : Fn C CX0 (f + 1) "_law_nodes" ["_law_rows", "_law_program_here", "_law_depth", "_law_agains"] [] (spNodes f)) : Fn C CX0 ((f + 1) + 1) "_law_nodes" ["_law_rows", "_law_program_here", "_law_depth", "_law_agains"] [] (spNodes (f + 1)) := by
  obtain ⟨fd, F⟩ := T.def_ 62 (d := d__law_nodes)
  refine Fn.of F (T.glo "_law_nodes") (fun _ _ _ _ _ _ us hl => match us, hl with | [_, _, _, _], _ => rfl) (fnD F sc__law_nodes len__law_nodes (by decide) fun cdv A outer s H E hr => ⟨_,
    (dss_cons (ds_if (dt_bop (dw_or (dt_not (dt_val (de_isituple (T.free "isinstance") (T.free "tuple") (dv 1)))) (dw_or (dt_cmp op_eq opd_eq (de_cb call_len calld_len (by rfl) (T.free "len") (by decide +kernel) (da_cons (dv 1) da_nil)) de_int (nomark _)) (dw_or1 (dt_cmp op_gt opd_B (dv 2) de_int (nomark _)))))) (dss_one (ds_ret de_int)) dss_nil)
      (dss_cons (ds_set (i := 4) sc__law_nodes.nd rfl (by first | exact Or.inl rfl | exact Or.inr rfl) (de_ix ix_seq opd_ix (dv 1) de_int (fun _ _ => rfl)))
      (dss_cons (ds_if (dt_bop (dw_or (dt_not (dt_val (de_isistr (T.free "isinstance") (T.free "str") (dv 4)))) (dw_or1 (dt_cmp op_ne opd_ne (de_cb call_len calld_len (by rfl) (T.free "len") (by decide +kernel) (da_cons (dv 1) da_nil)) (de_get2 (hu_of hr) (de_dispC [("step", .int 2), ("nothing", .int 1), ("behind", .int 3), ("either", .int 3), ("again", .int 2)] (pps_cons pe_str pe_int (pps_cons pe_str pe_int (pps_cons pe_str pe_int (pps_cons pe_str pe_int (pps_cons pe_str pe_int pps_nil)))))) (dv 4) de_int) (nomark _))))) (dss_one (ds_ret de_int)) dss_nil)
      (dss_cons (ds_if (dt_cmp op_eq opd_eq (dv 4) de_str (nomark _)) (dss_one (ds_ret de_int)) dss_nil)
      (dss_cons (ds_if (dt_cmp op_eq opd_eq (dv 4) de_str (nomark _)) (dss_one (ds_ret (de_ifE (dt_bop (dw_and (dt_val (de_isistr (T.free "isinstance") (T.free "str") (de_ix ix_seq opd_ix (dv 1) de_int (fun _ _ => rfl)))) (dw_and1 (dt_din (hu_of hr) (de_ix ix_seq opd_ix (dv 1) de_int (fun _ _ => rfl)) (dv 0))))) de_int de_int))) dss_nil)
      (dss_cons (ds_if (dt_bop (dw_and (dt_cmp op_eq opd_eq (dv 4) de_str (nomark _)) (dw_and1 (dt_cmp op_eq opd_eq (dv 3) de_int (nomark _))))) (dss_one (ds_ret de_int)) dss_nil)
      (dss_cons (ds_set (i := 5) sc__law_nodes.nd rfl (by first | exact Or.inl rfl | exact Or.inr rfl) de_int)
      (dss_cons (ds_for PassesOwn.never rfl (di_seq (de_slice sl_tupA sld_tup (dv 1) (do_some de_int) do_none)) (dg_name (i := 6) sc__law_nodes.nd rfl (by first | exact Or.inl rfl | exact Or.inr rfl)) (dss_cons (ds_set (i := 7) sc__law_nodes.nd rfl (by first | exact Or.inl rfl | exact Or.inr rfl) (de_call F__law_nodes hr (by rfl) pass0 (da_cons (dv 0) (da_cons (dv 6) (da_cons (de_op op_add opd_I (dv 2) de_int) (da_cons (de_op op_add opd_I (dv 3) (de_ifE (dt_cmp op_eq opd_eq (dv 4) de_str (nomark _)) de_int de_int)) da_nil))))))
      (dss_cons (ds_if (dt_cmp op_eq opd_eq (dv 7) de_int (nomark _)) (dss_one (ds_ret de_int)) dss_nil)
      (dss_one (ds_set (i := 5) sc__law_nodes.nd rfl (by first | exact Or.inl rfl | exact Or.inr rfl) (de_op op_add opd_I (dv 5) (dv 7)))))))
      (dss_one (ds_ret (dv 5))))))))))), fun ds S QD ED h => ?_⟩)
  obtain ⟨es, p, dp, ag, n, rfl, hf, h13, ha, hp, hN, q⟩ := h
  cases hN with
  | other h1 h2 =>
    refine ⟨h1, ?_⟩
    rw [h2]
    exact q
  | nil => exact ⟨rfl, q⟩
  | @deep ds _ _ hd =>
    refine ⟨rfl, ?_⟩
    cases ds with
    | nil => exact q
    | cons x xs =>
      refine dec_t (by omega) q
  | @odd x ps _ _ hd hx hs =>
    refine ⟨rfl, ?_⟩
    refine dec_f (by omega) ?_
    refine ⟨hx, ?_⟩
    rw [hs]
    exact q
  | @short w ps _ _ hd hk hl =>
    refine ⟨rfl, ?_⟩
    refine dec_f (by omega) ?_
    refine ⟨rfl, ?_⟩
    refine ⟨rfl, _, _, _, rfl, rfl, ?_⟩
    rw [size_get hk]
    exact ite_true (size_ne hl) q
  | nothing hd =>
    refine ⟨rfl, ?_⟩
    refine dec_f (by omega) ?_
    refine ⟨rfl, rfl, _, _, _, rfl, rfl, ?_⟩
    rw [size_get (.inr (.inl rfl))]
    exact q
  | @step m _ _ hd hm =>
    refine ⟨rfl, ?_⟩
    refine dec_f (by omega) ?_
    refine ⟨rfl, rfl, _, _, _, rfl, rfl, ?_⟩
    rw [size_get (.inl rfl)]
    refine ⟨rfl, _, _, _, rfl, rfl, ?_⟩
    rw [look_isSome, decide_eq_true hm]
    exact q
  | @noname x _ _ hd hx hm =>
    refine ⟨rfl, ?_⟩
    refine dec_f (by omega) ?_
    refine ⟨rfl, rfl, _, _, _, rfl, rfl, ?_⟩
    rw [size_get (.inl rfl)]
    refine ⟨hx, ?_⟩
    cases x with
    | str m =>
      refine ⟨_, _, _, rfl, rfl, ?_⟩
      rw [look_isSome, decide_eq_false (hm m rfl)]
      exact q
    | _ => first | exact q | cases hx
  | @agains p _ _ hd h4 =>
    subst h4
    refine ⟨rfl, ?_⟩
    refine dec_f (by omega) ?_
    refine ⟨rfl, rfl, _, _, _, rfl, rfl, ?_⟩
    rw [size_get (.inr (.inr (.inr (.inr rfl))))]
    exact q
  | @again p _ _ n hd h4 hn =>
    have wp : WP p := by
      cases hp with
      | again h => exact h
      | other _ h => cases h
      | odd _ h => cases h
      | short _ h => exact absurd rfl h
    refine ⟨rfl, ?_⟩
    refine dec_f (by omega) ?_
    refine ⟨rfl, rfl, _, _, _, rfl, rfl, ?_⟩
    rw [size_get (.inr (.inr (.inr (.inr rfl))))]
    refine dec_f (by omega) ?_
    refine ⟨fun r ρ S' => S' = S ∧ ∃ t o6 o7, ρ = [some (rowsD es), some (.tup [.str "again", p]), some (nI dp), some (nI ag), some (.str "again"), some (nI t), o6, o7] ∧ ((r = [p] ∧ t = 1) ∨ (r = [] ∧ n ≠ 0 ∧ t = 1 + n)), ⟨rfl, 1, none, none, rfl, .inl ⟨rfl, rfl⟩⟩, ?_, ?_⟩
    · rintro x r ρ S' ⟨rfl, t, o6, o7, rfl, hr⟩
      rcases hr with ⟨e, rfl⟩ | ⟨e, _⟩
      · cases e
        refine ⟨es, p, dp + 1, ag + 1, n, rfl, by omega, by omega, by omega, wp, hn, ?_⟩
        refine ite2 (fun h => ?_) (fun h => ?_)
        · have z : n = 0 := by have := of_decide_eq_true h; omega
          rw [if_pos z] at q
          exact q
        · exact ⟨rfl, 1 + n, _, _, rfl, .inr ⟨rfl, fun z => h (decide_eq_true (by rw [z]; rfl)), rfl⟩⟩
      · cases e
    · rintro ρ S' ⟨rfl, t, o6, o7, rfl, hr⟩
      rcases hr with ⟨e, _⟩ | ⟨e, hn0, rfl⟩
      · cases e
      · rw [if_neg hn0] at q
        exact q
  | @two0 w p r _ _ hd hw hn =>
    have wp : WP p := by
      cases hp with
      | behind h _ => exact h
      | either h _ => exact h
      | other _ h => cases h
      | odd _ h => cases h
      | short _ h => rcases hw with z | z <;> subst z <;> exact absurd rfl h
    rcases hw with hw | hw
    all_goals
      subst hw
      refine ⟨rfl, ?_⟩
      refine dec_f (by omega) ?_
      refine ⟨rfl, rfl, _, _, _, rfl, rfl, ?_⟩
      rw [size_get (by first | exact .inr (.inr (.inl rfl)) | exact .inr (.inr (.inr (.inl rfl))))]
      refine ⟨fun r2 ρ S' => S' = S ∧ ∃ w2 o6 o7, (w2 = "behind" ∨ w2 = "either") ∧ ρ = [some (rowsD es), some (.tup [.str w2, p, r]), some (nI dp), some (nI ag), some (.str w2), some (nI 1), o6, o7] ∧ r2 = [p, r], ⟨rfl, _, none, none, by first | exact .inl rfl | exact .inr rfl, rfl, rfl⟩, ?_, ?_⟩
      · rintro x r2 ρ S' ⟨rfl, w2, o6, o7, hw2, rfl, e⟩
        cases e
        rcases hw2 with rfl | rfl
        all_goals exact ⟨es, p, dp + 1, ag, 0, rfl, by omega, by omega, by omega, wp, hn, q⟩
      · rintro ρ S' ⟨rfl, w2, o6, o7, hw2, rfl, e⟩
        cases e
  | @two w p r _ _ n m hd hw hn hn0 hm =>
    have wp : WP p ∧ WP r := by
      cases hp with
      | behind h k => exact ⟨h, k⟩
      | either h k => exact ⟨h, k⟩
      | other _ h => cases h
      | odd _ h => cases h
      | short _ h => rcases hw with z | z <;> subst z <;> exact absurd rfl h
    rcases hw with hw | hw
    all_goals
      subst hw
      refine ⟨rfl, ?_⟩
      refine dec_f (by omega) ?_
      refine ⟨rfl, rfl, _, _, _, rfl, rfl, ?_⟩
      rw [size_get (by first | exact .inr (.inr (.inl rfl)) | exact .inr (.inr (.inr (.inl rfl))))]
      refine ⟨fun r2 ρ S' => S' = S ∧ ∃ w2 t o6 o7, (w2 = "behind" ∨ w2 = "either") ∧ ρ = [some (rowsD es), some (.tup [.str w2, p, r]), some (nI dp), some (nI ag), some (.str w2), some (nI t), o6, o7] ∧ ((r2 = [p, r] ∧ t = 1) ∨ (r2 = [r] ∧ t = 1 + n) ∨ (r2 = [] ∧ m ≠ 0 ∧ t = 1 + n + m)),
        ⟨rfl, _, 1, none, none, by first | exact .inl rfl | exact .inr rfl, rfl, .inl ⟨rfl, rfl⟩⟩, ?_, ?_⟩
      · rintro x r2 ρ S' ⟨rfl, w2, t, o6, o7, hw2, rfl, hr⟩
        rcases hr with ⟨e, rfl⟩ | ⟨e, rfl⟩ | ⟨e, _⟩
        · cases e
          rcases hw2 with rfl | rfl
          all_goals
            refine ⟨es, p, dp + 1, ag, n, rfl, by omega, by omega, by omega, wp.1, hn, ?_⟩
            refine dec_f (by omega) ?_
            exact ⟨rfl, _, 1 + n, _, _, by first | exact .inl rfl | exact .inr rfl, rfl, .inr (.inl ⟨rfl, rfl⟩)⟩
        · cases e
          rcases hw2 with rfl | rfl
          all_goals
            refine ⟨es, r, dp + 1, ag, m, rfl, by omega, by omega, by omega, wp.2, hm, ?_⟩
            refine ite2 (fun h => ?_) (fun h => ?_)
            · have z : m = 0 := by have := of_decide_eq_true h; omega
              rw [if_pos z] at q
              exact q
            · exact ⟨rfl, _, 1 + n + m, _, _, by first | exact .inl rfl | exact .inr rfl, rfl, .inr (.inr ⟨rfl, fun z => h (decide_eq_true (by rw [z]; rfl)), rfl⟩)⟩
        · cases e
      · rintro ρ S' ⟨rfl, w2, t, o6, o7, hw2, rfl, hr⟩
        rcases hr with ⟨e, _⟩ | ⟨e, _⟩ | ⟨e, hm0, rfl⟩
        · cases e
        · cases e
        · rw [if_neg hm0] at q
          exact q
theorem nodes_fn (C : Ct) (T : Txt C) : ∀ f, Fn C CX0 (f + 1) "_law_nodes" ["_law_rows", "_law_program_here", "_law_depth", "_law_agains"] [] (spNodes f)
  | 0 => ((none__law_nodes C T).mono (by omega)).imp fun ds S Q E ⟨es, p, dp, ag, n, _, h1, h2, _⟩ => by omega
  | f + 1 => step__law_nodes C T f (nodes_fn C T f)
theorem ok__law_nodes (C : Ct) (T : Txt C) : Fn C CX0 14 "_law_nodes" ["_law_rows", "_law_program_here", "_law_depth", "_law_agains"] [] (spNodes 13) := nodes_fn C T 13
def Fine (ns : List Str) (p : D) (b : Bool) : Prop := ∃ n, Nodes ns p 1 0 n ∧ b = (decide (0 < n) && decide (n < 61))
def spFine : SpD := fun ds S Q _ => ∃ (es : List Ent) (p : D) (b : Bool), ds = [rowsD es, p] ∧ WP p ∧ Fine (es.map (·.1)) p b ∧ Q (.bl b) S
theorem len__law_fine : ∀ (ds : List D) (S : Stt) (Q : QE) (E : Str → Stt → Prop), spFine ds S Q E → ds.length = 2 := by intro ds S Q E h; delta spFine at h; (repeat obtain ⟨_, h⟩ := h); subst_vars; rfl
theorem ok__law_fine (C : Ct) (T : Txt C) : Fn C CX0 (14 + 1) "_law_fine" ["_law_rows", "_law_program_here"] [] spFine := by
  obtain ⟨fd, F⟩ := T.def_ 63 (d := d__law_fine)
  have F__law_nodes := (ok__law_nodes C T).mono (show 14 ≤ 14 by omega)
  refine Fn.of F (T.glo "_law_fine") (fun _ _ _ _ _ _ us hl => match us, hl with | [_, _], _ => rfl) (fnD F sc__law_fine len__law_fine (by decide) fun cdv A outer s H E hr => ⟨_,
    (dss_one (ds_ret (de_chain op_lt op_lt opd_B opd_B de_int (de_call F__law_nodes hr (by rfl) pass0 (da_cons (dv 0) (da_cons (dv 1) (da_cons de_int (da_cons de_int da_nil))))) de_int))), fun ds S QD ED h => ?_⟩)
  obtain ⟨es, p, b, rfl, hp, ⟨n, hn, rfl⟩, q⟩ := h
  refine ⟨es, p, 1, 0, n, rfl, by omega, by omega, by omega, hp, hn, ?_⟩
  by_cases h : 0 < n
  · refine dec_t (by omega) ?_
    rw [decide_eq_true h] at q
    show QD (.bl (decide ((n : Int) < 61))) S
    have e : decide ((n : Int) < 61) = decide (n < 61) := nat_lt
    rw [e]
    exact q
  · refine dec_f (by omega) ?_
    rw [decide_eq_false h] at q
    exact q
end TA
set_option Elab.async false
set_option linter.all false
set_option maxRecDepth 100000
set_option maxHeartbeats 4000000
namespace TA
open PySem PySem.Spec L2
open PyProof.Rows hiding St
/-! ## lines -/
structure Ln where
  a : Nat
  p : Prog
  e : Nat
  w : Str
  us : List Nat
abbrev lnD (l : Ln) : D := .tup [nI l.a, progD l.p, nI l.e, .str l.w, .tup (l.us.map nI)]
structure LnOk (v : Nat) (ns : List Str) (l : Ln) : Prop where
  a : l.a < 2 ^ v
  e : l.e < 2 ^ v
  st : StepsIn ns l.p
  ht : ht l.p ≤ 12
def UpsIn (u : D) : Prop := hasT u ∧ ∀ us, u = .tup us → ∀ x ∈ us, hasT x
inductive LineIn : D → Prop where
  | other {d : D} : hasT d → (∀ ds, d = .tup ds → ds.length ≠ 5) → LineIn d
  | five {a p e how ups : D} : hasT a → WP p → OkD 40 p → hasT e → hasT how → UpsIn ups → LineIn (.tup [a, p, e, how, ups])
def headP : Prog → Str
  | .nothing => "nothing"
  | .step _ => "step"
  | .behind _ _ => "behind"
  | .either _ _ => "either"
  | .again _ => "again"
theorem head_ix (P : Prog) : ∃ r, progD P = .tup (.str (headP P) :: r) := by cases P <;> exact ⟨_, rfl⟩
abbrev makesD : List (Str × D) := [("step", .str "step"), ("nothing", .str "nothing"), ("behind", .str "behind"), ("either", .str "either"), ("more", .str "again"), ("closed", .str "again")]
def makesF (w : Str) : Str := if w = "step" then "step" else if w = "nothing" then "nothing" else if w = "behind" then "behind" else if w = "either" then "either" else if w = "more" then "again" else if w = "closed" then "again" else "none"
theorem str_if {c : Prop} [Decidable c] {x y : Str} : D.str (if c then x else y) = if c then D.str x else D.str y := by split <;> rfl
theorem makes_get (w : Str) : ((lookK (.inr w) (makesD.map fun q => .inr q.1) (makesD.map (·.2))).getD (.str "none")) = .str (makesF w) := by
  have key : ∀ (k : Str) (d : Str) (ks : List Key) (ds : List D), (lookK (.inr w) (.inr k :: ks) (.str d :: ds)).getD (.str "none") = if w = k then .str d else (lookK (.inr w) ks ds).getD (.str "none") := fun k d ks ds => by
    show (if (Sum.inr k : Key) = .inr w then some (D.str d) else lookK (.inr w) ks ds).getD (.str "none") = _
    by_cases h : w = k
    · rw [if_pos (by rw [h]), if_pos h]; rfl
    · rw [if_neg (fun z => h (Sum.inr.inj z).symm), if_neg h]
  unfold makesF
  simp only [str_if]
  show (lookK (.inr w) [.inr "step", .inr "nothing", .inr "behind", .inr "either", .inr "more", .inr "closed"] [.str "step", .str "nothing", .str "behind", .str "either", .str "again", .str "again"]).getD (.str "none") = _
  rw [key, key, key, key, key, key]
  rfl
/-- the shape's word -/
inductive Shape (v : Nat) (ns : List Str) : D → Str → Prop where
  | other {d : D} : hasT d → (∀ ds, d = .tup ds → ds.length ≠ 5) → Shape v ns d "line"
  | lots {a p e how ups : D} : hasT a → hasT e → (lotB v a && lotB v e) = false → Shape v ns (.tup [a, p, e, how, ups]) "line"
  | prog {a e : Nat} {p how ups : D} : a < 2 ^ v → e < 2 ^ v → WP p → Fine ns p false → Shape v ns (.tup [nI a, p, nI e, how, ups]) "program"
  | how {a e : Nat} {P : Prog} {how ups : D} : a < 2 ^ v → e < 2 ^ v → WP (progD P) → Fine ns (progD P) true → StepsIn ns P → hasT how → (∀ w, how = .str w → w ≠ "grow" ∧ makesF w ≠ headP P) → Shape v ns (.tup [nI a, progD P, nI e, how, ups]) "how"
  | good {a e : Nat} {P : Prog} {w : Str} {ups : D} : a < 2 ^ v → e < 2 ^ v → WP (progD P) → Fine ns (progD P) true → StepsIn ns P → ht P ≤ 12 → UpsIn ups → OkD 40 (progD P) → (w = "grow" ∨ makesF w = headP P) → Shape v ns (.tup [nI a, progD P, nI e, .str w, ups]) "good"
theorem lotB_nat {v : Nat} {d : D} (h : lotB v d = true) : ∃ a : Nat, d = nI a ∧ a < 2 ^ v := by
  cases d with
  | int i =>
    have h : (decide (0 ≤ i) && decide (i < ((2 ^ v : Nat) : Int))) = true := h
    rw [Bool.and_eq_true, decide_eq_true_iff, decide_eq_true_iff] at h
    obtain ⟨k, rfl⟩ := Int.eq_ofNat_of_zero_le h.1
    exact ⟨k, rfl, by omega⟩
  | _ => cases h
theorem lotB_of {v a : Nat} (h : a < 2 ^ v) : lotB v (nI a) = true := by
  show (decide ((0 : Int) ≤ (a : Int)) && decide ((a : Int) < ((2 ^ v : Nat) : Int))) = true
  rw [decide_eq_true (by omega), decide_eq_true (by omega)]
  rfl
theorem shape_all (v : Nat) (ns : List Str) {d : D} (h : LineIn d) : ∃ w, Shape v ns d w := by
  cases h with
  | other h1 h2 => exact ⟨_, .other h1 h2⟩
  | @five a p e how ups h1 h2 h3 h4 h5 h6 =>
    cases hl : lotB v a && lotB v e with
    | false => exact ⟨_, .lots h1 h4 hl⟩
    | true =>
      rw [Bool.and_eq_true] at hl
      obtain ⟨a, rfl, ha⟩ := lotB_nat hl.1
      obtain ⟨e, rfl, he⟩ := lotB_nat hl.2
      obtain ⟨n, hn⟩ := nodes_all ns h2 1 0 (by omega)
      by_cases hf : 0 < n ∧ n < 61
      · obtain ⟨P, rfl, hs, hht⟩ := nodes_prog hn (by omega)
        have fine : Fine ns (progD P) true := ⟨n, hn, by rw [decide_eq_true hf.1, decide_eq_true hf.2]; rfl⟩
        by_cases hw : ∃ w, how = .str w ∧ (w = "grow" ∨ makesF w = headP P)
        · obtain ⟨w, rfl, hw⟩ := hw
          exact ⟨_, .good ha he h2 fine hs (by omega) h6 h3 hw⟩
        · exact ⟨_, .how ha he h2 fine hs h5 fun w e1 => ⟨fun z => hw ⟨w, e1, .inl z⟩, fun z => hw ⟨w, e1, .inr z⟩⟩⟩
      · refine ⟨_, .prog ha he h2 ⟨n, hn, ?_⟩⟩
        by_cases h0 : 0 < n
        · rw [decide_eq_false (fun z => hf ⟨h0, z⟩)]; simp
        · rw [decide_eq_false h0]; rfl
def spShapeL : SpD := fun ds S Q _ => ∃ (v : Nat) (es : List Ent) (d : D) (w : Str), ds = [nI v, rowsD es, d] ∧ v ≤ 6 ∧ Shape v (es.map (·.1)) d w ∧ Q (.str w) S
theorem len5 {ds : List D} (h : ds.length ≠ 5) : (!decide (((ds.length : Nat) : Int) = 5)) = true := by rw [decide_eq_false (by omega)]; rfl
theorem len__law_shape_word : ∀ (ds : List D) (S : Stt) (Q : QE) (E : Str → Stt → Prop), spShapeL ds S Q E → ds.length = 3 := by intro ds S Q E h; delta spShapeL at h; (repeat obtain ⟨_, h⟩ := h); subst_vars; rfl
theorem ok__law_shape_word (C : Ct) (T : Txt C) : Fn C CX0 (15 + 1) "_law_shape_word" ["_law_v", "_law_rows", "_law_line"] [] spShapeL := by
  obtain ⟨fd, F⟩ := T.def_ 65 (d := d__law_shape_word)
  have F__law_fine := (ok__law_fine C T).mono (show 15 ≤ 15 by omega)
  have F__law_lot := (ok__law_lot C T).mono (show 2 ≤ 15 by omega)
  refine Fn.of F (T.glo "_law_shape_word") (fun _ _ _ _ _ _ us hl => match us, hl with | [_, _, _], _ => rfl) (fnD F sc__law_shape_word len__law_shape_word (by decide) fun cdv A outer s H E hr => ⟨_,
    (dss_cons (ds_if (dt_bop (dw_or (dt_not (dt_val (de_isituple (T.free "isinstance") (T.free "tuple") (dv 2)))) (dw_or1 (dt_cmp op_ne opd_ne (de_cb call_len calld_len (by rfl) (T.free "len") (by decide +kernel) (da_cons (dv 2) da_nil)) de_int (nomark _))))) (dss_one (ds_ret de_str)) dss_nil)
      (dss_cons (ds_if (dt_bop (dw_or (dt_not (dt_val (de_call F__law_lot hr (by rfl) pass0 (da_cons (dv 0) (da_cons (de_ix ix_seq opd_ix (dv 2) de_int (fun _ _ => rfl)) da_nil))))) (dw_or1 (dt_not (dt_val (de_call F__law_lot hr (by rfl) pass0 (da_cons (dv 0) (da_cons (de_ix ix_seq opd_ix (dv 2) de_int (fun _ _ => rfl)) da_nil)))))))) (dss_one (ds_ret de_str)) dss_nil)
      (dss_cons (ds_if (dt_not (dt_val (de_call F__law_fine hr (by rfl) pass0 (da_cons (dv 1) (da_cons (de_ix ix_seq opd_ix (dv 2) de_int (fun _ _ => rfl)) da_nil))))) (dss_one (ds_ret de_str)) dss_nil)
      (dss_cons (ds_set (i := 3) sc__law_shape_word.nd rfl (by first | exact Or.inl rfl | exact Or.inr rfl) (de_ix ix_seq opd_ix (dv 2) de_int (fun _ _ => rfl)))
      (dss_cons (ds_if (dt_not (dt_val (de_isistr (T.free "isinstance") (T.free "str") (dv 3)))) (dss_one (ds_ret de_str)) dss_nil)
      (dss_cons (ds_set (i := 4) sc__law_shape_word.nd rfl (by first | exact Or.inl rfl | exact Or.inr rfl) (de_ix ix_seq opd_ix (de_ix ix_seq opd_ix (dv 2) de_int (fun _ _ => rfl)) de_int (fun _ _ => rfl)))
      (dss_cons (ds_set (i := 5) sc__law_shape_word.nd rfl (by first | exact Or.inl rfl | exact Or.inr rfl) (de_dispC [("step", .str "step"), ("nothing", .str "nothing"), ("behind", .str "behind"), ("either", .str "either"), ("more", .str "again"), ("closed", .str "again")] (pps_cons pe_str pe_str (pps_cons pe_str pe_str (pps_cons pe_str pe_str (pps_cons pe_str pe_str (pps_cons pe_str pe_str (pps_cons pe_str pe_str pps_nil))))))))
      (dss_cons (ds_if (dt_bop (dw_and (dt_cmp op_ne opd_ne (dv 3) de_str (nomark _)) (dw_and1 (dt_cmp op_ne opd_ne (de_get2 (hu_of hr) (dv 5) (dv 3) de_str) (dv 4) (nomark _))))) (dss_one (ds_ret de_str)) dss_nil)
      (dss_one (ds_ret de_str)))))))))), fun ds S QD ED h => ?_⟩)
  obtain ⟨v, es, d, w, rfl, h6, hS, q⟩ := h
  cases hS with
  | other h1 h2 =>
    cases d with
    | tup ds =>
      refine ⟨rfl, ?_⟩
      exact ite_false rfl (ite_true (len5 (h2 ds rfl)) q)
    | _ => first | exact ⟨h1, q⟩ | cases h1
  | @lots a p e how ups h1 h2 h3 =>
    refine ⟨rfl, v, a, rfl, by omega, h1, ?_⟩
    cases ha : lotB v a with
    | false => exact q
    | true =>
      refine ⟨v, e, rfl, by omega, h2, ?_⟩
      rw [ha] at h3
      rw [show lotB v e = false from h3]
      exact q
  | @prog a e p how ups h1 h2 h3 h4 =>
    refine ⟨rfl, v, nI a, rfl, by omega, rfl, ?_⟩
    rw [lotB_of h1]
    refine ⟨v, nI e, rfl, by omega, rfl, ?_⟩
    rw [lotB_of h2]
    exact ⟨es, p, false, rfl, h3, h4, q⟩
  | @how a e P how ups h1 h2 h3 h4 h5 h6 h7 =>
    refine ⟨rfl, v, nI a, rfl, by omega, rfl, ?_⟩
    rw [lotB_of h1]
    refine ⟨v, nI e, rfl, by omega, rfl, ?_⟩
    rw [lotB_of h2]
    refine ⟨es, progD P, true, rfl, h3, h4, ?_⟩
    refine ⟨h6, ?_⟩
    cases how with
    | str w =>
      obtain ⟨g1, g2⟩ := h7 w rfl
      obtain ⟨r, er⟩ := head_ix P
      rw [er]
      refine ite_false rfl ?_
      refine ite_true (by rw [decide_eq_false g1]; rfl) ?_
      refine ⟨rfl, _, _, _, rfl, rfl, ?_⟩
      rw [makes_get]
      exact ite_true (by rw [decide_eq_false g2]; rfl) q
    | _ => first | exact q | cases h6
  | @good a e P w ups h1 h2 h3 h4 h5 h6 h7 h8 h9 =>
    refine ⟨rfl, v, nI a, rfl, by omega, rfl, ?_⟩
    rw [lotB_of h1]
    refine ⟨v, nI e, rfl, by omega, rfl, ?_⟩
    rw [lotB_of h2]
    refine ⟨es, progD P, true, rfl, h3, h4, ?_⟩
    refine ⟨rfl, ?_⟩
    obtain ⟨r, er⟩ := head_ix P
    rw [er]
    by_cases g1 : w = "grow"
    · subst g1
      exact q
    · refine ite_false rfl ?_
      refine ite_true (by rw [decide_eq_false g1]; rfl) ?_
      refine ⟨rfl, _, _, _, rfl, rfl, ?_⟩
      rw [makes_get]
      refine ite_false ?_ q
      rcases h9 with z | z
      · exact absurd z g1
      · rw [decide_eq_true z]; rfl
end TA
set_option Elab.async false
set_option linter.all false
set_option maxRecDepth 100000
set_option maxHeartbeats 4000000
namespace TA
open PySem PySem.Spec L2
open PyProof.Rows hiding St
/-! ## the lines above -/
def dueP (w : Str) (P : Prog) : List Prog :=
  if w = "grow" then [P]
  else if w = "behind" ∨ w = "either" then (match P with
    | .behind p q => [p, q]
    | .either p q => [p, q]
    | _ => [])
  else if w = "more" then (match P with
    | .again p => [p, P]
    | _ => [])
  else if w = "closed" then (match P with
    | .again p => [p]
    | _ => [])
  else []
/-- the rule fits the program's head -/
def RuleFit (w : Str) (P : Prog) : Prop := w = "grow" ∨ makesF w = headP P
theorem due_eq {w : Str} {P : Prog} (h : RuleFit w P) : dueR w (progD P) = some ((dueP w P).map progD) := by
  unfold dueR dueP
  by_cases h1 : w = "grow"
  · rw [if_pos h1, if_pos h1]; rfl
  have h : makesF w = headP P := h.elim (fun z => absurd z h1) id
  rw [if_neg h1, if_neg h1]
  by_cases h2 : w = "behind"
  · rw [if_pos (Or.inl h2 : w = "behind" ∨ w = "either"), if_pos (Or.inl h2 : w = "behind" ∨ w = "either")]
    subst h2
    cases P with
    | nothing => exact absurd (show ("behind" : Str) = "nothing" from h) (by decide)
    | step n => exact absurd (show ("behind" : Str) = "step" from h) (by decide)
    | behind p q => rfl
    | either p q => exact absurd (show ("behind" : Str) = "either" from h) (by decide)
    | again p => exact absurd (show ("behind" : Str) = "again" from h) (by decide)
  by_cases h3 : w = "either"
  · rw [if_pos (Or.inr h3 : w = "behind" ∨ w = "either"), if_pos (Or.inr h3 : w = "behind" ∨ w = "either")]
    subst h3
    cases P with
    | nothing => exact absurd (show ("either" : Str) = "nothing" from h) (by decide)
    | step n => exact absurd (show ("either" : Str) = "step" from h) (by decide)
    | behind p q => exact absurd (show ("either" : Str) = "behind" from h) (by decide)
    | either p q => rfl
    | again p => exact absurd (show ("either" : Str) = "again" from h) (by decide)
  have h23 : ¬ (w = "behind" ∨ w = "either") := fun z => z.elim h2 h3
  rw [if_neg h23, if_neg h23]
  by_cases h4 : w = "more"
  · rw [if_pos h4, if_pos h4]
    subst h4
    cases P with
    | nothing => exact absurd (show ("again" : Str) = "nothing" from h) (by decide)
    | step n => exact absurd (show ("again" : Str) = "step" from h) (by decide)
    | behind p q => exact absurd (show ("again" : Str) = "behind" from h) (by decide)
    | either p q => exact absurd (show ("again" : Str) = "either" from h) (by decide)
    | again p => rfl
  rw [if_neg h4, if_neg h4]
  by_cases h5 : w = "closed"
  · rw [if_pos h5, if_pos h5]
    subst h5
    cases P with
    | nothing => exact absurd (show ("again" : Str) = "nothing" from h) (by decide)
    | step n => exact absurd (show ("again" : Str) = "step" from h) (by decide)
    | behind p q => exact absurd (show ("again" : Str) = "behind" from h) (by decide)
    | either p q => exact absurd (show ("again" : Str) = "either" from h) (by decide)
    | again p => rfl
  rw [if_neg h5, if_neg h5]
  rfl
/-- an upper's number fits what is due -/
def upN (prev : List Ln) (j : Nat) (P : Prog) : Bool := match prev[j]? with
  | some l => eqD (progD l.p) (progD P)
  | none => false
def upB (prev : List Ln) (u : D) (P : Prog) : Bool := match u with
  | .int i => decide (0 ≤ i) && upN prev i.toNat P
  | _ => false
theorem upB_neg {prev : List Ln} {i : Int} {P : Prog} (h : i < 0) : upB prev (.int i) P = false := by
  show (decide (0 ≤ i) && upN prev i.toNat P) = false
  rw [decide_eq_false (by omega)]; rfl
theorem upB_nat {prev : List Ln} {j : Nat} {P : Prog} : upB prev (nI j) P = upN prev j P := by
  show (decide ((0 : Int) ≤ (j : Int)) && upN prev ((j : Int)).toNat P) = _
  rw [decide_eq_true (by omega), Int.toNat_natCast]; rfl
theorem upN_big {prev : List Ln} {j : Nat} {P : Prog} (h : prev.length ≤ j) : upN prev j P = false := by
  unfold upN
  rw [List.getElem?_eq_none h]
theorem upN_at {prev : List Ln} {j : Nat} {P : Prog} (h : j < prev.length) : upN prev j P = eqD (progD prev[j].p) (progD P) := by
  unfold upN
  rw [List.getElem?_eq_getElem h]
def upsB (prev : List Ln) : List D → List Prog → Bool
  | u :: us, P :: Ps => upB prev u P && upsB prev us Ps
  | _, _ => true
def uppersB (prev : List Ln) (u : D) (Ps : List Prog) : Bool := match u with
  | .tup us => decide (us.length = Ps.length) && upsB prev us Ps
  | _ => false
theorem upsB_at {prev : List Ln} : ∀ {us : List D} {Ps : List Prog}, us.length = Ps.length → (upsB prev us Ps = true ↔ ∀ k (h : k < us.length) (h2 : k < Ps.length), upB prev us[k] Ps[k] = true)
  | [], [], _ => ⟨fun _ k h => (by cases h), fun _ => rfl⟩
  | [], _ :: _, h => by simp at h
  | _ :: _, [], h => by simp at h
  | u :: us, P :: Ps, h => by
    show (upB prev u P && upsB prev us Ps) = true ↔ _
    rw [Bool.and_eq_true, upsB_at (by simpa using h)]
    constructor
    · rintro ⟨h1, h2⟩ k hk hk2
      cases k with
      | zero => exact h1
      | succ k => exact h2 k (by simpa using hk) (by simpa using hk2)
    · intro h3
      exact ⟨h3 0 (by simp) (by simp), fun k hk hk2 => h3 (k + 1) (by simpa using hk) (by simpa using hk2)⟩
/-- the lines looked at: those before, the one at hand -/
structure LinesAt (v : Nat) (ns : List Str) (ls : List D) (prev : List Ln) (d : D) : Prop where
  at_ : ls[prev.length]? = some d
  pre : ∀ k (h : k < prev.length), ls[k]? = some (lnD prev[k])
  ok : ∀ l ∈ prev, LnOk v ns l
  few : prev.length ≤ 90000
theorem ht_ok : ∀ P : Prog, ∀ ns : List Str, (∀ n ∈ ns, PyData.canLay0 (.str n) = true) → StepsIn ns P → OkD (ht P) (progD P)
  | .nothing, ns, h, _ => ok_tup fun d hd => by
    rw [List.mem_singleton.mp hd]; exact ok_str _ (by decide +kernel)
  | .step n, ns, h, hs => ok_tup fun d hd => by
    rcases List.mem_cons.mp hd with z | z
    · rw [z]; exact ok_str _ (by decide +kernel)
    · rw [List.mem_singleton.mp z]; exact ok_str _ (h n hs)
  | .behind p q, ns, h, hs => ok_tup fun d hd => by
    rcases List.mem_cons.mp hd with z | z
    · rw [z]; exact ok_str _ (by decide +kernel)
    · rcases List.mem_cons.mp z with z | z
      · rw [z]; exact (ht_ok p ns h hs.1).mono (Nat.le_max_left _ _)
      · rw [List.mem_singleton.mp z]; exact (ht_ok q ns h hs.2).mono (Nat.le_max_right _ _)
  | .either p q, ns, h, hs => ok_tup fun d hd => by
    rcases List.mem_cons.mp hd with z | z
    · rw [z]; exact ok_str _ (by decide +kernel)
    · rcases List.mem_cons.mp z with z | z
      · rw [z]; exact (ht_ok p ns h hs.1).mono (Nat.le_max_left _ _)
      · rw [List.mem_singleton.mp z]; exact (ht_ok q ns h hs.2).mono (Nat.le_max_right _ _)
  | .again p, ns, h, hs => ok_tup fun d hd => by
    rcases List.mem_cons.mp hd with z | z
    · rw [z]; exact ok_str _ (by decide +kernel)
    · rw [List.mem_singleton.mp z]; exact ht_ok p ns h hs
/-- names that == may be asked of -/
def NsOk (ns : List Str) : Prop := ∀ n ∈ ns, PyData.canLay0 (.str n) = true
theorem prog_ok {ns : List Str} {P : Prog} (h : NsOk ns) (hs : StepsIn ns P) (hh : ht P ≤ 12) : OkD 12 (progD P) := (ht_ok P ns h hs).mono hh
theorem due_steps {ns : List Str} {w : Str} {P : Prog} (hs : StepsIn ns P) (hh : ht P ≤ 12) : ∀ Q ∈ dueP w P, StepsIn ns Q ∧ ht Q ≤ 12 := by
  unfold dueP
  intro Q hQ
  split at hQ
  · rw [List.mem_singleton.mp hQ]; exact ⟨hs, hh⟩
  split at hQ
  · split at hQ
    · rename_i p q
      have hh : max (ht p) (ht q) + 1 ≤ 12 := hh
      rcases List.mem_cons.mp hQ with z | z
      · rw [z]; exact ⟨hs.1, by omega⟩
      · rw [List.mem_singleton.mp z]; exact ⟨hs.2, by omega⟩
    · rename_i p q
      have hh : max (ht p) (ht q) + 1 ≤ 12 := hh
      rcases List.mem_cons.mp hQ with z | z
      · rw [z]; exact ⟨hs.1, by omega⟩
      · rw [List.mem_singleton.mp z]; exact ⟨hs.2, by omega⟩
    · cases hQ
  split at hQ
  · split at hQ
    · rename_i p
      have hh2 : ht p + 1 ≤ 12 := hh
      rcases List.mem_cons.mp hQ with z | z
      · rw [z]; exact ⟨hs, by omega⟩
      · rw [List.mem_singleton.mp z]; exact ⟨hs, hh⟩
    · cases hQ
  split at hQ
  · split at hQ
    · rename_i p
      have hh2 : ht p + 1 ≤ 12 := hh
      rw [List.mem_singleton.mp hQ]; exact ⟨hs, by omega⟩
    · cases hQ
  · cases hQ
def spUpsL : SpD := fun ds S Q _ => ∃ (v : Nat) (ns : List Str) (x : D) (ls : List D) (prev : List Ln) (a e : D) (P : Prog) (w : Str) (ups : D), ds = [x, nI prev.length] ∧ seqD S x = some ls ∧ LinesAt v ns ls prev (.tup [a, progD P, e, .str w, ups]) ∧ NsOk ns ∧
  StepsIn ns P ∧ ht P ≤ 12 ∧ RuleFit w P ∧ UpsIn ups ∧ Q (.bl (uppersB prev ups (dueP w P))) S
theorem ix_of {ls : List D} {k : Nat} {d : D} (h : ls[k]? = some d) : ixD ls (k : Int) = some d := by rw [ixD_nat]; exact h
theorem len__law_uppers_good : ∀ (ds : List D) (S : Stt) (Q : QE) (E : Str → Stt → Prop), spUpsL ds S Q E → ds.length = 2 := by intro ds S Q E h; delta spUpsL at h; (repeat obtain ⟨_, h⟩ := h); subst_vars; rfl
theorem ok__law_uppers_good (C : Ct) (T : Txt C) : Fn C CX0 (1 + 1) "_law_uppers_good" ["_law_lines", "_law_number"] [] spUpsL := by
  obtain ⟨fd, F⟩ := T.def_ 66 (d := d__law_uppers_good)
  have F__law_due_programs := (ok__law_due_programs C T).mono (show 1 ≤ 1 by omega)
  have F__law_int := (ok__law_int C T).mono (show 1 ≤ 1 by omega)
  refine Fn.of F (T.glo "_law_uppers_good") (fun _ _ _ _ _ _ us hl => match us, hl with | [_, _], _ => rfl) (fnD F sc__law_uppers_good len__law_uppers_good (by decide) fun cdv A outer s H E hr => ⟨_,
    (dss_cons (ds_set (i := 2) sc__law_uppers_good.nd rfl (by first | exact Or.inl rfl | exact Or.inr rfl) (de_ix ix_seq opd_ix (dv 0) (dv 1) (fun _ _ => rfl)))
      (dss_cons (ds_set (i := 3) sc__law_uppers_good.nd rfl (by first | exact Or.inl rfl | exact Or.inr rfl) (de_call F__law_due_programs hr (by rfl) pass0 (da_cons (de_ix ix_seq opd_ix (dv 2) de_int (fun _ _ => rfl)) (da_cons (de_ix ix_seq opd_ix (dv 2) de_int (fun _ _ => rfl)) da_nil))))
      (dss_cons (ds_if (dt_bop (dw_or (dt_not (dt_val (de_isituple (T.free "isinstance") (T.free "tuple") (de_ix ix_seq opd_ix (dv 2) de_int (fun _ _ => rfl))))) (dw_or1 (dt_cmp op_ne opd_ne (de_cb call_len calld_len (by rfl) (T.free "len") (by decide +kernel) (da_cons (de_ix ix_seq opd_ix (dv 2) de_int (fun _ _ => rfl)) da_nil)) (de_cb call_len calld_len (by rfl) (T.free "len") (by decide +kernel) (da_cons (dv 3) da_nil)) (nomark _))))) (dss_one (ds_ret de_bl)) dss_nil)
      (dss_cons (ds_for PassesOwn.never rfl (di_rng1 (by rfl) (T.free "range") (da_cons (de_cb call_len calld_len (by rfl) (T.free "len") (by decide +kernel) (da_cons (dv 3) da_nil)) da_nil)) (dg_name (i := 4) sc__law_uppers_good.nd rfl (by first | exact Or.inl rfl | exact Or.inr rfl)) (dss_cons (ds_set (i := 5) sc__law_uppers_good.nd rfl (by first | exact Or.inl rfl | exact Or.inr rfl) (de_ix ix_seq opd_ix (de_ix ix_seq opd_ix (dv 2) de_int (fun _ _ => rfl)) (dv 4) (fun _ _ => rfl)))
      (dss_one (ds_if (dt_bop (dw_or (dt_not (dt_val (de_call F__law_int hr (by rfl) pass0 (da_cons (dv 5) da_nil)))) (dw_or (dt_cmp op_lt opd_B (dv 5) de_int (nomark _)) (dw_or (dt_cmp op_ge opd_B (dv 5) (dv 1) (nomark _)) (dw_or1 (dt_cmp (op_neD hr.units) opd_neD (de_ix ix_seq opd_ix (de_ix ix_seq opd_ix (dv 0) (dv 5) (fun _ _ => rfl)) de_int (fun _ _ => rfl)) (de_ix ix_seq opd_ix (dv 3) (dv 4) (fun _ _ => rfl)) (nomark _))))))) (dss_one (ds_ret de_bl)) dss_nil))))
      (dss_one (ds_ret de_bl)))))), fun ds S QD ED h => ?_⟩)
  obtain ⟨v, ns, x, ls, prev, a, e, P, w, ups, rfl, hs, hL, hns, hst, hh, hfit, hu, q⟩ := h
  conv => whnf
  rw [hs]
  conv => whnf
  rw [ix_of hL.at_]
  refine ⟨w, progD P, _, rfl, due_eq hfit, hu.1, ?_⟩
  cases ups with
  | tup us =>
    by_cases hlen : us.length = (dueP w P).length
    · refine ite_false (b := !decide (((us.length : Nat) : Int) = ((((dueP w P).map progD).length : Nat) : Int))) (by rw [List.length_map, decide_eq_true (by omega)]; rfl) ?_
      have few : (dueP w P).length ≤ 2 := by
        unfold dueP
        repeat' split
        all_goals (simp)
      refine ⟨by rw [List.length_map]; omega, by omega, ?_⟩
      rw [ints0, List.length_map]
      have hq : ∀ b, uppersB prev (.tup us) (dueP w P) = b → QD (.bl b) S := fun b e => by rw [← e]; exact q
      have eB : uppersB prev (.tup us) (dueP w P) = upsB prev us (dueP w P) := by
        show (decide _ && _) = _
        rw [decide_eq_true hlen]; rfl
      refine ⟨fun r ρ S' => ∃ k o4 o5, k ≤ (dueP w P).length ∧ r = (List.range' k ((dueP w P).length - k)).map nI ∧ ρ = [some x, some (nI prev.length), some (.tup [a, progD P, e, .str w, .tup us]), some (.lst ((dueP w P).map progD)), o4, o5] ∧ S' = S ∧ ∀ j (h : j < us.length) (h2 : j < (dueP w P).length), j < k → upB prev us[j] (dueP w P)[j] = true,
        ⟨0, none, none, by omega, rfl, rfl, rfl, fun j _ _ h => by omega⟩, ?_, ?_⟩
      · rintro y r ρ S' ⟨k, o4, o5, hk, e1, rfl, rfl, hall⟩
        obtain ⟨h1, rfl, rfl⟩ := rng_cases hk e1
        have hku : k < us.length := by omega
        conv => whnf
        rw [ix_of (List.getElem?_eq_getElem hku)]
        have hT := hu.2 us rfl us[k] (List.getElem_mem hku)
        have bad : upB prev us[k] (dueP w P)[k] = false → QD (.bl false) S' := fun hb => by
          refine hq false ?_
          rw [eB]
          cases z : upsB prev us (dueP w P) with
          | false => rfl
          | true =>
            have := (upsB_at hlen).mp z k hku h1
            rw [hb] at this
            cases this
        refine ⟨us[k], rfl, hT, ?_⟩
        cases hd : us[k] with
        | int i =>
          rw [hd] at bad
          by_cases h0 : i < 0
          · exact dec_t h0 (bad (upB_neg h0))
          · refine dec_f h0 ?_
            obtain ⟨j, rfl⟩ := Int.eq_ofNat_of_zero_le (show 0 ≤ i by omega)
            by_cases hj : (prev.length : Int) ≤ (j : Int)
            · exact dec_t hj (bad (by rw [upB_nat, upN_big (by omega)]))
            · refine dec_f hj ?_
              have hj2 : j < prev.length := by omega
              conv => whnf
              rw [hs]
              conv => whnf
              rw [ix_of (hL.pre j hj2)]
              conv => whnf
              rw [ix_of (show ((dueP w P).map progD)[k]? = some (progD (dueP w P)[k]) by rw [List.getElem?_map, List.getElem?_eq_getElem h1]; rfl)]
              have eB2 : upB prev (.int (j : Int)) (dueP w P)[k] = eqD (progD prev[j].p) (progD (dueP w P)[k]) := by rw [upB_nat, upN_at hj2]
              have ok1 := hL.ok _ (List.getElem_mem hj2)
              obtain ⟨s1, s2⟩ := due_steps (w := w) hst hh _ (List.getElem_mem h1)
              refine ⟨(prog_ok hns ok1.st ok1.ht).eq, (prog_ok hns s1 s2).eq, ?_⟩
              cases hq2 : eqD (progD prev[j].p) (progD (dueP w P)[k]) with
              | false =>
                refine bad ?_
                rw [eB2, hq2]
              | true =>
                refine ⟨k + 1, some (nI k), some (.int (j : Int)), h1, rfl, rfl, rfl, fun m hm hm2 hlt => ?_⟩
                by_cases z : m = k
                · subst z
                  rw [hd, eB2, hq2]
                · exact hall m hm hm2 (by omega)
        | _ => first | exact bad (by rw [hd]; rfl) | (rw [hd] at hT; cases hT)
      · rintro ρ S' ⟨k, o4, o5, hk, e1, rfl, rfl, hall⟩
        have := rng_end hk e1
        subst this
        refine hq true ?_
        rw [eB]
        exact (upsB_at hlen).mpr fun j h1 h2 => hall j h1 h2 h2
    · have e1 : uppersB prev (.tup us) (dueP w P) = false := by
        show (decide _ && _) = false
        rw [decide_eq_false hlen]; rfl
      rw [e1] at q
      refine ite_true (b := !decide (((us.length : Nat) : Int) = ((((dueP w P).map progD).length : Nat) : Int))) (by rw [List.length_map, decide_eq_false (by omega)]; rfl) q
  | _ => first | exact q | cases hu.1
end TA
set_option Elab.async false
set_option linter.all false
set_option maxRecDepth 100000
set_option maxHeartbeats 4000000
namespace TA
open PySem PySem.Spec L2
open PyProof.Rows hiding St
/-! ## lots and what is seen -/
inductive RuleC : Str → Prog → Prop where
  | grow {P : Prog} : RuleC "grow" P
  | step {n : Str} : RuleC "step" (.step n)
  | nothing : RuleC "nothing" .nothing
  | behind {p q : Prog} : RuleC "behind" (.behind p q)
  | either {p q : Prog} : RuleC "either" (.either p q)
  | more {p : Prog} : RuleC "more" (.again p)
  | closed {p : Prog} : RuleC "closed" (.again p)
theorem rule_cases {w : Str} {P : Prog} (h : RuleFit w P) : RuleC w P := by
  rcases h with h | h
  · subst h; exact .grow
  unfold makesF at h
  split at h
  · rename_i e; subst e
    cases P with
    | step n => exact .step
    | nothing => exact absurd (show ("step" : Str) = "nothing" from h) (by decide)
    | behind p q => exact absurd (show ("step" : Str) = "behind" from h) (by decide)
    | either p q => exact absurd (show ("step" : Str) = "either" from h) (by decide)
    | again p => exact absurd (show ("step" : Str) = "again" from h) (by decide)
  split at h
  · rename_i e; subst e
    cases P with
    | nothing => exact .nothing
    | step n => exact absurd (show ("nothing" : Str) = "step" from h) (by decide)
    | behind p q => exact absurd (show ("nothing" : Str) = "behind" from h) (by decide)
    | either p q => exact absurd (show ("nothing" : Str) = "either" from h) (by decide)
    | again p => exact absurd (show ("nothing" : Str) = "again" from h) (by decide)
  split at h
  · rename_i e; subst e
    cases P with
    | behind p q => exact .behind
    | step n => exact absurd (show ("behind" : Str) = "step" from h) (by decide)
    | nothing => exact absurd (show ("behind" : Str) = "nothing" from h) (by decide)
    | either p q => exact absurd (show ("behind" : Str) = "either" from h) (by decide)
    | again p => exact absurd (show ("behind" : Str) = "again" from h) (by decide)
  split at h
  · rename_i e; subst e
    cases P with
    | either p q => exact .either
    | step n => exact absurd (show ("either" : Str) = "step" from h) (by decide)
    | nothing => exact absurd (show ("either" : Str) = "nothing" from h) (by decide)
    | behind p q => exact absurd (show ("either" : Str) = "behind" from h) (by decide)
    | again p => exact absurd (show ("either" : Str) = "again" from h) (by decide)
  split at h
  · rename_i e; subst e
    cases P with
    | again p => exact .more
    | step n => exact absurd (show ("again" : Str) = "step" from h) (by decide)
    | nothing => exact absurd (show ("again" : Str) = "nothing" from h) (by decide)
    | behind p q => exact absurd (show ("again" : Str) = "behind" from h) (by decide)
    | either p q => exact absurd (show ("again" : Str) = "either" from h) (by decide)
  split at h
  · rename_i e; subst e
    cases P with
    | again p => exact .closed
    | step n => exact absurd (show ("again" : Str) = "step" from h) (by decide)
    | nothing => exact absurd (show ("again" : Str) = "nothing" from h) (by decide)
    | behind p q => exact absurd (show ("again" : Str) = "behind" from h) (by decide)
    | either p q => exact absurd (show ("again" : Str) = "either" from h) (by decide)
  · cases P with
    | step n => exact absurd (show ("none" : Str) = "step" from h) (by decide)
    | nothing => exact absurd (show ("none" : Str) = "nothing" from h) (by decide)
    | behind p q => exact absurd (show ("none" : Str) = "behind" from h) (by decide)
    | either p q => exact absurd (show ("none" : Str) = "either" from h) (by decide)
    | again p => exact absurd (show ("none" : Str) = "again" from h) (by decide)
/-- the lots that a rule wants -/
inductive Lots (es : List Ent) : Str → Nat → Nat → Prog → List Ln → Bool → Prop where
  | grow {a e : Nat} {P : Prog} {g : Ln} : Lots es "grow" a e P [g] true
  | step {a e : Nat} {n : Str} : Lots es "step" a e (.step n) [] (decide (e = nextL (rowOf es n) a))
  | nothing {a e : Nat} : Lots es "nothing" a e .nothing [] (decide (a = e))
  | behind {a e : Nat} {p q : Prog} {g h : Ln} : Lots es "behind" a e (.behind p q) [g, h] (decide (g.a = a) && (decide (h.a = g.e) && decide (h.e = e)))
  | either {a e : Nat} {p q : Prog} {g h : Ln} : Lots es "either" a e (.either p q) [g, h] (decide (g.a = a) && (decide (h.a = a) && decide (e = g.e ||| h.e)))
  | more {a e : Nat} {p : Prog} {g h : Ln} : Lots es "more" a e (.again p) [g, h] (decide (g.a = a) && (decide (h.a = a ||| g.e) && decide (h.e = e)))
  | closed {a e : Nat} {p : Prog} {g : Ln} : Lots es "closed" a e (.again p) [g] (decide (g.a = a) && decide (e = a ||| g.e))
theorem lots_all {es : List Ent} {w : Str} {P : Prog} (h : RuleC w P) (a e : Nat) {gs : List Ln} (hl : gs.length = (dueP w P).length) : ∃ b, Lots es w a e P gs b := by
  cases h with
  | grow => match gs, hl with
    | [g], _ => exact ⟨_, .grow⟩
  | step => match gs, hl with
    | [], _ => exact ⟨_, .step⟩
  | nothing => match gs, hl with
    | [], _ => exact ⟨_, .nothing⟩
  | behind => match gs, hl with
    | [g, h], _ => exact ⟨_, .behind⟩
  | either => match gs, hl with
    | [g, h], _ => exact ⟨_, .either⟩
  | more => match gs, hl with
    | [g, h], _ => exact ⟨_, .more⟩
  | closed => match gs, hl with
    | [g], _ => exact ⟨_, .closed⟩
theorem nat_dec2 {a b : Nat} : decide ((a : Int) = (b : Int)) = decide (a = b) := nat_dec
theorem or_dec {a b c : Nat} : decide ((a : Int) = Builtin.bitOr (b : Int) (c : Int)) = decide (a = b ||| c) := by rw [or_nat, nat_dec]
def spLotsL : SpD := fun ds S Q _ => ∃ (v : Nat) (es : List Ent) (a e : Nat) (P : Prog) (w : Str) (ups : D) (gs : List Ln) (b : Bool), ds = [rowsD es, .tup [nI a, progD P, nI e, .str w, ups], .lst (gs.map lnD)] ∧ v ≤ 6 ∧ (∀ e ∈ es, RowOk v e.2) ∧ StepsIn (es.map (·.1)) P ∧ Lots es w a e P gs b ∧ Q (.bl b) S
theorem len__law_lots_good : ∀ (ds : List D) (S : Stt) (Q : QE) (E : Str → Stt → Prop), spLotsL ds S Q E → ds.length = 3 := by intro ds S Q E h; delta spLotsL at h; (repeat obtain ⟨_, h⟩ := h); subst_vars; rfl
theorem ok__law_lots_good (C : Ct) (T : Txt C) : Fn C CX0 (1 + 1) "_law_lots_good" ["_law_rows", "_law_line", "_law_given"] [] spLotsL := by
  obtain ⟨fd, F⟩ := T.def_ 67 (d := d__law_lots_good)
  have F__law_next := (ok__law_next C T).mono (show 1 ≤ 1 by omega)
  refine Fn.of F (T.glo "_law_lots_good") (fun _ _ _ _ _ _ us hl => match us, hl with | [_, _, _], _ => rfl) (fnD F sc__law_lots_good len__law_lots_good (by decide) fun cdv A outer s H E hr => ⟨_,
    (dss_cons (ds_set (i := 3) sc__law_lots_good.nd rfl (by first | exact Or.inl rfl | exact Or.inr rfl) (de_ix ix_seq opd_ix (dv 1) de_int (fun _ _ => rfl)))
      (dss_cons (ds_if (dt_cmp op_eq opd_eq (dv 3) de_str (nomark _)) (dss_one (ds_ret de_bl)) dss_nil)
      (dss_cons (ds_if (dt_cmp op_eq opd_eq (dv 3) de_str (nomark _)) (dss_one (ds_ret (de_cmp op_eq opd_eq (de_ix ix_seq opd_ix (dv 1) de_int (fun _ _ => rfl)) (de_call F__law_next hr (by rfl) pass0 (da_cons (de_dget (hu_of hr) (dv 0) (de_ix ix_seq opd_ix (de_ix ix_seq opd_ix (dv 1) de_int (fun _ _ => rfl)) de_int (fun _ _ => rfl)) (fun _ _ => rfl)) (da_cons (de_ix ix_seq opd_ix (dv 1) de_int (fun _ _ => rfl)) da_nil))) (nomark _)))) dss_nil)
      (dss_cons (ds_if (dt_cmp op_eq opd_eq (dv 3) de_str (nomark _)) (dss_one (ds_ret (de_cmp op_eq opd_eq (de_ix ix_seq opd_ix (dv 1) de_int (fun _ _ => rfl)) (de_ix ix_seq opd_ix (dv 1) de_int (fun _ _ => rfl)) (nomark _)))) dss_nil)
      (dss_cons (ds_if (dt_cmp op_ne opd_ne (de_ix ix_seq opd_ix (de_ix ix_seq opd_ix (dv 2) de_int (fun _ _ => rfl)) de_int (fun _ _ => rfl)) (de_ix ix_seq opd_ix (dv 1) de_int (fun _ _ => rfl)) (nomark _)) (dss_one (ds_ret de_bl)) dss_nil)
      (dss_cons (ds_if (dt_cmp op_eq opd_eq (dv 3) de_str (nomark _)) (dss_one (ds_ret (de_cmp op_eq opd_eq (de_ix ix_seq opd_ix (dv 1) de_int (fun _ _ => rfl)) (de_op op_or opd_I (de_ix ix_seq opd_ix (dv 1) de_int (fun _ _ => rfl)) (de_ix ix_seq opd_ix (de_ix ix_seq opd_ix (dv 2) de_int (fun _ _ => rfl)) de_int (fun _ _ => rfl))) (nomark _)))) dss_nil)
      (dss_cons (ds_if (dt_cmp op_eq opd_eq (dv 3) de_str (nomark _)) (dss_one (ds_ret (de_and (de_cmp op_eq opd_eq (de_ix ix_seq opd_ix (de_ix ix_seq opd_ix (dv 2) de_int (fun _ _ => rfl)) de_int (fun _ _ => rfl)) (de_ix ix_seq opd_ix (dv 1) de_int (fun _ _ => rfl)) (nomark _)) (de_one (de_cmp op_eq opd_eq (de_ix ix_seq opd_ix (dv 1) de_int (fun _ _ => rfl)) (de_op op_or opd_I (de_ix ix_seq opd_ix (de_ix ix_seq opd_ix (dv 2) de_int (fun _ _ => rfl)) de_int (fun _ _ => rfl)) (de_ix ix_seq opd_ix (de_ix ix_seq opd_ix (dv 2) de_int (fun _ _ => rfl)) de_int (fun _ _ => rfl))) (nomark _)))))) dss_nil)
      (dss_cons (ds_set (i := 4) sc__law_lots_good.nd rfl (by first | exact Or.inl rfl | exact Or.inr rfl) (de_ifE (dt_cmp op_eq opd_eq (dv 3) de_str (nomark _)) (de_ix ix_seq opd_ix (de_ix ix_seq opd_ix (dv 2) de_int (fun _ _ => rfl)) de_int (fun _ _ => rfl)) (de_op op_or opd_I (de_ix ix_seq opd_ix (dv 1) de_int (fun _ _ => rfl)) (de_ix ix_seq opd_ix (de_ix ix_seq opd_ix (dv 2) de_int (fun _ _ => rfl)) de_int (fun _ _ => rfl)))))
      (dss_one (ds_ret (de_and (de_cmp op_eq opd_eq (de_ix ix_seq opd_ix (de_ix ix_seq opd_ix (dv 2) de_int (fun _ _ => rfl)) de_int (fun _ _ => rfl)) (dv 4) (nomark _)) (de_one (de_cmp op_eq opd_eq (de_ix ix_seq opd_ix (de_ix ix_seq opd_ix (dv 2) de_int (fun _ _ => rfl)) de_int (fun _ _ => rfl)) (de_ix ix_seq opd_ix (dv 1) de_int (fun _ _ => rfl)) (nomark _)))))))))))))), fun ds S QD ED h => ?_⟩)
  obtain ⟨v, es, a, e, P, w, ups, gs, b, rfl, h6, hr, hs, hL, q⟩ := h
  cases hL with
  | grow => exact q
  | @step _ _ n =>
    have hs : n ∈ es.map (·.1) := hs
    refine ⟨_, _, _, _, rfl, rfl, look_row hs, rowOf es n, a, rfl, by rw [(row_ok hr hs).1]; omega, ?_⟩
    show QD (.bl (decide ((e : Int) = (nextL (rowOf es n) a : Int)))) S
    rw [nat_dec]
    exact q
  | nothing =>
    show QD (.bl (decide ((a : Int) = (e : Int)))) S
    rw [nat_dec]
    exact q
  | @behind _ _ _ _ g h =>
    refine ite2 (fun h0 => ?_) (fun h0 => ?_)
    · have z : g.a ≠ a := fun z => by rw [z] at h0; simp at h0
      rw [decide_eq_false z] at q
      exact q
    · have z : g.a = a := Decidable.byContradiction fun z => h0 (size_ne z)
      rw [decide_eq_true z] at q
      show (if decide ((h.a : Int) = (g.e : Int)) = true then QD (.bl (decide ((h.e : Int) = (e : Int)))) S else QD (.bl false) S)
      rw [nat_dec, nat_dec]
      refine ite2 (fun h1 => ?_) (fun h1 => ?_)
      · rw [h1] at q; exact q
      · rw [Bool.not_eq_true] at h1
        rw [h1] at q; exact q
  | @either _ _ _ _ g h =>
    refine ite2 (fun h0 => ?_) (fun h0 => ?_)
    · have z : g.a ≠ a := fun z => by rw [z] at h0; simp at h0
      rw [decide_eq_false z] at q
      exact q
    · have z : g.a = a := Decidable.byContradiction fun z => h0 (size_ne z)
      rw [decide_eq_true z] at q
      show (if decide ((h.a : Int) = (a : Int)) = true then QD (.bl (decide ((e : Int) = Builtin.bitOr (g.e : Int) (h.e : Int)))) S else QD (.bl false) S)
      rw [nat_dec, or_dec]
      refine ite2 (fun h1 => ?_) (fun h1 => ?_)
      · rw [h1] at q; exact q
      · rw [Bool.not_eq_true] at h1
        rw [h1] at q; exact q
  | @more _ _ _ g h =>
    refine ite2 (fun h0 => ?_) (fun h0 => ?_)
    · have z : g.a ≠ a := fun z => by rw [z] at h0; simp at h0
      rw [decide_eq_false z] at q
      exact q
    · have z : g.a = a := Decidable.byContradiction fun z => h0 (size_ne z)
      rw [decide_eq_true z] at q
      show (if decide ((h.a : Int) = Builtin.bitOr (a : Int) (g.e : Int)) = true then QD (.bl (decide ((h.e : Int) = (e : Int)))) S else QD (.bl false) S)
      rw [or_dec, nat_dec]
      refine ite2 (fun h1 => ?_) (fun h1 => ?_)
      · rw [h1] at q; exact q
      · rw [Bool.not_eq_true] at h1
        rw [h1] at q; exact q
  | @closed _ _ _ g =>
    refine ite2 (fun h0 => ?_) (fun h0 => ?_)
    · have z : g.a ≠ a := fun z => by rw [z] at h0; simp at h0
      rw [decide_eq_false z] at q
      exact q
    · have z : g.a = a := Decidable.byContradiction fun z => h0 (size_ne z)
      rw [decide_eq_true z] at q
      show QD (.bl (decide ((e : Int) = Builtin.bitOr (a : Int) (g.e : Int)))) S
      rw [or_dec]
      exact q
/-- what is seen -/
inductive Seen (ms : List Nat) (es : List Ent) : Str → Nat → Nat → Prog → List Ln → Str → Prop where
  | step {a e : Nat} {n : Str} : Seen ms es "step" a e (.step n) [] (if sharpB ms (rowOf es n) a then "good" else "sharp")
  | nothing {a e : Nat} : Seen ms es "nothing" a e .nothing [] "good"
  | behind {a e : Nat} {p q : Prog} {g h : Ln} : Seen ms es "behind" a e (.behind p q) [g, h] "good"
  | either {a e : Nat} {p q : Prog} {g h : Ln} : Seen ms es "either" a e (.either p q) [g, h] "good"
  | more {a e : Nat} {p : Prog} {g h : Ln} : Seen ms es "more" a e (.again p) [g, h] "good"
  | closed {a e : Nat} {p : Prog} {g : Ln} : Seen ms es "closed" a e (.again p) [g] (if decide (g.e &&& rnd ms a = g.e) then "good" else "closed")
  | grow {a e : Nat} {P : Prog} {g : Ln} : Seen ms es "grow" a e P [g] (if (decide (g.a &&& a = g.a) && decide (a &&& rnd ms g.a = a)) && (decide (e &&& g.e = e) && decide (g.e &&& rnd ms e = g.e)) then "good" else "grow")
theorem seen_all {ms : List Nat} {es : List Ent} {w : Str} {a e : Nat} {P : Prog} {gs : List Ln} {b : Bool} (h : Lots es w a e P gs b) : ∃ z, Seen ms es w a e P gs z := by
  cases h with
  | grow => exact ⟨_, .grow⟩
  | step => exact ⟨_, .step⟩
  | nothing => exact ⟨_, .nothing⟩
  | behind => exact ⟨_, .behind⟩
  | either => exact ⟨_, .either⟩
  | more => exact ⟨_, .more⟩
  | closed => exact ⟨_, .closed⟩
def spSeenL : SpD := fun ds S Q _ => ∃ (v : Nat) (ms : List Nat) (es : List Ent) (a e : Nat) (P : Prog) (w : Str) (ups : D) (gs : List Ln) (z : Str), ds = [.lst (ms.map nI), rowsD es, .tup [nI a, progD P, nI e, .str w, ups], .lst (gs.map lnD)] ∧ Good v ms ∧ (∀ e ∈ es, RowOk v e.2) ∧ StepsIn (es.map (·.1)) P ∧ Seen ms es w a e P gs z ∧ Q (.str z) S
theorem len__law_seen_word : ∀ (ds : List D) (S : Stt) (Q : QE) (E : Str → Stt → Prop), spSeenL ds S Q E → ds.length = 4 := by intro ds S Q E h; delta spSeenL at h; (repeat obtain ⟨_, h⟩ := h); subst_vars; rfl
theorem ok__law_seen_word (C : Ct) (T : Txt C) : Fn C CX0 (2 + 1) "_law_seen_word" ["_law_members_here", "_law_rows", "_law_line", "_law_given"] [] spSeenL := by
  obtain ⟨fd, F⟩ := T.def_ 68 (d := d__law_seen_word)
  have F__law_rounded := (ok__law_rounded C T).mono (show 1 ≤ 2 by omega)
  have F__law_sharp := (ok__law_sharp C T).mono (show 2 ≤ 2 by omega)
  have F__law_within := (ok__law_within C T).mono (show 1 ≤ 2 by omega)
  refine Fn.of F (T.glo "_law_seen_word") (fun _ _ _ _ _ _ us hl => match us, hl with | [_, _, _, _], _ => rfl) (fnD F sc__law_seen_word len__law_seen_word (by decide) fun cdv A outer s H E hr => ⟨_,
    (dss_cons (ds_if (dt_bop (dw_and (dt_cmp op_eq opd_eq (de_ix ix_seq opd_ix (dv 2) de_int (fun _ _ => rfl)) de_str (nomark _)) (dw_and1 (dt_not (dt_val (de_call F__law_sharp hr (by rfl) pass0 (da_cons (dv 0) (da_cons (de_dget (hu_of hr) (dv 1) (de_ix ix_seq opd_ix (de_ix ix_seq opd_ix (dv 2) de_int (fun _ _ => rfl)) de_int (fun _ _ => rfl)) (fun _ _ => rfl)) (da_cons (de_ix ix_seq opd_ix (dv 2) de_int (fun _ _ => rfl)) da_nil))))))))) (dss_one (ds_ret de_str)) dss_nil)
      (dss_cons (ds_if (dt_bop (dw_and (dt_cmp op_eq opd_eq (de_ix ix_seq opd_ix (dv 2) de_int (fun _ _ => rfl)) de_str (nomark _)) (dw_and1 (dt_not (dt_val (de_call F__law_within hr (by rfl) pass0 (da_cons (de_ix ix_seq opd_ix (de_ix ix_seq opd_ix (dv 3) de_int (fun _ _ => rfl)) de_int (fun _ _ => rfl)) (da_cons (de_call F__law_rounded hr (by rfl) pass0 (da_cons (dv 0) (da_cons (de_ix ix_seq opd_ix (dv 2) de_int (fun _ _ => rfl)) da_nil))) da_nil)))))))) (dss_one (ds_ret de_str)) dss_nil)
      (dss_cons (ds_if (dt_cmp op_eq opd_eq (de_ix ix_seq opd_ix (dv 2) de_int (fun _ _ => rfl)) de_str (nomark _)) (dss_cons (ds_set (i := 4) sc__law_seen_word.nd rfl (by first | exact Or.inl rfl | exact Or.inr rfl) (de_ix ix_seq opd_ix (dv 3) de_int (fun _ _ => rfl)))
      (dss_cons (ds_if (dt_bop (dw_or (dt_not (dt_val (de_call F__law_within hr (by rfl) pass0 (da_cons (de_ix ix_seq opd_ix (dv 4) de_int (fun _ _ => rfl)) (da_cons (de_ix ix_seq opd_ix (dv 2) de_int (fun _ _ => rfl)) da_nil))))) (dw_or1 (dt_not (dt_val (de_call F__law_within hr (by rfl) pass0 (da_cons (de_ix ix_seq opd_ix (dv 2) de_int (fun _ _ => rfl)) (da_cons (de_call F__law_rounded hr (by rfl) pass0 (da_cons (dv 0) (da_cons (de_ix ix_seq opd_ix (dv 4) de_int (fun _ _ => rfl)) da_nil))) da_nil)))))))) (dss_one (ds_ret de_str)) dss_nil)
      (dss_one (ds_if (dt_bop (dw_or (dt_not (dt_val (de_call F__law_within hr (by rfl) pass0 (da_cons (de_ix ix_seq opd_ix (dv 2) de_int (fun _ _ => rfl)) (da_cons (de_ix ix_seq opd_ix (dv 4) de_int (fun _ _ => rfl)) da_nil))))) (dw_or1 (dt_not (dt_val (de_call F__law_within hr (by rfl) pass0 (da_cons (de_ix ix_seq opd_ix (dv 4) de_int (fun _ _ => rfl)) (da_cons (de_call F__law_rounded hr (by rfl) pass0 (da_cons (dv 0) (da_cons (de_ix ix_seq opd_ix (dv 2) de_int (fun _ _ => rfl)) da_nil))) da_nil)))))))) (dss_one (ds_ret de_str)) dss_nil)))) dss_nil)
      (dss_one (ds_ret de_str))))), fun ds S QD ED h => ?_⟩)
  obtain ⟨v, ms, es, a, e, P, w, ups, gs, z, rfl, g, hr, hs, hS, q⟩ := h
  cases hS with
  | @step _ _ n =>
    have hs : n ∈ es.map (·.1) := hs
    refine ⟨_, _, _, _, rfl, rfl, look_row hs, ms, rowOf es n, a, rfl, g.ne, by rw [(row_ok hr hs).1]; have := g.v6; omega, ?_⟩
    cases hb : sharpB ms (rowOf es n) a with
    | true => rw [hb] at q; exact q
    | false => rw [hb] at q; exact q
  | nothing => exact q
  | behind => exact q
  | either => exact q
  | more => exact q
  | @closed _ _ _ h =>
    refine ⟨ms, a, rfl, g.ne, h.e, rnd ms a, rfl, ?_⟩
    cases hb : decide (h.e &&& rnd ms a = h.e) with
    | true => rw [hb] at q; exact q
    | false => rw [hb] at q; exact q
  | @grow _ _ _ h =>
    refine ⟨h.a, a, rfl, ?_⟩
    cases h1 : decide (h.a &&& a = h.a) with
    | false => rw [h1] at q; exact q
    | true =>
      rw [h1] at q
      refine ⟨ms, h.a, rfl, g.ne, a, rnd ms h.a, rfl, ?_⟩
      cases h2 : decide (a &&& rnd ms h.a = a) with
      | false => rw [h2] at q; exact q
      | true =>
        rw [h2] at q
        refine ⟨e, h.e, rfl, ?_⟩
        cases h3 : decide (e &&& h.e = e) with
        | false => rw [h3] at q; exact q
        | true =>
          rw [h3] at q
          refine ⟨ms, e, rfl, g.ne, h.e, rnd ms e, rfl, ?_⟩
          cases h4 : decide (h.e &&& rnd ms e = h.e) with
          | false => rw [h4] at q; exact q
          | true => rw [h4] at q; exact q
end TA
set_option Elab.async false
set_option linter.all false
set_option maxRecDepth 100000
set_option maxHeartbeats 4000000
namespace TA
open PySem PySem.Spec L2
open PyProof.Rows hiding St
/-! ## a line's word -/
inductive Given (prev : List Ln) : List D → List Ln → Prop where
  | nil : Given prev [] []
  | cons {k : Nat} {g : Ln} {us : List D} {gs : List Ln} : prev[k]? = some g → Given prev us gs → Given prev (nI k :: us) (g :: gs)
theorem Given.len {prev : List Ln} : ∀ {us : List D} {gs : List Ln}, Given prev us gs → us.length = gs.length
  | _, _, .nil => rfl
  | _, _, .cons _ h => by rw [List.length_cons, List.length_cons, h.len]
theorem given_of {prev : List Ln} : ∀ {us : List D} {Ps : List Prog}, us.length = Ps.length → upsB prev us Ps = true → ∃ gs, Given prev us gs
  | [], _, _, _ => ⟨[], .nil⟩
  | u :: us, [], h, _ => by simp at h
  | u :: us, P :: Ps, hl, h => by
    have h : (upB prev u P && upsB prev us Ps) = true := h
    rw [Bool.and_eq_true] at h
    obtain ⟨gs, hg⟩ := given_of (by simpa using hl) h.2
    cases u with
    | int i =>
      by_cases h0 : i < 0
      · rw [upB_neg h0] at h; exact absurd h.1 Bool.false_ne_true
      · obtain ⟨j, rfl⟩ := Int.eq_ofNat_of_zero_le (show 0 ≤ i by omega)
        have h1 : upB prev (nI j) P = true := h.1
        rw [upB_nat] at h1
        by_cases hj : j < prev.length
        · exact ⟨prev[j] :: gs, .cons (List.getElem?_eq_getElem hj) hg⟩
        · rw [upN_big (by omega)] at h1; cases h1
    | _ => exact absurd h.1 Bool.false_ne_true
theorem uppers_given {prev : List Ln} {u : D} {Ps : List Prog} (h : uppersB prev u Ps = true) : ∃ us gs, u = .tup us ∧ us.length = Ps.length ∧ Given prev us gs := by
  cases u with
  | tup us =>
    have h : (decide (us.length = Ps.length) && upsB prev us Ps) = true := h
    rw [Bool.and_eq_true, decide_eq_true_iff] at h
    obtain ⟨gs, hg⟩ := given_of h.1 h.2
    exact ⟨us, gs, rfl, h.1, hg⟩
  | _ => cases h
/-- what is right in its shape -/
structure GS (v : Nat) (ns : List Str) (a e : Nat) (P : Prog) (w : Str) (ups : D) : Prop where
  sh : Shape v ns (.tup [nI a, progD P, nI e, .str w, ups]) "good"
  a : a < 2 ^ v
  e : e < 2 ^ v
  st : StepsIn ns P
  ht : ht P ≤ 12
  up : UpsIn ups
  fit : RuleFit w P
theorem gs_of {v : Nat} {ns : List Str} {d : D} (h : Shape v ns d "good") : ∃ a e P w ups, d = .tup [nI a, progD P, nI e, .str w, ups] ∧ GS v ns a e P w ups := by
  have key : ∀ z, Shape v ns d z → z = "good" → ∃ a e P w ups, d = .tup [nI a, progD P, nI e, .str w, ups] ∧ GS v ns a e P w ups := fun z hz => by
    cases hz with
    | other _ _ => exact fun z => absurd z (by decide)
    | lots _ _ _ => exact fun z => absurd z (by decide)
    | prog _ _ _ _ => exact fun z => absurd z (by decide)
    | how _ _ _ _ _ _ _ => exact fun z => absurd z (by decide)
    | good h1 h2 h3 h4 h5 h6 h7 h8 h9 => exact fun _ => ⟨_, _, _, _, _, rfl, ⟨.good h1 h2 h3 h4 h5 h6 h7 h8 h9, h1, h2, h5, h6, h7, h9⟩⟩
  exact key _ h rfl
inductive WordIs (v : Nat) (ms : List Nat) (es : List Ent) (prev : List Ln) : D → Str → Prop where
  | shape {d : D} {w : Str} : Shape v (es.map (·.1)) d w → w ≠ "good" → WordIs v ms es prev d w
  | ups {a e : Nat} {P : Prog} {w : Str} {u : D} : GS v (es.map (·.1)) a e P w u → uppersB prev u (dueP w P) = false → WordIs v ms es prev (.tup [nI a, progD P, nI e, .str w, u]) "uppers"
  | lot {a e : Nat} {P : Prog} {w : Str} {us : List D} {gs : List Ln} : GS v (es.map (·.1)) a e P w (.tup us) → uppersB prev (.tup us) (dueP w P) = true → Given prev us gs → Lots es w a e P gs false → WordIs v ms es prev (.tup [nI a, progD P, nI e, .str w, .tup us]) "lot"
  | seen {a e : Nat} {P : Prog} {w z : Str} {us : List D} {gs : List Ln} : GS v (es.map (·.1)) a e P w (.tup us) → uppersB prev (.tup us) (dueP w P) = true → Given prev us gs → Lots es w a e P gs true → Seen ms es w a e P gs z → WordIs v ms es prev (.tup [nI a, progD P, nI e, .str w, .tup us]) z
theorem word_all (v : Nat) (ms : List Nat) (es : List Ent) (prev : List Ln) {d : D} (h : LineIn d) : ∃ w, WordIs v ms es prev d w := by
  obtain ⟨w0, hw⟩ := shape_all v (es.map (·.1)) h
  by_cases hg : w0 = "good"
  · subst hg
    obtain ⟨a, e, P, w, ups, rfl, g⟩ := gs_of hw
    cases hu : uppersB prev ups (dueP w P) with
    | false => exact ⟨_, .ups g hu⟩
    | true =>
      obtain ⟨us, gs, rfl, hl, hgv⟩ := uppers_given hu
      obtain ⟨b, hb⟩ := lots_all (es := es) (rule_cases g.fit) a e (gs := gs) (by rw [← hgv.len, hl])
      cases b with
      | false => exact ⟨_, .lot g hu hgv hb⟩
      | true =>
        obtain ⟨z, hz⟩ := seen_all (ms := ms) hb
        exact ⟨_, .seen g hu hgv hb hz⟩
  · exact ⟨_, .shape hw hg⟩
theorem given_ok {v : Nat} {ns : List Str} {prev : List Ln} (h : ∀ l ∈ prev, LnOk v ns l) : ∀ {us : List D} {gs : List Ln}, Given prev us gs → ∀ g ∈ gs, LnOk v ns g
  | _, _, .nil, g, hg => by cases hg
  | _, _, .cons a b, g, hg => by
    rcases List.mem_cons.mp hg with z | z
    · rw [z]; exact h _ (List.mem_of_getElem? a)
    · exact given_ok h b g z
theorem given_nat {prev : List Ln} : ∀ {us : List D} {gs : List Ln}, Given prev us gs → ∃ ks : List Nat, us = ks.map nI ∧ ∀ k ∈ ks, k < prev.length
  | _, _, .nil => ⟨[], rfl, by simp⟩
  | _, _, .cons (k := k) a b => by
    obtain ⟨ks, e, h⟩ := given_nat b
    exact ⟨k :: ks, by rw [e]; rfl, fun x hx => by
      rcases List.mem_cons.mp hx with z | z
      · rw [z]; exact (List.getElem?_eq_some_iff.mp a).1
      · exact h x z⟩
/-- the comprehension that looks up the given lines -/
theorem lc_given {dg : DTG} {de : DTE} {vs : List Nat} {ρ : Rho} {S : Stt} {Q : List D → Stt → Prop} {prev : List Ln} {us : List D} {gs : List Ln} (hg : Given prev us gs) (hl : us.length ≤ 1000)
    (turn : ∀ k g, prev[k]? = some g → ∀ K : D → Stt → Prop, K (lnD g) S → dg (nI k) (wipeD ρ vs) S fun ρ1 S1 => de ρ1 S1 K) (fin : Q (gs.map lnD) S) :
    us.length ≤ 100000 ∧ ∃ W : List D → List D → Stt → Prop, W us [] S ∧
      (∀ x r acc S, W (x :: r) acc S → dg x (wipeD ρ vs) S fun ρ1 S1 => dYes ρ1 S1 fun b S2 => if b = true then de ρ1 S2 fun y S3 => W r (acc ++ [y]) S3 else W r acc S2) ∧ ∀ acc S, W [] acc S → Q acc S := by
  refine ⟨by omega, fun r acc S' => S' = S ∧ ∃ g1 g2, gs = g1 ++ g2 ∧ Given prev r g2 ∧ acc = g1.map lnD, ⟨rfl, [], gs, rfl, hg, rfl⟩, ?_, ?_⟩
  · rintro x r acc S' ⟨rfl, g1, g2, e, h, rfl⟩
    cases h with
    | @cons k g us gs' h1 h2 =>
      refine turn k g h1 (fun y S3 => S3 = S' ∧ ∃ g1' g2, gs = g1' ++ g2 ∧ Given prev r g2 ∧ (g1.map lnD) ++ [y] = g1'.map lnD) ⟨rfl, g1 ++ [g], gs', by rw [e]; simp, h2, by rw [List.map_append]; rfl⟩
  · rintro acc S' ⟨rfl, g1, g2, e, h, rfl⟩
    cases h
    rw [List.append_nil] at e
    subst e
    exact fin
theorem due_few {w : Str} {P : Prog} : (dueP w P).length ≤ 2 := by
  unfold dueP
  repeat' split
  all_goals (simp)
theorem seen_word {ms : List Nat} {es : List Ent} {w z : Str} {a e : Nat} {P : Prog} {gs : List Ln} (h : Seen ms es w a e P gs z) : z = "good" ∨ z ≠ "good" := by
  by_cases q : z = "good"
  · exact .inl q
  · exact .inr q
def spWordL : SpD := fun ds S Q _ => ∃ (v : Nat) (ms : List Nat) (es : List Ent) (x : D) (ls : List D) (prev : List Ln) (d : D) (w : Str), ds = [nI v, .lst (ms.map nI), rowsD es, x, nI prev.length] ∧ Good v ms ∧ Ents v es ∧ seqD S x = some ls ∧ LinesAt v (es.map (·.1)) ls prev d ∧
  WordIs v ms es prev d w ∧ Q (.str w) S
theorem ents_ok {v : Nat} {es : List Ent} (E : Ents v es) : NsOk (es.map (·.1)) := fun n hn => by
  obtain ⟨e, he, ee⟩ := List.mem_map.mp hn
  rw [← ee]
  exact (pool_ok _ (E.pl e he)).st
theorem len__law_word : ∀ (ds : List D) (S : Stt) (Q : QE) (E : Str → Stt → Prop), spWordL ds S Q E → ds.length = 5 := by intro ds S Q E h; delta spWordL at h; (repeat obtain ⟨_, h⟩ := h); subst_vars; rfl
theorem ok__law_word (C : Ct) (T : Txt C) : Fn C CX0 (16 + 1) "_law_word" ["_law_v", "_law_members_here", "_law_rows", "_law_lines", "_law_number"] [] spWordL := by
  obtain ⟨fd, F⟩ := T.def_ 69 (d := d__law_word)
  have F__law_lots_good := (ok__law_lots_good C T).mono (show 2 ≤ 16 by omega)
  have F__law_seen_word := (ok__law_seen_word C T).mono (show 3 ≤ 16 by omega)
  have F__law_shape_word := (ok__law_shape_word C T).mono (show 16 ≤ 16 by omega)
  have F__law_uppers_good := (ok__law_uppers_good C T).mono (show 2 ≤ 16 by omega)
  refine Fn.of F (T.glo "_law_word") (fun _ _ _ _ _ _ us hl => match us, hl with | [_, _, _, _, _], _ => rfl) (fnD F sc__law_word len__law_word (by decide) fun cdv A outer s H E hr => ⟨_,
    (dss_cons (ds_set (i := 5) sc__law_word.nd rfl (by first | exact Or.inl rfl | exact Or.inr rfl) (de_ix ix_seq opd_ix (dv 3) (dv 4) (fun _ _ => rfl)))
      (dss_cons (ds_set (i := 6) sc__law_word.nd rfl (by first | exact Or.inl rfl | exact Or.inr rfl) (de_call F__law_shape_word hr (by rfl) pass0 (da_cons (dv 0) (da_cons (dv 2) (da_cons (dv 5) da_nil)))))
      (dss_cons (ds_if (dt_cmp op_ne opd_ne (dv 6) de_str (nomark _)) (dss_one (ds_ret (dv 6))) dss_nil)
      (dss_cons (ds_if (dt_not (dt_val (de_call F__law_uppers_good hr (by rfl) pass0 (da_cons (dv 3) (da_cons (dv 4) da_nil))))) (dss_one (ds_ret de_str)) dss_nil)
      (dss_cons (ds_setLc (i := 7) (own := [("_law_at", 8)]) (g := gName 8) (dg := gN 8) rfl sc__law_word.nd rfl rfl (sw_true rfl rfl rfl (by decide +kernel)) (di_seq (de_ix ix_seq opd_ix (dv 5) de_int (fun _ _ => rfl))) (blkOk_by (N := ["_law_v", "_law_members_here", "_law_rows", "_law_lines", "_law_number", "_law_line", "_law_word_here", "_law_given", "_law_at"]) (sc := defScope (topS 93)) (by decide +kernel)) (own_name (by decide)) (fun _ _ _ _ _ => pg_name (i := 8) sc__law_word.nd rfl (by first | exact Or.inl rfl | exact Or.inr rfl)) (fun _ _ _ _ _ => dts_nil) (fun _ _ _ _ _ => (de_ix ix_seq opd_ix (dv 3) (dv 8) (fun _ _ => rfl))))
      (dss_cons (ds_if (dt_not (dt_val (de_call F__law_lots_good hr (by rfl) pass0 (da_cons (dv 2) (da_cons (dv 5) (da_cons (dv 7) da_nil)))))) (dss_one (ds_ret de_str)) dss_nil)
      (dss_one (ds_ret (de_call F__law_seen_word hr (by rfl) pass0 (da_cons (dv 1) (da_cons (dv 2) (da_cons (dv 5) (da_cons (dv 7) da_nil))))))))))))), fun ds S QD ED h => ?_⟩)
  obtain ⟨v, ms, es, x, ls, prev, d, w, rfl, g, E, hs, hL, hW, q⟩ := h
  conv => whnf
  rw [hs]
  conv => whnf
  rw [ix_of hL.at_]
  cases hW with
  | shape hS hn =>
    exact ⟨v, es, d, w, rfl, g.v6, hS, ite_true (by rw [decide_eq_false hn]; rfl) q⟩
  | @ups a e P w u G hu =>
    refine ⟨v, es, _, "good", rfl, g.v6, G.sh, ?_⟩
    refine ⟨v, es.map (·.1), x, ls, prev, _, _, P, w, u, rfl, hs, hL, ents_ok E, G.st, G.ht, G.fit, G.up, ?_⟩
    rw [hu]
    exact q
  | @lot a e P w us gs G hu hg hb =>
    refine ⟨v, es, _, "good", rfl, g.v6, G.sh, ?_⟩
    refine ⟨v, es.map (·.1), x, ls, prev, _, _, P, w, _, rfl, hs, hL, ents_ok E, G.st, G.ht, G.fit, G.up, ?_⟩
    rw [hu]
    have hul : us.length = (dueP w P).length := by
      have h : (decide (us.length = (dueP w P).length) && _) = true := hu
      rw [Bool.and_eq_true, decide_eq_true_iff] at h
      exact h.1
    have := due_few (w := w) (P := P)
    refine lc_given hg (by omega) (fun k gk hk K hK => ?_) ?_
    · conv => whnf
      rw [hs]
      conv => whnf
      obtain ⟨hk2, ek⟩ := List.getElem?_eq_some_iff.mp hk
      rw [ix_of (hL.pre k hk2), ek]
      exact hK
    · exact ⟨v, es, a, e, P, w, _, gs, false, rfl, g.v6, E.ok, G.st, hb, q⟩
  | @seen a e P w z us gs G hu hg hb hz =>
    refine ⟨v, es, _, "good", rfl, g.v6, G.sh, ?_⟩
    refine ⟨v, es.map (·.1), x, ls, prev, _, _, P, w, _, rfl, hs, hL, ents_ok E, G.st, G.ht, G.fit, G.up, ?_⟩
    rw [hu]
    have hul : us.length = (dueP w P).length := by
      have h : (decide (us.length = (dueP w P).length) && _) = true := hu
      rw [Bool.and_eq_true, decide_eq_true_iff] at h
      exact h.1
    have := due_few (w := w) (P := P)
    refine lc_given hg (by omega) (fun k gk hk K hK => ?_) ?_
    · conv => whnf
      rw [hs]
      conv => whnf
      obtain ⟨hk2, ek⟩ := List.getElem?_eq_some_iff.mp hk
      rw [ix_of (hL.pre k hk2), ek]
      exact hK
    · refine ⟨v, es, a, e, P, w, _, gs, true, rfl, g.v6, E.ok, G.st, hb, ?_⟩
      exact ⟨v, ms, es, a, e, P, w, _, gs, _, rfl, g, E.ok, G.st, hz, q⟩
/-! ## the first fault -/
inductive Fault (v : Nat) (ms : List Nat) (es : List Ent) : List Ln → List D → Option (Nat × Str) → Prop where
  | none {prev : List Ln} : Fault v ms es prev [] none
  | bad {prev : List Ln} {d : D} {r : List D} {w : Str} : WordIs v ms es prev d w → w ≠ "good" → Fault v ms es prev (d :: r) (some (prev.length, w))
  | good {prev : List Ln} {l : Ln} {r : List D} {z : Option (Nat × Str)} : WordIs v ms es prev (lnD l) "good" → LnOk v (es.map (·.1)) l → Fault v ms es (prev ++ [l]) r z → Fault v ms es prev (lnD l :: r) z
theorem good_ln {v : Nat} {ms : List Nat} {es : List Ent} {prev : List Ln} {d : D} (h : WordIs v ms es prev d "good") : ∃ l, d = lnD l ∧ LnOk v (es.map (·.1)) l := by
  have key : ∀ z, WordIs v ms es prev d z → z = "good" → ∃ l, d = lnD l ∧ LnOk v (es.map (·.1)) l := fun z hz => by
    cases hz with
    | shape _ hn => exact fun z => absurd z hn
    | ups _ _ => exact fun z => absurd z (by decide)
    | lot _ _ _ _ => exact fun z => absurd z (by decide)
    | @seen a e P w z us gs G hu hg hb hz =>
      intro _
      obtain ⟨ks, e1, h⟩ := given_nat hg
      subst e1
      exact ⟨⟨a, P, e, w, ks⟩, rfl, ⟨G.a, G.e, G.st, G.ht⟩⟩
  exact key _ h rfl
theorem fault_all (v : Nat) (ms : List Nat) (es : List Ent) : ∀ (ls : List D) (prev : List Ln), (∀ d ∈ ls, LineIn d) → ∃ z, Fault v ms es prev ls z
  | [], prev, _ => ⟨_, .none⟩
  | d :: ls, prev, h => by
    obtain ⟨w, hw⟩ := word_all v ms es prev (h d (List.mem_cons_self ..))
    by_cases hg : w = "good"
    · subst hg
      obtain ⟨l, rfl, hl⟩ := good_ln hw
      obtain ⟨z, hz⟩ := fault_all v ms es ls (prev ++ [l]) fun d hd => h d (List.mem_cons_of_mem _ hd)
      exact ⟨z, .good hw hl hz⟩
    · exact ⟨_, .bad hw hg⟩
def faultD : Option (Nat × Str) → D
  | none => .non
  | some (k, w) => .tup [nI k, .str w]
def spFaultL : SpD := fun ds S Q _ => ∃ (v : Nat) (ms : List Nat) (es : List Ent) (x : D) (ls : List D) (S2 : Stt) (z : Option (Nat × Str)), ds = [.hdl 1, x] ∧ S = .hand :: wC v ms es :: S2 ∧ Good v ms ∧ Ents v es ∧ ls.length ≤ 90000 ∧ seqD S x = some ls ∧ Fault v ms es [] ls z ∧ Q (faultD z) S
theorem len__law_fault : ∀ (ds : List D) (S : Stt) (Q : QE) (E : Str → Stt → Prop), spFaultL ds S Q E → ds.length = 2 := by intro ds S Q E h; delta spFaultL at h; (repeat obtain ⟨_, h⟩ := h); subst_vars; rfl
theorem ok__law_fault (C : Ct) (T : Txt C) : Fn C CX0 (17 + 1) "_law_fault" ["_law_world_here", "_law_lines"] [] spFaultL := by
  obtain ⟨fd, F⟩ := T.def_ 70 (d := d__law_fault)
  have F__law_word := (ok__law_word C T).mono (show 17 ≤ 17 by omega)
  refine Fn.of F (T.glo "_law_fault") (fun _ _ _ _ _ _ us hl => match us, hl with | [_, _], _ => rfl) (fnD F sc__law_fault len__law_fault (by decide) fun cdv A outer s H E hr => ⟨_,
    (dss_cons (ds_for PassesOwn.never rfl (di_rng1 (by rfl) (T.free "range") (da_cons (de_cb call_len calld_len (by rfl) (T.free "len") (by decide +kernel) (da_cons (dv 1) da_nil)) da_nil)) (dg_name (i := 2) sc__law_fault.nd rfl (by first | exact Or.inl rfl | exact Or.inr rfl)) (dss_cons (ds_set (i := 3) sc__law_fault.nd rfl (by first | exact Or.inl rfl | exact Or.inr rfl) (de_call F__law_word hr (by rfl) pass0 (da_cons (de_ix ix_seq opd_ix (dv 0) de_int (fun _ _ => rfl)) (da_cons (de_ix ix_seq opd_ix (dv 0) de_int (fun _ _ => rfl)) (da_cons (de_ix ix_seq opd_ix (dv 0) de_int (fun _ _ => rfl)) (da_cons (dv 1) (da_cons (dv 2) da_nil)))))))
      (dss_one (ds_if (dt_cmp op_ne opd_ne (dv 3) de_str (nomark _)) (dss_one (ds_ret (de_tup (da_cons (dv 2) (da_cons (dv 3) da_nil))))) dss_nil))))
      (dss_one (ds_ret de_non))), fun ds S QD ED h => ?_⟩)
  obtain ⟨v, ms, es, x, ls, S2, z, rfl, rfl, g, E, hl, hs, hF, q⟩ := h
  have main : ∀ (o2 o3 : Option D), (ls.length : Int) < 4611686018427387904 ∧ -4611686018427387904 ≤ (ls.length : Int) ∧ ∃ W : List D → Rho → Stt → Prop, W (intsFrom 0 ((ls.length : Int)).toNat) [some (.hdl 1), some x, o2, o3] (.hand :: wC v ms es :: S2) ∧
      (∀ y r ρ S, W (y :: r) ρ S → gN 2 y ρ S fun ρ1 S1 => (dSeq (dAsg (dCall spWordL [] (dCons (dOp rdIx (dVar 0) (dC (.int 0))) (dCons (dOp rdIx (dVar 0) (dC (.int 1))) (dCons (dOp rdIx (dVar 0) (dC (.int 2))) (dCons (dVar 1) (dCons (dVar 2) dNil)))))) (gN 3))
        (dIf (dTest (dOp rdNe (dVar 3) (dC (.str "good")))) (dRet (dTup (dCons (dVar 2) (dCons (dVar 3) dNil)))) dNext)) { nx := W r, rt := QD, ct := W r, bk := dRet (dC .non) (endsD QD) } ρ1 S1) ∧ ∀ ρ S, W [] ρ S → dRet (dC .non) (endsD QD) ρ S := fun o2 o3 => by
    refine ⟨by omega, by omega, ?_⟩
    rw [ints0]
    refine ⟨fun r ρ S => ∃ (prev : List Ln) (rest : List D) (o2 o3 : Option D), r = (List.range' prev.length (ls.length - prev.length)).map nI ∧ ls = prev.map lnD ++ rest ∧ ρ = [some (.hdl 1), some x, o2, o3] ∧ S = .hand :: wC v ms es :: S2 ∧ (∀ l ∈ prev, LnOk v (es.map (·.1)) l) ∧ Fault v ms es prev rest z,
      ⟨[], ls, o2, o3, rfl, rfl, rfl, rfl, by simp, hF⟩, ?_, ?_⟩
    · rintro y r ρ S ⟨prev, rest, o2, o3, e, el, rfl, rfl, hp, hf⟩
      have hpl : prev.length ≤ ls.length := by rw [el, List.length_append, List.length_map]; omega
      obtain ⟨h1, rfl, rfl⟩ := rng_cases hpl e
      have at0 : ∀ (d : D) (r : List D), rest = d :: r → LinesAt v (es.map (·.1)) ls prev d := fun d r er => by
        refine ⟨?_, fun k hk => ?_, hp, by omega⟩
        · rw [el, er, List.getElem?_append_right (by rw [List.length_map]; exact Nat.le_refl _), List.length_map, Nat.sub_self]; rfl
        · rw [el, List.getElem?_append_left (by rw [List.length_map]; exact hk), List.getElem?_map, List.getElem?_eq_getElem hk]; rfl
      cases hf with
      | none =>
        rw [List.append_nil] at el
        rw [el, List.length_map] at h1
        omega
      | @bad _ d r w hw hn =>
        refine ⟨v, ms, es, x, ls, prev, d, w, rfl, g, E, hs, at0 d r rfl, hw, ?_⟩
        exact ite_true (by rw [decide_eq_false hn]; rfl) ⟨by show 2 ≤ 100000; decide, q⟩
      | @good _ l r _ hw hl2 hf2 =>
        refine ⟨v, ms, es, x, ls, prev, lnD l, "good", rfl, g, E, hs, at0 (lnD l) r rfl, hw, ?_⟩
        refine ⟨prev ++ [l], r, some (nI prev.length), some (.str "good"), ?_, by rw [el, List.map_append, List.append_assoc]; rfl, rfl, rfl, fun z hz => ?_, hf2⟩
        · rw [List.length_append]; rfl
        · rcases List.mem_append.mp hz with y | y
          · exact hp z y
          · rw [List.mem_singleton.mp y]; exact hl2
    · rintro ρ S ⟨prev, rest, o2, o3, e, el, rfl, rfl, hp, hf⟩
      have hpl : prev.length ≤ ls.length := by rw [el, List.length_append, List.length_map]; omega
      have hend := rng_end hpl e
      have hr : rest = [] := by
        have := congrArg List.length el
        rw [List.length_append, List.length_map] at this
        exact List.eq_nil_of_length_eq_zero (by omega)
      subst hr
      cases hf
      exact q
  cases x with
  | hdl n =>
    conv => whnf
    rw [hs]
    exact main none none
  | lst xs => cases hs; exact main none none
  | tup xs => cases hs; exact main none none
  | _ => cases hs
end TA
set_option Elab.async false
set_option linter.all false
set_option maxRecDepth 100000
set_option maxHeartbeats 4000000
namespace TA
open PySem PySem.Spec L2
open PyProof.Rows hiding St
/-! ## fine programs -/
def sz : Prog → Nat
  | .nothing => 1
  | .step _ => 1
  | .behind p q => 1 + sz p + sz q
  | .either p q => 1 + sz p + sz q
  | .again p => 1 + sz p
def agd : Prog → Nat
  | .nothing => 0
  | .step _ => 0
  | .behind p q => max (agd p) (agd q)
  | .either p q => max (agd p) (agd q)
  | .again p => agd p + 1
theorem sz_pos : ∀ P, sz P ≠ 0
  | .nothing => by decide
  | .step _ => by show 1 ≠ 0; decide
  | .behind p q => by show 1 + sz p + sz q ≠ 0; omega
  | .either p q => by show 1 + sz p + sz q ≠ 0; omega
  | .again p => by show 1 + sz p ≠ 0; omega
theorem prog_wp : ∀ P, WP (progD P)
  | .nothing => .nothing
  | .step n => .step rfl
  | .behind p q => .behind (prog_wp p) (prog_wp q)
  | .either p q => .either (prog_wp p) (prog_wp q)
  | .again p => .again (prog_wp p)
theorem prog_nodes {ns : List Str} : ∀ (P : Prog) (dp ag : Nat), StepsIn ns P → dp + ht P ≤ 13 → ag + agd P ≤ 4 → Nodes ns (progD P) dp ag (sz P)
  | .nothing, dp, ag, _, h, _ => .nothing (by have h : dp + 1 ≤ 13 := h; omega)
  | .step n, dp, ag, hs, h, _ => .step (by have h : dp + 1 ≤ 13 := h; omega) hs
  | .behind p q, dp, ag, hs, h, ha => by
    have h : dp + (max (ht p) (ht q) + 1) ≤ 13 := h
    have ha : ag + max (agd p) (agd q) ≤ 4 := ha
    have := Nodes.two (ns := ns) (w := "behind") (by omega) (.inl rfl) (prog_nodes p (dp + 1) ag hs.1 (by omega) (by omega)) (sz_pos p) (prog_nodes q (dp + 1) ag hs.2 (by omega) (by omega))
    rw [if_neg (sz_pos q)] at this
    exact this
  | .either p q, dp, ag, hs, h, ha => by
    have h : dp + (max (ht p) (ht q) + 1) ≤ 13 := h
    have ha : ag + max (agd p) (agd q) ≤ 4 := ha
    have := Nodes.two (ns := ns) (w := "either") (by omega) (.inr rfl) (prog_nodes p (dp + 1) ag hs.1 (by omega) (by omega)) (sz_pos p) (prog_nodes q (dp + 1) ag hs.2 (by omega) (by omega))
    rw [if_neg (sz_pos q)] at this
    exact this
  | .again p, dp, ag, hs, h, ha => by
    have h : dp + (ht p + 1) ≤ 13 := h
    have ha : ag + (agd p + 1) ≤ 4 := ha
    have := Nodes.again (ns := ns) (by omega) (by omega) (prog_nodes p (dp + 1) (ag + 1) hs (by omega) (by omega))
    rw [if_neg (sz_pos p)] at this
    exact this
structure PF (ns : List Str) (P : Prog) : Prop where
  st : StepsIn ns P
  sz : sz P ≤ 15
  ht : ht P ≤ 7
  ag : agd P ≤ 4
theorem PF.fine {ns : List Str} {P : Prog} (h : PF ns P) : Fine ns (progD P) true :=
  ⟨_, prog_nodes P 1 0 h.st (by have := h.ht; omega) (by have := h.ag; omega), by rw [decide_eq_true (Nat.pos_of_ne_zero (sz_pos P)), decide_eq_true (by have := h.sz; omega)]; rfl⟩
theorem PF.two {ns : List Str} {p q : Prog} (h : PF ns (.behind p q) ∨ PF ns (.either p q)) : PF ns p ∧ PF ns q := by
  rcases h with h | h
  all_goals
    have h1 : 1 + TA.sz p + TA.sz q ≤ 15 := h.sz
    have h2 : max (TA.ht p) (TA.ht q) + 1 ≤ 7 := h.ht
    have h3 : max (agd p) (agd q) ≤ 4 := h.ag
    exact ⟨⟨h.st.1, by omega, by omega, by omega⟩, ⟨h.st.2, by omega, by omega, by omega⟩⟩
theorem PF.one {ns : List Str} {p : Prog} (h : PF ns (.again p)) : PF ns p := by
  have h1 : 1 + TA.sz p ≤ 15 := h.sz
  have h2 : TA.ht p + 1 ≤ 7 := h.ht
  have h3 : agd p + 1 ≤ 4 := h.ag
  exact ⟨h.st, by omega, by omega, by omega⟩
/-! ### rounding -/
theorem rndFrom_mem {v : Nat} {ms0 : List Nat} (hm : ∀ a ∈ ms0, ∀ b ∈ ms0, a &&& b ∈ ms0) : ∀ (ms : List Nat) (lot acc : Nat), (∀ m ∈ ms, m ∈ ms0) → acc ∈ ms0 → rndFrom ms lot acc ∈ ms0
  | [], _, _, _, h => h
  | m :: r, lot, acc, hs, h => by
    show rndFrom r lot (if lot &&& m = lot then acc &&& m else acc) ∈ ms0
    refine rndFrom_mem (v := v) hm r lot _ (fun x hx => hs x (List.mem_cons_of_mem _ hx)) ?_
    split
    · exact hm _ h _ (hs m (List.mem_cons_self ..))
    · exact h
theorem and_sub {a b c : Nat} (h : a &&& b = a) (k : a &&& c = a) : a &&& (b &&& c) = a := by rw [← Nat.and_assoc, h, k]
theorem rndFrom_sup : ∀ (ms : List Nat) (lot acc : Nat), lot &&& acc = lot → lot &&& rndFrom ms lot acc = lot
  | [], _, _, h => h
  | m :: r, lot, acc, h => by
    show lot &&& rndFrom r lot (if lot &&& m = lot then acc &&& m else acc) = lot
    refine rndFrom_sup r lot _ ?_
    split
    · rename_i q; exact and_sub h q
    · exact h
theorem and_trans {a b c : Nat} (h : a &&& b = a) (k : b &&& c = b) : a &&& c = a := by rw [← h, Nat.and_assoc, k]
/-- below every member that holds the lot -/
theorem rndFrom_low : ∀ (ms : List Nat) (lot acc : Nat), rndFrom ms lot acc &&& acc = rndFrom ms lot acc ∧ ∀ m ∈ ms, lot &&& m = lot → rndFrom ms lot acc &&& m = rndFrom ms lot acc
  | [], _, _ => ⟨Nat.and_self _, by simp⟩
  | m :: r, lot, acc => by
    obtain ⟨h1, h2⟩ := rndFrom_low r lot (if lot &&& m = lot then acc &&& m else acc)
    show rndFrom r lot (if lot &&& m = lot then acc &&& m else acc) &&& acc = _ ∧ _
    refine ⟨?_, fun x hx hl => ?_⟩
    · refine and_trans h1 ?_
      split
      · rw [Nat.and_comm acc m, Nat.and_assoc, Nat.and_self]
      · exact Nat.and_self _
    · rcases List.mem_cons.mp hx with z | z
      · subst z
        refine and_trans h1 ?_
        rw [if_pos hl, Nat.and_assoc, Nat.and_self]
      · exact h2 x z hl
theorem full_and {v a : Nat} (h : a < 2 ^ v) : a &&& (2 ^ v - 1) = a := by
  rw [Nat.and_two_pow_sub_one_eq_mod]
  exact Nat.mod_eq_of_lt h
section
variable {v : Nat} {ms : List Nat} (g : Good v ms)
include g
theorem Good.sup {lot : Nat} (h : lot < 2 ^ v) : lot &&& rnd ms lot = lot := rndFrom_sup ms lot _ (by rw [g.last]; exact full_and h)
theorem Good.last_mem : lastN ms ∈ ms := by
  have h0 : 0 < ms.length := List.length_pos_iff.mpr g.ne
  rw [lastN_get h0]
  exact List.getElem_mem _
theorem Good.mem (lot : Nat) : rnd ms lot ∈ ms := rndFrom_mem (v := v) g.meet ms lot _ (fun _ h => h) g.last_mem
theorem Good.idem {lot : Nat} (h : lot < 2 ^ v) : rnd ms (rnd ms lot) = rnd ms lot := by
  have h1 := g.sup (g.rnd_lt lot)
  have h2 := (rndFrom_low ms (rnd ms lot) (lastN ms)).2 _ (g.mem lot) (Nat.and_self _)
  have h2 : rnd ms (rnd ms lot) &&& rnd ms lot = rnd ms (rnd ms lot) := h2
  rw [← h2, Nat.and_comm]
  exact h1
end
theorem eqv_refl : ∀ P : Prog, eqD (progD P) (progD P) = true
  | .nothing => by decide +kernel
  | .step n => by
    show (PyData.eqv (.str "step") (.str "step") && (PyData.eqv (.str n) (.str n) && true)) = true
    show (("step" : Str) == "step" && (n == n && true)) = true
    simp
  | .behind p q => by
    have h1 : PyData.eqv (toPy (progD p)) (toPy (progD p)) = true := eqv_refl p
    have h2 : PyData.eqv (toPy (progD q)) (toPy (progD q)) = true := eqv_refl q
    show (("behind" : Str) == "behind" && (PyData.eqv (toPy (progD p)) (toPy (progD p)) && (PyData.eqv (toPy (progD q)) (toPy (progD q)) && true))) = true
    rw [h1, h2]; simp
  | .either p q => by
    have h1 : PyData.eqv (toPy (progD p)) (toPy (progD p)) = true := eqv_refl p
    have h2 : PyData.eqv (toPy (progD q)) (toPy (progD q)) = true := eqv_refl q
    show (("either" : Str) == "either" && (PyData.eqv (toPy (progD p)) (toPy (progD p)) && (PyData.eqv (toPy (progD q)) (toPy (progD q)) && true))) = true
    rw [h1, h2]; simp
  | .again p => by
    have h1 : PyData.eqv (toPy (progD p)) (toPy (progD p)) = true := eqv_refl p
    show (("again" : Str) == "again" && (PyData.eqv (toPy (progD p)) (toPy (progD p)) && true)) = true
    rw [h1]; simp
/-! ## lines that are right -/
inductive DLs (v : Nat) (ms : List Nat) (es : List Ent) : List Ln → Prop where
  | nil : DLs v ms es []
  | snoc {gs : List Ln} {l : Ln} : DLs v ms es gs → WordIs v ms es gs (lnD l) "good" → LnOk v (es.map (·.1)) l → PF (es.map (·.1)) l.p → DLs v ms es (gs ++ [l])
theorem snoc_inj {α : Type} {a b : List α} {x y : α} (h : a ++ [x] = b ++ [y]) : a = b ∧ x = y := by
  have := List.append_inj' h rfl
  exact ⟨this.1, by simpa using this.2⟩
theorem DLs.pre {v : Nat} {ms : List Nat} {es : List Ent} {gs : List Ln} {l : Ln} (h : DLs v ms es (gs ++ [l])) : DLs v ms es gs := by
  generalize e : gs ++ [l] = x at h
  cases h with
  | nil => simp at e
  | snoc h1 _ _ _ =>
    rw [(snoc_inj e).1]
    exact h1
theorem DLs.ok {v : Nat} {ms : List Nat} {es : List Ent} {gs : List Ln} (h : DLs v ms es gs) : ∀ l ∈ gs, LnOk v (es.map (·.1)) l := by
  induction h with
  | nil => simp
  | snoc _ _ h3 _ ih =>
    intro l hl
    rcases List.mem_append.mp hl with z | z
    · exact ih l z
    · rw [List.mem_singleton.mp z]; exact h3
theorem fault_app {v : Nat} {ms : List Nat} {es : List Ent} {gs : List Ln} (h : DLs v ms es gs) : ∀ {r : List D} {z : Option (Nat × Str)}, Fault v ms es gs r z → Fault v ms es [] (gs.map lnD ++ r) z := by
  induction h with
  | nil => exact fun h => h
  | @snoc gs l _ h2 h3 _ ih =>
    intro r z hf
    have := ih (.good h2 h3 hf)
    rw [List.map_append, List.append_assoc]
    exact this
theorem DLs.fault {v : Nat} {ms : List Nat} {es : List Ent} {gs : List Ln} (h : DLs v ms es gs) : Fault v ms es [] (gs.map lnD) none := by
  have := fault_app h (.none (prev := gs))
  rwa [List.append_nil] at this
theorem ups_in (ks : List Nat) : UpsIn (.tup (ks.map nI)) := ⟨rfl, fun us e x hx => by
  cases e
  obtain ⟨k, _, ek⟩ := List.mem_map.mp hx
  rw [← ek]; rfl⟩
/-- a line whose rule holds is right -/
theorem line_good {v : Nat} {ms : List Nat} {es : List Ent} {prev : List Ln} {l : Ln} {gs : List Ln} (E : Ents v es) (pf : PF (es.map (·.1)) l.p) (ha : l.a < 2 ^ v) (he : l.e < 2 ^ v) (fit : RuleFit l.w l.p)
    (hl : l.us.length = (dueP l.w l.p).length) (hu : upsB prev (l.us.map nI) (dueP l.w l.p) = true) (hg : Given prev (l.us.map nI) gs) (hb : Lots es l.w l.a l.e l.p gs true) (hz : Seen ms es l.w l.a l.e l.p gs "good") :
    WordIs v ms es prev (lnD l) "good" ∧ LnOk v (es.map (·.1)) l := by
  have ok : OkD 40 (progD l.p) := (prog_ok (ents_ok E) pf.st (Nat.le_trans pf.ht (by decide))).mono (by decide)
  have hh : ht l.p ≤ 12 := Nat.le_trans pf.ht (by decide)
  refine ⟨.seen ⟨.good ha he (prog_wp _) pf.fine pf.st hh (ups_in _) ok fit, ha, he, pf.st, hh, ups_in _, fit⟩ ?_ hg hb hz, ⟨ha, he, pf.st, hh⟩⟩
  show (decide (((l.us.map nI)).length = (dueP l.w l.p).length) && _) = true
  rw [List.length_map, decide_eq_true hl, hu]
  rfl
theorem up_ok {prev : List Ln} {k : Nat} {g : Ln} {P : Prog} (h : prev[k]? = some g) (e : g.p = P) : upB prev (nI k) P = true := by
  obtain ⟨hk, ek⟩ := List.getElem?_eq_some_iff.mp h
  rw [upB_nat, upN_at hk, ek, e]
  exact eqv_refl P
section
variable {v : Nat} {ms : List Nat} {es : List Ent} {gs : List Ln} (D0 : DLs v ms es gs) (E : Ents v es) (G : Good v ms)
include D0 E
theorem add_nothing {a : Nat} (ha : a < 2 ^ v) : DLs v ms es (gs ++ [⟨a, .nothing, a, "nothing", []⟩]) :=
  let h := line_good (l := ⟨a, .nothing, a, "nothing", []⟩) E ⟨trivial, by show 1 ≤ 15; decide, by show 1 ≤ 7; decide, by show 0 ≤ 4; decide⟩ ha ha (.inr (by rfl)) rfl rfl (Given.nil (prev := gs)) (by have := Lots.nothing (es := es) (a := a) (e := a); rwa [decide_eq_true rfl] at this) .nothing
  .snoc D0 h.1 h.2 ⟨trivial, by show 1 ≤ 15; decide, by show 1 ≤ 7; decide, by show 0 ≤ 4; decide⟩
theorem add_step {a : Nat} {n : Str} (ha : a < 2 ^ v) (hn : n ∈ es.map (·.1)) (hs : sharpB ms (rowOf es n) a = true) : DLs v ms es (gs ++ [⟨a, .step n, nextL (rowOf es n) a, "step", []⟩]) :=
  let h := line_good (l := ⟨a, .step n, nextL (rowOf es n) a, "step", []⟩) E ⟨hn, by show 1 ≤ 15; decide, by show 1 ≤ 7; decide, by show 0 ≤ 4; decide⟩ ha ((row_ok E.ok hn).next_lt a) (.inr (by rfl)) rfl rfl (Given.nil (prev := gs))
    (by have := Lots.step (es := es) (a := a) (e := nextL (rowOf es n) a) (n := n); rwa [decide_eq_true rfl] at this) (by have := Seen.step (ms := ms) (es := es) (a := a) (e := nextL (rowOf es n) a) (n := n); rwa [hs] at this)
  .snoc D0 h.1 h.2 ⟨hn, by show 1 ≤ 15; decide, by show 1 ≤ 7; decide, by show 0 ≤ 4; decide⟩
theorem add_behind {k j : Nat} {g h : Ln} {p q : Prog} (pf : PF (es.map (·.1)) (.behind p q)) (h1 : gs[k]? = some g) (h2 : gs[j]? = some h) (e1 : g.p = p) (e2 : h.p = q) (e3 : h.a = g.e) : DLs v ms es (gs ++ [⟨g.a, .behind p q, h.e, "behind", [k, j]⟩]) :=
  let okg := D0.ok g (List.mem_of_getElem? h1)
  let okh := D0.ok h (List.mem_of_getElem? h2)
  let x := line_good (l := ⟨g.a, .behind p q, h.e, "behind", [k, j]⟩) E pf okg.a okh.e (.inr (by rfl)) rfl (show (upB gs (nI k) p && (upB gs (nI j) q && true)) = true by rw [up_ok h1 e1, up_ok h2 e2]; rfl) (.cons h1 (.cons h2 .nil))
    (by have := Lots.behind (es := es) (a := g.a) (e := h.e) (p := p) (q := q) (g := g) (h := h); rwa [decide_eq_true rfl, decide_eq_true e3, decide_eq_true rfl] at this) .behind
  .snoc D0 x.1 x.2 pf
theorem add_either {k j : Nat} {g h : Ln} {p q : Prog} (pf : PF (es.map (·.1)) (.either p q)) (h1 : gs[k]? = some g) (h2 : gs[j]? = some h) (e1 : g.p = p) (e2 : h.p = q) (e3 : h.a = g.a) : DLs v ms es (gs ++ [⟨g.a, .either p q, g.e ||| h.e, "either", [k, j]⟩]) :=
  let okg := D0.ok g (List.mem_of_getElem? h1)
  let okh := D0.ok h (List.mem_of_getElem? h2)
  let x := line_good (l := ⟨g.a, .either p q, g.e ||| h.e, "either", [k, j]⟩) E pf okg.a (or_lt2 okg.e okh.e) (.inr (by rfl)) rfl (show (upB gs (nI k) p && (upB gs (nI j) q && true)) = true by rw [up_ok h1 e1, up_ok h2 e2]; rfl) (.cons h1 (.cons h2 .nil))
    (by have := Lots.either (es := es) (a := g.a) (e := g.e ||| h.e) (p := p) (q := q) (g := g) (h := h); rwa [decide_eq_true rfl, decide_eq_true e3, decide_eq_true rfl] at this) .either
  .snoc D0 x.1 x.2 pf
theorem add_more {k j : Nat} {g h : Ln} {p : Prog} (pf : PF (es.map (·.1)) (.again p)) (h1 : gs[k]? = some g) (h2 : gs[j]? = some h) (e1 : g.p = p) (e2 : h.p = .again p) (e3 : h.a = g.a ||| g.e) : DLs v ms es (gs ++ [⟨g.a, .again p, h.e, "more", [k, j]⟩]) :=
  let okg := D0.ok g (List.mem_of_getElem? h1)
  let okh := D0.ok h (List.mem_of_getElem? h2)
  let x := line_good (l := ⟨g.a, .again p, h.e, "more", [k, j]⟩) E pf okg.a okh.e (.inr (by rfl)) rfl (show (upB gs (nI k) p && (upB gs (nI j) (.again p) && true)) = true by rw [up_ok h1 e1, up_ok h2 e2]; rfl) (.cons h1 (.cons h2 .nil))
    (by have := Lots.more (es := es) (a := g.a) (e := h.e) (p := p) (g := g) (h := h); rwa [decide_eq_true rfl, decide_eq_true e3, decide_eq_true rfl] at this) .more
  .snoc D0 x.1 x.2 pf
theorem add_closed {k : Nat} {g : Ln} {p : Prog} (pf : PF (es.map (·.1)) (.again p)) (h1 : gs[k]? = some g) (e1 : g.p = p) (e3 : g.e &&& rnd ms g.a = g.e) : DLs v ms es (gs ++ [⟨g.a, .again p, g.a ||| g.e, "closed", [k]⟩]) :=
  let okg := D0.ok g (List.mem_of_getElem? h1)
  let x := line_good (l := ⟨g.a, .again p, g.a ||| g.e, "closed", [k]⟩) E pf okg.a (or_lt2 okg.a okg.e) (.inr (by rfl)) rfl (show (upB gs (nI k) p && true) = true by rw [up_ok h1 e1]; rfl) (.cons h1 .nil)
    (by have := Lots.closed (es := es) (a := g.a) (e := g.a ||| g.e) (p := p) (g := g); rwa [decide_eq_true rfl, decide_eq_true rfl] at this)
    (by have := Seen.closed (ms := ms) (es := es) (a := g.a) (e := g.a ||| g.e) (p := p) (g := g); rwa [decide_eq_true e3] at this)
  .snoc D0 x.1 x.2 pf
include G
theorem add_grow {k a e : Nat} {g : Ln} (pf : PF (es.map (·.1)) g.p) (h1 : gs[k]? = some g) (ha : a < 2 ^ v) (he : e < 2 ^ v) (s1 : g.a &&& a = g.a) (s2 : rnd ms g.a = rnd ms a) (s3 : e &&& g.e = e) (s4 : rnd ms e = rnd ms g.e) : DLs v ms es (gs ++ [⟨a, g.p, e, "grow", [k]⟩]) :=
  let okg := D0.ok g (List.mem_of_getElem? h1)
  let x := line_good (l := ⟨a, g.p, e, "grow", [k]⟩) E pf ha he (.inl rfl) rfl (show (upB gs (nI k) g.p && true) = true by rw [up_ok h1 rfl]; rfl) (.cons h1 .nil) .grow
    (by
      have := Seen.grow (ms := ms) (es := es) (a := a) (e := e) (P := g.p) (g := g)
      have b1 : a &&& rnd ms g.a = a := by rw [s2]; exact G.sup ha
      have b2 : g.e &&& rnd ms e = g.e := by rw [s4]; exact G.sup okg.e
      rwa [decide_eq_true s1, decide_eq_true b1, decide_eq_true s3, decide_eq_true b2] at this)
  .snoc D0 x.1 x.2 pf
end
end TA
set_option Elab.async false
set_option linter.all false
set_option maxRecDepth 100000
set_option maxHeartbeats 4000000
namespace TA
open PySem PySem.Spec L2
open PyProof.Rows hiding St
/-! ## shrunk -/
theorem sub_bit : ∀ x, x < 64 → ∀ s, s < 6 → (x - (x &&& 2 ^ s)) &&& x = x - (x &&& 2 ^ s) ∧ (x &&& 2 ^ s) ≤ x := by decide +kernel
def spShrunk : SpD := fun ds S Q _ => ∃ (v : Nat) (ms : List Nat) (lot : Nat) (S2 : Stt), ds = [.hdl 0, .lst (ms.map nI), nI lot] ∧ S = .hand :: S2 ∧ Good v ms ∧ lot < 2 ^ v ∧ ∀ k : Nat, k &&& lot = k → k < 2 ^ v → rnd ms k = rnd ms lot → Q (nI k) (.hand :: S2)
theorem len__law_shrunk : ∀ (ds : List D) (S : Stt) (Q : QE) (E : Str → Stt → Prop), spShrunk ds S Q E → ds.length = 3 := by intro ds S Q E h; delta spShrunk at h; (repeat obtain ⟨_, h⟩ := h); subst_vars; rfl
theorem ok__law_shrunk (C : Ct) (T : Txt C) : Fn C CX0 (2 + 1) "_law_shrunk" ["_law_hand_here", "_law_members_here", "_law_lot_here"] [] spShrunk := by
  obtain ⟨fd, F⟩ := T.def_ 71 (d := d__law_shrunk)
  have F__law_rounded := (ok__law_rounded C T).mono (show 1 ≤ 2 by omega)
  have F__law_take := (ok__law_take C T).mono (show 2 ≤ 2 by omega)
  refine Fn.of F (T.glo "_law_shrunk") (fun _ _ _ _ _ _ us hl => match us, hl with | [_, _, _], _ => rfl) (fnD F sc__law_shrunk len__law_shrunk (by decide) fun cdv A outer s H E hr => ⟨_,
    (dss_cons (ds_set (i := 3) sc__law_shrunk.nd rfl (by first | exact Or.inl rfl | exact Or.inr rfl) (dv 2))
      (dss_cons (ds_set (i := 4) sc__law_shrunk.nd rfl (by first | exact Or.inl rfl | exact Or.inr rfl) (de_call F__law_take hr (by rfl) pass0 (da_cons (dv 0) (da_cons (de_op op_shl opd_IC de_int de_int) da_nil))))
      (dss_cons (ds_for PassesOwn.never rfl (di_rng1 (by rfl) (T.free "range") (da_cons de_int da_nil)) (dg_name (i := 5) sc__law_shrunk.nd rfl (by first | exact Or.inl rfl | exact Or.inr rfl)) (dss_cons (ds_set (i := 6) sc__law_shrunk.nd rfl (by first | exact Or.inl rfl | exact Or.inr rfl) (de_op op_sub opd_I (dv 3) (de_op op_and opd_I (dv 3) (de_op op_shl opd_IC de_int (dv 5)))))
      (dss_one (ds_if (dt_bop (dw_and (dt_cmp op_eq opd_eq (de_op op_mod opd_IC (de_cty call_int1 calld_int (by rfl) (T.free "int") (by decide +kernel) (da_cons (de_op op_shr opd_IC (dv 4) (dv 5)) da_nil)) de_int) de_int (nomark _)) (dw_and1 (dt_cmp op_eq opd_eq (de_call F__law_rounded hr (by rfl) pass0 (da_cons (dv 1) (da_cons (dv 6) da_nil))) (de_call F__law_rounded hr (by rfl) pass0 (da_cons (dv 1) (da_cons (dv 2) da_nil))) (nomark _))))) (dss_one (ds_set (i := 3) sc__law_shrunk.nd rfl (by first | exact Or.inl rfl | exact Or.inr rfl) (dv 6))) dss_nil))))
      (dss_one (ds_ret (dv 3)))))), fun ds S QD ED h => ?_⟩)
  obtain ⟨v, ms, lot, S2, rfl, rfl, g, hl, q⟩ := h
  have hb := p2_bound g.v6
  refine ⟨⟨by decide, by decide, by decide⟩, 64, S2, rfl, by decide, by decide, rfl, fun dr hdr => ?_⟩
  refine ⟨by decide, by decide, ?_⟩
  rw [show intsFrom 0 (6 : Int).toNat = (List.range' 0 6).map nI from ints0 6]
  refine ⟨fun r ρ S' => ∃ k kept o5 o6, k ≤ 6 ∧ r = (List.range' k (6 - k)).map nI ∧ ρ = [some (.hdl 0), some (.lst (ms.map nI)), some (nI lot), some (nI kept), some (nI dr), o5, o6] ∧ S' = .hand :: S2 ∧ kept &&& lot = kept ∧ kept < 2 ^ v ∧ rnd ms kept = rnd ms lot,
    ⟨0, lot, none, none, by omega, rfl, rfl, rfl, Nat.and_self _, hl, rfl⟩, ?_, ?_⟩
  · rintro x r ρ S' ⟨k, kept, o5, o6, hk, e, rfl, rfl, h1, h2, h3⟩
    obtain ⟨hk6, rfl, rfl⟩ := rng_cases hk e
    obtain ⟨s1, s2⟩ := sub_bit kept (by omega) k hk6
    refine ⟨cpow1 (by omega), ?_⟩
    have ee : D.int ((kept : Int) - Builtin.bitAnd (kept : Int) ((1 : Int) * 2 ^ ((k : Int)).toNat)) = nI (kept - (kept &&& 2 ^ k)) := by
      rw [shl1, and_nat]
      show D.int ((kept : Int) - ((kept &&& 2 ^ k : Nat) : Int)) = _
      rw [show (kept : Int) - ((kept &&& 2 ^ k : Nat) : Int) = ((kept - (kept &&& 2 ^ k) : Nat) : Int) by omega]
    have rest : ∀ d, d = nI (kept - (kept &&& 2 ^ k)) → (dIf (dAnd (dTest (dOp rdEq (dOp (rdIC (fun _ j => 0 < j) fun i j => i % j) (dCB rdInt (dCons (dOp (rdIC (fun _ j => 0 ≤ j) fun i j => i / 2 ^ j.toNat) (dVar 4) (dVar 5)) dNil)) (dC (.int 2))) (dC (.int 1))))
        (dTest (dOp rdEq (dCall spRounded [] (dCons (dVar 1) (dCons (dVar 6) dNil))) (dCall spRounded [] (dCons (dVar 1) (dCons (dVar 2) dNil)))))) (dAsg (dVar 6) (gN 3)) dNext)
        { nx := fun ρ S' => ∃ k2 kept o5 o6, k2 ≤ 6 ∧ (List.range' (k + 1) (6 - (k + 1))).map nI = (List.range' k2 (6 - k2)).map nI ∧ ρ = [some (.hdl 0), some (.lst (ms.map nI)), some (nI lot), some (nI kept), some (nI dr), o5, o6] ∧ S' = .hand :: S2 ∧ kept &&& lot = kept ∧ kept < 2 ^ v ∧ rnd ms kept = rnd ms lot, rt := QD, bk := fun _ _ => True }
        [some (.hdl 0), some (.lst (ms.map nI)), some (nI lot), some (nI kept), some (nI dr), some (nI k), some d] (.hand :: S2) := fun d ed => by
      subst ed
      have same : ∃ k2 kept o5 o6, k2 ≤ 6 ∧ (List.range' (k + 1) (6 - (k + 1))).map nI = (List.range' k2 (6 - k2)).map nI ∧ [some (D.hdl 0), some (.lst (ms.map nI)), some (nI lot), some (nI kept), some (nI dr), o5, o6] = [some (.hdl 0), some (.lst (ms.map nI)), some (nI lot), some (nI kept), some (nI dr), o5, o6] ∧ True := ⟨k + 1, kept, none, none, hk6, rfl, rfl, trivial⟩
      refine ⟨by omega, (by decide : (0 : Int) < 2), ?_⟩
      refine ite2 (fun c1 => ?_) (fun c1 => ?_)
      · refine ⟨ms, _, rfl, g.ne, ms, _, rfl, g.ne, ?_⟩
        refine ite2 (fun c2 => ?_) (fun c2 => ?_)
        · have c2 : (rnd ms (kept - (kept &&& 2 ^ k)) : Int) = (rnd ms lot : Int) := of_decide_eq_true c2
          exact ⟨k + 1, kept - (kept &&& 2 ^ k), some (nI k), _, hk6, rfl, rfl, rfl, and_trans s1 h1, by omega, by omega⟩
        · exact ⟨k + 1, kept, some (nI k), _, hk6, rfl, rfl, rfl, h1, h2, h3⟩
      · exact ⟨k + 1, kept, some (nI k), _, hk6, rfl, rfl, rfl, h1, h2, h3⟩
    exact rest _ ee
  · rintro ρ S' ⟨k, kept, o5, o6, hk, e, rfl, rfl, h1, h2, h3⟩
    exact q kept h1 h2 h3
/-! ## deriving -/
def ocnt : Prog → Nat
  | .nothing => 1
  | .step _ => 1
  | .behind p q => (ocnt p + 1) + (ocnt q + 1) + 1
  | .either p q => (ocnt p + 1) + (ocnt q + 1) + 1
  | .again p => 8 * (ocnt p + 1) + 8
/-- it does not fail there -/
def Sure (ms : List Nat) (es : List Ent) (P : Prog) (lot : Nat) : Prop := ∃ n, P = .step n ∧ sharpB ms (rowOf es n) lot = true
def spDer (own : Bool) (f : Nat) : SpD := fun ds S Q _ => ∃ (v : Nat) (ms : List Nat) (es : List Ent) (P : Prog) (lot n : Nat) (gs : List Ln) (S2 : Stt) (lo : Bool), ds = [.hdl 0, .hdl 1, progD P, nI lot, .hdl (n + 2), .bl lo] ∧ S = .hand :: wC v ms es :: S2 ∧
  S2[n]? = some (.lst (gs.map lnD)) ∧ Good v ms ∧ Ents v es ∧ PF (es.map (·.1)) P ∧ ht P ≤ f ∧ lot < 2 ^ v ∧ DLs v ms es gs ∧ gs.length + (ocnt P + (if own then 0 else 1)) ≤ 80000 ∧
  ∀ more : List Ln, DLs v ms es (gs ++ more) → more.length ≤ ocnt P + (if own then 0 else 1) →
    (¬ Sure ms es P lot → Q (.int (-1)) (.hand :: wC v ms es :: S2.set n (.lst ((gs ++ more).map lnD)))) ∧
    ∀ k g, (gs ++ more)[k]? = some g → g.a = lot → g.p = P → Q (nI k) (.hand :: wC v ms es :: S2.set n (.lst ((gs ++ more).map lnD)))
theorem set_id {S2 : Stt} {n : Nat} {c : Cell} (h : S2[n]? = some c) : S2.set n c = S2 := by
  apply List.ext_getElem?
  intro i
  by_cases e : i = n
  · subst e; rw [List.getElem?_set_self (List.getElem?_eq_some_iff.mp h).1, h]
  · rw [List.getElem?_set_ne (Ne.symm e)]
theorem get_set2 {S2 : Stt} {n : Nat} {c c' : Cell} (h : S2[n]? = some c) : (S2.set n c')[n]? = some c' := List.getElem?_set_self (List.getElem?_eq_some_iff.mp h).1
theorem map_snoc (gs : List Ln) (l : Ln) : gs.map lnD ++ [lnD l] = (gs ++ [l]).map lnD := by rw [List.map_append]; rfl
theorem last_get (gs : List Ln) (l : Ln) : (gs ++ [l])[gs.length]? = some l := by rw [List.getElem?_append_right (Nat.le_refl _), Nat.sub_self]; rfl
theorem seq_w {c0 c1 : Cell} {S2 : Stt} {n : Nat} {ls : List D} (h : S2[n]? = some (.lst ls)) : seqD (c0 :: c1 :: S2) (.hdl (n + 2)) = some ls := seq_h (S := c0 :: c1 :: S2) (n := n + 2) h
theorem ln_get {gs : List Ln} {k : Nat} {g : Ln} (h : gs[k]? = some g) : ixD (gs.map lnD) (k : Int) = some (lnD g) := ix_of (by rw [List.getElem?_map, h]; rfl)
end TA
set_option Elab.async false
set_option linter.all false
set_option maxRecDepth 100000
set_option maxHeartbeats 4000000
namespace TA
open PySem PySem.Spec L2
open PyProof.Rows hiding St
theorem put_fin {c0 c1 : Cell} {S2 : Stt} {n : Nat} {gs : List Ln} {l : Ln} {Q : QE} (q : Q (nI gs.length) (c0 :: c1 :: S2.set n (.lst ((gs ++ [l]).map lnD)))) : Q (nI (gs.map lnD).length) ((c0 :: c1 :: S2).set (n + 2) (.lst (gs.map lnD ++ [lnD l]))) := by
  rw [List.length_map, map_snoc]
  exact q
theorem app_get {gs m : List Ln} {k : Nat} {g : Ln} (h : gs[k]? = some g) : (gs ++ m)[k]? = some g := by
  rw [List.getElem?_append_left (List.getElem?_eq_some_iff.mp h).1]; exact h
def spAg (f : Nat) : SpD := fun ds S Q E => spDer true f ds S Q E ∧ ∃ p : Prog, ds[2]? = some (progD (.again p))
theorem ht_lt {p q : Prog} {f : Nat} (h : max (ht p) (ht q) + 1 ≤ f + 1) : ht p ≤ f ∧ ht q ≤ f := by omega
theorem none__law_derive (C : Ct) (T : Txt C) : Fn C CX0 1 "_law_derive" ["_law_hand_here", "_law_world_here", "_law_program_here", "_law_lot_here", "_law_lines", "_law_loose"] [] (fun _ _ _ _ => False) := by
  obtain ⟨fd, F⟩ := T.def_ 73 (d := d__law_derive)
  exact Fn.of F (T.glo "_law_derive") (fun _ _ _ _ _ _ us hl => match us, hl with | [_, _, _, _, _, _], _ => rfl) (fnD F sc__law_derive (fun _ _ _ _ h => h.elim) (by decide) fun cdv A outer s H E hr => ⟨_, dss_never, fun _ _ _ _ h => h.elim⟩)
theorem len__law_derive_own : ∀ (ds : List D) (S : Stt) (Q : QE) (E : Str → Stt → Prop), (spDer true (f + 1)) ds S Q E → ds.length = 6 := by intro ds S Q E h; delta spDer at h; (repeat obtain ⟨_, h⟩ := h); subst_vars; rfl
theorem step__law_derive_own (C : Ct) (T : Txt C) (f : Nat) (F__law_derive : Fn C CX0 (3 * f + 6) "_law_derive" ["_law_hand_here", "_law_world_here", "_law_program_here", "_law_lot_here", "_law_lines", "_law_loose"] [] (spDer false f)) (F__law_derive_again : Fn C CX0 (3 * f + 6) "_law_derive_again" ["_law_hand_here", "_law_world_here", "_law_program_here", "_law_lot_here", "_law_lines", "_law_loose"] [] (spAg (f + 1))) : Fn C CX0 ((3 * f + 6) + 1) "_law_derive_own" ["_law_hand_here", "_law_world_here", "_law_program_here", "_law_lot_here", "_law_lines", "_law_loose"] [] (spDer true (f + 1)) := by
  obtain ⟨fd, F⟩ := T.def_ 74 (d := d__law_derive_own)
  have F__law_next := (ok__law_next C T).mono (show 1 ≤ (3 * f + 6) by omega)
  have F__law_put := (ok__law_put C T).mono (show 1 ≤ (3 * f + 6) by omega)
  have F__law_sharp := (ok__law_sharp C T).mono (show 2 ≤ (3 * f + 6) by omega)
  refine Fn.of F (T.glo "_law_derive_own") (fun _ _ _ _ _ _ us hl => match us, hl with | [_, _, _, _, _, _], _ => rfl) (fnD F sc__law_derive_own len__law_derive_own (by decide) fun cdv A outer s H E hr => ⟨_,
    (dss_cons (ds_set (i := 6) sc__law_derive_own.nd rfl (by first | exact Or.inl rfl | exact Or.inr rfl) (de_ix ix_seq opd_ix (dv 2) de_int (fun _ _ => rfl)))
      (dss_cons (ds_if (dt_cmp op_eq opd_eq (dv 6) de_str (nomark _)) (dss_one (ds_ret (de_call F__law_put hr (by rfl) pass0 (da_cons (dv 4) (da_cons (de_tup (da_cons (dv 3) (da_cons (dv 2) (da_cons (dv 3) (da_cons de_str (da_cons (de_tup da_nil) da_nil)))))) da_nil))))) dss_nil)
      (dss_cons (ds_if (dt_cmp op_eq opd_eq (dv 6) de_str (nomark _)) (dss_cons (ds_set (i := 7) sc__law_derive_own.nd rfl (by first | exact Or.inl rfl | exact Or.inr rfl) (de_dget (hu_of hr) (de_ix ix_seq opd_ix (dv 1) de_int (fun _ _ => rfl)) (de_ix ix_seq opd_ix (dv 2) de_int (fun _ _ => rfl)) (fun _ _ => rfl)))
      (dss_cons (ds_if (dt_not (dt_val (de_call F__law_sharp hr (by rfl) pass0 (da_cons (de_ix ix_seq opd_ix (dv 1) de_int (fun _ _ => rfl)) (da_cons (dv 7) (da_cons (dv 3) da_nil)))))) (dss_one (ds_ret (de_un un_neg und_neg de_int))) dss_nil)
      (dss_one (ds_ret (de_call F__law_put hr (by rfl) pass0 (da_cons (dv 4) (da_cons (de_tup (da_cons (dv 3) (da_cons (dv 2) (da_cons (de_call F__law_next hr (by rfl) pass0 (da_cons (dv 7) (da_cons (dv 3) da_nil))) (da_cons de_str (da_cons (de_tup da_nil) da_nil)))))) da_nil))))))) dss_nil)
      (dss_cons (ds_if (dt_cmp op_eq opd_eq (dv 6) de_str (nomark _)) (dss_one (ds_ret (de_call F__law_derive_again hr (by rfl) pass0 (da_cons (dv 0) (da_cons (dv 1) (da_cons (dv 2) (da_cons (dv 3) (da_cons (dv 4) (da_cons (dv 5) da_nil))))))))) dss_nil)
      (dss_cons (ds_set (i := 8) sc__law_derive_own.nd rfl (by first | exact Or.inl rfl | exact Or.inr rfl) (de_call F__law_derive hr (by rfl) pass0 (da_cons (dv 0) (da_cons (dv 1) (da_cons (de_ix ix_seq opd_ix (dv 2) de_int (fun _ _ => rfl)) (da_cons (dv 3) (da_cons (dv 4) (da_cons (dv 5) da_nil))))))))
      (dss_cons (ds_if (dt_cmp op_lt opd_B (dv 8) de_int (nomark _)) (dss_one (ds_ret (de_un un_neg und_neg de_int))) dss_nil)
      (dss_cons (ds_set (i := 9) sc__law_derive_own.nd rfl (by first | exact Or.inl rfl | exact Or.inr rfl) (de_call F__law_derive hr (by rfl) pass0 (da_cons (dv 0) (da_cons (dv 1) (da_cons (de_ix ix_seq opd_ix (dv 2) de_int (fun _ _ => rfl)) (da_cons (de_ifE (dt_cmp op_eq opd_eq (dv 6) de_str (nomark _)) (de_ix ix_seq opd_ix (de_ix ix_seq opd_ix (dv 4) (dv 8) (fun _ _ => rfl)) de_int (fun _ _ => rfl)) (dv 3)) (da_cons (dv 4) (da_cons (dv 5) da_nil))))))))
      (dss_cons (ds_if (dt_cmp op_lt opd_B (dv 9) de_int (nomark _)) (dss_one (ds_ret (de_un un_neg und_neg de_int))) dss_nil)
      (dss_cons (ds_set (i := 10) sc__law_derive_own.nd rfl (by first | exact Or.inl rfl | exact Or.inr rfl) (de_ifE (dt_cmp op_eq opd_eq (dv 6) de_str (nomark _)) (de_ix ix_seq opd_ix (de_ix ix_seq opd_ix (dv 4) (dv 9) (fun _ _ => rfl)) de_int (fun _ _ => rfl)) (de_op op_or opd_I (de_ix ix_seq opd_ix (de_ix ix_seq opd_ix (dv 4) (dv 8) (fun _ _ => rfl)) de_int (fun _ _ => rfl)) (de_ix ix_seq opd_ix (de_ix ix_seq opd_ix (dv 4) (dv 9) (fun _ _ => rfl)) de_int (fun _ _ => rfl)))))
      (dss_one (ds_ret (de_call F__law_put hr (by rfl) pass0 (da_cons (dv 4) (da_cons (de_tup (da_cons (dv 3) (da_cons (dv 2) (da_cons (dv 10) (da_cons (dv 6) (da_cons (de_tup (da_cons (dv 8) (da_cons (dv 9) da_nil))) da_nil)))))) da_nil)))))))))))))), fun ds S QD ED h => ?_⟩)
  obtain ⟨v, ms, es, P, lot, n, gs, S2, lo, rfl, rfl, hn, G, E, pf, hh, hl, D0, hc, q⟩ := h
  have hsame : ∀ {Q : QE} {d : D}, Q d (.hand :: wC v ms es :: S2.set n (.lst ((gs ++ []).map lnD))) → Q d (.hand :: wC v ms es :: S2) := fun {Q d} h => by
    rw [List.append_nil, set_id hn] at h; exact h
  have hlen : (gs.map lnD).length < 100000 := by rw [List.length_map]; have := hc; omega
  cases P with
  | nothing =>
    refine ⟨by decide, by show 5 ≤ 100000; decide, n + 2, _, _, rfl, hn, hlen, ?_⟩
    exact put_fin (Q := QD) (l := ⟨lot, .nothing, lot, "nothing", []⟩) ((q [_] (add_nothing D0 E hl) (Nat.le_refl 1)).2 _ _ (last_get gs _) rfl rfl)
  | step m =>
    have hm : m ∈ es.map (·.1) := pf.st
    refine ⟨_, _, _, _, rfl, rfl, look_row hm, ?_⟩
    refine ⟨ms, rowOf es m, lot, rfl, G.ne, by rw [(row_ok E.ok hm).1]; have := G.v6; omega, ?_⟩
    cases hb : sharpB ms (rowOf es m) lot with
    | false =>
      refine hsame (Q := QD) ((q [] (by rw [List.append_nil]; exact D0) (Nat.zero_le _)).1 fun ⟨m2, e, h2⟩ => ?_)
      cases e
      rw [hb] at h2
      cases h2
    | true =>
      refine ⟨rowOf es m, lot, rfl, by rw [(row_ok E.ok hm).1]; have := G.v6; omega, by decide, by show 5 ≤ 100000; decide, n + 2, _, _, rfl, hn, hlen, ?_⟩
      exact put_fin (Q := QD) (l := ⟨lot, .step m, nextL (rowOf es m) lot, "step", []⟩) ((q [_] (add_step D0 E hl hm hb) (Nat.le_refl 1)).2 _ _ (last_get gs _) rfl rfl)
  | again p => exact ⟨⟨v, ms, es, .again p, lot, n, gs, S2, lo, rfl, rfl, hn, G, E, pf, hh, hl, D0, hc, q⟩, p, rfl⟩
  | behind p r =>
    obtain ⟨pf1, pf2⟩ := PF.two (.inl pf)
    obtain ⟨hh1, hh2⟩ := ht_lt hh
    have hc : gs.length + ((ocnt p + 1) + (ocnt r + 1) + 1) ≤ 80000 := hc
    refine ⟨v, ms, es, p, lot, n, gs, S2, lo, rfl, rfl, hn, G, E, pf1, hh1, hl, D0, by show gs.length + (ocnt p + 1) ≤ 80000; omega, fun m1 D1 l1 => ⟨fun _ => ?_, fun k1 g1 e1 a1 p1 => ?_⟩⟩
    · have l1 : m1.length ≤ ocnt p + 1 := l1
      exact ((q m1 D1 (by show m1.length ≤ (ocnt p + 1) + (ocnt r + 1) + 1; omega)).1 fun ⟨m2, e, _⟩ => by cases e)
    have l1 : m1.length ≤ ocnt p + 1 := l1
    conv => whnf
    rw [seq_w (get_set2 hn)]
    conv => whnf
    rw [ln_get e1]
    have ok1 := D1.ok g1 (List.mem_of_getElem? e1)
    refine ⟨v, ms, es, r, g1.e, n, gs ++ m1, S2.set n (.lst ((gs ++ m1).map lnD)), lo, rfl, rfl, get_set2 hn, G, E, pf2, hh2, ok1.e, D1, by rw [List.length_append]; show _ + (ocnt r + 1) ≤ 80000; omega, fun m2 D2 l2 => ?_⟩
    rw [List.set_set]
    rw [List.append_assoc] at D2 ⊢
    have l2 : m2.length ≤ ocnt r + 1 := l2
    refine ⟨fun _ => ?_, fun k2 g2 e2 a2 p2 => ?_⟩
    · exact ((q (m1 ++ m2) D2 (by rw [List.length_append]; show _ ≤ (ocnt p + 1) + (ocnt r + 1) + 1; omega)).1 fun ⟨m2, e, _⟩ => by cases e)
    conv => whnf
    rw [seq_w (get_set2 hn)]
    conv => whnf
    rw [ln_get e2]
    have e1' : (gs ++ (m1 ++ m2))[k1]? = some g1 := by rw [← List.append_assoc]; exact app_get e1
    refine ⟨by show 2 ≤ 100000; decide, by show 5 ≤ 100000; decide, n + 2, _, _, rfl, get_set2 hn, by rw [List.length_map, List.length_append, List.length_append]; omega, ?_⟩
    have D3 := add_behind D2 E pf e1' e2 p1 p2 a2
    have fin := (q (m1 ++ m2 ++ [⟨g1.a, .behind p r, g2.e, "behind", [k1, k2]⟩]) (by rw [← List.append_assoc]; exact D3) (by rw [List.length_append, List.length_append]; show _ + 1 ≤ (ocnt p + 1) + (ocnt r + 1) + 1; omega)).2 (gs ++ (m1 ++ m2)).length ⟨g1.a, .behind p r, g2.e, "behind", [k1, k2]⟩ (by rw [← List.append_assoc gs (m1 ++ m2)]; exact last_get _ _) a1 rfl
    rw [← List.append_assoc gs (m1 ++ m2), ← List.set_set (a := Cell.lst ((gs ++ (m1 ++ m2)).map lnD))] at fin
    rw [← a1]
    exact put_fin (Q := QD) (l := ⟨g1.a, .behind p r, g2.e, "behind", [k1, k2]⟩) fin
  | either p r =>
    obtain ⟨pf1, pf2⟩ := PF.two (.inr pf)
    obtain ⟨hh1, hh2⟩ := ht_lt hh
    have hc : gs.length + ((ocnt p + 1) + (ocnt r + 1) + 1) ≤ 80000 := hc
    refine ⟨v, ms, es, p, lot, n, gs, S2, lo, rfl, rfl, hn, G, E, pf1, hh1, hl, D0, by show gs.length + (ocnt p + 1) ≤ 80000; omega, fun m1 D1 l1 => ⟨fun _ => ?_, fun k1 g1 e1 a1 p1 => ?_⟩⟩
    · have l1 : m1.length ≤ ocnt p + 1 := l1
      exact ((q m1 D1 (by show m1.length ≤ (ocnt p + 1) + (ocnt r + 1) + 1; omega)).1 fun ⟨m2, e, _⟩ => by cases e)
    have l1 : m1.length ≤ ocnt p + 1 := l1
    have ok1 := D1.ok g1 (List.mem_of_getElem? e1)
    refine ⟨v, ms, es, r, lot, n, gs ++ m1, S2.set n (.lst ((gs ++ m1).map lnD)), lo, rfl, rfl, get_set2 hn, G, E, pf2, hh2, hl, D1, by rw [List.length_append]; show _ + (ocnt r + 1) ≤ 80000; omega, fun m2 D2 l2 => ?_⟩
    rw [List.set_set]
    rw [List.append_assoc] at D2 ⊢
    have l2 : m2.length ≤ ocnt r + 1 := l2
    refine ⟨fun _ => ?_, fun k2 g2 e2 a2 p2 => ?_⟩
    · exact ((q (m1 ++ m2) D2 (by rw [List.length_append]; show _ ≤ (ocnt p + 1) + (ocnt r + 1) + 1; omega)).1 fun ⟨m2, e, _⟩ => by cases e)
    have e1' : (gs ++ (m1 ++ m2))[k1]? = some g1 := by rw [← List.append_assoc]; exact app_get e1
    conv => whnf
    rw [seq_w (get_set2 hn)]
    conv => whnf
    rw [ln_get e1']
    conv => whnf
    rw [seq_w (get_set2 hn)]
    conv => whnf
    rw [ln_get e2]
    refine ⟨by show 2 ≤ 100000; decide, by show 5 ≤ 100000; decide, n + 2, _, _, rfl, get_set2 hn, by rw [List.length_map, List.length_append, List.length_append]; omega, ?_⟩
    have D3 := add_either D2 E pf e1' e2 p1 p2 (by rw [a2, a1])
    have fin := (q (m1 ++ m2 ++ [⟨g1.a, .either p r, g1.e ||| g2.e, "either", [k1, k2]⟩]) (by rw [← List.append_assoc]; exact D3) (by rw [List.length_append, List.length_append]; show _ + 1 ≤ (ocnt p + 1) + (ocnt r + 1) + 1; omega)).2 (gs ++ (m1 ++ m2)).length ⟨g1.a, .either p r, g1.e ||| g2.e, "either", [k1, k2]⟩ (by rw [← List.append_assoc gs (m1 ++ m2)]; exact last_get _ _) a1 rfl
    rw [← List.append_assoc gs (m1 ++ m2), ← List.set_set (a := Cell.lst ((gs ++ (m1 ++ m2)).map lnD))] at fin
    rw [← a1]
    have fin := put_fin (Q := QD) (l := ⟨g1.a, .either p r, g1.e ||| g2.e, "either", [k1, k2]⟩) fin
    have eo : D.int (Builtin.bitOr (g1.e : Int) (g2.e : Int)) = nI (g1.e ||| g2.e) := by rw [or_nat]
    show QD _ (List.set _ _ (Cell.lst (_ ++ [D.tup [_, _, D.int (Builtin.bitOr (g1.e : Int) (g2.e : Int)), _, _]])))
    rw [eo]
    exact fin
end TA
set_option Elab.async false
set_option linter.all false
set_option maxRecDepth 100000
set_option maxHeartbeats 4000000
namespace TA
open PySem PySem.Spec L2
open PyProof.Rows hiding St
theorem le_nat {a b : Nat} : decide ((a : Int) < (b : Int)) = decide (a < b) := nat_lt
theorem lnD_last (gs : List Ln) (h : gs ≠ []) : (gs.map lnD)[(gs.map lnD).length - 1]? = some (lnD (gs.getLast h)) := by
  have h0 : 0 < gs.length := List.length_pos_iff.mpr h
  rw [List.length_map, List.getElem?_map, List.getElem?_eq_getElem (by omega), List.getLast_eq_getElem]
  rfl
theorem take_drop1 (gs m : List Ln) (j : Nat) (hj : j < m.length) : (gs ++ m.take (j + 1)).dropLast = gs ++ m.take j := by
  rw [List.take_succ_eq_append_getElem hj, ← List.append_assoc, List.dropLast_concat]
theorem len__law_derive : ∀ (ds : List D) (S : Stt) (Q : QE) (E : Str → Stt → Prop), (spDer false (f + 1)) ds S Q E → ds.length = 6 := by intro ds S Q E h; delta spDer at h; (repeat obtain ⟨_, h⟩ := h); subst_vars; rfl
theorem step__law_derive (C : Ct) (T : Txt C) (f : Nat) (F__law_derive_own : Fn C CX0 (3 * f + 7) "_law_derive_own" ["_law_hand_here", "_law_world_here", "_law_program_here", "_law_lot_here", "_law_lines", "_law_loose"] [] (spDer true (f + 1))) : Fn C CX0 ((3 * f + 7) + 1) "_law_derive" ["_law_hand_here", "_law_world_here", "_law_program_here", "_law_lot_here", "_law_lines", "_law_loose"] [] (spDer false (f + 1)) := by
  obtain ⟨fd, F⟩ := T.def_ 73 (d := d__law_derive)
  have F__law_put := (ok__law_put C T).mono (show 1 ≤ (3 * f + 7) by omega)
  have F__law_shrunk := (ok__law_shrunk C T).mono (show 3 ≤ (3 * f + 7) by omega)
  have F__law_take := (ok__law_take C T).mono (show 2 ≤ (3 * f + 7) by omega)
  refine Fn.of F (T.glo "_law_derive") (fun _ _ _ _ _ _ us hl => match us, hl with | [_, _, _, _, _, _], _ => rfl) (fnD F sc__law_derive len__law_derive (by decide) fun cdv A outer s H E hr => ⟨_,
    (dss_cons (ds_set (i := 6) sc__law_derive.nd rfl (by first | exact Or.inl rfl | exact Or.inr rfl) (de_cb call_len calld_len (by rfl) (T.free "len") (by decide +kernel) (da_cons (dv 4) da_nil)))
      (dss_cons (ds_if (dt_val (dv 5)) (dss_cons (ds_set (i := 7) sc__law_derive.nd rfl (by first | exact Or.inl rfl | exact Or.inr rfl) (de_ifE (dt_truth trud (de_call F__law_take hr (by rfl) pass0 (da_cons (dv 0) (da_cons de_int da_nil)))) (dv 3) (de_call F__law_shrunk hr (by rfl) pass0 (da_cons (dv 0) (da_cons (de_ix ix_seq opd_ix (dv 1) de_int (fun _ _ => rfl)) (da_cons (dv 3) da_nil))))))
      (dss_cons (ds_set (i := 8) sc__law_derive.nd rfl (by first | exact Or.inl rfl | exact Or.inr rfl) (de_call F__law_derive_own hr (by rfl) pass0 (da_cons (dv 0) (da_cons (dv 1) (da_cons (dv 2) (da_cons (dv 7) (da_cons (dv 4) (da_cons de_bl da_nil))))))))
      (dss_cons (ds_if (dt_bop (dw_and (dt_cmp op_ge opd_B (dv 8) de_int (nomark _)) (dw_and (dt_cmp op_eq opd_eq (dv 7) (dv 3) (nomark _)) (dw_and1 (dt_truth trud (de_call F__law_take hr (by rfl) pass0 (da_cons (dv 0) (da_cons de_int da_nil)))))))) (dss_one (ds_ret (dv 8))) dss_nil)
      (dss_cons (ds_if (dt_cmp op_ge opd_B (dv 8) de_int (nomark _)) (dss_cons (ds_set (i := 9) sc__law_derive.nd rfl (by first | exact Or.inl rfl | exact Or.inr rfl) (de_call F__law_shrunk hr (by rfl) pass0 (da_cons (dv 0) (da_cons (de_ix ix_seq opd_ix (dv 1) de_int (fun _ _ => rfl)) (da_cons (de_ix ix_seq opd_ix (de_ix ix_seq opd_ix (dv 4) (dv 8) (fun _ _ => rfl)) de_int (fun _ _ => rfl)) da_nil)))))
      (dss_one (ds_ret (de_call F__law_put hr (by rfl) pass0 (da_cons (dv 4) (da_cons (de_tup (da_cons (dv 3) (da_cons (dv 2) (da_cons (dv 9) (da_cons de_str (da_cons (de_tup (da_cons (dv 8) da_nil)) da_nil)))))) da_nil)))))) dss_nil)
      (dss_one (ds_while PassesOwn.never (dt_cmp op_gt opd_B (de_cb call_len calld_len (by rfl) (T.free "len") (by decide +kernel) (da_cons (dv 4) da_nil)) (dv 6) (nomark _)) (dss_one (ds_expr (de_pop (dv 4)))))))))) dss_nil)
      (dss_one (ds_ret (de_call F__law_derive_own hr (by rfl) pass0 (da_cons (dv 0) (da_cons (dv 1) (da_cons (dv 2) (da_cons (dv 3) (da_cons (dv 4) (da_cons de_bl da_nil))))))))))), fun ds S QD ED h => ?_⟩)
  obtain ⟨v, ms, es, P, lot, n, gs, S2, lo, rfl, rfl, hn, G, E, pf, hh, hl, D0, hc, q⟩ := h
  have hc : gs.length + (ocnt P + 1) ≤ 80000 := hc
  have q : ∀ more : List Ln, DLs v ms es (gs ++ more) → more.length ≤ ocnt P + 1 →
    (¬ Sure ms es P lot → QD (.int (-1)) (.hand :: wC v ms es :: S2.set n (.lst ((gs ++ more).map lnD)))) ∧
    ∀ k g, (gs ++ more)[k]? = some g → g.a = lot → g.p = P → QD (nI k) (.hand :: wC v ms es :: S2.set n (.lst ((gs ++ more).map lnD))) := q
  conv => whnf
  rw [seq_w hn]
  have last : ∀ (o6 o7 o8 o9 : Option D) (S3 : Stt), S3 = S2 → ∀ l, (dRet (dCall (spDer true (f + 1)) [] (dCons (dVar 0) (dCons (dVar 1) (dCons (dVar 2) (dCons (dVar 3) (dCons (dVar 4) (dCons (dC (.bl false)) dNil)))))))) (endsD QD)
      [some (.hdl 0), some (.hdl 1), some (progD P), some (nI lot), some (.hdl (n + 2)), some (.bl l), o6, o7, o8, o9] (.hand :: wC v ms es :: S3) := fun o6 o7 o8 o9 S3 e3 l => by
    subst e3
    exact ⟨v, ms, es, P, lot, n, gs, S3, false, rfl, rfl, hn, G, E, pf, hh, hl, D0, by show gs.length + (ocnt P + 0) ≤ 80000; omega, fun m1 D1 l1 => q m1 D1 (by have l1 : m1.length ≤ ocnt P + 0 := l1; omega)⟩
  cases lo with
  | false => exact last (some (.int ((gs.map lnD).length : Nat))) none none none S2 rfl false
  | true =>
    have cont : ∀ (less : Nat), less < 2 ^ v → less &&& lot = less → rnd ms less = rnd ms lot →
        (dSeq (dSeq (dAsg (dCall (spDer true (f + 1)) [] (dCons (dVar 0) (dCons (dVar 1) (dCons (dVar 2) (dCons (dVar 7) (dCons (dVar 4) (dCons (dC (.bl true)) dNil))))))) (gN 8))
          (dSeq (dIf (dAnd (dTest (dOp (rdB fun i j => decide (j ≤ i)) (dVar 8) (dC (.int 0)))) (dAnd (dTest (dOp rdEq (dVar 7) (dVar 3))) (dTru rdTru (dCall spTake [] (dCons (dVar 0) (dCons (dC (.int 3)) dNil)))))) (dRet (dVar 8)) dNext)
            (dSeq (dIf (dTest (dOp (rdB fun i j => decide (j ≤ i)) (dVar 8) (dC (.int 0)))) (dSeq (dAsg (dCall spShrunk [] (dCons (dVar 0) (dCons (dOp rdIx (dVar 1) (dC (.int 1))) (dCons (dOp rdIx (dOp rdIx (dVar 4) (dVar 8)) (dC (.int 2))) dNil)))) (gN 9))
                (dRet (dCall spPut [] (dCons (dVar 4) (dCons (dTup (dCons (dVar 3) (dCons (dVar 2) (dCons (dVar 9) (dCons (dC (.str "grow")) (dCons (dTup (dCons (dVar 8) dNil)) dNil)))))) dNil))))) dNext)
              (dWhile (dTest (dOp (rdB fun i j => decide (j < i)) (dCB rdLen (dCons (dVar 4) dNil)) (dVar 6))) (dDrop (dPop (dVar 4)))))))
          (dRet (dCall (spDer true (f + 1)) [] (dCons (dVar 0) (dCons (dVar 1) (dCons (dVar 2) (dCons (dVar 3) (dCons (dVar 4) (dCons (dC (.bl false)) dNil))))))))) (endsD QD)
        [some (.hdl 0), some (.hdl 1), some (progD P), some (nI lot), some (.hdl (n + 2)), some (.bl true), some (.int ((gs.map lnD).length : Nat)), some (nI less), none, none] (.hand :: wC v ms es :: S2) := fun less hless hsub hrnd => by
      refine ⟨v, ms, es, P, less, n, gs, S2, true, rfl, rfl, hn, G, E, pf, hh, hless, D0, by show gs.length + (ocnt P + 0) ≤ 80000; omega, fun m1 D1 l1 => ?_⟩
      have l1 : m1.length ≤ ocnt P + 0 := l1
      refine ⟨fun _ => ?_, fun k g e1 a1 p1 => ?_⟩
      · refine ⟨fun m ρ S' => ∃ j, j ≤ m1.length ∧ m = j ∧ ρ = [some (.hdl 0), some (.hdl 1), some (progD P), some (nI lot), some (.hdl (n + 2)), some (.bl true), some (.int ((gs.map lnD).length : Nat)), some (nI less), some (.int (-1)), none] ∧ S' = .hand :: wC v ms es :: S2.set n (.lst ((gs ++ m1.take j).map lnD)), ⟨m1.length, m1.length, Nat.le_refl _, rfl, rfl, by rw [List.take_length]⟩, ?_⟩
        rintro m ρ S' ⟨j, hj, rfl, rfl, rfl⟩
        conv => whnf
        rw [seq_w (get_set2 hn)]
        show (if decide ((((gs.map lnD).length : Nat) : Int) < ((((gs ++ m1.take m).map lnD).length : Nat) : Int)) = true then _ else _)
        have hcmp : decide ((((gs.map lnD).length : Nat) : Int) < ((((gs ++ m1.take m).map lnD).length : Nat) : Int)) = decide (0 < m) := by
          have : (gs.map lnD).length < ((gs ++ m1.take m).map lnD).length ↔ 0 < m := by rw [List.length_map, List.length_map, List.length_append, List.length_take, Nat.min_eq_left hj]; omega
          rw [nat_lt]
          exact decide_eq_decide.mpr this
        rw [hcmp]
        cases m with
        | zero =>
          refine dec_f (by omega) ?_
          exact last (some (.int ((gs.map lnD).length : Nat))) (some (nI less)) (some (.int (-1))) none (S2.set n (.lst ((gs ++ m1.take 0).map lnD))) (by rw [List.take_zero, List.append_nil, set_id hn]) true
        | succ j =>
          refine dec_t (by omega) ?_
          refine ⟨fun ρ S' => ρ = [some (.hdl 0), some (.hdl 1), some (progD P), some (nI lot), some (.hdl (n + 2)), some (.bl true), some (.int ((gs.map lnD).length : Nat)), some (nI less), some (.int (-1)), none] ∧ S' = .hand :: wC v ms es :: S2.set n (.lst ((gs ++ m1.take j).map lnD)), fun ρ' S' ⟨h1, h2⟩ => ⟨j, by omega, j, by omega, rfl, h1, h2⟩, ?_⟩
          have hne : gs ++ m1.take (j + 1) ≠ [] := fun z => by
            have := congrArg List.length z
            rw [List.length_append, List.length_take, Nat.min_eq_left hj] at this
            simp at this
          refine ⟨n + 2, _, _, rfl, get_set2 hn, lnD_last _ hne, rfl, ?_⟩
          show .hand :: wC v ms es :: (S2.set n _).set n (.lst (((gs ++ m1.take (j + 1)).map lnD).dropLast)) = _
          rw [List.set_set, ← List.map_dropLast, take_drop1 gs m1 j (by omega)]
      · have ok1 := D1.ok g (List.mem_of_getElem? e1)
        have grow : ∀ o9, (dSeq (dAsg (dCall spShrunk [] (dCons (dVar 0) (dCons (dOp rdIx (dVar 1) (dC (.int 1))) (dCons (dOp rdIx (dOp rdIx (dVar 4) (dVar 8)) (dC (.int 2))) dNil)))) (gN 9))
                (dRet (dCall spPut [] (dCons (dVar 4) (dCons (dTup (dCons (dVar 3) (dCons (dVar 2) (dCons (dVar 9) (dCons (dC (.str "grow")) (dCons (dTup (dCons (dVar 8) dNil)) dNil)))))) dNil))))) { nx := fun _ _ => True, rt := QD }
            [some (.hdl 0), some (.hdl 1), some (progD P), some (nI lot), some (.hdl (n + 2)), some (.bl true), some (.int ((gs.map lnD).length : Nat)), some (nI less), some (nI k), o9] (.hand :: wC v ms es :: S2.set n (.lst ((gs ++ m1).map lnD))) := fun o9 => by
          conv => whnf
          rw [seq_w (get_set2 hn)]
          conv => whnf
          rw [ln_get e1]
          refine ⟨v, ms, g.e, _, rfl, rfl, G, ok1.e, fun e' h1 h2 h3 => ?_⟩
          refine ⟨by show 1 ≤ 100000; decide, by show 5 ≤ 100000; decide, n + 2, _, _, rfl, get_set2 hn, by rw [List.length_map, List.length_append]; omega, ?_⟩
          subst p1
          have D3 := add_grow D1 E G pf e1 hl h2 (by rw [a1]; exact hsub) (by rw [a1]; exact hrnd) h1 h3
          have fin := (q (m1 ++ [⟨lot, g.p, e', "grow", [k]⟩]) (by rw [← List.append_assoc]; exact D3) (by rw [List.length_append]; show _ + 1 ≤ _; omega)).2 (gs ++ m1).length ⟨lot, g.p, e', "grow", [k]⟩ (by rw [← List.append_assoc gs m1]; exact last_get _ _) rfl rfl
          rw [← List.append_assoc gs m1, ← List.set_set (a := Cell.lst ((gs ++ m1).map lnD))] at fin
          exact put_fin (Q := QD) (l := ⟨lot, g.p, e', "grow", [k]⟩) fin
        refine ite2 (fun c1 => ?_) (fun c1 => ?_)
        · refine ⟨3, _, rfl, by decide, by decide, rfl, fun r hr => ite2 (fun c2 => ?_) (fun c2 => ?_)⟩
          · have c1 : (less : Int) = (lot : Int) := of_decide_eq_true c1
            exact (q m1 D1 (by omega)).2 k g e1 (by rw [a1]; omega) p1
          · exact grow none
        · exact grow none
    refine ⟨3, _, rfl, by decide, by decide, rfl, fun r hr => ite2 (fun c => ?_) (fun c => ?_)⟩
    · exact cont lot hl (Nat.and_self _) rfl
    · exact ⟨v, ms, lot, _, rfl, rfl, G, hl, fun k h1 h2 h3 => cont k h2 h1 h3⟩
end TA
set_option Elab.async false
set_option linter.all false
set_option maxRecDepth 100000
set_option maxHeartbeats 4000000
namespace TA
open PySem PySem.Spec L2
open PyProof.Rows hiding St
def bc (n : Nat) : Nat := (if n.testBit 0 then 1 else 0) + (if n.testBit 1 then 1 else 0) + (if n.testBit 2 then 1 else 0) + (if n.testBit 3 then 1 else 0) + (if n.testBit 4 then 1 else 0) + (if n.testBit 5 then 1 else 0)
theorem bc_le (n : Nat) : bc n ≤ 6 := by
  unfold bc
  repeat' split
  all_goals omega
theorem bc_lt : ∀ a, a < 64 → ∀ b, b < 64 → a ||| b ≠ a → bc a < bc (a ||| b) := by decide +kernel
inductive Chain (gs : List Ln) (p : Prog) (a : Nat) : List Nat → Nat → Prop where
  | nil : Chain gs p a [] a
  | snoc {ks : List Nat} {k b : Nat} {g : Ln} : Chain gs p a ks b → gs[k]? = some g → g.a = b → g.p = p → Chain gs p a (ks ++ [k]) (b ||| g.e)
theorem Chain.nil_eq {gs : List Ln} {p : Prog} {a b : Nat} (h : Chain gs p a [] b) : b = a := by
  generalize e : ([] : List Nat) = ks at h
  cases h with
  | nil => rfl
  | snoc _ _ _ _ => simp at e
theorem or_sub {b e r : Nat} (h : (b ||| e) &&& r = b ||| e) : e &&& r = e := by
  have h1 : e &&& (b ||| e) = e := by
    apply Nat.eq_of_testBit_eq
    intro i
    simp only [Nat.testBit_and, Nat.testBit_or]
    cases e.testBit i <;> simp
  exact and_trans h1 h
theorem Chain.app {gs m : List Ln} {p : Prog} {a : Nat} {ks : List Nat} {b : Nat} (h : Chain gs p a ks b) : Chain (gs ++ m) p a ks b := by
  induction h with
  | nil => exact .nil
  | snoc _ h2 h3 h4 ih => exact .snoc ih (app_get h2) h3 h4
theorem ln_pure : ∀ l : Ln, pureD (lnD l) = true := fun l => by
  show (true && (pureD (progD l.p) && (true && (true && (pureL (l.us.map nI) && true))))) = true
  rw [prog_pure, pure_nI]; rfl
theorem bel_lns {k : Nat} (gs : List Ln) : belL k (gs.map lnD) = true := belL_mem.mpr fun d hd => by
  obtain ⟨l, _, e⟩ := List.mem_map.mp hd
  rw [← e]; exact bel_pure _ (ln_pure l)
theorem thaw_lines {v : Nat} {ms : List Nat} {es : List Ent} {S2 : Stt} {n : Nat} {gs : List Ln} {R : Cell} {Q : QE} {d : D} (wf : Wf (S2.length + 2) (.hand :: wC v ms es :: S2)) (hd : bel (S2.length + 2) d = true)
    (q : Q d (.hand :: wC v ms es :: S2.set n (.lst (gs.map lnD)))) : ThawV (S2.length + 2) Q d (.hand :: wC v ms es :: (S2.set n (.lst (gs.map lnD)) ++ [R])) := by
  have e : (.hand :: wC v ms es :: (S2.set n (.lst (gs.map lnD)) ++ [R]) : Stt).take (S2.length + 2) = .hand :: wC v ms es :: S2.set n (.lst (gs.map lnD)) := by
    show .hand :: wC v ms es :: (S2.set n (.lst (gs.map lnD)) ++ [R]).take S2.length = _
    rw [List.take_append_of_le_length (by rw [List.length_set]; exact Nat.le_refl _), List.take_of_length_le (by rw [List.length_set]; exact Nat.le_refl _)]
  refine ⟨?_, d, .same hd, ?_⟩
  · rw [e]
    intro c hc
    rcases List.mem_cons.mp hc with z | z
    · rw [z]; rfl
    · rcases List.mem_cons.mp z with z | z
      · exact wf c (by rw [z]; simp)
      · rcases List.mem_or_eq_of_mem_set z with z | z
        · exact wf c (by simp [z])
        · rw [z]; exact bel_lns gs
  · rw [e]; exact q
theorem gA {S2 : Stt} {n : Nat} {c c' r : Cell} (h : S2[n]? = some c) : (S2.set n c' ++ [r])[n]? = some c' := by
  rw [List.getElem?_append_left (by rw [List.length_set]; exact (List.getElem?_eq_some_iff.mp h).1)]; exact get_set2 h
theorem sA {S2 : Stt} {n : Nat} {c c' c2 r : Cell} (h : S2[n]? = some c) : (S2.set n c' ++ [r]).set n c2 = S2.set n c2 ++ [r] := by
  rw [List.set_append_left _ _ (by rw [List.length_set]; exact (List.getElem?_eq_some_iff.mp h).1), List.set_set]
theorem gR {S2 : Stt} {n : Nat} {c r : Cell} : (S2.set n c ++ [r])[S2.length]? = some r := by
  rw [List.getElem?_append_right (by rw [List.length_set]; exact Nat.le_refl _), List.length_set, Nat.sub_self]; rfl
theorem sR {S2 : Stt} {n : Nat} {c r r' : Cell} : (S2.set n c ++ [r]).set S2.length r' = S2.set n c ++ [r'] := by
  rw [List.set_append_right _ _ (by rw [List.length_set]; exact Nat.le_refl _), List.length_set, Nat.sub_self]; rfl
theorem sR2 {c0 c1 : Cell} {S2 : Stt} {n : Nat} {c r r' : Cell} : (c0 :: c1 :: (S2.set n c ++ [r])).set (S2.length + 2) r' = c0 :: c1 :: (S2.set n c ++ [r']) := by
  show c0 :: c1 :: (S2.set n c ++ [r]).set S2.length r' = _
  rw [sR]
theorem lastN_snoc (ks : List Nat) (k : Nat) : lastN (ks ++ [k]) = k := by
  unfold lastN
  rw [List.length_append, List.getElem?_append_right (by simp)]
  simp
theorem chain_len {gs : List Ln} {p : Prog} {a b v : Nat} {ks : List Nat} (h : Chain gs p a ks b) : ks.length ≤ ks.length := Nat.le_refl _
theorem len__law_derive_again : ∀ (ds : List D) (S : Stt) (Q : QE) (E : Str → Stt → Prop), (spAg (f + 1)) ds S Q E → ds.length = 6 := by exact fun ds S Q E h => len__law_derive_own ds S Q E h.1
theorem step__law_derive_again (C : Ct) (T : Txt C) (f : Nat) (F__law_derive : Fn C CX0 (3 * f + 5) "_law_derive" ["_law_hand_here", "_law_world_here", "_law_program_here", "_law_lot_here", "_law_lines", "_law_loose"] [] (spDer false f)) : Fn C CX0 ((3 * f + 5) + 1) "_law_derive_again" ["_law_hand_here", "_law_world_here", "_law_program_here", "_law_lot_here", "_law_lines", "_law_loose"] [] (spAg (f + 1)) := by
  obtain ⟨fd, F⟩ := T.def_ 75 (d := d__law_derive_again)
  have F__law_put := (ok__law_put C T).mono (show 1 ≤ (3 * f + 5) by omega)
  have F__law_rounded := (ok__law_rounded C T).mono (show 1 ≤ (3 * f + 5) by omega)
  have F__law_take := (ok__law_take C T).mono (show 2 ≤ (3 * f + 5) by omega)
  have F__law_within := (ok__law_within C T).mono (show 1 ≤ (3 * f + 5) by omega)
  refine Fn.of F (T.glo "_law_derive_again") (fun _ _ _ _ _ _ us hl => match us, hl with | [_, _, _, _, _, _], _ => rfl) (fnD F sc__law_derive_again len__law_derive_again (by decide) fun cdv A outer s H E hr => ⟨_,
    (dss_thaw (dss_cons (ds_set (i := 6) sc__law_derive_again.nd rfl (by first | exact Or.inl rfl | exact Or.inr rfl) (de_lstH da_nil))
      (dss_cons (ds_set (i := 7) sc__law_derive_again.nd rfl (by first | exact Or.inl rfl | exact Or.inr rfl) (dv 3))
      (dss_cons (ds_for PassesOwn.never rfl (di_rng1 (by rfl) (T.free "range") (da_cons de_int da_nil)) (dg_name (i := 8) sc__law_derive_again.nd rfl (by first | exact Or.inl rfl | exact Or.inr rfl)) (dss_cons (ds_set (i := 9) sc__law_derive_again.nd rfl (by first | exact Or.inl rfl | exact Or.inr rfl) (de_call F__law_derive hr (by rfl) pass0 (da_cons (dv 0) (da_cons (dv 1) (da_cons (de_ix ix_seq opd_ix (dv 2) de_int (fun _ _ => rfl)) (da_cons (dv 7) (da_cons (dv 4) (da_cons (dv 5) da_nil))))))))
      (dss_cons (ds_if (dt_cmp op_lt opd_B (dv 9) de_int (nomark _)) (dss_one (ds_ret (de_un un_neg und_neg de_int))) dss_nil)
      (dss_cons (ds_expr (de_append (dv 6) (dv 9)))
      (dss_cons (ds_set (i := 10) sc__law_derive_again.nd rfl (by first | exact Or.inl rfl | exact Or.inr rfl) (de_op op_or opd_I (dv 7) (de_ix ix_seq opd_ix (de_ix ix_seq opd_ix (dv 4) (dv 9) (fun _ _ => rfl)) de_int (fun _ _ => rfl))))
      (dss_cons (ds_if (dt_cmp op_eq opd_eq (dv 10) (dv 7) (nomark _)) (dss_one ds_break) dss_nil)
      (dss_cons (ds_if (dt_bop (dw_and (dt_val (dv 5)) (dw_and (dt_val (de_call F__law_within hr (by rfl) pass0 (da_cons (dv 10) (da_cons (de_call F__law_rounded hr (by rfl) pass0 (da_cons (de_ix ix_seq opd_ix (dv 1) de_int (fun _ _ => rfl)) (da_cons (dv 7) da_nil))) da_nil)))) (dw_and1 (dt_cmp op_eq opd_eq (de_call F__law_take hr (by rfl) pass0 (da_cons (dv 0) (da_cons de_int da_nil))) de_int (nomark _)))))) (dss_one ds_break) dss_nil)
      (dss_one (ds_set (i := 7) sc__law_derive_again.nd rfl (by first | exact Or.inl rfl | exact Or.inr rfl) (dv 10))))))))))
      (dss_cons (ds_set (i := 11) sc__law_derive_again.nd rfl (by first | exact Or.inl rfl | exact Or.inr rfl) (de_ix ix_seq opd_ix (dv 4) (de_ix ix_seq opd_ix (dv 6) (de_un un_neg und_neg de_int) (fun _ _ => rfl)) (fun _ _ => rfl)))
      (dss_cons (ds_set (i := 12) sc__law_derive_again.nd rfl (by first | exact Or.inl rfl | exact Or.inr rfl) (de_call F__law_put hr (by rfl) pass0 (da_cons (dv 4) (da_cons (de_tup (da_cons (de_ix ix_seq opd_ix (dv 11) de_int (fun _ _ => rfl)) (da_cons (dv 2) (da_cons (de_op op_or opd_I (de_ix ix_seq opd_ix (dv 11) de_int (fun _ _ => rfl)) (de_ix ix_seq opd_ix (dv 11) de_int (fun _ _ => rfl))) (da_cons de_str (da_cons (de_tup (da_cons (de_ix ix_seq opd_ix (dv 6) (de_un un_neg und_neg de_int) (fun _ _ => rfl)) da_nil)) da_nil)))))) da_nil))))
      (dss_cons (ds_for PassesOwn.never rfl (di_rev (by rfl) (T.free "reversed") (de_slice sl_list sld_list (dv 6) do_none (do_some (de_un un_neg und_neg de_int)))) (dg_name (i := 9) sc__law_derive_again.nd rfl (by first | exact Or.inl rfl | exact Or.inr rfl)) (dss_one (ds_set (i := 12) sc__law_derive_again.nd rfl (by first | exact Or.inl rfl | exact Or.inr rfl) (de_call F__law_put hr (by rfl) pass0 (da_cons (dv 4) (da_cons (de_tup (da_cons (de_ix ix_seq opd_ix (de_ix ix_seq opd_ix (dv 4) (dv 9) (fun _ _ => rfl)) de_int (fun _ _ => rfl)) (da_cons (dv 2) (da_cons (de_ix ix_seq opd_ix (de_ix ix_seq opd_ix (dv 4) (dv 12) (fun _ _ => rfl)) de_int (fun _ _ => rfl)) (da_cons de_str (da_cons (de_tup (da_cons (dv 9) (da_cons (dv 12) da_nil))) da_nil)))))) da_nil))))))
      (dss_one (ds_ret (dv 12)))))))))), fun ds S QD ED h => ?_⟩)
  obtain ⟨⟨v, ms, es, P, lot, n, gs, S2, lo, rfl, rfl, hn, G, E, pf, hh, hl, D0, hc, q⟩, p0, hp⟩ := h
  have hP : ∃ p, P = .again p := by
    have hp : progD P = progD (.again p0) := Option.some.inj hp
    cases P with
    | again p => exact ⟨p, rfl⟩
    | nothing => injection hp with h1; injection h1 with h1 _; injection h1 with h1; exact absurd h1 (by decide)
    | step n => injection hp with h1; injection h1 with h1 _; injection h1 with h1; exact absurd h1 (by decide)
    | behind a b => injection hp with h1; injection h1 with h1 _; injection h1 with h1; exact absurd h1 (by decide)
    | either a b => injection hp with h1; injection h1 with h1 _; injection h1 with h1; exact absurd h1 (by decide)
  obtain ⟨p, rfl⟩ := hP
  clear hp
  have pf1 := PF.one pf
  have hhp : ht p ≤ f := by have hh : ht p + 1 ≤ f + 1 := hh; omega
  have hc : gs.length + (8 * (ocnt p + 1) + 8) ≤ 80000 := hc
  have hb := p2_bound G.v6
  intro wf
  have wf : Wf (S2.length + 2) (.hand :: wC v ms es :: S2) := wf
  have q : ∀ more : List Ln, DLs v ms es (gs ++ more) → more.length ≤ 8 * (ocnt p + 1) + 8 →
    (ThawV (S2.length + 2) QD (.int (-1)) = ThawV (S2.length + 2) QD (.int (-1))) ∧ (QD (.int (-1)) (.hand :: wC v ms es :: S2.set n (.lst ((gs ++ more).map lnD)))) ∧
    ∀ k g, (gs ++ more)[k]? = some g → g.a = lot → g.p = .again p → QD (nI k) (.hand :: wC v ms es :: S2.set n (.lst ((gs ++ more).map lnD))) := fun more h1 h2 =>
      let z := q more h1 h2
      ⟨rfl, z.1 (fun ⟨m, e, _⟩ => by cases e), z.2⟩
  have start : (.hand :: wC v ms es :: S2 ++ [Cell.lst []] : Stt) = .hand :: wC v ms es :: (S2.set n (.lst ((gs ++ []).map lnD)) ++ [Cell.lst (([] : List Nat).map nI)]) := by
    rw [List.append_nil, set_id hn]; rfl
  have rest : ∀ (ks : List Nat) (k b : Nat) (more : List Ln) (o8 o9 o10 : Option D) (x7 : D), Chain (gs ++ more) p lot ks b → (∃ g, (gs ++ more)[k]? = some g ∧ g.a = b ∧ g.p = p ∧ g.e &&& rnd ms g.a = g.e) → DLs v ms es (gs ++ more) → more.length ≤ 8 * (ocnt p + 1) → ks.length ≤ 7 →
    (dSeq (dAsg (dOp rdIx (dVar 4) (dOp rdIx (dVar 6) (dUn rdNeg (dC (.int 1))))) (gN 11))
      (dSeq (dAsg (dCall spPut [] (dCons (dVar 4) (dCons (dTup (dCons (dOp rdIx (dVar 11) (dC (.int 0))) (dCons (dVar 2) (dCons (dOp (rdI Builtin.bitOr) (dOp rdIx (dVar 11) (dC (.int 0))) (dOp rdIx (dVar 11) (dC (.int 2)))) (dCons (dC (.str "closed")) (dCons (dTup (dCons (dOp rdIx (dVar 6) (dUn rdNeg (dC (.int 1)))) dNil)) dNil)))))) dNil))) (gN 12))
        (dSeq (dFor (diRev (dSl rdSlL (dVar 6) dNoPart (dPart (dUn rdNeg (dC (.int 1)))))) (gN 9) (dAsg (dCall spPut [] (dCons (dVar 4) (dCons (dTup (dCons (dOp rdIx (dOp rdIx (dVar 4) (dVar 9)) (dC (.int 0))) (dCons (dVar 2) (dCons (dOp rdIx (dOp rdIx (dVar 4) (dVar 12)) (dC (.int 2))) (dCons (dC (.str "more")) (dCons (dTup (dCons (dVar 9) (dCons (dVar 12) dNil))) dNil)))))) dNil))) (gN 12)))
          (dRet (dVar 12))))) { nx := ThawN (S2.length + 2) (endsD QD).nx, rt := ThawV (S2.length + 2) QD }
      [some (.hdl 0), some (.hdl 1), some (progD (.again p)), some (nI lot), some (.hdl (n + 2)), some (.bl lo), some (.hdl (S2.length + 2)), some x7, o8, o9, o10, none, none] (.hand :: wC v ms es :: (S2.set n (.lst ((gs ++ more).map lnD)) ++ [Cell.lst ((ks ++ [k]).map nI)])) := fun ks k b more o8 o9 o10 x7 hch hg D1 hm hks => by
    obtain ⟨g, e1, a1, p1, c1⟩ := hg
    conv => whnf
    rw [seq_w gR]
    conv => whnf
    rw [last_ix (by simp), lastN_snoc]
    conv => whnf
    rw [seq_w (gA hn)]
    conv => whnf
    rw [ln_get e1]
    conv => whnf
    rw [seq_w gR]
    conv => whnf
    rw [last_ix (by simp), lastN_snoc]
    refine ⟨by show 1 ≤ 100000; decide, by show 5 ≤ 100000; decide, n + 2, _, _, rfl, gA hn, by rw [List.length_map, List.length_append]; omega, ?_⟩
    have D2 := add_closed D1 E pf e1 p1 c1
    have eo : D.int (Builtin.bitOr (g.a : Int) (g.e : Int)) = nI (g.a ||| g.e) := by rw [or_nat]
    have st1 : (.hand :: wC v ms es :: (S2.set n (.lst ((gs ++ more).map lnD)) ++ [Cell.lst ((ks ++ [k]).map nI)]) : Stt).set (n + 2) (.lst ((gs ++ more).map lnD ++ [.tup [nI g.a, progD (.again p), .int (Builtin.bitOr (g.a : Int) (g.e : Int)), .str "closed", .tup [nI k]]])) =
        .hand :: wC v ms es :: (S2.set n (.lst ((gs ++ (more ++ [(⟨g.a, .again p, g.a ||| g.e, "closed", [k]⟩ : Ln)])).map lnD)) ++ [Cell.lst ((ks ++ [k]).map nI)]) := by
      rw [eo]
      show .hand :: wC v ms es :: ((S2.set n (.lst ((gs ++ more).map lnD)) ++ [Cell.lst ((ks ++ [k]).map nI)]).set n _) = _
      rw [sA hn, ← List.append_assoc, ← map_snoc]
      rfl
    show gN 12 (nI ((gs ++ more).map lnD).length) _ (List.set (.hand :: wC v ms es :: (S2.set n (.lst ((gs ++ more).map lnD)) ++ [Cell.lst ((ks ++ [k]).map nI)])) (n + 2) (.lst ((gs ++ more).map lnD ++ [.tup [nI g.a, progD (.again p), .int (Builtin.bitOr (g.a : Int) (g.e : Int)), .str "closed", .tup [nI k]]]))) _
    rw [st1]
    conv => whnf
    rw [seq_w gR]
    show (∃ W : List D → Rho → Stt → Prop, W (List.reverse (cutD ((ks ++ [k]).map nI) none (some (-1)))) _ _ ∧ _)
    rw [cut_all_but, ← List.map_dropLast, List.dropLast_concat, ← List.map_reverse, List.length_map]
    refine ⟨fun r ρ S' => ∃ (k1 : List Nat) (b1 : Nat) (m2 : List Ln) (top : Nat) (g2 : Ln) (o9 : Option D), r = (k1.reverse).map nI ∧ Chain (gs ++ m2) p lot k1 b1 ∧ DLs v ms es (gs ++ m2) ∧ m2.length + k1.length ≤ 8 * (ocnt p + 1) + 8 ∧ (gs ++ m2)[top]? = some g2 ∧ g2.a = b1 ∧ g2.p = .again p ∧
      ρ = [some (.hdl 0), some (.hdl 1), some (progD (.again p)), some (nI lot), some (.hdl (n + 2)), some (.bl lo), some (.hdl (S2.length + 2)), some x7, o8, o9, o10, some (lnD g), some (nI top)] ∧ S' = .hand :: wC v ms es :: (S2.set n (.lst ((gs ++ m2).map lnD)) ++ [Cell.lst ((ks ++ [k]).map nI)]),
      ⟨ks, b, more ++ [(⟨g.a, .again p, g.a ||| g.e, "closed", [k]⟩ : Ln)], (gs ++ more).length, ⟨g.a, .again p, g.a ||| g.e, "closed", [k]⟩, o9, rfl, by rw [← List.append_assoc]; exact hch.app, by rw [← List.append_assoc]; exact D2, by rw [List.length_append]; show more.length + 1 + ks.length ≤ _; omega, by rw [← List.append_assoc]; exact last_get _ _, a1, rfl, rfl, rfl⟩, ?_, ?_⟩
    · rintro y r ρ S' ⟨k1, b1, m2, top, g2, o9, e, hch1, D3, hm2, et, ga, gp, rfl, rfl⟩
      cases hch1 with
      | nil => cases e
      | @snoc k2 kk bb g3 hc3 e3 a3 p3 =>
        rw [List.reverse_append] at e
        cases e
        conv => whnf
        rw [seq_w (gA hn)]
        conv => whnf
        rw [ln_get e3]
        conv => whnf
        rw [seq_w (gA hn)]
        conv => whnf
        rw [ln_get et]
        refine ⟨by show 2 ≤ 100000; decide, by show 5 ≤ 100000; decide, n + 2, _, _, rfl, gA hn, by rw [List.length_map, List.length_append]; omega, ?_⟩
        have D4 := add_more D3 E pf e3 et p3 gp (by rw [ga, a3])
        refine ⟨k2, bb, m2 ++ [(⟨g3.a, .again p, g2.e, "more", [kk, top]⟩ : Ln)], (gs ++ m2).length, ⟨g3.a, .again p, g2.e, "more", [kk, top]⟩, some (nI kk), rfl, by rw [← List.append_assoc]; exact hc3.app, by rw [← List.append_assoc]; exact D4, ?_, by rw [← List.append_assoc]; exact last_get _ _, a3, rfl, ?_, ?_⟩
        · rw [List.length_append] at hm2 ⊢
          have : m2.length + (k2.length + 1) ≤ 8 * (ocnt p + 1) + 8 := hm2
          show m2.length + 1 + k2.length ≤ _
          omega
        · show [_, _, _, _, _, _, _, _, _, _, _, _, some (nI ((gs ++ m2).map lnD).length)] = _
          rw [List.length_map]
        · show .hand :: wC v ms es :: ((S2.set n (.lst ((gs ++ m2).map lnD)) ++ [Cell.lst ((ks ++ [k]).map nI)]).set n _) = _
          rw [sA hn, ← List.append_assoc, ← map_snoc]
          rfl
    · rintro ρ S' ⟨k1, b1, m2, top, g2, o9, e, hch1, D3, hm2, et, ga, gp, rfl, rfl⟩
      have hk1 : k1 = [] := by
        cases k1 with
        | nil => rfl
        | cons x xs =>
          have := congrArg List.length e
          simp at this
      subst hk1
      have hb1 := hch1.nil_eq
      exact thaw_lines wf rfl ((q m2 D3 (by have hm2 : m2.length + 0 ≤ 8 * (ocnt p + 1) + 8 := hm2; omega)).2.2 top g2 et (by rw [ga, hb1]) gp)
  refine ⟨by decide, ?_⟩
  refine ⟨by decide, by decide, ?_⟩
  rw [show intsFrom 0 (8 : Int).toNat = (List.range' 0 8).map nI from ints0 8]
  refine ⟨fun r ρ S' => ∃ (k : Nat) (ks : List Nat) (b : Nat) (more : List Ln) (o8 o9 o10 : Option D), k ≤ 8 ∧ r = (List.range' k (8 - k)).map nI ∧ ks.length = k ∧ Chain (gs ++ more) p lot ks b ∧ DLs v ms es (gs ++ more) ∧ more.length ≤ k * (ocnt p + 1) ∧ b < 2 ^ v ∧ k ≤ bc b ∧
    ρ = [some (.hdl 0), some (.hdl 1), some (progD (.again p)), some (nI lot), some (.hdl (n + 2)), some (.bl lo), some (.hdl (S2.length + 2)), some (nI b), o8, o9, o10, none, none] ∧ S' = .hand :: wC v ms es :: (S2.set n (.lst ((gs ++ more).map lnD)) ++ [Cell.lst (ks.map nI)]),
    ⟨0, [], lot, [], none, none, none, by omega, rfl, rfl, .nil, by rw [List.append_nil]; exact D0, by simp, hl, by omega, rfl, start⟩, ?_, ?_⟩
  · rintro y r ρ S' ⟨k, ks, b, more, o8, o9, o10, hk, e, hks, hch, D1, hm, hbv, hbc, rfl, rfl⟩
    obtain ⟨hk8, rfl, rfl⟩ := rng_cases hk e
    have hm7 : k * (ocnt p + 1) ≤ 7 * (ocnt p + 1) := Nat.mul_le_mul_right _ (by omega)
    refine ⟨v, ms, es, p, b, n, gs ++ more, _, lo, rfl, rfl, gA hn, G, E, pf1, hhp, hbv, D1, by rw [List.length_append]; show _ + (ocnt p + 1) ≤ 80000; omega, fun m1 D2 l1 => ?_⟩
    have l1 : m1.length ≤ ocnt p + 1 := l1
    rw [sA hn]
    rw [List.append_assoc] at D2 ⊢
    have hmm : (more ++ m1).length ≤ (k + 1) * (ocnt p + 1) := by rw [List.length_append, Nat.succ_mul]; omega
    have hm8 : (k + 1) * (ocnt p + 1) ≤ 8 * (ocnt p + 1) := Nat.mul_le_mul_right _ (by omega)
    refine ⟨fun _ => thaw_lines wf rfl (q (more ++ m1) D2 (by omega)).2.1, fun kk g e1 a1 p1 => ?_⟩
    have ok1 := D2.ok g (List.mem_of_getElem? e1)
    have hch2 : Chain (gs ++ (more ++ m1)) p lot ks b := by rw [← List.append_assoc]; exact hch.app
    refine ⟨S2.length + 2, _, rfl, gR, _, gR, by rw [List.length_map]; omega, ?_⟩
    rw [sR2, snoc_nI]
    conv => whnf
    rw [seq_w (gA hn)]
    conv => whnf
    rw [ln_get e1]
    have eo : Builtin.bitOr (b : Int) (g.e : Int) = ((b ||| g.e : Nat) : Int) := or_nat b g.e
    have brk : g.e &&& rnd ms g.a = g.e → ∀ (o8 o9 o10 : Option D), _ := fun hce o8 o9 o10 => rest ks kk b (more ++ m1) o8 o9 o10 (nI b) hch2 ⟨g, e1, a1, p1, hce⟩ D2 (by omega) (by omega)
    refine ite2 (fun c1 => ?_) (fun c1 => ?_)
    · rw [or_test, decide_eq_true_iff] at c1
      refine brk ?_ _ _ _
      rw [a1]
      exact or_sub (b := b) (by rw [c1]; exact G.sup hbv)
    · rw [or_test, decide_eq_true_iff] at c1
      have hlt : k + 1 ≤ bc (b ||| g.e) := by
        have := bc_lt b (by omega) g.e (by have := ok1.e; omega) c1
        omega
      have erho : ([some (.hdl 0), some (.hdl 1), some (progD (.again p)), some (nI lot), some (.hdl (n + 2)), some (.bl lo), some (.hdl (S2.length + 2)), some (.int (Builtin.bitOr (b : Int) (g.e : Int))), some (nI k), some (nI kk), some (.int (Builtin.bitOr (b : Int) (g.e : Int))), none, none] : Rho) =
        [some (.hdl 0), some (.hdl 1), some (progD (.again p)), some (nI lot), some (.hdl (n + 2)), some (.bl lo), some (.hdl (S2.length + 2)), some (nI (b ||| g.e)), some (nI k), some (nI kk), some (nI (b ||| g.e)), none, none] := by rw [eo]
      cases lo with
      | false => exact ⟨k + 1, ks ++ [kk], b ||| g.e, more ++ m1, _, _, _, hk8, rfl, by rw [List.length_append, hks]; rfl, .snoc hch2 e1 a1 p1, D2, hmm, or_lt2 hbv ok1.e, hlt, erho, rfl⟩
      | true =>
        refine ⟨ms, b, rfl, G.ne, b ||| g.e, rnd ms b, by show [D.int (Builtin.bitOr (b : Int) (g.e : Int)), _] = _; rw [eo], ?_⟩
        refine ite2 (fun c2 => ?_) (fun c2 => ?_)
        · rw [decide_eq_true_iff] at c2
          refine ⟨2, _, rfl, by decide, by decide, rfl, fun r hr => ite2 (fun c3 => ?_) (fun c3 => ?_)⟩
          · refine brk ?_ _ _ _
            rw [a1]
            exact or_sub c2
          · exact ⟨k + 1, ks ++ [kk], b ||| g.e, more ++ m1, _, _, _, hk8, rfl, by rw [List.length_append, hks]; rfl, .snoc hch2 e1 a1 p1, D2, hmm, or_lt2 hbv ok1.e, hlt, erho, rfl⟩
        · exact ⟨k + 1, ks ++ [kk], b ||| g.e, more ++ m1, _, _, _, hk8, rfl, by rw [List.length_append, hks]; rfl, .snoc hch2 e1 a1 p1, D2, hmm, or_lt2 hbv ok1.e, hlt, erho, rfl⟩
  · rintro ρ S' ⟨k, ks, b, more, o8, o9, o10, hk, e, hks, hch, D1, hm, hbv, hbc, rfl, rfl⟩
    have := rng_end hk e
    have := bc_le b
    omega
end TA
set_option Elab.async false
set_option linter.all false
set_option maxRecDepth 100000
set_option maxHeartbeats 4000000
namespace TA
open PySem PySem.Spec L2
open PyProof.Rows hiding St
theorem ht_pos (P : Prog) : 1 ≤ ht P := by cases P <;> exact Nat.succ_le_succ (Nat.zero_le _)
theorem derive_fn (C : Ct) (T : Txt C) : ∀ f, Fn C CX0 (3 * f + 5) "_law_derive" ["_law_hand_here", "_law_world_here", "_law_program_here", "_law_lot_here", "_law_lines", "_law_loose"] [] (spDer false f)
  | 0 => ((none__law_derive C T).mono (by omega)).imp fun ds S Q E ⟨v, ms, es, P, lot, n, gs, S2, lo, _, _, _, _, _, _, h, _⟩ => by
    have := ht_pos P
    omega
  | f + 1 => step__law_derive C T f (step__law_derive_own C T f ((derive_fn C T f).mono (by omega)) (step__law_derive_again C T f (derive_fn C T f)))
theorem ok__law_derive (C : Ct) (T : Txt C) : Fn C CX0 26 "_law_derive" ["_law_hand_here", "_law_world_here", "_law_program_here", "_law_lot_here", "_law_lines", "_law_loose"] [] (spDer false 7) := derive_fn C T 7
/-! ### what drawing bounds -/
theorem drawn_pf {ns : List Str} : ∀ (P : Prog) (L d : Nat), Drawn ns P L d → 1 ≤ L → StepsIn ns P ∧ sz P + 1 ≤ (d + 2) * L ∧ ht P ≤ L + d ∧ agd P ≤ d
  | .nothing, L, d, h, hL => by
    have h : L = 1 := h
    subst h
    exact ⟨trivial, by show 2 ≤ _; omega, by show 1 ≤ _; omega, Nat.zero_le _⟩
  | .step n, L, d, h, hL => by
    obtain ⟨h, hn⟩ := h
    subst h
    exact ⟨hn, by show 2 ≤ _; omega, by show 1 ≤ _; omega, Nat.zero_le _⟩
  | .behind p q, L, d, ⟨l, h1, h2, h3, h4⟩, hL => by
    obtain ⟨a1, a2, a3, a4⟩ := drawn_pf p l d h3 h1
    obtain ⟨b1, b2, b3, b4⟩ := drawn_pf q (L - l) d h4 (by omega)
    refine ⟨⟨a1, b1⟩, ?_, by show max (ht p) (ht q) + 1 ≤ _; omega, by show max (agd p) (agd q) ≤ _; omega⟩
    show 1 + sz p + sz q + 1 ≤ _
    have e : (d + 2) * L = (d + 2) * l + (d + 2) * (L - l) := by rw [← Nat.mul_add]; congr 1; omega
    omega
  | .either p q, L, d, ⟨l, h1, h2, h3, h4⟩, hL => by
    obtain ⟨a1, a2, a3, a4⟩ := drawn_pf p l d h3 h1
    obtain ⟨b1, b2, b3, b4⟩ := drawn_pf q (L - l) d h4 (by omega)
    refine ⟨⟨a1, b1⟩, ?_, by show max (ht p) (ht q) + 1 ≤ _; omega, by show max (agd p) (agd q) ≤ _; omega⟩
    show 1 + sz p + sz q + 1 ≤ _
    have e : (d + 2) * L = (d + 2) * l + (d + 2) * (L - l) := by rw [← Nat.mul_add]; congr 1; omega
    omega
  | .again p, L, d, ⟨h1, h2⟩, hL => by
    obtain ⟨a1, a2, a3, a4⟩ := drawn_pf p L (d - 1) h2 hL
    obtain ⟨e, rfl⟩ : ∃ e, d = e + 1 := ⟨d - 1, by omega⟩
    have a2 : sz p + 1 ≤ (e + 2) * L := a2
    refine ⟨a1, ?_, by show ht p + 1 ≤ _; omega, by show agd p + 1 ≤ _; omega⟩
    show 1 + sz p + 1 ≤ (e + 1 + 2) * L
    have e2 : (e + 1 + 2) * L = (e + 2) * L + L := by rw [show e + 1 + 2 = (e + 2) + 1 by omega, Nat.add_mul, Nat.one_mul]
    omega
theorem drawn_cnt {ns : List Str} : ∀ (P : Prog) (L d : Nat), Drawn ns P L d → 1 ≤ L → ocnt P + 3 ≤ 4 * 8 ^ d * L ∧ cnt P ≤ 8 ^ d * L
  | .nothing, L, d, h, hL => by
    have h : L = 1 := h
    subst h
    have := Nat.one_le_pow d 8 (by decide)
    exact ⟨by show 4 ≤ _; omega, by show 0 ≤ _; omega⟩
  | .step n, L, d, h, hL => by
    obtain ⟨h, hn⟩ := h
    subst h
    have := Nat.one_le_pow d 8 (by decide)
    exact ⟨by show 4 ≤ _; omega, by show 1 ≤ _; omega⟩
  | .behind p q, L, d, ⟨l, h1, h2, h3, h4⟩, hL => by
    obtain ⟨a1, a2⟩ := drawn_cnt p l d h3 h1
    obtain ⟨b1, b2⟩ := drawn_cnt q (L - l) d h4 (by omega)
    have e : 4 * 8 ^ d * L = 4 * 8 ^ d * l + 4 * 8 ^ d * (L - l) := by rw [← Nat.mul_add]; congr 1; omega
    have e2 : 8 ^ d * L = 8 ^ d * l + 8 ^ d * (L - l) := by rw [← Nat.mul_add]; congr 1; omega
    exact ⟨by show (ocnt p + 1) + (ocnt q + 1) + 1 + 3 ≤ _; omega, by show cnt p + cnt q ≤ _; omega⟩
  | .either p q, L, d, ⟨l, h1, h2, h3, h4⟩, hL => by
    obtain ⟨a1, a2⟩ := drawn_cnt p l d h3 h1
    obtain ⟨b1, b2⟩ := drawn_cnt q (L - l) d h4 (by omega)
    have e : 4 * 8 ^ d * L = 4 * 8 ^ d * l + 4 * 8 ^ d * (L - l) := by rw [← Nat.mul_add]; congr 1; omega
    have e2 : 8 ^ d * L = 8 ^ d * l + 8 ^ d * (L - l) := by rw [← Nat.mul_add]; congr 1; omega
    exact ⟨by show (ocnt p + 1) + (ocnt q + 1) + 1 + 3 ≤ _; omega, by show cnt p + cnt q ≤ _; omega⟩
  | .again p, L, d, ⟨h1, h2⟩, hL => by
    obtain ⟨a1, a2⟩ := drawn_cnt p L (d - 1) h2 hL
    obtain ⟨e, rfl⟩ : ∃ e, d = e + 1 := ⟨d - 1, by omega⟩
    have a1 : ocnt p + 3 ≤ 4 * 8 ^ e * L := a1
    have a2 : cnt p ≤ 8 ^ e * L := a2
    have e1 : 4 * 8 ^ (e + 1) * L = 8 * (4 * 8 ^ e * L) := by rw [Nat.pow_succ]; simp only [Nat.mul_assoc, Nat.mul_comm, Nat.mul_left_comm]
    have e2 : 8 ^ (e + 1) * L = 8 * (8 ^ e * L) := by rw [Nat.pow_succ]; simp only [Nat.mul_assoc, Nat.mul_comm, Nat.mul_left_comm]
    exact ⟨by show 8 * (ocnt p + 1) + 8 + 3 ≤ _; omega, by show 8 * cnt p ≤ _; omega⟩
/-! ### derived -/
def spDerived : SpD := fun ds S Q _ => ∃ (v : Nat) (ms : List Nat) (es : List Ent) (P : Prog) (lot : Nat), ds = [.hdl 0, .hdl 1, progD P, nI lot, .bl true] ∧ S = [.hand, wC v ms es] ∧ Good v ms ∧ Ents v es ∧ PF (es.map (·.1)) P ∧ ht P ≤ 7 ∧ lot < 2 ^ v ∧ ocnt P ≤ 2000 ∧
  ∀ (n : Nat) (gs : List Ln) (P' : Prog) (lot' : Nat) (S2 : Stt), S2[n]? = some (.lst (gs.map lnD)) → DLs v ms es gs → gs ≠ [] → gs.length ≤ 2001 → Q (.lst [progD P', nI lot', .hdl (n + 2)]) (.hand :: wC v ms es :: S2)
theorem ne_get {gs : List Ln} {k : Nat} {g : Ln} (h : gs[k]? = some g) : gs ≠ [] := fun z => by rw [z] at h; simp at h
theorem len__law_derived : ∀ (ds : List D) (S : Stt) (Q : QE) (E : Str → Stt → Prop), spDerived ds S Q E → ds.length = 5 := by intro ds S Q E h; delta spDerived at h; (repeat obtain ⟨_, h⟩ := h); subst_vars; rfl
theorem ok__law_derived (C : Ct) (T : Txt C) : Fn C CX0 (26 + 1) "_law_derived" ["_law_hand_here", "_law_world_here", "_law_program_here", "_law_lot_here", "_law_loose"] [] spDerived := by
  obtain ⟨fd, F⟩ := T.def_ 76 (d := d__law_derived)
  have F__law_derive := (ok__law_derive C T).mono (show 26 ≤ 26 by omega)
  have F__law_rounded := (ok__law_rounded C T).mono (show 1 ≤ 26 by omega)
  have F__law_take := (ok__law_take C T).mono (show 2 ≤ 26 by omega)
  refine Fn.of F (T.glo "_law_derived") (fun _ _ _ _ _ _ us hl => match us, hl with | [_, _, _, _, _], _ => rfl) (fnD F sc__law_derived len__law_derived (by decide) fun cdv A outer s H E hr => ⟨_,
    (dss_cons (ds_for PassesOwn.never rfl (di_seq (de_lst (da_cons (dv 3) (da_cons (de_call F__law_rounded hr (by rfl) pass0 (da_cons (de_ix ix_seq opd_ix (dv 1) de_int (fun _ _ => rfl)) (da_cons (dv 3) da_nil))) da_nil)))) (dg_name (i := 5) sc__law_derived.nd rfl (by first | exact Or.inl rfl | exact Or.inr rfl)) (dss_cons (ds_set (i := 6) sc__law_derived.nd rfl (by first | exact Or.inl rfl | exact Or.inr rfl) (de_lstH da_nil))
      (dss_one (ds_if (dt_cmp op_ge opd_B (de_call F__law_derive hr (by rfl) pass0 (da_cons (dv 0) (da_cons (dv 1) (da_cons (dv 2) (da_cons (dv 5) (da_cons (dv 6) (da_cons (dv 4) da_nil))))))) de_int (nomark _)) (dss_one (ds_ret (de_lst (da_cons (dv 2) (da_cons (dv 5) (da_cons (dv 6) da_nil)))))) dss_nil))))
      (dss_cons (ds_set (i := 6) sc__law_derived.nd rfl (by first | exact Or.inl rfl | exact Or.inr rfl) (de_lstH da_nil))
      (dss_cons (ds_set (i := 5) sc__law_derived.nd rfl (by first | exact Or.inl rfl | exact Or.inr rfl) (de_call F__law_rounded hr (by rfl) pass0 (da_cons (de_ix ix_seq opd_ix (dv 1) de_int (fun _ _ => rfl)) (da_cons (dv 3) da_nil))))
      (dss_cons (ds_set (i := 7) sc__law_derived.nd rfl (by first | exact Or.inl rfl | exact Or.inr rfl) (de_tup (da_cons de_str (da_cons (de_ix ix_seq opd_ix (de_ix ix_seq opd_ix (de_ix ix_seq opd_ix (dv 1) de_int (fun _ _ => rfl)) (de_call F__law_take hr (by rfl) pass0 (da_cons (dv 0) (da_cons (de_cb call_len calld_len (by rfl) (T.free "len") (by decide +kernel) (da_cons (de_ix ix_seq opd_ix (dv 1) de_int (fun _ _ => rfl)) da_nil)) da_nil))) (fun _ _ => rfl)) de_int (fun _ _ => rfl)) da_nil))))
      (dss_cons (ds_expr (de_call F__law_derive hr (by rfl) pass0 (da_cons (dv 0) (da_cons (dv 1) (da_cons (dv 7) (da_cons (dv 5) (da_cons (dv 6) (da_cons (dv 4) da_nil))))))))
      (dss_one (ds_ret (de_lst (da_cons (dv 7) (da_cons (dv 5) (da_cons (dv 6) da_nil))))))))))), fun ds S QD ED h => ?_⟩)
  obtain ⟨v, ms, es, P, lot, rfl, rfl, G, E, pf, hh, hl, hc, q⟩ := h
  refine ⟨ms, lot, rfl, G.ne, ?_⟩
  refine ⟨by show 2 ≤ 100000; decide, fun r ρ S' => ∃ (S2 : Stt) (rs : List Nat) (o5 o6 : Option D), r = rs.map nI ∧ (∀ x ∈ rs, x < 2 ^ v) ∧ ρ = [some (.hdl 0), some (.hdl 1), some (progD P), some (nI lot), some (.bl true), o5, o6, none] ∧ S' = .hand :: wC v ms es :: S2, ⟨[], [lot, rnd ms lot], none, none, rfl, fun x hx => ?_, rfl, rfl⟩, ?_, ?_⟩
  · rcases List.mem_cons.mp hx with z | z
    · rw [z]; exact hl
    · rw [List.mem_singleton.mp z]; exact G.rnd_lt lot
  · rintro y r ρ S' ⟨S2, rs, o5, o6, e, hrs, rfl, rfl⟩
    cases rs with
    | nil => cases e
    | cons st rs =>
      cases e
      refine ⟨by decide, ?_⟩
      refine ⟨v, ms, es, P, st, S2.length, [], S2 ++ [Cell.lst []], true, rfl, rfl, hAt, G, E, pf, hh, hrs st (List.mem_cons_self ..), .nil, by show 0 + (ocnt P + 1) ≤ 80000; omega, fun gs D1 l1 => ?_⟩
      have l1 : gs.length ≤ ocnt P + 1 := l1
      have l1 : gs.length ≤ 2001 := by omega
      have D1 : DLs v ms es gs := D1
      rw [hSet]
      refine ⟨fun _ => ?_, fun k g eg _ _ => ?_⟩
      · exact ⟨S2 ++ [Cell.lst (gs.map lnD)], rs, _, _, rfl, fun x hx => hrs x (List.mem_cons_of_mem _ hx), rfl, rfl⟩
      · exact ⟨by show 3 ≤ 100000; decide, q S2.length gs P st _ hAt D1 (ne_get (gs := gs) eg) l1⟩
  · rintro ρ S' ⟨S2, rs, o5, o6, e, hrs, rfl, rfl⟩
    refine ⟨by decide, ms, lot, rfl, G.ne, ?_⟩
    have hne : 0 < es.length := List.length_pos_iff.mpr E.ne
    refine ⟨es.length, _, by show [D.hdl 0, D.int (((es.map entD).length : Nat) : Int)] = _; rw [List.length_map], hne, by have := E.few; omega, rfl, fun r hr => ?_⟩
    conv => whnf
    rw [show ixD (es.map entD) (r : Int) = some (entD es[r]) by rw [ixD_nat, List.getElem?_map, List.getElem?_eq_getElem hr]; rfl]
    have hm : es[r].1 ∈ es.map (·.1) := List.mem_map_of_mem (List.getElem_mem hr)
    refine ⟨by show 2 ≤ 100000; decide, ?_⟩
    refine ⟨v, ms, es, .step es[r].1, rnd ms lot, S2.length, [], S2 ++ [Cell.lst []], true, rfl, rfl, hAt, G, E, ⟨hm, by show 1 ≤ 15; decide, by show 1 ≤ 7; decide, by show 0 ≤ 4; decide⟩, by show 1 ≤ 7; decide, G.rnd_lt lot, .nil, by show 0 + (1 + 1) ≤ 80000; decide, fun gs D1 l1 => ?_⟩
    have l1 : gs.length ≤ 1 + 1 := l1
    have l1 : gs.length ≤ 2001 := by omega
    have D1 : DLs v ms es gs := D1
    rw [hSet]
    refine ⟨fun hs => ?_, fun k g eg _ _ => ?_⟩
    · refine absurd ⟨es[r].1, rfl, ?_⟩ hs
      unfold sharpB
      rw [G.idem hl]
      exact decide_eq_true rfl
    · exact ⟨by show 3 ≤ 100000; decide, q S2.length gs (.step es[r].1) (rnd ms lot) _ hAt D1 (ne_get (gs := gs) eg) l1⟩
end TA
set_option Elab.async false
set_option linter.all false
set_option maxRecDepth 100000
set_option maxHeartbeats 4000000
namespace TA
open PySem PySem.Spec L2
open PyProof.Rows hiding St
/-! ## more lines -/
structure LnM (v : Nat) (ns : List Str) (h z : Nat) (l : Ln) : Prop where
  a : l.a < 2 ^ v
  e : l.e < 2 ^ v
  st : StepsIn ns l.p
  ht : ht l.p ≤ h ∧ sz l.p ≤ z
  us : l.us.length ≤ 2 ∧ ∀ k ∈ l.us, k < 100000
  w : l.w ∈ namesT
theorem LnM.mono {v h h' z z' : Nat} {ns : List Str} {l : Ln} (x : LnM v ns h z l) (e : h ≤ h') (e2 : z ≤ z') : LnM v ns h' z' l := ⟨x.a, x.e, x.st, ⟨Nat.le_trans x.ht.1 e, Nat.le_trans x.ht.2 e2⟩, x.us, x.w⟩
theorem n_step : ("step" : Str) ∈ namesT := by decide +kernel
theorem n_nothing : ("nothing" : Str) ∈ namesT := by decide +kernel
theorem n_grow : ("grow" : Str) ∈ namesT := by decide +kernel
theorem n_behind : ("behind" : Str) ∈ namesT := by decide +kernel
theorem n_either : ("either" : Str) ∈ namesT := by decide +kernel
theorem n_more : ("more" : Str) ∈ namesT := by decide +kernel
theorem n_closed : ("closed" : Str) ∈ namesT := by decide +kernel
def spMore : SpD := fun ds S Q _ => ∃ (v : Nat) (ms : List Nat) (es : List Ent) (n h z : Nat) (gs : List Ln) (S2 : Stt), ds = [.hdl 0, .hdl 1, .hdl (n + 2)] ∧ S = .hand :: wC v ms es :: S2 ∧ S2[n]? = some (.lst (gs.map lnD)) ∧ Good v ms ∧ Ents v es ∧ gs ≠ [] ∧ gs.length ≤ 3000 ∧ 1 ≤ h ∧ (∀ l ∈ gs, LnM v (es.map (·.1)) h z l) ∧
  ∀ (k : Nat) (more : List Ln), more.length ≤ 2 → (∀ l ∈ more, LnM v (es.map (·.1)) (h + 1) (2 * z + 2) l) → Q (nI k) (.hand :: wC v ms es :: S2.set n (.lst ((gs ++ more).map lnD)))
theorem lnm1 {v h z k : Nat} {ns : List Str} {a e : Nat} {p : Prog} {w : Str} (ha : a < 2 ^ v) (he : e < 2 ^ v) (hs : StepsIn ns p) (hh : ht p ≤ h ∧ sz p ≤ z) (hk : k < 100000) (hw : w ∈ namesT) : LnM v ns h z ⟨a, p, e, w, [k]⟩ := ⟨ha, he, hs, hh, ⟨by show 1 ≤ 2; decide, fun x hx => by rw [List.mem_singleton.mp hx]; exact hk⟩, hw⟩
theorem lnm0 {v h z : Nat} {ns : List Str} {a e : Nat} {p : Prog} {w : Str} (ha : a < 2 ^ v) (he : e < 2 ^ v) (hs : StepsIn ns p) (hh : ht p ≤ h ∧ sz p ≤ z) (hw : w ∈ namesT) : LnM v ns h z ⟨a, p, e, w, []⟩ := ⟨ha, he, hs, hh, ⟨by show 0 ≤ 2; decide, fun x hx => by cases hx⟩, hw⟩
theorem lnm2 {v h z k j : Nat} {ns : List Str} {a e : Nat} {p : Prog} {w : Str} (ha : a < 2 ^ v) (he : e < 2 ^ v) (hs : StepsIn ns p) (hh : ht p ≤ h ∧ sz p ≤ z) (hk : k < 100000) (hj : j < 100000) (hw : w ∈ namesT) : LnM v ns h z ⟨a, p, e, w, [k, j]⟩ := ⟨ha, he, hs, hh, ⟨Nat.le_refl _, fun x hx => by
  rcases List.mem_cons.mp hx with z | z
  · rw [z]; exact hk
  · rw [List.mem_singleton.mp z]; exact hj⟩, hw⟩
theorem len__law_more : ∀ (ds : List D) (S : Stt) (Q : QE) (E : Str → Stt → Prop), spMore ds S Q E → ds.length = 3 := by intro ds S Q E h; delta spMore at h; (repeat obtain ⟨_, h⟩ := h); subst_vars; rfl
theorem ok__law_more (C : Ct) (T : Txt C) : Fn C CX0 (3 + 1) "_law_more" ["_law_hand_here", "_law_world_here", "_law_lines"] [] spMore := by
  obtain ⟨fd, F⟩ := T.def_ 78 (d := d__law_more)
  have F__law_next := (ok__law_next C T).mono (show 1 ≤ 3 by omega)
  have F__law_put := (ok__law_put C T).mono (show 1 ≤ 3 by omega)
  have F__law_rounded := (ok__law_rounded C T).mono (show 1 ≤ 3 by omega)
  have F__law_shrunk := (ok__law_shrunk C T).mono (show 3 ≤ 3 by omega)
  have F__law_take := (ok__law_take C T).mono (show 2 ≤ 3 by omega)
  refine Fn.of F (T.glo "_law_more") (fun _ _ _ _ _ _ us hl => match us, hl with | [_, _, _], _ => rfl) (fnD F sc__law_more len__law_more (by decide) fun cdv A outer s H E hr => ⟨_,
    (dss_cons (ds_set (i := 3) sc__law_more.nd rfl (by first | exact Or.inl rfl | exact Or.inr rfl) (de_call F__law_take hr (by rfl) pass0 (da_cons (dv 0) (da_cons (de_cb call_len calld_len (by rfl) (T.free "len") (by decide +kernel) (da_cons (dv 2) da_nil)) da_nil))))
      (dss_cons (ds_set (i := 4) sc__law_more.nd rfl (by first | exact Or.inl rfl | exact Or.inr rfl) (de_call F__law_take hr (by rfl) pass0 (da_cons (dv 0) (da_cons (de_cb call_len calld_len (by rfl) (T.free "len") (by decide +kernel) (da_cons (dv 2) da_nil)) da_nil))))
      (dss_cons (ds_asg (de_slice sl_tupA sld_tup (de_ix ix_seq opd_ix (dv 2) (dv 3) (fun _ _ => rfl)) do_none (do_some de_int)) (dg_tup (n := 3) rfl (dgs_cons (dg_name (i := 5) sc__law_more.nd rfl (by first | exact Or.inl rfl | exact Or.inr rfl)) (dgs_cons (dg_name (i := 6) sc__law_more.nd rfl (by first | exact Or.inl rfl | exact Or.inr rfl)) (dgs_cons (dg_name (i := 7) sc__law_more.nd rfl (by first | exact Or.inl rfl | exact Or.inr rfl)) dgs_nil)))))
      (dss_cons (ds_set (i := 8) sc__law_more.nd rfl (by first | exact Or.inl rfl | exact Or.inr rfl) (de_op op_shl opd_IC de_int (de_ix ix_seq opd_ix (dv 1) de_int (fun _ _ => rfl))))
      (dss_cons (ds_set (i := 9) sc__law_more.nd rfl (by first | exact Or.inl rfl | exact Or.inr rfl) (de_call F__law_rounded hr (by rfl) pass0 (da_cons (de_ix ix_seq opd_ix (dv 1) de_int (fun _ _ => rfl)) (da_cons (dv 5) da_nil))))
      (dss_cons (ds_set (i := 10) sc__law_more.nd rfl (by first | exact Or.inl rfl | exact Or.inr rfl) (de_call F__law_take hr (by rfl) pass0 (da_cons (dv 0) (da_cons de_int da_nil))))
      (dss_cons (ds_if (dt_cmp op_gt opd_B (dv 10) de_int (nomark _)) (dss_cons (ds_asg (de_ix ix_seq opd_ix (de_ix ix_seq opd_ix (dv 1) de_int (fun _ _ => rfl)) (de_call F__law_take hr (by rfl) pass0 (da_cons (dv 0) (da_cons (de_cb call_len calld_len (by rfl) (T.free "len") (by decide +kernel) (da_cons (de_ix ix_seq opd_ix (dv 1) de_int (fun _ _ => rfl)) da_nil)) da_nil))) (fun _ _ => rfl)) (dg_tup (n := 2) rfl (dgs_cons (dg_name (i := 11) sc__law_more.nd rfl (by first | exact Or.inl rfl | exact Or.inr rfl)) (dgs_cons (dg_name (i := 12) sc__law_more.nd rfl (by first | exact Or.inl rfl | exact Or.inr rfl)) dgs_nil))))
      (dss_cons (ds_set (i := 13) sc__law_more.nd rfl (by first | exact Or.inl rfl | exact Or.inr rfl) (de_ifE (dt_cmp op_eq opd_eq (dv 10) de_int (nomark _)) (de_call F__law_take hr (by rfl) pass0 (da_cons (dv 0) (da_cons (dv 8) da_nil))) (dv 7)))
      (dss_one (ds_ret (de_call F__law_put hr (by rfl) pass0 (da_cons (dv 2) (da_cons (de_tup (da_cons (dv 13) (da_cons (de_tup (da_cons de_str (da_cons (dv 11) da_nil))) (da_cons (de_call F__law_next hr (by rfl) pass0 (da_cons (dv 12) (da_cons (dv 13) da_nil))) (da_cons de_str (da_cons (de_tup da_nil) da_nil)))))) da_nil))))))) dss_nil)
      (dss_cons (ds_if (dt_cmp op_eq opd_eq (dv 10) de_int (nomark _)) (dss_one (ds_ret (de_call F__law_put hr (by rfl) pass0 (da_cons (dv 2) (da_cons (de_tup (da_cons (de_op op_or opd_I (dv 5) (de_op op_and opd_I (de_call F__law_take hr (by rfl) pass0 (da_cons (dv 0) (da_cons (dv 8) da_nil))) (dv 9))) (da_cons (dv 6) (da_cons (de_call F__law_shrunk hr (by rfl) pass0 (da_cons (dv 0) (da_cons (de_ix ix_seq opd_ix (dv 1) de_int (fun _ _ => rfl)) (da_cons (dv 7) da_nil)))) (da_cons de_str (da_cons (de_tup (da_cons (dv 3) da_nil)) da_nil)))))) da_nil))))) dss_nil)
      (dss_cons (ds_if (dt_cmp op_eq opd_eq (dv 10) de_int (nomark _)) (dss_one (ds_ret (de_call F__law_put hr (by rfl) pass0 (da_cons (dv 2) (da_cons (de_tup (da_cons (de_call F__law_take hr (by rfl) pass0 (da_cons (dv 0) (da_cons (dv 8) da_nil))) (da_cons (dv 6) (da_cons (de_call F__law_take hr (by rfl) pass0 (da_cons (dv 0) (da_cons (dv 8) da_nil))) (da_cons de_str (da_cons (de_tup (da_cons (dv 3) da_nil)) da_nil)))))) da_nil))))) dss_nil)
      (dss_cons (ds_if (dt_bop (dw_or (dt_cmp op_eq opd_eq (dv 10) de_int (nomark _)) (dw_or1 (dt_cmp op_eq opd_eq (dv 10) de_int (nomark _))))) (dss_one (ds_ret (de_call F__law_put hr (by rfl) pass0 (da_cons (dv 2) (da_cons (de_tup (da_cons (dv 5) (da_cons (de_tup (da_cons de_str (da_cons (dv 6) da_nil))) (da_cons (de_op op_or opd_I (dv 5) (dv 7)) (da_cons de_str (da_cons (de_tup (da_cons (dv 3) da_nil)) da_nil)))))) da_nil))))) dss_nil)
      (dss_cons (ds_if (dt_cmp op_eq opd_eq (dv 10) de_int (nomark _)) (dss_one (ds_ret (de_call F__law_put hr (by rfl) pass0 (da_cons (dv 2) (da_cons (de_tup (da_cons (dv 5) (da_cons (de_tup (da_cons de_str (da_cons (dv 6) (da_cons (dv 6) da_nil)))) (da_cons (dv 7) (da_cons de_str (da_cons (de_tup (da_cons (dv 3) (da_cons (dv 3) da_nil))) da_nil)))))) da_nil))))) dss_nil)
      (dss_cons (ds_if (dt_cmp op_eq opd_eq (dv 10) de_int (nomark _)) (dss_cons (ds_set (i := 14) sc__law_more.nd rfl (by first | exact Or.inl rfl | exact Or.inr rfl) (de_call F__law_put hr (by rfl) pass0 (da_cons (dv 2) (da_cons (de_tup (da_cons (dv 7) (da_cons (de_tup (da_cons de_str da_nil)) (da_cons (dv 7) (da_cons de_str (da_cons (de_tup da_nil) da_nil)))))) da_nil))))
      (dss_one (ds_ret (de_call F__law_put hr (by rfl) pass0 (da_cons (dv 2) (da_cons (de_tup (da_cons (dv 5) (da_cons (de_tup (da_cons de_str (da_cons (dv 6) (da_cons (de_tup (da_cons de_str da_nil)) da_nil)))) (da_cons (dv 7) (da_cons de_str (da_cons (de_tup (da_cons (dv 3) (da_cons (dv 14) da_nil))) da_nil)))))) da_nil)))))) dss_nil)
      (dss_cons (ds_if (dt_cmp op_eq opd_eq (dv 10) de_int (nomark _)) (dss_one (ds_ret (de_call F__law_put hr (by rfl) pass0 (da_cons (dv 2) (da_cons (de_tup (da_cons (dv 5) (da_cons (de_tup (da_cons de_str (da_cons (dv 6) da_nil))) (da_cons (de_ix ix_seq opd_ix (de_ix ix_seq opd_ix (dv 2) (dv 4) (fun _ _ => rfl)) de_int (fun _ _ => rfl)) (da_cons de_str (da_cons (de_tup (da_cons (dv 3) (da_cons (dv 4) da_nil))) da_nil)))))) da_nil))))) dss_nil)
      (dss_cons (ds_if (dt_cmp op_eq opd_eq (dv 10) de_int (nomark _)) (dss_one (ds_ret (de_call F__law_put hr (by rfl) pass0 (da_cons (dv 2) (da_cons (de_tup (da_cons (dv 5) (da_cons (de_tup (da_cons de_str (da_cons (dv 6) (da_cons (de_ix ix_seq opd_ix (de_ix ix_seq opd_ix (dv 2) (dv 4) (fun _ _ => rfl)) de_int (fun _ _ => rfl)) da_nil)))) (da_cons (de_op op_or opd_I (dv 7) (de_ix ix_seq opd_ix (de_ix ix_seq opd_ix (dv 2) (dv 4) (fun _ _ => rfl)) de_int (fun _ _ => rfl))) (da_cons de_str (da_cons (de_tup (da_cons (dv 3) (da_cons (dv 4) da_nil))) da_nil)))))) da_nil))))) dss_nil)
      (dss_one (ds_ret (de_call F__law_put hr (by rfl) pass0 (da_cons (dv 2) (da_cons (de_tup (da_cons (dv 5) (da_cons (de_tup (da_cons de_str (da_cons (dv 6) (da_cons (de_ix ix_seq opd_ix (de_ix ix_seq opd_ix (dv 2) (dv 4) (fun _ _ => rfl)) de_int (fun _ _ => rfl)) da_nil)))) (da_cons (de_ix ix_seq opd_ix (de_ix ix_seq opd_ix (dv 2) (dv 4) (fun _ _ => rfl)) de_int (fun _ _ => rfl)) (da_cons de_str (da_cons (de_tup (da_cons (dv 3) (da_cons (dv 4) da_nil))) da_nil)))))) da_nil))))))))))))))))))), fun ds S QD ED h => ?_⟩)
  obtain ⟨v, ms, es, n, h, z, gs, S2, rfl, rfl, hn, G, E, hne, hlen, hh1, hall, q⟩ := h
  have hb := p2_bound G.v6
  have h0 : 0 < gs.length := List.length_pos_iff.mpr hne
  have hmap : ∀ {S : Stt}, S = S → [D.hdl 0, D.int (((gs.map lnD).length : Nat) : Int)] = [D.hdl 0, nI gs.length] := fun _ => by rw [List.length_map]
  have hput : (gs.map lnD).length < 100000 := by rw [List.length_map]; omega
  have fin1 : ∀ (l : Ln), LnM v (es.map (·.1)) (h + 1) (2 * z + 2) l → ∀ x, x = lnD l → spPut [.hdl (n + 2), x] (.hand :: wC v ms es :: S2) QD fun _ _ => False := fun l hl x ex => by
    subst ex
    exact ⟨n + 2, _, _, rfl, hn, hput, put_fin (Q := QD) (l := l) (q _ [l] (by show 1 ≤ 2; decide) fun y hy => by rw [List.mem_singleton.mp hy]; exact hl)⟩
  conv => whnf
  rw [seq_w hn]
  refine ⟨gs.length, _, hmap (S := S2) rfl, h0, by omega, rfl, fun k hk => ?_⟩
  conv => whnf
  rw [seq_w hn]
  refine ⟨gs.length, _, hmap (S := S2) rfl, h0, by omega, rfl, fun j hj => ?_⟩
  conv => whnf
  rw [seq_w hn]
  conv => whnf
  rw [ln_get (List.getElem?_eq_getElem hk)]
  have lk := hall _ (List.getElem_mem hk)
  have lj := hall _ (List.getElem_mem hj)
  generalize gs[k] = g at lk ⊢
  refine ⟨rfl, cpow1 (by have := G.v6; omega), ms, g.a, rfl, G.ne, ?_⟩
  refine ⟨11, _, rfl, by decide, by decide, rfl, fun way hw => ?_⟩
  simp only [startD, st]
  have getj : ixD (gs.map lnD) (j : Int) = some (lnD gs[j]) := ln_get (List.getElem?_eq_getElem hj)
  generalize gs[j] = gj at lj getj
  have many : D.int ((1 : Int) * 2 ^ ((v : Int)).toNat) = nI (2 ^ v) := d_shl v
  have many2 : [D.hdl 0, D.int ((1 : Int) * 2 ^ ((v : Int)).toNat)] = [.hdl 0, nI (2 ^ v)] := args_shl v
  refine ite2 (fun c => ?_) (fun c => ?_)
  · have hE : 0 < es.length := List.length_pos_iff.mpr E.ne
    refine ⟨es.length, _, by show [D.hdl 0, D.int (((es.map entD).length : Nat) : Int)] = _; rw [List.length_map], hE, by have := E.few; omega, rfl, fun r hr => ?_⟩
    conv => whnf
    rw [show ixD (es.map entD) (r : Int) = some (entD es[r]) by rw [ixD_nat, List.getElem?_map, List.getElem?_eq_getElem hr]; rfl]
    have rok := E.ok _ (List.getElem_mem hr)
    have hm : es[r].1 ∈ es.map (·.1) := List.mem_map_of_mem (List.getElem_mem hr)
    refine ⟨rfl, ite2 (fun c2 => ?_) (fun c2 => ?_)⟩
    · refine ⟨2 ^ v, _, many2, two_pos v, by omega, rfl, fun x hx => ?_⟩
      refine ⟨by show 2 ≤ 100000; decide, es[r].2, x, rfl, by rw [rok.1]; have := G.v6; omega, by decide, by show 5 ≤ 100000; decide, ?_⟩
      exact fin1 ⟨x, .step es[r].1, nextL es[r].2 x, "step", []⟩ (lnm0 hx (rok.next_lt x) hm ⟨by show 1 ≤ h + 1; omega, by show 1 ≤ 2 * z + 2; omega⟩ n_step) _ rfl
    · refine ⟨by show 2 ≤ 100000; decide, es[r].2, g.e, rfl, by rw [rok.1]; have := G.v6; omega, by decide, by show 5 ≤ 100000; decide, ?_⟩
      exact fin1 ⟨g.e, .step es[r].1, nextL es[r].2 g.e, "step", []⟩ (lnm0 lk.e (rok.next_lt g.e) hm ⟨by show 1 ≤ h + 1; omega, by show 1 ≤ 2 * z + 2; omega⟩ n_step) _ rfl
  refine ite2 (fun c => ?_) (fun c => ?_)
  · refine ⟨2 ^ v, _, many2, two_pos v, by omega, rfl, fun x hx => ?_⟩
    refine ⟨v, ms, g.e, _, rfl, rfl, G, lk.e, fun e' h1 h2 h3 => ⟨by show 1 ≤ 100000; decide, by show 5 ≤ 100000; decide, ?_⟩⟩
    refine fin1 ⟨g.a ||| (x &&& rnd ms g.a), g.p, e', "grow", [k]⟩ (lnm1 (or_lt2 lk.a (and_lt (G.rnd_lt _))) h2 lk.st ⟨Nat.le_succ_of_le lk.ht.1, by show sz g.p ≤ _; have := lk.ht.2; omega⟩ (by omega) n_grow) _ ?_
    show D.tup [.int (Builtin.bitOr (g.a : Int) (Builtin.bitAnd (x : Int) (rnd ms g.a : Int))), _, _, _, _] = _
    rw [and_nat, or_nat]
    rfl
  refine ite2 (fun c => ?_) (fun c => ?_)
  · refine ⟨2 ^ v, _, many2, two_pos v, by omega, rfl, fun x hx => ?_⟩
    refine ⟨2 ^ v, _, many2, two_pos v, by omega, rfl, fun y hy => ⟨by show 1 ≤ 100000; decide, by show 5 ≤ 100000; decide, ?_⟩⟩
    exact fin1 ⟨x, g.p, y, "grow", [k]⟩ (lnm1 hx hy lk.st ⟨Nat.le_succ_of_le lk.ht.1, by show sz g.p ≤ _; have := lk.ht.2; omega⟩ (by omega) n_grow) _ rfl
  have closed : spPut [.hdl (n + 2), .tup [nI g.a, .tup [.str "again", progD g.p], .int (Builtin.bitOr (g.a : Int) (g.e : Int)), .str "closed", .tup [nI k]]] (.hand :: wC v ms es :: S2) QD fun _ _ => False := by
    refine fin1 ⟨g.a, .again g.p, g.a ||| g.e, "closed", [k]⟩ (lnm1 lk.a (or_lt2 lk.a lk.e) lk.st ⟨Nat.succ_le_succ lk.ht.1, by show 1 + sz g.p ≤ _; have := lk.ht.2; omega⟩ (by omega) n_closed) _ ?_
    rw [or_nat]
    rfl
  refine or_ite (fun c => ?_) (fun c => ?_)
  · exact ⟨by show 2 ≤ 100000; decide, by show 1 ≤ 100000; decide, by show 5 ≤ 100000; decide, closed⟩
  refine ite2 (fun c => ?_) (fun c => ?_)
  · exact ⟨by show 3 ≤ 100000; decide, by show 2 ≤ 100000; decide, by show 5 ≤ 100000; decide, fin1 ⟨g.a, .either g.p g.p, g.e, "either", [k, k]⟩ (lnm2 lk.a lk.e ⟨lk.st, lk.st⟩ ⟨by show max (ht g.p) (ht g.p) + 1 ≤ h + 1; have := lk.ht.1; omega, by show 1 + sz g.p + sz g.p ≤ _; have := lk.ht.2; omega⟩ (by omega) (by omega) n_either) _ rfl⟩
  refine ite2 (fun c => ?_) (fun c => ?_)
  · refine ⟨by show 1 ≤ 100000; decide, by decide, by show 5 ≤ 100000; decide, n + 2, _, _, rfl, hn, hput, ?_⟩
    show gN 14 (nI (gs.map lnD).length) _ (List.set (.hand :: wC v ms es :: S2) (n + 2) (.lst (gs.map lnD ++ [lnD ⟨g.e, .nothing, g.e, "nothing", []⟩]))) _
    rw [List.length_map, map_snoc]
    have set2 : ((.hand :: wC v ms es :: S2 : Stt).set (n + 2) (.lst ((gs ++ [(⟨g.e, .nothing, g.e, "nothing", []⟩ : Ln)]).map lnD))) = .hand :: wC v ms es :: S2.set n (.lst ((gs ++ [(⟨g.e, .nothing, g.e, "nothing", []⟩ : Ln)]).map lnD)) := rfl
    rw [set2]
    refine ⟨by show 1 ≤ 100000; decide, by show 3 ≤ 100000; decide, by show 2 ≤ 100000; decide, by show 5 ≤ 100000; decide, n + 2, _, _, rfl, get_set2 hn, by rw [List.length_map, List.length_append]; show gs.length + 1 < 100000; omega, ?_⟩
    have l1 : LnM v (es.map (·.1)) (h + 1) (2 * z + 2) ⟨g.e, .nothing, g.e, "nothing", []⟩ := lnm0 lk.e lk.e trivial ⟨by show 1 ≤ h + 1; omega, by show 1 ≤ 2 * z + 2; omega⟩ n_nothing
    have l2 : LnM v (es.map (·.1)) (h + 1) (2 * z + 2) ⟨g.a, .behind g.p .nothing, g.e, "behind", [k, gs.length]⟩ := lnm2 lk.a lk.e ⟨lk.st, trivial⟩ ⟨by show max (ht g.p) 1 + 1 ≤ h + 1; have := lk.ht.1; omega, by show 1 + sz g.p + 1 ≤ _; have := lk.ht.2; omega⟩ (by omega) (by omega) n_behind
    have fin := q (gs.length + 1) [⟨g.e, .nothing, g.e, "nothing", []⟩, ⟨g.a, .behind g.p .nothing, g.e, "behind", [k, gs.length]⟩] (by show 2 ≤ 2; decide) fun y0 hz => by
      rcases List.mem_cons.mp hz with y | y
      · rw [y]; exact l1
      · rw [List.mem_singleton.mp y]; exact l2
    rw [show gs ++ [(⟨g.e, .nothing, g.e, "nothing", []⟩ : Ln), ⟨g.a, .behind g.p .nothing, g.e, "behind", [k, gs.length]⟩] = (gs ++ [⟨g.e, .nothing, g.e, "nothing", []⟩]) ++ [⟨g.a, .behind g.p .nothing, g.e, "behind", [k, gs.length]⟩] by simp, ← List.set_set (a := Cell.lst ((gs ++ [(⟨g.e, .nothing, g.e, "nothing", []⟩ : Ln)]).map lnD))] at fin
    refine put_fin (Q := QD) (l := ⟨g.a, .behind g.p .nothing, g.e, "behind", [k, gs.length]⟩) ?_
    rw [List.length_append]
    exact fin
  refine ite2 (fun c => ?_) (fun c => ?_)
  · refine ⟨by show 2 ≤ 100000; decide, ?_⟩
    conv => whnf
    rw [seq_w hn]
    conv => whnf
    rw [getj]
    exact ⟨by show 2 ≤ 100000; decide, by show 5 ≤ 100000; decide, fin1 ⟨g.a, .again g.p, gj.e, "more", [k, j]⟩ (lnm2 lk.a lj.e lk.st ⟨Nat.succ_le_succ lk.ht.1, by show 1 + sz g.p ≤ _; have := lk.ht.2; omega⟩ (by omega) (by omega) n_more) _ rfl⟩
  refine ite2 (fun c => ?_) (fun c => ?_)
  · conv => whnf
    rw [seq_w hn]
    conv => whnf
    rw [getj]
    refine ⟨by show 3 ≤ 100000; decide, ?_⟩
    conv => whnf
    rw [seq_w hn]
    conv => whnf
    rw [getj]
    refine ⟨by show 2 ≤ 100000; decide, by show 5 ≤ 100000; decide, fin1 ⟨g.a, .either g.p gj.p, g.e ||| gj.e, "either", [k, j]⟩ (lnm2 lk.a (or_lt2 lk.e lj.e) ⟨lk.st, lj.st⟩ ⟨by show max (ht g.p) (ht gj.p) + 1 ≤ h + 1; have := lk.ht.1; have := lj.ht.1; omega, by show 1 + sz g.p + sz gj.p ≤ _; have := lk.ht.2; have := lj.ht.2; omega⟩ (by omega) (by omega) n_either) _ ?_⟩
    show D.tup [_, _, .int (Builtin.bitOr (g.e : Int) (gj.e : Int)), _, _] = _
    rw [or_nat]
    rfl
  · conv => whnf
    rw [seq_w hn]
    conv => whnf
    rw [getj]
    refine ⟨by show 3 ≤ 100000; decide, ?_⟩
    conv => whnf
    rw [seq_w hn]
    conv => whnf
    rw [getj]
    exact ⟨by show 2 ≤ 100000; decide, by show 5 ≤ 100000; decide, fin1 ⟨g.a, .behind g.p gj.p, gj.e, "behind", [k, j]⟩ (lnm2 lk.a lj.e ⟨lk.st, lj.st⟩ ⟨by show max (ht g.p) (ht gj.p) + 1 ≤ h + 1; have := lk.ht.1; have := lj.ht.1; omega, by show 1 + sz g.p + sz gj.p ≤ _; have := lk.ht.2; have := lj.ht.2; omega⟩ (by omega) (by omega) n_behind) _ rfl⟩
end TA
set_option Elab.async false
set_option linter.all false
set_option maxRecDepth 100000
set_option maxHeartbeats 4000000
namespace TA
open PySem PySem.Spec L2
open PyProof.Rows hiding St
/-! ## how long data's text is -/
theorem str_len_app (a b : Str) : (a ++ b).length = a.length + b.length := strLen_append a b
theorem listText_le (ts : List Str) : (listText ts).length ≤ piled ts + 2 := by
  unfold listText
  rw [str_len_app]
  have h1 : (("]" : String) : Str).length = 1 := rfl
  cases ts with
  | nil => show (("[" : String) : Str).length + _ ≤ _; decide
  | cons t r =>
    show (textFrom (0 + 1) (("[" : Str) ++ (if 0 > 0 then ", " else "" : String) ++ t) r).length + _ ≤ _
    rw [textFrom_length_pos _ _ _ (by decide), str_len_app, str_len_app, piled_cons]
    have h2 : (("[" : String) : Str).length = 1 := rfl
    have h3 : ((if 0 > 0 then ", " else "" : String) : Str).length = 0 := rfl
    omega
theorem tupleText_le (ts : List Str) : (tupleText ts).length ≤ piled ts + 3 := by
  unfold tupleText
  rw [str_len_app, str_len_app]
  have h2 : (("(" : String) : Str).length = 1 := rfl
  have h3 : ((if ts.length == 1 then ",)" else ")" : String) : Str).length ≤ 2 := by split <;> decide
  cases ts with
  | nil => show _ + (Str.join ", " []).length + _ ≤ _; have : (Str.join (", " : String) []).length = 0 := rfl; omega
  | cons t r =>
    have := join_length_add (t :: r) (by simp)
    omega
structure TxD (k : Nat) (d : D) : Prop where
  sh : (toPy d).showable = true
  len : (toPy d).shown.length ≤ k
structure TxL (k : Nat) (ds : List D) : Prop where
  sh : PyData.showableAll (toPyL ds) = true
  len : piled (PyData.shownAll (toPyL ds)) ≤ k
theorem TxD.mono {j k : Nat} {d : D} (h : TxD j d) (e : j ≤ k) : TxD k d := ⟨h.sh, Nat.le_trans h.len e⟩
theorem TxL.nil : TxL 0 [] := ⟨rfl, Nat.le_refl _⟩
theorem TxL.cons {a b : Nat} {d : D} {ds : List D} (h : TxD a d) (r : TxL b ds) : TxL (a + 2 + b) (d :: ds) := by
  refine ⟨?_, ?_⟩
  · show ((toPy d).showable && PyData.showableAll (toPyL ds)) = true
    rw [h.sh, r.sh]; rfl
  · show piled ((toPy d).shown :: PyData.shownAll (toPyL ds)) ≤ _
    rw [piled_cons]
    have := h.len
    have := r.len
    omega
theorem TxL.tup {k : Nat} {ds : List D} (h : TxL k ds) : TxD (k + 3) (.tup ds) := ⟨h.sh, Nat.le_trans (tupleText_le _) (by have := h.len; omega)⟩
theorem TxL.lst {k : Nat} {ds : List D} (h : TxL k ds) : TxD (k + 2) (.lst ds) := ⟨h.sh, Nat.le_trans (listText_le _) (by have := h.len; omega)⟩
theorem TxL.all {m : Nat} : ∀ {ds : List D}, (∀ d ∈ ds, TxD m d) → TxL (ds.length * (m + 2)) ds
  | [], _ => by
    rw [List.length_nil, Nat.zero_mul]
    exact .nil
  | d :: ds, h => by
    have := TxL.cons (h d (List.mem_cons_self ..)) (TxL.all (m := m) fun x hx => h x (List.mem_cons_of_mem _ hx))
    rw [List.length_cons, Nat.succ_mul]
    exact ⟨this.sh, Nat.le_trans this.len (by omega)⟩
theorem TxL.mono {j k : Nat} {ds : List D} (h : TxL j ds) (e : j ≤ k) : TxL k ds := ⟨h.sh, Nat.le_trans h.len e⟩
theorem log_lt {n k : Nat} (h : n < 2 ^ k) (hk : k ≤ 1920) (h0 : 0 < k) : n.log2 < 1920 := by
  by_cases z : n = 0
  · subst z; decide
  · exact Nat.lt_of_lt_of_le ((Nat.log2_lt z).mpr h) hk
theorem tx_nat {n : Nat} (h : n < 100000) : TxD 5 (nI n) := by
  refine ⟨?_, ?_⟩
  · show decide (((n : Int)).natAbs.log2 < 1920) = true
    rw [Int.natAbs_natCast]
    exact decide_eq_true (log_lt (k := 17) (by omega) (by decide) (by decide))
  · exact toString_length_le (v := (n : Int)) (by omega) (by decide) (by omega)
theorem tx_nats {ns : List Nat} (h : ∀ n ∈ ns, n < 100000) : TxL (ns.length * 7) (ns.map nI) := by
  have := TxL.all (m := 5) (ds := ns.map nI) fun d hd => by
    obtain ⟨n, hn, e⟩ := List.mem_map.mp hd
    rw [← e]; exact tx_nat (h n hn)
  rwa [List.length_map] at this
theorem pool_tx : ∀ n ∈ pool, (reprText n).length ≤ 12 := by decide +kernel
theorem names_tx : ∀ n ∈ namesT, (reprText n).length ≤ 12 := by decide +kernel
theorem tx_str {x : Str} {k : Nat} (h : (reprText x).length ≤ k) : TxD k (.str x) := ⟨rfl, h⟩
def headsT : List Str := ["step", "nothing", "behind", "either", "again"]
theorem tx_const {x : Str} (h : x ∈ headsT) : TxD 9 (.str x) := by
  have : ∀ n ∈ headsT, (reprText n).length ≤ 9 := by decide +kernel
  exact tx_str (this x h)
theorem prog_tx {ns : List Str} (hns : ∀ n ∈ ns, (reprText n).length ≤ 12) : ∀ P : Prog, StepsIn ns P → TxD (30 * sz P) (progD P)
  | .nothing, _ => ((TxL.cons (tx_const (x := "nothing") (by decide +kernel)) .nil).tup).mono (by show _ ≤ 30 * 1; omega)
  | .step n, h => ((TxL.cons (tx_const (x := "step") (by decide +kernel)) (.cons (tx_str (hns n h)) .nil)).tup).mono (by show _ ≤ 30 * 1; omega)
  | .behind p q, h => ((TxL.cons (tx_const (x := "behind") (by decide +kernel)) (.cons (prog_tx hns p h.1) (.cons (prog_tx hns q h.2) .nil))).tup).mono (by show _ ≤ 30 * (1 + sz p + sz q); omega)
  | .either p q, h => ((TxL.cons (tx_const (x := "either") (by decide +kernel)) (.cons (prog_tx hns p h.1) (.cons (prog_tx hns q h.2) .nil))).tup).mono (by show _ ≤ 30 * (1 + sz p + sz q); omega)
  | .again p, h => ((TxL.cons (tx_const (x := "again") (by decide +kernel)) (.cons (prog_tx hns p h) .nil)).tup).mono (by show _ ≤ 30 * (1 + sz p); omega)
end TA
set_option Elab.async false
set_option linter.all false
set_option maxRecDepth 100000
set_option maxHeartbeats 4000000
namespace TA
open PySem PySem.Spec L2
open PyProof.Rows hiding St
/-! ## told as due -/
inductive FlatE : D → Prop where
  | non : FlatE .non
  | int (i : Int) : FlatE (.int i)
  | str (x : Str) : FlatE (.str x)
def spExact (f : Nat) : SpD := fun ds S Q _ => ∃ d, ds = [d, d] ∧ ((1 ≤ f ∧ FlatE d) ∨ (2 ≤ f ∧ ∃ items, d = .tup items ∧ items.length ≤ 1000 ∧ ∀ x ∈ items, FlatE x)) ∧ Q (.bl true) S
theorem none__law_exact (C : Ct) (T : Txt C) : Fn C CX0 1 "_law_exact" ["_law_told", "_law_due"] [] (fun _ _ _ _ => False) := by
  obtain ⟨fd, F⟩ := T.def_ 53 (d := d__law_exact)
  exact Fn.of F (T.glo "_law_exact") (fun _ _ _ _ _ _ us hl => match us, hl with | [_, _], _ => rfl) (fnD F sc__law_exact (fun _ _ _ _ h => h.elim) (by decide) fun cdv A outer s H E hr => ⟨_, dss_never, fun _ _ _ _ h => h.elim⟩)
theorem len__law_exact : ∀ (ds : List D) (S : Stt) (Q : QE) (E : Str → Stt → Prop), (spExact (f + 1)) ds S Q E → ds.length = 2 := by intro ds S Q E h; delta spExact at h; (repeat obtain ⟨_, h⟩ := h); subst_vars; rfl
theorem step__law_exact (C : Ct) (T : Txt C) (f : Nat) (F__law_exact : Fn C CX0 (f + 1) "_law_exact" ["_law_told", "_law_due"] [] (spExact f)) : Fn C CX0 ((f + 1) + 1) "_law_exact" ["_law_told", "_law_due"] [] (spExact (f + 1)) := by
  obtain ⟨fd, F⟩ := T.def_ 53 (d := d__law_exact)
  have F__law_int := (ok__law_int C T).mono (show 1 ≤ (f + 1) by omega)
  refine Fn.of F (T.glo "_law_exact") (fun _ _ _ _ _ _ us hl => match us, hl with | [_, _], _ => rfl) (fnD F sc__law_exact len__law_exact (by decide) fun cdv A outer s H E hr => ⟨_,
    (dss_cons (ds_if (dt_val (de_isituple (T.free "isinstance") (T.free "tuple") (dv 1))) (dss_cons (ds_if (dt_bop (dw_or (dt_not (dt_val (de_isituple (T.free "isinstance") (T.free "tuple") (dv 0)))) (dw_or1 (dt_cmp op_ne opd_ne (de_cb call_len calld_len (by rfl) (T.free "len") (by decide +kernel) (da_cons (dv 0) da_nil)) (de_cb call_len calld_len (by rfl) (T.free "len") (by decide +kernel) (da_cons (dv 1) da_nil)) (nomark _))))) (dss_one (ds_ret de_bl)) dss_nil)
      (dss_one (ds_ret (de_cmp (op_eqD hr.units) opd_eqD (de_lc (own := [("_law_k", 2)]) (g := gName 2) (dg := gN 2) rfl sc__law_exact.nd (di_rng1 (by rfl) (T.free "range") (da_cons (de_cb call_len calld_len (by rfl) (T.free "len") (by decide +kernel) (da_cons (dv 1) da_nil)) da_nil)) (blkOk_by (N := ["_law_told", "_law_due", "_law_k"]) (sc := defScope (topS 77)) (by decide +kernel)) (own_name (by decide)) (fun _ _ _ _ _ => pg_name (i := 2) sc__law_exact.nd rfl (by first | exact Or.inl rfl | exact Or.inr rfl)) (fun _ _ _ _ _ => dts_one (dt_not (dt_val (de_call F__law_exact hr (by rfl) pass0 (da_cons (de_ix ix_seq opd_ix (dv 0) (dv 2) (fun _ _ => rfl)) (da_cons (de_ix ix_seq opd_ix (dv 1) (dv 2) (fun _ _ => rfl)) da_nil)))))) (fun _ _ _ _ _ => (dv 2))) (de_lst da_nil) (nomark _))))) dss_nil)
      (dss_cons (ds_if (dt_cmp op_isN opd_isN (dv 1) de_non (nomark _)) (dss_one (ds_ret (de_cmp op_isN opd_isN (dv 0) de_non (nomark _)))) dss_nil)
      (dss_cons (ds_if (dt_val (de_isibool (T.free "isinstance") (T.free "bool") (dv 1))) (dss_one (ds_ret (de_ifE (dt_val (dv 1)) (de_cmp op_isBl opd_isB (dv 0) de_bl (nomark _)) (de_cmp op_isBl opd_isB (dv 0) de_bl (nomark _))))) dss_nil)
      (dss_cons (ds_if (dt_val (de_isistr (T.free "isinstance") (T.free "str") (dv 1))) (dss_one (ds_ret (de_and (de_isistr (T.free "isinstance") (T.free "str") (dv 0)) (de_one (de_cmp op_eq opd_eq (dv 0) (dv 1) (nomark _)))))) dss_nil)
      (dss_one (ds_ret (de_and (de_call F__law_int hr (by rfl) pass0 (da_cons (dv 0) da_nil)) (de_one (de_cmp op_eq opd_eq (dv 0) (dv 1) (nomark _)))))))))), fun ds S QD ED h => ?_⟩)
  obtain ⟨d, rfl, hd, q⟩ := h
  rcases hd with ⟨_, hd⟩ | ⟨hf, items, rfl, hl, hx⟩
  · cases hd with
    | non => exact ⟨rfl, q⟩
    | int i =>
      refine ⟨rfl, rfl, rfl, .int i, rfl, rfl, ?_⟩
      show QD (.bl (decide (i = i))) S
      rw [decide_eq_true rfl]
      exact q
    | str x =>
      refine ⟨rfl, rfl, rfl, rfl, ?_⟩
      show QD (.bl (decide (x = x))) S
      rw [decide_eq_true rfl]
      exact q
  · refine ⟨rfl, rfl, ?_⟩
    refine ite_false (b := !decide (((items.length : Nat) : Int) = ((items.length : Nat) : Int))) (by rw [decide_eq_true rfl]; rfl) ?_
    refine ⟨by omega, by omega, ?_⟩
    rw [ints0]
    refine ⟨by rw [List.length_map, List.length_range']; omega, fun r acc S' => ∃ k, k ≤ items.length ∧ r = (List.range' k (items.length - k)).map nI ∧ acc = [] ∧ S' = S, ⟨0, by omega, rfl, rfl, rfl⟩, ?_, ?_⟩
    · rintro x r acc S' ⟨k, hk, e, rfl, rfl⟩
      obtain ⟨h1, rfl, rfl⟩ := rng_cases hk e
      conv => whnf
      rw [ix_of (List.getElem?_eq_getElem h1)]
      conv => whnf
      rw [ix_of (List.getElem?_eq_getElem h1)]
      exact ⟨items[k], rfl, .inl ⟨by omega, hx _ (List.getElem_mem h1)⟩, k + 1, h1, rfl, rfl, rfl⟩
    · rintro acc S' ⟨k, hk, e, rfl, rfl⟩
      exact ⟨by decide, (ok_lst (k := 0) (by simp)).eq, (ok_lst (k := 0) (by simp)).eq, q⟩
theorem exact_fn (C : Ct) (T : Txt C) : ∀ f, Fn C CX0 (f + 1) "_law_exact" ["_law_told", "_law_due"] [] (spExact f)
  | 0 => ((none__law_exact C T).mono (by omega)).imp fun ds S Q E ⟨d, _, h, _⟩ => by rcases h with ⟨h, _⟩ | ⟨h, _⟩ <;> omega
  | f + 1 => step__law_exact C T f (exact_fn C T f)
theorem ok__law_exact (C : Ct) (T : Txt C) : Fn C CX0 3 "_law_exact" ["_law_told", "_law_due"] [] (spExact 2) := exact_fn C T 2
/-! ## odd things -/
structure Cm (d : D) : Prop where
  t : hasT d
  ok : OkD 5 d
  tx : TxD 200 d
theorem cm_pos {i : Int} (h0 : 0 ≤ i) (h : i < 10 ^ 40) : Cm (.int i) := ⟨rfl, ok_int _, ⟨decide_eq_true (log_lt (k := 200) (by
  have h2 : (10 : Int) ^ 40 < 2 ^ 200 := by decide
  omega) (by decide) (by decide)), Nat.le_trans (toString_length_le (v := i) h0 (k := 40) (by decide) h) (by decide)⟩⟩
theorem cm_nat {n : Nat} (h : n < 100000) : Cm (nI n) := cm_pos (by omega) (by omega)
theorem cm_neg1 : Cm (.int (-1)) := ⟨rfl, ok_int _, ⟨by decide, by show (Str.ofString (toString (-1 : Int))).length ≤ 200; decide +kernel⟩⟩
theorem cm_str {x : Str} (h : PyData.canLay0 (.str x) = true ∧ (reprText x).length ≤ 200) : Cm (.str x) := ⟨rfl, ok_str _ h.1, tx_str h.2⟩
theorem cm_non : Cm .non := ⟨rfl, ok_non, ⟨rfl, by decide⟩⟩
theorem cm_bl (b : Bool) : Cm (.bl b) := ⟨rfl, ok_bl _, ⟨rfl, by cases b <;> decide⟩⟩
def spOdd : SpD := fun ds S Q _ => ∃ (v : Nat) (S2 : Stt), ds = [.hdl 0, nI v] ∧ S = .hand :: S2 ∧ v ≤ 6 ∧ ∀ d, Cm d → Q d S
theorem len__law_odd : ∀ (ds : List D) (S : Stt) (Q : QE) (E : Str → Stt → Prop), spOdd ds S Q E → ds.length = 2 := by intro ds S Q E h; delta spOdd at h; (repeat obtain ⟨_, h⟩ := h); subst_vars; rfl
theorem ok__law_odd (C : Ct) (T : Txt C) : Fn C CX0 (2 + 1) "_law_odd" ["_law_hand_here", "_law_v"] [] spOdd := by
  obtain ⟨fd, F⟩ := T.def_ 77 (d := d__law_odd)
  have F__law_take := (ok__law_take C T).mono (show 2 ≤ 2 by omega)
  refine Fn.of F (T.glo "_law_odd") (fun _ _ _ _ _ _ us hl => match us, hl with | [_, _], _ => rfl) (fnD F sc__law_odd len__law_odd (by decide) fun cdv A outer s H E hr => ⟨_,
    (dss_one (ds_ret (de_ix ix_seq opd_ix (de_tup (da_cons de_non (da_cons de_str (da_cons de_bl (da_cons (de_un un_neg und_neg de_int) (da_cons (de_op op_shl opd_IC de_int (dv 1)) (da_cons (de_op op_pow opd_IC de_int de_int) (da_cons (de_tup (da_cons de_int da_nil)) (da_cons de_bl da_nil))))))))) (de_call F__law_take hr (by rfl) pass0 (da_cons (dv 0) (da_cons de_int da_nil))) (fun _ _ => rfl)))), fun ds S QD ED h => ?_⟩)
  obtain ⟨v, S2, rfl, rfl, h6, q⟩ := h
  have hb := p2_bound h6
  refine ⟨cpow1 (by omega), ⟨by decide, by decide, by decide⟩, by show 1 ≤ 100000; decide, by show 8 ≤ 100000; decide, 8, S2, rfl, by decide, by decide, rfl, fun r hr => ?_⟩
  have c4 : Cm (.int ((1 : Int) * 2 ^ ((v : Int)).toNat)) := by
    rw [d_shl]; exact cm_nat (by omega)
  match r, hr with
  | 0, _ => exact q _ cm_non
  | 1, _ => exact q _ (cm_str (by decide +kernel))
  | 2, _ => exact q _ (cm_bl _)
  | 3, _ => exact q _ cm_neg1
  | 4, _ => exact q _ c4
  | 5, _ => exact q _ (cm_pos (by decide) (by decide))
  | 6, _ => exact q _ ⟨rfl, (ok_tup (k := 0) (by simp; exact ok_int _)).mono (by decide), ((TxL.cons (tx_nat (n := 1) (by decide)) .nil).tup).mono (by decide)⟩
  | 7, _ => exact q _ (cm_bl _)
  | n + 8, h => exact absurd h (by omega)
end TA
set_option Elab.async false
set_option linter.all false
set_option maxRecDepth 100000
set_option maxHeartbeats 4000000
namespace TA
open PySem PySem.Spec L2
open PyProof.Rows hiding St
/-! ## wrong programs -/
structure NsT (ns : List Str) : Prop where
  tx : ∀ n ∈ ns, (reprText n).length ≤ 12
  ok : NsOk ns
structure WO (d : D) : Prop where
  wp : WP d
  ok : OkD 30 d
  tx : TxD 12000 d
theorem prog_items {ns : List Str} (hn : NsT ns) : ∀ P : Prog, StepsIn ns P → ∃ items, progD P = .tup items ∧ TxL (30 * sz P) items
  | .nothing, _ => ⟨_, rfl, (TxL.cons (tx_const (x := "nothing") (by decide +kernel)) .nil).mono (by show _ ≤ 30 * 1; omega)⟩
  | .step n, h => ⟨_, rfl, (TxL.cons (tx_const (x := "step") (by decide +kernel)) (.cons (tx_str (hn.tx n h)) .nil)).mono (by show _ ≤ 30 * 1; omega)⟩
  | .behind p q, h => ⟨_, rfl, (TxL.cons (tx_const (x := "behind") (by decide +kernel)) (.cons (prog_tx hn.tx p h.1) (.cons (prog_tx hn.tx q h.2) .nil))).mono (by show _ ≤ 30 * (1 + sz p + sz q); omega)⟩
  | .either p q, h => ⟨_, rfl, (TxL.cons (tx_const (x := "either") (by decide +kernel)) (.cons (prog_tx hn.tx p h.1) (.cons (prog_tx hn.tx q h.2) .nil))).mono (by show _ ≤ 30 * (1 + sz p + sz q); omega)⟩
  | .again p, h => ⟨_, rfl, (TxL.cons (tx_const (x := "again") (by decide +kernel)) (.cons (prog_tx hn.tx p h) .nil)).mono (by show _ ≤ 30 * (1 + sz p); omega)⟩
theorem ok_items {k : Nat} {items : List D} (h : OkD k (.tup items)) : OkD k (.lst items) := ⟨h.pure, h.lay, h.dep⟩
theorem okk {w : Str} {k : Nat} (h : w ∈ headsT) : OkD k (.str w) := ok_str w ((by decide +kernel : ∀ x ∈ headsT, PyData.canLay0 (.str x) = true) w h)
theorem h_step : ("step" : Str) ∈ headsT := by decide +kernel
theorem h_nothing : ("nothing" : Str) ∈ headsT := by decide +kernel
theorem h_behind : ("behind" : Str) ∈ headsT := by decide +kernel
theorem h_either : ("either" : Str) ∈ headsT := by decide +kernel
theorem h_again : ("again" : Str) ∈ headsT := by decide +kernel
theorem ok_noth {k : Nat} : OkD (k + 1) (.tup [.str "nothing"]) := ok_tup fun d hd => by rw [List.mem_singleton.mp hd]; exact okk h_nothing
theorem mem2 {a b d : D} {P : D → Prop} (ha : P a) (hb : P b) (h : d ∈ [a, b]) : P d := by
  rcases List.mem_cons.mp h with z | z
  · rw [z]; exact ha
  · rw [List.mem_singleton.mp z]; exact hb
theorem mem3 {a b c d : D} {P : D → Prop} (ha : P a) (hb : P b) (hc : P c) (h : d ∈ [a, b, c]) : P d := by
  rcases List.mem_cons.mp h with z | z
  · rw [z]; exact ha
  · exact mem2 hb hc z
def spWrongP : SpD := fun ds S Q _ => ∃ (ns : List Str) (P : Prog) (S2 : Stt), ds = [.hdl 0, progD P] ∧ S = .hand :: S2 ∧ StepsIn ns P ∧ NsT ns ∧ ht P ≤ 12 ∧ sz P ≤ 300 ∧ ∀ d, WO d → Q d S
theorem len__law_wrong_program : ∀ (ds : List D) (S : Stt) (Q : QE) (E : Str → Stt → Prop), spWrongP ds S Q E → ds.length = 2 := by intro ds S Q E h; delta spWrongP at h; (repeat obtain ⟨_, h⟩ := h); subst_vars; rfl
theorem ok__law_wrong_program (C : Ct) (T : Txt C) : Fn C CX0 (2 + 1) "_law_wrong_program" ["_law_hand_here", "_law_program_here"] [] spWrongP := by
  obtain ⟨fd, F⟩ := T.def_ 79 (d := d__law_wrong_program)
  have F__law_take := (ok__law_take C T).mono (show 2 ≤ 2 by omega)
  refine Fn.of F (T.glo "_law_wrong_program") (fun _ _ _ _ _ _ us hl => match us, hl with | [_, _], _ => rfl) (fnD F sc__law_wrong_program len__law_wrong_program (by decide) fun cdv A outer s H E hr => ⟨_,
    (dss_cons (ds_set (i := 2) sc__law_wrong_program.nd rfl (by first | exact Or.inl rfl | exact Or.inr rfl) (de_call F__law_take hr (by rfl) pass0 (da_cons (dv 0) (da_cons de_int da_nil))))
      (dss_cons (ds_if (dt_cmp op_gt opd_B (dv 2) de_int (nomark _)) (dss_one (ds_ret (de_ifE (dt_cmp op_eq opd_eq (dv 2) de_int (nomark _)) (de_tup (da_cons (de_lst (da_cons de_str da_nil)) (da_cons de_str da_nil))) (de_tup (da_cons de_str (da_cons (de_lst (da_cons de_str da_nil)) da_nil)))))) dss_nil)
      (dss_cons (ds_if (dt_cmp op_eq opd_eq (dv 2) de_int (nomark _)) (dss_one (ds_ret (de_cty call_list_of calld_list (by rfl) (T.free "list") (by decide +kernel) (da_cons (dv 1) da_nil)))) dss_nil)
      (dss_cons (ds_if (dt_cmp op_eq opd_eq (dv 2) de_int (nomark _)) (dss_one (ds_ret (de_tup (da_cons de_str (da_cons de_str da_nil))))) dss_nil)
      (dss_cons (ds_if (dt_cmp op_eq opd_eq (dv 2) de_int (nomark _)) (dss_one (ds_ret (de_tup (da_cons de_str (da_cons (dv 1) da_nil))))) dss_nil)
      (dss_cons (ds_if (dt_bop (dw_or (dt_cmp op_eq opd_eq (dv 2) de_int (nomark _)) (dw_or1 (dt_cmp op_eq opd_eq (dv 2) de_int (nomark _))))) (dss_cons (ds_set (i := 3) sc__law_wrong_program.nd rfl (by first | exact Or.inl rfl | exact Or.inr rfl) (dv 1))
      (dss_cons (ds_for PassesOwn.never rfl (di_rng1 (by rfl) (T.free "range") (da_cons (de_call F__law_take hr (by rfl) pass0 (da_cons (dv 0) (da_cons de_int da_nil))) da_nil)) (dg_name (i := 4) sc__law_wrong_program.nd rfl (by first | exact Or.inl rfl | exact Or.inr rfl)) (dss_one (ds_set (i := 3) sc__law_wrong_program.nd rfl (by first | exact Or.inl rfl | exact Or.inr rfl) (de_ifE (dt_cmp op_eq opd_eq (dv 2) de_int (nomark _)) (de_tup (da_cons de_str (da_cons (de_tup (da_cons de_str da_nil)) (da_cons (dv 3) da_nil)))) (de_tup (da_cons de_str (da_cons (dv 3) (da_cons (de_tup (da_cons de_str da_nil)) da_nil))))))))
      (dss_one (ds_ret (dv 3))))) dss_nil)
      (dss_cons (ds_if (dt_cmp op_eq opd_eq (dv 2) de_int (nomark _)) (dss_cons (ds_set (i := 3) sc__law_wrong_program.nd rfl (by first | exact Or.inl rfl | exact Or.inr rfl) (dv 1))
      (dss_cons (ds_for PassesOwn.never rfl (di_rng1 (by rfl) (T.free "range") (da_cons (de_call F__law_take hr (by rfl) pass0 (da_cons (dv 0) (da_cons de_int da_nil))) da_nil)) (dg_name (i := 4) sc__law_wrong_program.nd rfl (by first | exact Or.inl rfl | exact Or.inr rfl)) (dss_one (ds_set (i := 3) sc__law_wrong_program.nd rfl (by first | exact Or.inl rfl | exact Or.inr rfl) (de_tup (da_cons de_str (da_cons (dv 3) da_nil))))))
      (dss_one (ds_ret (dv 3))))) dss_nil)
      (dss_cons (ds_if (dt_cmp op_eq opd_eq (dv 2) de_int (nomark _)) (dss_one (ds_ret (de_tup (da_cons de_str (da_cons de_int da_nil))))) dss_nil)
      (dss_cons (ds_if (dt_cmp op_eq opd_eq (dv 2) de_int (nomark _)) (dss_one (ds_ret (de_tup (da_cons de_str (da_cons de_int da_nil))))) dss_nil)
      (dss_cons (ds_if (dt_cmp op_eq opd_eq (dv 2) de_int (nomark _)) (dss_one (ds_ret (de_tup da_nil))) dss_nil)
      (dss_one (ds_ret de_str)))))))))))), fun ds S QD ED h => ?_⟩)
  obtain ⟨ns, P, S2, rfl, rfl, hs, hn, hh, hz, q⟩ := h
  obtain ⟨items, eP, tx⟩ := prog_items hn P hs
  have okP : OkD 12 (progD P) := prog_ok hn.ok hs hh
  have txP : TxD 9003 (progD P) := by rw [eP]; exact tx.tup.mono (by omega)
  refine ⟨12, S2, rfl, by decide, by decide, rfl, fun way hw => ?_⟩
  refine ite2 (fun c => ?_) (fun c => ?_)
  · refine ite2 (fun c => ?_) (fun c => ?_)
    · refine ⟨by show 1 ≤ 100000; decide, by show 2 ≤ 100000; decide, q _ ⟨.odd rfl rfl, ?_, ?_⟩⟩
      · exact (ok_tup (k := 2) fun d hd => mem2 ((ok_lst (k := 1) fun d hd => by rw [List.mem_singleton.mp hd]; exact okk h_step)) (ok_str _ (by decide +kernel)) hd).mono (by decide)
      · exact (TxL.cons ((TxL.cons (tx_const h_step) .nil).lst) (.cons (tx_str (k := 12) (pool_tx "f" (by decide +kernel))) .nil)).tup.mono (by decide)
    · refine ⟨by show 1 ≤ 100000; decide, by show 2 ≤ 100000; decide, q _ ⟨.step rfl, ?_, ?_⟩⟩
      · exact (ok_tup (k := 2) fun d hd => mem2 (okk h_step) ((ok_lst (k := 1) fun d hd => by rw [List.mem_singleton.mp hd]; exact ok_str _ (by decide +kernel))) hd).mono (by decide)
      · exact (TxL.cons (tx_const h_step) (.cons ((TxL.cons (tx_str (k := 12) (pool_tx "f" (by decide +kernel))) .nil).lst) .nil)).tup.mono (by decide)
  refine ite2 (fun c => ?_) (fun c => ?_)
  · conv => whnf
    rw [eP]
    rw [eP] at okP
    exact q _ ⟨.other rfl rfl, (ok_items okP).mono (by decide), tx.lst.mono (by omega)⟩
  refine ite2 (fun c => ?_) (fun c => ?_)
  · refine ⟨by show 2 ≤ 100000; decide, q _ ⟨.step rfl, ?_, ?_⟩⟩
    · exact (ok_tup (k := 1) fun d hd => mem2 (okk h_step) (ok_str _ (by decide +kernel)) hd).mono (by decide)
    · exact (TxL.cons (tx_const h_step) (.cons (tx_str (k := 12) (by decide +kernel)) .nil)).tup.mono (by decide)
  refine ite2 (fun c => ?_) (fun c => ?_)
  · refine ⟨by show 2 ≤ 100000; decide, q _ ⟨.short (.inr (.inr (.inl rfl))) (by show 1 + 1 ≠ sizeW "behind"; decide +kernel), ?_, ?_⟩⟩
    · exact (ok_tup (k := 12) fun d hd => mem2 (okk h_behind) okP hd).mono (by decide)
    · exact (TxL.cons (tx_const h_behind) (.cons txP .nil)).tup.mono (by decide)
  refine or_ite (fun c => ?_) (fun c => ?_)
  · refine ⟨14, S2, rfl, by decide, by decide, rfl, fun m hm => ?_⟩
    refine ⟨by omega, by omega, ?_⟩
    rw [ints0]
    simp only [startD, st]
    refine ⟨fun r ρ S' => ∃ (k : Nat) (d : D) (o4 : Option D), k ≤ m ∧ r = (List.range' k (m - k)).map nI ∧ ρ = [some (.hdl 0), some (progD P), some (nI way), some d, o4] ∧ S' = .hand :: S2 ∧ WP d ∧ OkD (12 + k) d ∧ TxD (9003 + 40 * k) d, ⟨0, progD P, none, by omega, rfl, rfl, rfl, prog_wp P, okP, txP⟩, ?_, ?_⟩
    · rintro x r ρ S' ⟨k, d, o4, hk, e, rfl, rfl, w1, w2, w3⟩
      obtain ⟨h1, rfl, rfl⟩ := rng_cases hk e
      have n1 : OkD (12 + k) (.tup [.str "nothing"]) := by rw [Nat.add_comm]; exact ok_noth (k := k + 11)
      have t1 : TxD 14 (.tup [.str "nothing"]) := (TxL.cons (tx_const h_nothing) .nil).tup
      refine ite2 (fun c => ?_) (fun c => ?_)
      · exact ⟨by show 1 ≤ 100000; decide, by show 3 ≤ 100000; decide, k + 1, _, _, h1, rfl, rfl, rfl, .behind .nothing w1, ok_tup (k := 12 + k) fun d hd => mem3 (okk h_behind) n1 w2 hd, (TxL.cons (tx_const h_behind) (.cons t1 (.cons w3 .nil))).tup.mono (by omega)⟩
      · exact ⟨by show 1 ≤ 100000; decide, by show 3 ≤ 100000; decide, k + 1, _, _, h1, rfl, rfl, rfl, .either w1 .nothing, ok_tup (k := 12 + k) fun d hd => mem3 (okk h_either) w2 n1 hd, (TxL.cons (tx_const h_either) (.cons w3 (.cons t1 .nil))).tup.mono (by omega)⟩
    · rintro ρ S' ⟨k, d, o4, hk, e, rfl, rfl, w1, w2, w3⟩
      exact q d ⟨w1, w2.mono (by omega), w3.mono (by omega)⟩
  refine ite2 (fun c => ?_) (fun c => ?_)
  · refine ⟨6, S2, rfl, by decide, by decide, rfl, fun m hm => ?_⟩
    refine ⟨by omega, by omega, ?_⟩
    rw [ints0]
    simp only [startD, st]
    refine ⟨fun r ρ S' => ∃ (k : Nat) (d : D) (o4 : Option D), k ≤ m ∧ r = (List.range' k (m - k)).map nI ∧ ρ = [some (.hdl 0), some (progD P), some (nI way), some d, o4] ∧ S' = .hand :: S2 ∧ WP d ∧ OkD (12 + k) d ∧ TxD (9003 + 40 * k) d, ⟨0, progD P, none, by omega, rfl, rfl, rfl, prog_wp P, okP, txP⟩, ?_, ?_⟩
    · rintro x r ρ S' ⟨k, d, o4, hk, e, rfl, rfl, w1, w2, w3⟩
      obtain ⟨h1, rfl, rfl⟩ := rng_cases hk e
      exact ⟨by show 2 ≤ 100000; decide, k + 1, _, _, h1, rfl, rfl, rfl, .again w1, ok_tup (k := 12 + k) fun d hd => mem2 (okk h_again) w2 hd, (TxL.cons (tx_const h_again) (.cons w3 .nil)).tup.mono (by omega)⟩
    · rintro ρ S' ⟨k, d, o4, hk, e, rfl, rfl, w1, w2, w3⟩
      exact q d ⟨w1, w2.mono (by omega), w3.mono (by omega)⟩
  refine ite2 (fun c => ?_) (fun c => ?_)
  · refine ⟨by show 2 ≤ 100000; decide, q _ ⟨.short (.inr (.inl rfl)) (by decide), ?_, ?_⟩⟩
    · exact (ok_tup (k := 1) fun d hd => mem2 (okk h_nothing) (ok_int 1) hd).mono (by decide)
    · exact (TxL.cons (tx_const h_nothing) (.cons (tx_nat (n := 1) (by decide)) .nil)).tup.mono (by decide)
  refine ite2 (fun c => ?_) (fun c => ?_)
  · refine ⟨by show 2 ≤ 100000; decide, q _ ⟨.step rfl, ?_, ?_⟩⟩
    · exact (ok_tup (k := 1) fun d hd => mem2 (okk h_step) (ok_int 5) hd).mono (by decide)
    · exact (TxL.cons (tx_const h_step) (.cons (tx_nat (n := 5) (by decide)) .nil)).tup.mono (by decide)
  refine ite2 (fun c => ?_) (fun c => ?_)
  · exact ⟨by decide, q _ ⟨.nil, (ok_tup (k := 0) (by simp)).mono (by decide), (TxL.nil.tup).mono (by decide)⟩⟩
  · exact q _ ⟨.other rfl rfl, okk h_nothing, (tx_const h_nothing).mono (by decide)⟩
end TA
set_option Elab.async false
set_option linter.all false
set_option maxRecDepth 100000
set_option maxHeartbeats 4000000
namespace TA
open PySem PySem.Spec L2
open PyProof.Rows hiding St
/-! ## wrong uppers -/
structure UO (d : D) : Prop where
  up : UpsIn d
  ok : OkD 6 d
  tx : TxD 2000 d
theorem uo_tup {us : List D} (hl : us.length ≤ 4) (h : ∀ u ∈ us, Cm u) : UO (.tup us) :=
  ⟨⟨rfl, fun ws e x hx => by cases e; exact (h x hx).t⟩, ok_tup fun d hd => (h d hd).ok, ((TxL.all fun d hd => (h d hd).tx).tup).mono (by omega)⟩
theorem uo_lst {us : List D} (hl : us.length ≤ 4) (h : ∀ u ∈ us, Cm u) : UO (.lst us) :=
  ⟨⟨rfl, fun ws e x hx => by cases e⟩, ok_lst fun d hd => (h d hd).ok, ((TxL.all fun d hd => (h d hd).tx).lst).mono (by omega)⟩
theorem cut_len (us : List D) (lo hi : Option Int) : (cutD us lo hi).length ≤ us.length := by
  unfold cutD
  simp only [List.length_take, List.length_drop]
  omega
theorem cut_mem {us : List D} {lo hi : Option Int} {u : D} (h : u ∈ cutD us lo hi) : u ∈ us := by
  unfold cutD at h
  exact List.mem_of_mem_drop (List.mem_of_mem_take h)
def spWrongU : SpD := fun ds S Q _ => ∃ (us : List D) (n : Nat) (S2 : Stt), ds = [.hdl 0, .tup us, nI n] ∧ S = .hand :: S2 ∧ us.length ≤ 2 ∧ (∀ u ∈ us, Cm u) ∧ n < 50000 ∧ ∀ d, UO d → Q d S
theorem len__law_wrong_uppers : ∀ (ds : List D) (S : Stt) (Q : QE) (E : Str → Stt → Prop), spWrongU ds S Q E → ds.length = 3 := by intro ds S Q E h; delta spWrongU at h; (repeat obtain ⟨_, h⟩ := h); subst_vars; rfl
theorem ok__law_wrong_uppers (C : Ct) (T : Txt C) : Fn C CX0 (2 + 1) "_law_wrong_uppers" ["_law_hand_here", "_law_uppers", "_law_number"] [] spWrongU := by
  obtain ⟨fd, F⟩ := T.def_ 80 (d := d__law_wrong_uppers)
  have F__law_take := (ok__law_take C T).mono (show 2 ≤ 2 by omega)
  refine Fn.of F (T.glo "_law_wrong_uppers") (fun _ _ _ _ _ _ us hl => match us, hl with | [_, _, _], _ => rfl) (fnD F sc__law_wrong_uppers len__law_wrong_uppers (by decide) fun cdv A outer s H E hr => ⟨_,
    (dss_cons (ds_set (i := 3) sc__law_wrong_uppers.nd rfl (by first | exact Or.inl rfl | exact Or.inr rfl) (de_call F__law_take hr (by rfl) pass0 (da_cons (dv 0) (da_cons de_int da_nil))))
      (dss_cons (ds_if (dt_cmp op_eq opd_eq (dv 3) de_int (nomark _)) (dss_one (ds_ret (de_cty call_list_of calld_list (by rfl) (T.free "list") (by decide +kernel) (da_cons (dv 1) da_nil)))) dss_nil)
      (dss_cons (ds_if (dt_cmp op_eq opd_eq (dv 3) de_int (nomark _)) (dss_one (ds_ret (de_op op_catA opd_catT (dv 1) (de_tup (da_cons de_int da_nil))))) dss_nil)
      (dss_cons (ds_if (dt_cmp op_eq opd_eq (dv 3) de_int (nomark _)) (dss_one (ds_ret (de_slice sl_tupA sld_tup (dv 1) do_none (do_some (de_un un_neg und_neg de_int))))) dss_nil)
      (dss_cons (ds_if (dt_cmp op_eq opd_eq (dv 3) de_int (nomark _)) (dss_one (ds_ret (de_cty call_tuple_of calld_tuple (by rfl) (T.free "tuple") (by decide +kernel) (da_cons (de_listRev rfl (T.free "list") (T.free "reversed") (dv 1)) da_nil)))) dss_nil)
      (dss_cons (ds_set (i := 4) sc__law_wrong_uppers.nd rfl (by first | exact Or.inl rfl | exact Or.inr rfl) (de_ifE (dt_cmp op_lt opd_B (dv 3) de_int (nomark _)) (de_ix ix_seq opd_ix (de_tup (da_cons (dv 2) (da_cons (de_op op_add opd_I (dv 2) de_int) (da_cons (de_un un_neg und_neg de_int) (da_cons de_bl (da_cons de_non da_nil)))))) (de_call F__law_take hr (by rfl) pass0 (da_cons (dv 0) (da_cons de_int da_nil))) (fun _ _ => rfl)) (de_call F__law_take hr (by rfl) pass0 (da_cons (dv 0) (da_cons (de_op op_add opd_I (dv 2) de_int) da_nil)))))
      (dss_one (ds_ret (de_op op_catA opd_catT (de_tup (da_cons (dv 4) da_nil)) (de_slice sl_tupA sld_tup (dv 1) (do_some de_int) do_none)))))))))), fun ds S QD ED h => ?_⟩)
  obtain ⟨us, n, S2, rfl, rfl, hl, hu, hn, q⟩ := h
  refine ⟨7, S2, rfl, by decide, by decide, rfl, fun way hw => ?_⟩
  have c0 : Cm (nI 0) := cm_nat (by decide)
  refine ite2 (fun c => ?_) (fun c => ?_)
  · exact q _ (uo_lst (by omega) hu)
  refine ite2 (fun c => ?_) (fun c => ?_)
  · exact ⟨by show 1 ≤ 100000; decide, by show us.length + 1 ≤ 100000; omega, q _ (uo_tup (by show (us ++ [nI 0]).length ≤ 4; rw [List.length_append]; show us.length + 1 ≤ 4; omega) fun u h => by
      rcases List.mem_append.mp h with z | z
      · exact hu u z
      · rw [List.mem_singleton.mp z]; exact c0)⟩
  refine ite2 (fun c => ?_) (fun c => ?_)
  · exact q _ (uo_tup (Nat.le_trans (cut_len _ _ _) (by omega)) fun u h => hu u (cut_mem h))
  refine ite2 (fun c => ?_) (fun c => ?_)
  · exact ⟨us, rfl, by omega, q _ (uo_tup (by rw [List.length_reverse]; omega) fun u h => hu u (List.mem_reverse.mp h))⟩
  have fin : ∀ a, Cm a → (1 ≤ 100000 ∧ 1 + (cutD us (some 1) none).length ≤ 100000 ∧ QD (.tup ([a] ++ cutD us (some 1) none)) (.hand :: S2)) := fun a ha =>
    ⟨by decide, by have := cut_len us (some 1) none; omega, q _ (uo_tup (by rw [List.length_append]; have := cut_len us (some 1) none; show 1 + _ ≤ 4; omega) fun u h => by
      rcases List.mem_append.mp h with z | z
      · rw [List.mem_singleton.mp z]; exact ha
      · exact hu u (cut_mem z))⟩
  refine ite2 (fun c => ?_) (fun c => ?_)
  · refine ⟨by show 5 ≤ 100000; decide, 5, S2, rfl, by decide, by decide, rfl, fun r hr => ?_⟩
    match r, hr with
    | 0, _ => exact fin (nI n) (cm_nat (by omega))
    | 1, _ => exact fin (.int ((n : Int) + 1)) (cm_nat (n := n + 1) (by omega))
    | 2, _ => exact fin _ cm_neg1
    | 3, _ => exact fin _ (cm_bl _)
    | 4, _ => exact fin _ cm_non
    | n + 5, h => exact absurd h (by omega)
  · refine ⟨n + 1, S2, rfl, by omega, by omega, rfl, fun r hr => ?_⟩
    exact fin (nI r) (cm_nat (by omega))
end TA
set_option Elab.async false
set_option linter.all false
set_option maxRecDepth 100000
set_option maxHeartbeats 4000000
namespace TA
open PySem PySem.Spec L2
open PyProof.Rows hiding St
/-! ## spoilt lines -/
structure Five (a p e how ups : D) : Prop where
  a : Cm a
  p : WO p
  e : Cm e
  how : Cm how
  ups : UO ups
inductive SpL : D → Prop where
  | five {a p e how ups : D} : Five a p e how ups → SpL (.tup [a, p, e, how, ups])
  | odd {d : D} : hasT d → (∀ ds, d = .tup ds → ds.length ≠ 5) → OkD 41 d → TxD 16000 d → SpL d
theorem cm_how {w : Str} (h : w ∈ namesT) : Cm (.str w) := cm_str ((by decide +kernel : ∀ x ∈ namesT, PyData.canLay0 (.str x) = true ∧ (reprText x).length ≤ 200) w h)
def spSpoilt : SpD := fun ds S Q _ => ∃ (v : Nat) (ms : List Nat) (es : List Ent) (l : Ln) (n : Nat) (S2 : Stt), ds = [.hdl 0, .hdl 1, lnD l, nI n] ∧ S = .hand :: wC v ms es :: S2 ∧ Good v ms ∧ NsT (es.map (·.1)) ∧ LnM v (es.map (·.1)) 12 300 l ∧ n < 50000 ∧ ∀ d, SpL d → Q d S
theorem len__law_spoilt : ∀ (ds : List D) (S : Stt) (Q : QE) (E : Str → Stt → Prop), spSpoilt ds S Q E → ds.length = 4 := by intro ds S Q E h; delta spSpoilt at h; (repeat obtain ⟨_, h⟩ := h); subst_vars; rfl
theorem ok__law_spoilt (C : Ct) (T : Txt C) : Fn C CX0 (3 + 1) "_law_spoilt" ["_law_hand_here", "_law_world_here", "_law_line", "_law_number"] [] spSpoilt := by
  obtain ⟨fd, F⟩ := T.def_ 81 (d := d__law_spoilt)
  have F__law_odd := (ok__law_odd C T).mono (show 3 ≤ 3 by omega)
  have F__law_take := (ok__law_take C T).mono (show 2 ≤ 3 by omega)
  have F__law_wrong_program := (ok__law_wrong_program C T).mono (show 3 ≤ 3 by omega)
  have F__law_wrong_uppers := (ok__law_wrong_uppers C T).mono (show 3 ≤ 3 by omega)
  refine Fn.of F (T.glo "_law_spoilt") (fun _ _ _ _ _ _ us hl => match us, hl with | [_, _, _, _], _ => rfl) (fnD F sc__law_spoilt len__law_spoilt (by decide) fun cdv A outer s H E hr => ⟨_,
    (dss_cons (ds_set (i := 4) sc__law_spoilt.nd rfl (by first | exact Or.inl rfl | exact Or.inr rfl) (de_call F__law_take hr (by rfl) pass0 (da_cons (dv 0) (da_cons de_int da_nil))))
      (dss_cons (ds_asg (dv 2) (dg_tup (n := 5) rfl (dgs_cons (dg_name (i := 5) sc__law_spoilt.nd rfl (by first | exact Or.inl rfl | exact Or.inr rfl)) (dgs_cons (dg_name (i := 6) sc__law_spoilt.nd rfl (by first | exact Or.inl rfl | exact Or.inr rfl)) (dgs_cons (dg_name (i := 7) sc__law_spoilt.nd rfl (by first | exact Or.inl rfl | exact Or.inr rfl)) (dgs_cons (dg_name (i := 8) sc__law_spoilt.nd rfl (by first | exact Or.inl rfl | exact Or.inr rfl)) (dgs_cons (dg_name (i := 9) sc__law_spoilt.nd rfl (by first | exact Or.inl rfl | exact Or.inr rfl)) dgs_nil)))))))
      (dss_cons (ds_set (i := 10) sc__law_spoilt.nd rfl (by first | exact Or.inl rfl | exact Or.inr rfl) (de_op op_shl opd_IC de_int (de_call F__law_take hr (by rfl) pass0 (da_cons (dv 0) (da_cons (de_ix ix_seq opd_ix (dv 1) de_int (fun _ _ => rfl)) da_nil)))))
      (dss_cons (ds_if (dt_cmp op_eq opd_eq (dv 4) de_int (nomark _)) (dss_one (ds_ret (de_tup (da_cons (de_op op_xor opd_I (dv 5) (dv 10)) (da_cons (dv 6) (da_cons (dv 7) (da_cons (dv 8) (da_cons (dv 9) da_nil)))))))) dss_nil)
      (dss_cons (ds_if (dt_cmp op_eq opd_eq (dv 4) de_int (nomark _)) (dss_one (ds_ret (de_tup (da_cons (dv 5) (da_cons (dv 6) (da_cons (de_op op_xor opd_I (dv 7) (dv 10)) (da_cons (dv 8) (da_cons (dv 9) da_nil)))))))) dss_nil)
      (dss_cons (ds_if (dt_cmp op_eq opd_eq (dv 4) de_int (nomark _)) (dss_one (ds_ret (de_tup (da_cons (de_call F__law_odd hr (by rfl) pass0 (da_cons (dv 0) (da_cons (de_ix ix_seq opd_ix (dv 1) de_int (fun _ _ => rfl)) da_nil))) (da_cons (dv 6) (da_cons (dv 7) (da_cons (dv 8) (da_cons (dv 9) da_nil)))))))) dss_nil)
      (dss_cons (ds_if (dt_cmp op_eq opd_eq (dv 4) de_int (nomark _)) (dss_one (ds_ret (de_tup (da_cons (dv 5) (da_cons (dv 6) (da_cons (de_call F__law_odd hr (by rfl) pass0 (da_cons (dv 0) (da_cons (de_ix ix_seq opd_ix (dv 1) de_int (fun _ _ => rfl)) da_nil))) (da_cons (dv 8) (da_cons (dv 9) da_nil)))))))) dss_nil)
      (dss_cons (ds_if (dt_cmp op_lt opd_B (dv 4) de_int (nomark _)) (dss_one (ds_ret (de_tup (da_cons (dv 5) (da_cons (de_call F__law_wrong_program hr (by rfl) pass0 (da_cons (dv 0) (da_cons (dv 6) da_nil))) (da_cons (dv 7) (da_cons (dv 8) (da_cons (dv 9) da_nil)))))))) dss_nil)
      (dss_cons (ds_if (dt_cmp op_eq opd_eq (dv 4) de_int (nomark _)) (dss_cons (ds_set (i := 11) sc__law_spoilt.nd rfl (by first | exact Or.inl rfl | exact Or.inr rfl) (de_ix ix_seq opd_ix (de_tup (da_cons de_str (da_cons de_str (da_cons de_str (da_cons de_str (da_cons de_str (da_cons de_str (da_cons de_str (da_cons de_non (da_cons de_str (da_cons de_str (da_cons de_str (da_cons de_int (da_cons (de_lst (da_cons de_str da_nil)) da_nil)))))))))))))) (de_call F__law_take hr (by rfl) pass0 (da_cons (dv 0) (da_cons de_int da_nil))) (fun _ _ => rfl)))
      (dss_one (ds_ret (de_tup (da_cons (dv 5) (da_cons (dv 6) (da_cons (dv 7) (da_cons (dv 11) (da_cons (dv 9) da_nil))))))))) dss_nil)
      (dss_cons (ds_if (dt_cmp op_lt opd_B (dv 4) de_int (nomark _)) (dss_one (ds_ret (de_tup (da_cons (dv 5) (da_cons (dv 6) (da_cons (dv 7) (da_cons (dv 8) (da_cons (de_call F__law_wrong_uppers hr (by rfl) pass0 (da_cons (dv 0) (da_cons (dv 9) (da_cons (dv 3) da_nil)))) da_nil)))))))) dss_nil)
      (dss_cons (ds_if (dt_cmp op_eq opd_eq (dv 4) de_int (nomark _)) (dss_one (ds_ret (de_lst (da_cons (dv 5) (da_cons (dv 6) (da_cons (dv 7) (da_cons (dv 8) (da_cons (dv 9) da_nil)))))))) dss_nil)
      (dss_one (ds_ret (de_ix ix_seq opd_ix (de_tup (da_cons (de_slice sl_tupA sld_tup (dv 2) do_none (do_some de_int)) (da_cons (de_op op_catA opd_catT (dv 2) (de_tup (da_cons de_int da_nil))) (da_cons de_non (da_cons (de_tup da_nil) (da_cons de_int da_nil)))))) (de_call F__law_take hr (by rfl) pass0 (da_cons (dv 0) (da_cons de_int da_nil))) (fun _ _ => rfl))))))))))))))), fun ds S QD ED h => ?_⟩)
  obtain ⟨v, ms, es, l, n, S2, rfl, rfl, G, N, L, hn, q⟩ := h
  have hb := p2_bound G.v6
  refine ⟨12, _, rfl, by decide, by decide, rfl, fun way hw => ?_⟩
  have hq : ∀ {a p e how ups : D}, Cm a → WO p → Cm e → Cm how → UO ups → 5 ≤ 100000 ∧ QD (.tup [a, p, e, how, ups]) (.hand :: wC v ms es :: S2) := fun h1 h2 h3 h4 h5 => ⟨by decide, q _ (.five ⟨h1, h2, h3, h4, h5⟩)⟩
  have ca : Cm (nI l.a) := cm_nat (by have := L.a; omega)
  have ce : Cm (nI l.e) := cm_nat (by have := L.e; omega)
  have cp : WO (progD l.p) := ⟨prog_wp l.p, (prog_ok N.ok L.st L.ht.1).mono (by decide), (prog_tx N.tx l.p L.st).mono (by have := L.ht.2; omega)⟩
  have cw : Cm (.str l.w) := cm_how L.w
  have cus : ∀ u ∈ l.us.map nI, Cm u := fun u hu => by
    obtain ⟨k, hk, rfl⟩ := List.mem_map.mp hu
    exact cm_nat (L.us.2 k hk)
  have cu : UO (.tup (l.us.map nI)) := uo_tup (by rw [List.length_map]; have := L.us.1; omega) cus
  have cx : ∀ a r : Nat, a < 2 ^ v → r < v → Cm (.int (Builtin.bitXor (a : Int) ((1 : Int) * 2 ^ ((r : Int)).toNat))) := fun a r ha hr => by
    have e1 : (1 : Int) * 2 ^ ((r : Int)).toNat = ((2 ^ r : Nat) : Int) := by
      have := d_shl r
      exact D.int.inj this
    have h2 : 2 ^ r < 2 ^ v := Nat.pow_lt_pow_right (by decide) hr
    have h3 := or_lt2 ha h2
    have h4 : a &&& 2 ^ r ≤ a ||| 2 ^ r := Nat.le_trans Nat.and_le_left Nat.left_le_or
    rw [e1]
    unfold Builtin.bitXor
    rw [and_nat, or_nat]
    exact cm_pos (by omega) (by omega)
  refine ⟨rfl, v, _, rfl, G.v1, by have := G.v6; omega, rfl, fun r hr => ⟨cpow1 (by have := G.v6; omega), ?_⟩⟩
  simp only [startD, st]
  refine ite2 (fun c => ?_) (fun c => ?_)
  · exact hq (cx _ _ L.a hr) cp ce cw cu
  refine ite2 (fun c => ?_) (fun c => ?_)
  · exact hq ca cp (cx _ _ L.e hr) cw cu
  refine ite2 (fun c => ?_) (fun c => ?_)
  · exact ⟨v, _, rfl, rfl, G.v6, fun d hd => hq hd cp ce cw cu⟩
  refine ite2 (fun c => ?_) (fun c => ?_)
  · exact ⟨v, _, rfl, rfl, G.v6, fun d hd => hq ca cp hd cw cu⟩
  refine ite2 (fun c => ?_) (fun c => ?_)
  · exact ⟨_, l.p, _, rfl, rfl, L.st, N, L.ht.1, L.ht.2, fun d hd => hq ca hd ce cw cu⟩
  refine ite2 (fun c => ?_) (fun c => ?_)
  · refine ⟨by show 1 ≤ 100000; decide, by show 13 ≤ 100000; decide, 13, _, rfl, by decide, by decide, rfl, fun k hk => ?_⟩
    match k, hk with
    | 0, _ => exact hq ca cp ce (cm_how n_step) cu
    | 1, _ => exact hq ca cp ce (cm_how n_nothing) cu
    | 2, _ => exact hq ca cp ce (cm_how n_grow) cu
    | 3, _ => exact hq ca cp ce (cm_how n_behind) cu
    | 4, _ => exact hq ca cp ce (cm_how n_either) cu
    | 5, _ => exact hq ca cp ce (cm_how n_more) cu
    | 6, _ => exact hq ca cp ce (cm_how n_closed) cu
    | 7, _ => exact hq ca cp ce cm_non cu
    | 8, _ => exact hq ca cp ce (cm_str (x := "Step") (by decide +kernel)) cu
    | 9, _ => exact hq ca cp ce (cm_str (x := "again") (by decide +kernel)) cu
    | 10, _ => exact hq ca cp ce (cm_str (x := "") (by decide +kernel)) cu
    | 11, _ => exact hq ca cp ce (cm_nat (n := 3) (by decide)) cu
    | 12, _ => exact hq ca cp ce (a := nI l.a) (how := .lst [.str "step"]) ⟨rfl, (ok_lst (k := 1) fun d hd => by rw [List.mem_singleton.mp hd]; exact okk h_step).mono (by decide), ((TxL.cons (tx_const h_step) .nil).lst).mono (by decide)⟩ cu
    | k + 13, h => exact absurd h (by omega)
  refine ite2 (fun c => ?_) (fun c => ?_)
  · exact ⟨_, n, _, rfl, rfl, by rw [List.length_map]; exact L.us.1, cus, hn, fun d hd => hq ca cp ce cw hd⟩
  have ok4 : ∀ d ∈ [nI l.a, progD l.p, nI l.e, D.str l.w], OkD 40 d := fun d hd => by
    rcases List.mem_cons.mp hd with z | z
    · rw [z]; exact ca.ok.mono (by decide)
    · exact mem3 (cp.ok.mono (by decide)) (ce.ok.mono (by decide)) (cw.ok.mono (by decide)) z
  have ok5 : ∀ d ∈ [nI l.a, progD l.p, nI l.e, D.str l.w, .tup (l.us.map nI)], OkD 40 d := fun d hd => by
    rcases List.mem_append.mp (show d ∈ [nI l.a, progD l.p, nI l.e, D.str l.w] ++ [.tup (l.us.map nI)] from hd) with z | z
    · exact ok4 d z
    · rw [List.mem_singleton.mp z]; exact cu.ok.mono (by decide)
  refine ite2 (fun c => ?_) (fun c => ?_)
  · exact ⟨by show 5 ≤ 100000; decide, q _ (.odd rfl (fun ds e => by cases e) (ok_lst ok5) ((TxL.cons ca.tx (.cons cp.tx (.cons ce.tx (.cons cw.tx (.cons cu.tx .nil))))).lst.mono (by decide)))⟩
  · refine ⟨by show 1 ≤ 100000; decide, by show 5 + 1 ≤ 100000; decide, by show 0 ≤ 100000; decide, by show 5 ≤ 100000; decide, 5, _, rfl, by decide, by decide, rfl, fun k hk => ?_⟩
    match k, hk with
    | 0, _ => exact q _ (.odd (d := .tup [nI l.a, progD l.p, nI l.e, .str l.w]) rfl (fun ds e => by cases e; show 4 ≠ 5; decide) (ok_tup ok4) ((TxL.cons ca.tx (.cons cp.tx (.cons ce.tx (.cons cw.tx .nil)))).tup.mono (by decide)))
    | 1, _ => exact q _ (.odd (d := .tup [nI l.a, progD l.p, nI l.e, .str l.w, .tup (l.us.map nI), nI 0]) rfl (fun ds e => by cases e; show 6 ≠ 5; decide) (ok_tup fun d hd => by
        rcases List.mem_append.mp (show d ∈ [nI l.a, progD l.p, nI l.e, D.str l.w, .tup (l.us.map nI)] ++ [nI 0] from hd) with z | z
        · exact ok5 d z
        · rw [List.mem_singleton.mp z]; exact ok_int _) ((TxL.cons ca.tx (.cons cp.tx (.cons ce.tx (.cons cw.tx (.cons cu.tx (.cons (tx_nat (n := 0) (by decide)) .nil)))))).tup.mono (by decide)))
    | 2, _ => exact q _ (.odd rfl (fun ds e => by cases e) (cm_non.ok.mono (by decide)) (cm_non.tx.mono (by decide)))
    | 3, _ => exact q _ (.odd (d := .tup []) rfl (fun ds e => by cases e; decide) ((ok_tup (k := 0) (by simp)).mono (by decide)) ((TxL.nil.tup).mono (by decide)))
    | 4, _ => exact q _ (.odd (d := nI 7) rfl (fun ds e => by cases e) (ok_int _) ((tx_nat (n := 7) (by decide)).mono (by decide)))
    | k + 5, h => exact absurd h (by omega)
end TA
set_option Elab.async false
set_option linter.all false
set_option maxRecDepth 100000
set_option maxHeartbeats 4000000
namespace TA
open PySem PySem.Spec L2
open PyProof.Rows hiding St
/-! ## spoilt twice -/
theorem SpL.t {d : D} (h : SpL d) : hasT d := by cases h with
  | five h => rfl
  | odd t _ _ _ => exact t
theorem sp_cases {d : D} (h : SpL d) : (∃ a p e how ups, d = .tup [a, p, e, how, ups] ∧ Five a p e how ups) ∨ isTup d = false ∨ ∃ ds, d = .tup ds ∧ ds.length ≠ 5 := by
  cases h with
  | five h => exact .inl ⟨_, _, _, _, _, rfl, h⟩
  | odd t n _ _ =>
    cases d with
    | tup ds => exact .inr (.inr ⟨ds, rfl, n ds rfl⟩)
    | _ => exact .inr (.inl rfl)
def fiveP : Nat → D → Prop
  | 0, y => Cm y
  | 1, y => WO y
  | 2, y => Cm y
  | 3, y => Cm y
  | 4, y => UO y
  | _, _ => True
theorem fiveP_inv {k : Nat} {y : D} (h : ∃ j : Nat, nI k = nI j ∧ fiveP j y) : fiveP k y := by
  obtain ⟨j, e, h⟩ := h
  have e2 : (k : Int) = (j : Int) := D.int.inj e
  have e3 : k = j := by omega
  rw [e3]; exact h
theorem fiveP_all {ys : List D} (h : All2 (fun x y => ∃ k : Nat, x = nI k ∧ fiveP k y) [nI 0, nI 1, nI 2, nI 3, nI 4] ys) : SpL (.tup ys) := by
  cases h with | cons h0 h => cases h with | cons h1 h => cases h with | cons h2 h => cases h with | cons h3 h => cases h with | cons h4 h => cases h with | nil =>
  exact .five ⟨fiveP_inv (k := 0) h0, fiveP_inv (k := 1) h1, fiveP_inv (k := 2) h2, fiveP_inv (k := 3) h3, fiveP_inv (k := 4) h4⟩
theorem len__law_spoilt_more : ∀ (ds : List D) (S : Stt) (Q : QE) (E : Str → Stt → Prop), spSpoilt ds S Q E → ds.length = 4 := by intro ds S Q E h; delta spSpoilt at h; (repeat obtain ⟨_, h⟩ := h); subst_vars; rfl
theorem ok__law_spoilt_more (C : Ct) (T : Txt C) : Fn C CX0 (4 + 1) "_law_spoilt_more" ["_law_hand_here", "_law_world_here", "_law_line", "_law_number"] [] spSpoilt := by
  obtain ⟨fd, F⟩ := T.def_ 82 (d := d__law_spoilt_more)
  have F__law_spoilt := (ok__law_spoilt C T).mono (show 4 ≤ 4 by omega)
  have F__law_take := (ok__law_take C T).mono (show 2 ≤ 4 by omega)
  refine Fn.of F (T.glo "_law_spoilt_more") (fun _ _ _ _ _ _ us hl => match us, hl with | [_, _, _, _], _ => rfl) (fnD F sc__law_spoilt_more len__law_spoilt_more (by decide) fun cdv A outer s H E hr => ⟨_,
    (dss_cons (ds_set (i := 4) sc__law_spoilt_more.nd rfl (by first | exact Or.inl rfl | exact Or.inr rfl) (de_call F__law_spoilt hr (by rfl) pass0 (da_cons (dv 0) (da_cons (dv 1) (da_cons (dv 2) (da_cons (dv 3) da_nil))))))
      (dss_cons (ds_set (i := 5) sc__law_spoilt_more.nd rfl (by first | exact Or.inl rfl | exact Or.inr rfl) (de_call F__law_spoilt hr (by rfl) pass0 (da_cons (dv 0) (da_cons (dv 1) (da_cons (dv 2) (da_cons (dv 3) da_nil))))))
      (dss_cons (ds_if (dt_bop (dw_or (dt_truth trud (de_call F__law_take hr (by rfl) pass0 (da_cons (dv 0) (da_cons de_int da_nil)))) (dw_or (dt_not (dt_val (de_isituple (T.free "isinstance") (T.free "tuple") (dv 4)))) (dw_or (dt_not (dt_val (de_isituple (T.free "isinstance") (T.free "tuple") (dv 5)))) (dw_or (dt_cmp op_ne opd_ne (de_cb call_len calld_len (by rfl) (T.free "len") (by decide +kernel) (da_cons (dv 4) da_nil)) de_int (nomark _)) (dw_or1 (dt_cmp op_ne opd_ne (de_cb call_len calld_len (by rfl) (T.free "len") (by decide +kernel) (da_cons (dv 5) da_nil)) de_int (nomark _)))))))) (dss_one (ds_ret (dv 4))) dss_nil)
      (dss_one (ds_ret (de_cty call_tuple_of calld_tuple (by rfl) (T.free "tuple") (by decide +kernel) (da_cons (de_lc (own := [("_law_k", 6)]) (g := gName 6) (dg := gN 6) rfl sc__law_spoilt_more.nd (di_rng1 (by rfl) (T.free "range") (da_cons de_int da_nil)) (blkOk_by (N := ["_law_hand_here", "_law_world_here", "_law_line", "_law_number", "_law_one", "_law_other", "_law_k"]) (sc := defScope (topS 106)) (by decide +kernel)) (own_name (by decide)) (fun _ _ _ _ _ => pg_name (i := 6) sc__law_spoilt_more.nd rfl (by first | exact Or.inl rfl | exact Or.inr rfl)) (fun _ _ _ _ _ => dts_nil) (fun _ _ _ _ _ => (de_ifE (dt_cmp (op_neD hr.units) opd_neD (de_ix ix_seq opd_ix (dv 4) (dv 6) (fun _ _ => rfl)) (de_ix ix_seq opd_ix (dv 2) (dv 6) (fun _ _ => rfl)) (nomark _)) (de_ix ix_seq opd_ix (dv 4) (dv 6) (fun _ _ => rfl)) (de_ix ix_seq opd_ix (dv 5) (dv 6) (fun _ _ => rfl))))) da_nil))))))), fun ds S QD ED h => ?_⟩)
  obtain ⟨v, ms, es, l, n, S2, rfl, rfl, G, N, L, hn, q⟩ := h
  refine ⟨v, ms, es, l, n, S2, rfl, rfl, G, N, L, hn, fun d1 h1 => ?_⟩
  refine ⟨v, ms, es, l, n, S2, rfl, rfl, G, N, L, hn, fun d2 h2 => ?_⟩
  have hb := p2_bound G.v6
  have ca : Cm (nI l.a) := cm_nat (by have := L.a; omega)
  have ce : Cm (nI l.e) := cm_nat (by have := L.e; omega)
  have cp : OkD 12 (progD l.p) := prog_ok N.ok L.st L.ht.1
  have cw : Cm (.str l.w) := cm_how L.w
  have cu : UO (.tup (l.us.map nI)) := uo_tup (by rw [List.length_map]; have := L.us.1; omega) fun u hu => by
    obtain ⟨k, hk, rfl⟩ := List.mem_map.mp hu
    exact cm_nat (L.us.2 k hk)
  refine ⟨2, _, rfl, by decide, by decide, rfl, fun r hr => ?_⟩
  match r, hr with
  | 1, _ => exact q _ h1
  | r + 2, h => exact absurd h (by omega)
  | 0, _ =>
  refine ⟨h1.t, ?_⟩
  refine ite2 (fun c1 => ?_) (fun c1 => ?_)
  · exact q _ h1
  refine ⟨h2.t, ?_⟩
  refine ite2 (fun c2 => ?_) (fun c2 => ?_)
  · exact q _ h1
  rcases sp_cases h1 with ⟨a, p, e, how, ups, rfl, F1⟩ | k1 | ⟨ds, rfl, k1⟩
  · rcases sp_cases h2 with ⟨a2, p2, e2, how2, ups2, rfl, F2⟩ | k2 | ⟨ds, rfl, k2⟩
    · refine ⟨by decide, by decide, ?_⟩
      refine lc_map (fun x y => ∃ k : Nat, x = nI k ∧ fiveP k y) (by decide) (fun x hx K hK => ?_) fun ys h => ?_
      · obtain ⟨j, hj, e⟩ := mem_rng (k := 0) (n := 5) (by rw [← ints0]; exact hx)
        subst e
        match j, hj with
        | 0, _ => exact ⟨F1.a.ok.eq, ca.ok.eq, ite2 (fun _ => hK _ ⟨0, rfl, F1.a⟩) (fun _ => hK _ ⟨0, rfl, F2.a⟩)⟩
        | 1, _ => exact ⟨F1.p.ok.eq, cp.eq, ite2 (fun _ => hK _ ⟨1, rfl, F1.p⟩) (fun _ => hK _ ⟨1, rfl, F2.p⟩)⟩
        | 2, _ => exact ⟨F1.e.ok.eq, ce.ok.eq, ite2 (fun _ => hK _ ⟨2, rfl, F1.e⟩) (fun _ => hK _ ⟨2, rfl, F2.e⟩)⟩
        | 3, _ => exact ⟨F1.how.ok.eq, cw.ok.eq, ite2 (fun _ => hK _ ⟨3, rfl, F1.how⟩) (fun _ => hK _ ⟨3, rfl, F2.how⟩)⟩
        | 4, _ => exact ⟨F1.ups.ok.eq, cu.ok.eq, ite2 (fun _ => hK _ ⟨4, rfl, F1.ups⟩) (fun _ => hK _ ⟨4, rfl, F2.ups⟩)⟩
        | j + 5, h => exact absurd h (by omega)
      · exact q _ (fiveP_all h)
    · exact absurd (by rw [k2]; rfl) c2
    · refine ite2 (fun c => q _ h1) (fun c => ?_)
      exact absurd (decide_eq_true (show (ds.length : Int) ≠ 5 by omega)) (by simpa using c)
  · exact absurd (by rw [k1]; rfl) c1
  · refine ite2 (fun c => q _ h1) (fun c => ?_)
    exact absurd (decide_eq_true (show (ds.length : Int) ≠ 5 by omega)) (by simpa using c)
end TA
set_option Elab.async false
set_option linter.all false
set_option maxRecDepth 100000
set_option maxHeartbeats 4000000
namespace TA
open PySem PySem.Spec L2
open PyProof.Rows hiding St
/-! ## the module's tables -/
theorem dicW_keys {K : PySem.W.Frag} {w : World} {a : Addr} {ks : List Str} {es : Array DictEntry} {n : Nat} (h : He.dicW K a = some (He.keysIn w.params ks)) (D : KDict K w a es n) : es.toList.map He.keyOf = He.keysIn w.params ks := by
  unfold He.dicW at h
  rw [D.at_] at h
  have e : (decide (("dict" : String) = "dict") && ((#[] : Array (Str × Value)).isEmpty && !(a == sysModules))) = true := by rw [D.low]; rfl
  have h2 : (match decide (("dict" : String) = "dict") && ((#[] : Array (Str × Value)).isEmpty && !(a == sysModules)) with
    | true => some (es.toList.map He.keyOf)
    | false => none) = some (He.keysIn w.params ks) := h
  rw [e] at h2
  exact Option.some.inj h2
theorem keys_absent {P : Params} {z : Str} : ∀ (l : List DictEntry) (ks : List Str), l.map He.keyOf = He.keysIn P ks → z ∉ ks → l.find? (·.key.isStr z) = none ∧ l.any (·.refKey) = false
  | [], _, _, _ => ⟨rfl, rfl⟩
  | e :: r, [], h, _ => by cases h
  | e :: r, k :: ks, h, hz => by
    have h1 : He.keyOf e :: r.map He.keyOf = some (k, PyData.keyHash P k) :: He.keysIn P ks := h
    injection h1 with h2 h3
    obtain ⟨i1, i2⟩ := keys_absent r ks h3 fun m => hz (List.mem_cons_of_mem _ m)
    unfold He.keyOf at h2
    split at h2
    · rename_i x t q
      obtain ⟨h5, h6⟩ := Prod.mk.inj (Option.some.inj h2)
      have hx : x ≠ z := fun h => hz (by rw [← h, h5]; exact List.mem_cons_self)
      have f1 : e.key.isStr z = false := by
        rw [q]
        show (x == z) = false
        exact beq_false_of_ne hx
      have f2 : e.refKey = false := by
        unfold DictEntry.refKey
        rw [q]
      exact ⟨by rw [List.find?_cons_of_neg (by rw [f1]; decide)]; exact i1, by rw [List.any_cons, f2, i2]; rfl⟩
    · cases h2
theorem ns_absent {P : Params} {K : PySem.W.Frag} {a : Addr} {es : Array DictEntry} {n : Nat} {z : Str} {ks : List Str} (hl : K.lookup a = some ⟨.type "dict", none, .dict es n, #[]⟩) (hk : es.toList.map He.keyOf = He.keysIn P ks) (hz : z ∉ ks) : PySem.W.nsIn K a z = some none := by
  obtain ⟨h1, h2⟩ := keys_absent es.toList ks hk hz
  unfold PySem.W.nsIn
  rw [hl]
  dsimp only
  rw [h1, h2]
  rfl
def sizesN : List Str := ["step", "nothing", "behind", "either", "again"]
def shapesN : List Str := ["step", "nothing", "behind", "either", "more", "closed"]
theorem Txt.tabK {C : Ct} (T : Txt C) (i : Nat) {t : He.Tab} (h : tabs[i]? = some t := by rfl) : ∃ es n, KDict C.K C.w (t.1 C.K) es n ∧ es.toList.map He.keyOf = He.keysIn C.w.params t.2 := by
  obtain ⟨es, n, D⟩ := T.says.tab i h
  have e : tabs.map (fun t => He.dicW C.K (t.1 C.K)) = tabs.map fun t => some (He.keysIn C.w.params t.2) := congrArg (fun z : He.AlT => z.2) T.says
  have e2 : (tabs.map fun t => He.dicW C.K (t.1 C.K))[i]? = (tabs.map fun t => some (He.keysIn C.w.params t.2))[i]? := by rw [e]
  rw [List.getElem?_map, List.getElem?_map, h] at e2
  exact ⟨es, n, D, dicW_keys (Option.some.inj e2) D⟩
section
variable {X : Cx} {e : Expr} {de : DTE} {p pos : Pos} {x : Str} {a : Addr} {es : Array DictEntry} {n : Nat}
/-- a text in a table -/
def dInK (ns : List Str) (da : DTE) : DTT := fun ρ S Q => da ρ S fun d S1 => ∃ z, d = .str z ∧ Q (decide (z ∈ ns)) S1
theorem dt_inK {ns : List Str} (hg : Gl X x) (hm : X.mg x = some (.ref a)) (D : KDict X.K X.w a es n) (hp : ∀ z, z ∈ ns → ∃ u, PySem.W.nsIn X.K a z = some (some u)) (hn : ∀ z, z ∉ ns → PySem.W.nsIn X.K a z = some none) (he : DE X e de)
    (hd : (x == ("__debug__" : Str)) = false := by decide) (hb : behindInMarks .In (.Name x p) = false := by rfl) : DT X (.Compare e [.In] [.Name x p] pos) (dInK ns de) :=
  upT_of (pt_cmpR (op_in_kd D) he (pe_glob (v := .ref a) hg hm rfl hd) hb) fun M ρ S QD σ H Q s c k q => ⟨M, ρ, S, _, s, c, fun M1 v H1 d S1 g1 c1 hv ⟨z, ez, q1⟩ => by
    subst ez
    have ev := hv.str_inv
    by_cases h : z ∈ ns
    · obtain ⟨u, hu⟩ := hp z h
      rw [decide_eq_true h] at q1
      exact ⟨z, _, ev, rfl, hu, true, rfl, k M1 _ H1 S1 g1 c1 q1⟩
    · rw [decide_eq_false h] at q1
      exact ⟨z, _, ev, rfl, hn z h, false, rfl, k M1 _ H1 S1 g1 c1 q1⟩, q⟩
def dInKE (ns : List Str) (da : DTE) : DTE := fun ρ S Q => da ρ S fun d S1 => ∃ z, d = .str z ∧ Q (.bl (decide (z ∈ ns))) S1
theorem de_inK {ns : List Str} (hg : Gl X x) (hm : X.mg x = some (.ref a)) (D : KDict X.K X.w a es n) (hp : ∀ z, z ∈ ns → ∃ u, PySem.W.nsIn X.K a z = some (some u)) (hn : ∀ z, z ∉ ns → PySem.W.nsIn X.K a z = some none) (he : DE X e de)
    (hd : (x == ("__debug__" : Str)) = false := by decide) (hb : behindInMarks .In (.Name x p) = false := by rfl) : DE X (.Compare e [.In] [.Name x p] pos) (dInKE ns de) :=
  up_of (pe_cmpR (op_in_kd D) he (pe_glob (v := .ref a) hg hm rfl hd) hb) fun M ρ S QD σ H Q s c k q => ⟨M, ρ, S, _, s, c, fun M1 v H1 d S1 g1 c1 hv ⟨z, ez, q1⟩ => by
    subst ez
    have ev := hv.str_inv
    by_cases h : z ∈ ns
    · obtain ⟨u, hu⟩ := hp z h
      rw [decide_eq_true h] at q1
      exact ⟨z, _, ev, rfl, hu, k M1 _ H1 _ S1 g1 c1 dp_bl q1⟩
    · rw [decide_eq_false h] at q1
      exact ⟨z, _, ev, rfl, hn z h, k M1 _ H1 _ S1 g1 c1 dp_bl q1⟩, q⟩
/-- an entry of a table -/
def dTabK (kvs : List (Str × D)) (da : DTE) : DTE := fun ρ S Q => da ρ S fun d S1 => ∃ z r, d = .str z ∧ (z, r) ∈ kvs ∧ Q r S1
theorem de_tabK {kvs : List (Str × D)} (hg : Gl X x) (hm : X.mg x = some (.ref a)) (D : KDict X.K X.w a es n) (hp : ∀ z r, (z, r) ∈ kvs → ∃ u v, PySem.W.nsIn X.K a z = some (some u) ∧ RelV v u ∧ ∀ M H, Dp X.K M H r v) (he : DE X e de)
    (hs : PlainIx e) (hd : (x == ("__debug__" : Str)) = false := by decide) : DE X (.Subscript (.Name x p) e pos) (dTabK kvs de) :=
  up_of (pe_ix ix_kdict (pe_glob (v := .ref a) hg hm rfl hd) he hs) fun M ρ S QD σ H Q s c k q => ⟨M, ρ, S, _, s, c, fun M1 v H1 d S1 g1 c1 hv ⟨z, r, ez, hm, q1⟩ => by
    subst ez
    have ev := hv.str_inv
    obtain ⟨u, v, h1, h2, h3⟩ := hp z r hm
    exact ⟨a, z, v, rfl, ev, ⟨es, n, u, D.at_, D.lit, h1, h2⟩, k M1 _ H1 _ S1 g1 c1 (h3 _ _) q1⟩, q⟩
end
def sizeTab : List (Str × D) := [("step", .int 2), ("nothing", .int 1), ("behind", .int 3), ("either", .int 3), ("again", .int 2)]
def shapeTab : List (Str × D) := [("step", .str "step"), ("nothing", .str "nothing"), ("behind", .str "behind"), ("either", .str "either"), ("more", .str "again"), ("closed", .str "again")]
theorem dv_D {K : PySem.W.Frag} {kvs : List (Str × He.Dv)} {ds : List (Str × D)} (f : He.Dv → Option D) (hf : ∀ q d, f q = some d → ∀ M H, Dp K M H d (q.v K)) {a : Addr} (h : He.valsB K a kvs = true) (e : kvs.map (fun q => (q.1, f q.2)) = ds.map fun q => (q.1, some q.2)) :
    ∀ z r, (z, r) ∈ ds → ∃ u v, PySem.W.nsIn K a z = some (some u) ∧ RelV v u ∧ ∀ M H, Dp K M H r v := fun z r hm => by
  have h1 : (z, some r) ∈ ds.map fun q => (q.1, some q.2) := List.mem_map.mpr ⟨(z, r), hm, rfl⟩
  rw [← e] at h1
  obtain ⟨q, hq, eq⟩ := List.mem_map.mp h1
  obtain ⟨e1, e2⟩ := Prod.mk.inj eq
  obtain ⟨u, h2, h3⟩ := He.valsB_ok h hq
  exact ⟨u, _, by rw [← e1]; exact h2, h3, hf _ _ e2⟩
def dvF : He.Dv → Option D
  | .int i => some (.int i)
  | .str x => some (.str x)
  | _ => none
theorem dvF_ok {K : PySem.W.Frag} (q : He.Dv) (d : D) (h : dvF q = some d) : ∀ M H, Dp K M H d (q.v K) := by
  cases q <;> cases h
  · exact fun _ _ => dp_int
  · exact fun _ _ => dp_str
section
variable {C : Ct} (T : Txt C)
include T
theorem Txt.sizesV : ∀ z r, (z, r) ∈ sizeTab → ∃ u v, PySem.W.nsIn C.K (He.ga C.K "SIZES") z = some (some u) ∧ RelV v u ∧ ∀ M H, Dp C.K M H r v :=
  dv_D dvF dvF_ok (Bool.and_eq_true_iff.mp (Bool.and_eq_true_iff.mp (Bool.and_eq_true_iff.mp T.ext).1).1).1 rfl
theorem Txt.shapesV : ∀ z r, (z, r) ∈ shapeTab → ∃ u v, PySem.W.nsIn C.K (He.ga C.K "SHAPES") z = some (some u) ∧ RelV v u ∧ ∀ M H, Dp C.K M H r v :=
  dv_D dvF dvF_ok (Bool.and_eq_true_iff.mp (Bool.and_eq_true_iff.mp (Bool.and_eq_true_iff.mp T.ext).1).1).2 rfl
end
section
variable {X : Cx} {e : Expr} {de : DTE} {p pos : Pos}
theorem dt_inSIZES (T : Txt (Cx.ct X)) (he : DE X e de) (hg : Gl X "SIZES" := by rfl) : DT X (.Compare e [.In] [.Name "SIZES" p] pos) (dInK sizesN de) := by
  obtain ⟨es, n, D, hk⟩ := T.tabK 0
  refine dt_inK hg (T.glo "SIZES") D (fun z hz => ?_) (fun z hz => ns_absent D.at_ hk hz) he
  have : ∃ r, (z, r) ∈ sizeTab := by
    have e : sizesN = sizeTab.map (·.1) := rfl
    rw [e] at hz
    obtain ⟨q, hq, rfl⟩ := List.mem_map.mp hz
    exact ⟨q.2, hq⟩
  obtain ⟨r, hr⟩ := this
  obtain ⟨u, v, h1, _, _⟩ := T.sizesV z r hr
  exact ⟨u, h1⟩
theorem de_inSIZES (T : Txt (Cx.ct X)) (he : DE X e de) (hg : Gl X "SIZES" := by rfl) : DE X (.Compare e [.In] [.Name "SIZES" p] pos) (dInKE sizesN de) := by
  obtain ⟨es, n, D, hk⟩ := T.tabK 0
  refine de_inK hg (T.glo "SIZES") D (fun z hz => ?_) (fun z hz => ns_absent D.at_ hk hz) he
  have : ∃ r, (z, r) ∈ sizeTab := by
    have e : sizesN = sizeTab.map (·.1) := rfl
    rw [e] at hz
    obtain ⟨q, hq, rfl⟩ := List.mem_map.mp hz
    exact ⟨q.2, hq⟩
  obtain ⟨r, hr⟩ := this
  obtain ⟨u, v, h1, _, _⟩ := T.sizesV z r hr
  exact ⟨u, h1⟩
theorem de_tabSIZES (T : Txt (Cx.ct X)) (he : DE X e de) (hs : PlainIx e := by exact fun _ _ => rfl) (hg : Gl X "SIZES" := by rfl) : DE X (.Subscript (.Name "SIZES" p) e pos) (dTabK sizeTab de) := by
  obtain ⟨es, n, D, hk⟩ := T.tabK 0
  exact de_tabK hg (T.glo "SIZES") D T.sizesV he hs
theorem de_tabSHAPES (T : Txt (Cx.ct X)) (he : DE X e de) (hs : PlainIx e := by exact fun _ _ => rfl) (hg : Gl X "SHAPES" := by rfl) : DE X (.Subscript (.Name "SHAPES" p) e pos) (dTabK shapeTab de) := by
  obtain ⟨es, n, D, hk⟩ := T.tabK 1
  exact de_tabK hg (T.glo "SHAPES") D T.shapesV he hs
end
end TA
set_option Elab.async false
set_option linter.all false
set_option maxRecDepth 100000
set_option maxHeartbeats 4000000
namespace TA
open PySem PySem.Spec L2
open PyProof.Rows hiding St
/-! ## the program's shapes -/
def shapeB : D → Bool
  | .tup (.str w :: r) => decide (r.length + 1 = sizeW w)
  | _ => false
def spShape : SpD := fun ds S Q _ => ∃ d, ds = [d] ∧ WP d ∧ Q (.bl (shapeB d)) S
theorem len_has_shape : ∀ (ds : List D) (S : Stt) (Q : QE) (E : Str → Stt → Prop), spShape ds S Q E → ds.length = 1 := by intro ds S Q E h; delta spShape at h; (repeat obtain ⟨_, h⟩ := h); subst_vars; rfl
theorem ok_has_shape (C : Ct) (T : Txt C) : Fn C CX0 (0 + 1) "has_shape" ["thing"] [] spShape := by
  obtain ⟨fd, F⟩ := T.def_ 11 (d := d_has_shape)
  refine Fn.of F (T.glo "has_shape") (fun _ _ _ _ _ _ us hl => match us, hl with | [_], _ => rfl) (fnD F sc_has_shape len_has_shape (by decide) fun cdv A outer s H E hr => ⟨_,
    (dss_cons (ds_if (dt_bop (dw_or (dt_not (dt_val (de_isituple (T.free "isinstance") (T.free "tuple") (dv 0)))) (dw_or1 (dt_cmp op_eq opd_eq (de_cb call_len calld_len (by rfl) (T.free "len") (by decide +kernel) (da_cons (dv 0) da_nil)) de_int (nomark _))))) (dss_one (ds_ret de_bl)) dss_nil)
      (dss_cons (ds_set (i := 1) sc_has_shape.nd rfl (by first | exact Or.inl rfl | exact Or.inr rfl) (de_ix ix_seq opd_ix (dv 0) de_int (fun _ _ => rfl)))
      (dss_one (ds_ret (de_and (de_isistr (T.free "isinstance") (T.free "str") (dv 1)) (de_and (de_inSIZES T (dv 1)) (de_one (de_cmp op_eq opd_eq (de_cb call_len calld_len (by rfl) (T.free "len") (by decide +kernel) (da_cons (dv 0) da_nil)) (de_tabSIZES T (dv 1)) (nomark _))))))))), fun ds S QD ED h => ?_⟩)
  obtain ⟨d, rfl, w, q⟩ := h
  refine ⟨w.hasT, ?_⟩
  have tail : ∀ (w : Str) (k : Nat) (ps : List D), keyW w → sizeW w = k → QD (.bl (shapeB (.tup (.str w :: ps)))) S → QD (.bl (decide ((((.str w :: ps : List D).length : Nat) : Int) = (k : Int)))) S := fun w k ps _ e h => by
    have e2 : shapeB (.tup (.str w :: ps)) = decide ((((.str w :: ps : List D).length : Nat) : Int) = (k : Int)) := by
      show decide (ps.length + 1 = sizeW w) = decide (((ps.length + 1 : Nat) : Int) = (k : Int))
      rw [e]
      exact decide_eq_decide.mpr (by omega)
    rw [← e2]
    exact h
  cases w with
  | other h1 h2 =>
    refine ite_true (by rw [h2]; rfl) ?_
    have e : shapeB d = false := by
      cases d with
      | tup ds => cases h2
      | _ => rfl
    rw [e] at q
    exact q
  | nil => exact q
  | @odd x ps h1 h2 =>
    refine dec_f (by show ¬ ((((x :: ps).length : Nat) : Int) = 0); rw [List.length_cons]; omega) ?_
    refine ⟨h1, ite_false h2 ?_⟩
    have e : shapeB (.tup (x :: ps)) = false := by
      cases x with
      | str w => cases h2
      | _ => rfl
    rw [e] at q
    exact q
  | @short w ps h1 h2 =>
    refine dec_f (by show ¬ ((((D.str w :: ps).length : Nat) : Int) = 0); rw [List.length_cons]; omega) ?_
    rcases h1 with rfl | rfl | rfl | rfl | rfl
    · refine ⟨rfl, "step", rfl, ?_⟩
      refine ⟨"step", .int 2, rfl, .head _, ?_⟩
      exact tail "step" 2 ps (.inl rfl) rfl q
    · exact ⟨rfl, "nothing", rfl, "nothing", .int 1, rfl, .tail _ (.head _), tail "nothing" 1 ps (.inr (.inl rfl)) rfl q⟩
    · exact ⟨rfl, "behind", rfl, "behind", .int 3, rfl, .tail _ (.tail _ (.head _)), tail "behind" 3 ps (.inr (.inr (.inl rfl))) rfl q⟩
    · exact ⟨rfl, "either", rfl, "either", .int 3, rfl, .tail _ (.tail _ (.tail _ (.head _))), tail "either" 3 ps (.inr (.inr (.inr (.inl rfl)))) rfl q⟩
    · exact ⟨rfl, "again", rfl, "again", .int 2, rfl, .tail _ (.tail _ (.tail _ (.tail _ (.head _)))), tail "again" 2 ps (.inr (.inr (.inr (.inr rfl)))) rfl q⟩
  | nothing => exact ⟨rfl, "nothing", rfl, "nothing", .int 1, rfl, .tail _ (.head _), q⟩
  | step h => exact ⟨rfl, "step", rfl, "step", .int 2, rfl, .head _, q⟩
  | behind h1 h2 => exact ⟨rfl, "behind", rfl, "behind", .int 3, rfl, .tail _ (.tail _ (.head _)), q⟩
  | either h1 h2 => exact ⟨rfl, "either", rfl, "either", .int 3, rfl, .tail _ (.tail _ (.tail _ (.head _))), q⟩
  | again h => exact ⟨rfl, "again", rfl, "again", .int 2, rfl, .tail _ (.tail _ (.tail _ (.tail _ (.head _)))), q⟩
end TA
set_option Elab.async false
set_option linter.all false
set_option maxRecDepth 100000
set_option maxHeartbeats 4000000
namespace TA
open PySem PySem.Spec L2
open PyProof.Rows hiding St
/-! ## the program's rules -/
def growB (ms : List Nat) (a e b f : Nat) : Bool := if b &&& a = b then (if a &&& rnd ms b = a then (if e &&& f = e then decide (f &&& rnd ms e = f) else false) else false) else false
def spGrowF : SpD := fun ds S Q _ => ∃ (v : Nat) (ms : List Nat) (a e b f : Nat) (p how ups p' how' ups' : D), ds = [glD v ms, .tup [nI a, p, nI e, how, ups], .tup [nI b, p', nI f, how', ups']] ∧ Good v ms ∧ a < 2 ^ v ∧ e < 2 ^ v ∧ b < 2 ^ v ∧ f < 2 ^ v ∧ Q (.bl (growB ms a e b f)) S
theorem len_grow_fits : ∀ (ds : List D) (S : Stt) (Q : QE) (E : Str → Stt → Prop), spGrowF ds S Q E → ds.length = 3 := by intro ds S Q E h; delta spGrowF at h; (repeat obtain ⟨_, h⟩ := h); subst_vars; rfl
theorem ok_grow_fits (C : Ct) (T : Txt C) : Fn C CX0 (5 + 1) "grow_fits" ["glasses", "line", "upper"] [] spGrowF := by
  obtain ⟨fd, F⟩ := T.def_ 26 (d := d_grow_fits)
  have F_Glasses_rounded := (ok_Glasses_rounded C T).mono (show 5 ≤ 5 by omega)
  have F_is_within := (ok_is_within C T).mono (show 5 ≤ 5 by omega)
  refine Fn.of F (T.glo "grow_fits") (fun _ _ _ _ _ _ us hl => match us, hl with | [_, _, _], _ => rfl) (fnD F sc_grow_fits len_grow_fits (by decide) fun cdv A outer s H E hr => ⟨_,
    (dss_cons (ds_if (dt_bop (dw_or (dt_not (dt_val (de_call F_is_within hr (by rfl) pass0 (da_cons (de_ix ix_seq opd_ix (dv 2) de_int (fun _ _ => rfl)) (da_cons (de_ix ix_seq opd_ix (dv 1) de_int (fun _ _ => rfl)) da_nil))))) (dw_or1 (dt_not (dt_val (de_call F_is_within hr (by rfl) pass0 (da_cons (de_ix ix_seq opd_ix (dv 1) de_int (fun _ _ => rfl)) (da_cons (de_meth (d := d_Glasses_rounded) (c := "Glasses") T (T.meth .g) F_Glasses_rounded hr (dv 0) pass0 (da_cons (de_ix ix_seq opd_ix (dv 2) de_int (fun _ _ => rfl)) da_nil)) da_nil)))))))) (dss_one (ds_ret de_bl)) dss_nil)
      (dss_one (ds_ret (de_and (de_call F_is_within hr (by rfl) pass0 (da_cons (de_ix ix_seq opd_ix (dv 1) de_int (fun _ _ => rfl)) (da_cons (de_ix ix_seq opd_ix (dv 2) de_int (fun _ _ => rfl)) da_nil))) (de_one (de_call F_is_within hr (by rfl) pass0 (da_cons (de_ix ix_seq opd_ix (dv 2) de_int (fun _ _ => rfl)) (da_cons (de_meth (d := d_Glasses_rounded) (c := "Glasses") T (T.meth .g) F_Glasses_rounded hr (dv 0) pass0 (da_cons (de_ix ix_seq opd_ix (dv 1) de_int (fun _ _ => rfl)) da_nil)) da_nil)))))))), fun ds S QD ED h => ?_⟩)
  obtain ⟨v, ms, a, e, b, f, p, how, ups, p', how', ups', rfl, G, ha, he, hb, hf, q⟩ := h
  have b6 := p2_bound G.v6
  have r1 := G.rnd_lt b
  have r2 := G.rnd_lt e
  refine ⟨b, a, rfl, by omega, by omega, ?_⟩
  unfold growB at q
  by_cases h1 : b &&& a = b
  · rw [if_pos h1] at q
    refine ite_false (by rw [decide_eq_true h1]; rfl) ?_
    refine ⟨_, _, rfl, .g, v, ms, b, rfl, G, hb, ?_⟩
    refine ⟨a, _, rfl, by omega, by omega, ?_⟩
    by_cases h2 : a &&& rnd ms b = a
    · rw [if_pos h2] at q
      refine ite_false (by rw [decide_eq_true h2]; rfl) ?_
      refine ⟨e, f, rfl, by omega, by omega, ?_⟩
      by_cases h3 : e &&& f = e
      · rw [if_pos h3] at q
        refine ite_true (decide_eq_true h3) ?_
        refine ⟨_, _, rfl, .g, v, ms, e, rfl, G, he, ?_⟩
        exact ⟨f, _, rfl, by omega, by omega, q⟩
      · rw [if_neg h3] at q
        refine ite_false (decide_eq_false h3) ?_
        exact q
    · rw [if_neg h2] at q
      exact ite_true (by rw [decide_eq_false h2]; rfl) q
  · rw [if_neg h1] at q
    exact ite_true (by rw [decide_eq_false h1]; rfl) q
end TA
set_option Elab.async false
set_option linter.all false
set_option maxRecDepth 100000
set_option maxHeartbeats 4000000
namespace TA
open PySem PySem.Spec L2
open PyProof.Rows hiding St
/-! ## the program's due -/
def spDueP : SpD := fun ds S Q _ => ∃ a p e w ups r, ds = [.tup [a, p, e, .str w, ups]] ∧ dueR w p = some r ∧ Q (.lst r) S
theorem len_due_programs : ∀ (ds : List D) (S : Stt) (Q : QE) (E : Str → Stt → Prop), spDueP ds S Q E → ds.length = 1 := by intro ds S Q E h; delta spDueP at h; (repeat obtain ⟨_, h⟩ := h); subst_vars; rfl
theorem ok_due_programs (C : Ct) (T : Txt C) : Fn C CX0 (0 + 1) "due_programs" ["line"] [] spDueP := by
  obtain ⟨fd, F⟩ := T.def_ 21 (d := d_due_programs)
  refine Fn.of F (T.glo "due_programs") (fun _ _ _ _ _ _ us hl => match us, hl with | [_], _ => rfl) (fnD F sc_due_programs len_due_programs (by decide) fun cdv A outer s H E hr => ⟨_,
    (dss_cons (ds_set (i := 1) sc_due_programs.nd rfl (by first | exact Or.inl rfl | exact Or.inr rfl) (de_ix ix_seq opd_ix (dv 0) de_int (fun _ _ => rfl)))
      (dss_cons (ds_set (i := 2) sc_due_programs.nd rfl (by first | exact Or.inl rfl | exact Or.inr rfl) (de_ix ix_seq opd_ix (dv 0) de_int (fun _ _ => rfl)))
      (dss_cons (ds_if (dt_cmp op_eq opd_eq (dv 2) de_str (nomark _)) (dss_one (ds_ret (de_lst (da_cons (dv 1) da_nil)))) dss_nil)
      (dss_cons (ds_if (dt_bop (dw_or (dt_cmp op_eq opd_eq (dv 2) de_str (nomark _)) (dw_or1 (dt_cmp op_eq opd_eq (dv 2) de_str (nomark _))))) (dss_one (ds_ret (de_lst (da_cons (de_ix ix_seq opd_ix (dv 1) de_int (fun _ _ => rfl)) (da_cons (de_ix ix_seq opd_ix (dv 1) de_int (fun _ _ => rfl)) da_nil))))) dss_nil)
      (dss_cons (ds_if (dt_cmp op_eq opd_eq (dv 2) de_str (nomark _)) (dss_one (ds_ret (de_lst (da_cons (de_ix ix_seq opd_ix (dv 1) de_int (fun _ _ => rfl)) (da_cons (dv 1) da_nil))))) dss_nil)
      (dss_cons (ds_if (dt_cmp op_eq opd_eq (dv 2) de_str (nomark _)) (dss_one (ds_ret (de_lst (da_cons (de_ix ix_seq opd_ix (dv 1) de_int (fun _ _ => rfl)) da_nil)))) dss_nil)
      (dss_one (ds_ret (de_lst da_nil))))))))), fun ds S QD ED h => ?_⟩)
  obtain ⟨a, p, e, w, ups, r, rfl, hr, q⟩ := h
  unfold dueR at hr
  by_cases h1 : w = "grow"
  · rw [if_pos h1] at hr
    cases hr
    exact dec_t h1 ⟨by show 1 ≤ 100000; decide, q⟩
  rw [if_neg h1] at hr
  refine dec_f h1 ?_
  by_cases h2 : w = "behind" ∨ w = "either"
  · rw [if_pos h2] at hr
    split at hr
    · cases hr
      rcases h2 with h2 | h2
      · exact dec_t h2 ⟨by show 2 ≤ 100000; decide, q⟩
      · by_cases h3 : w = "behind"
        · exact dec_t h3 ⟨by show 2 ≤ 100000; decide, q⟩
        · exact dec_f h3 (dec_t h2 ⟨by show 2 ≤ 100000; decide, q⟩)
    · cases hr
  rw [if_neg h2] at hr
  refine dec_f (fun z => h2 (.inl z)) (dec_f (fun z => h2 (.inr z)) ?_)
  by_cases h3 : w = "more"
  · rw [if_pos h3] at hr
    split at hr
    · cases hr
      exact dec_t h3 ⟨by show 2 ≤ 100000; decide, q⟩
    · cases hr
  rw [if_neg h3] at hr
  refine dec_f h3 ?_
  by_cases h4 : w = "closed"
  · rw [if_pos h4] at hr
    split at hr
    · cases hr
      exact dec_t h4 ⟨by show 1 ≤ 100000; decide, q⟩
    · cases hr
  rw [if_neg h4] at hr
  cases hr
  exact dec_f h4 ⟨by decide, q⟩
end TA
set_option Elab.async false
set_option linter.all false
set_option maxRecDepth 100000
set_option maxHeartbeats 4000000
namespace TA
open PySem PySem.Spec L2
open PyProof.Rows hiding St
/-! ## the program's lots -/
def spLotsP : SpD := fun ds S Q _ => ∃ (v : Nat) (es : List Ent) (a e : Nat) (P : Prog) (w : Str) (ups : D) (gs : List Ln) (b : Bool), ds = [stD v es, .tup [nI a, progD P, nI e, .str w, ups], .lst (gs.map lnD)] ∧ 1 ≤ v ∧ v ≤ 6 ∧ a < 2 ^ v ∧ (∀ e ∈ es, RowOk v e.2) ∧ StepsIn (es.map (·.1)) P ∧ Lots es w a e P gs b ∧ Q (.bl b) S
theorem len_lots_fit : ∀ (ds : List D) (S : Stt) (Q : QE) (E : Str → Stt → Prop), spLotsP ds S Q E → ds.length = 3 := by intro ds S Q E h; delta spLotsP at h; (repeat obtain ⟨_, h⟩ := h); subst_vars; rfl
theorem ok_lots_fit (C : Ct) (T : Txt C) : Fn C CX0 (1 + 1) "lots_fit" ["steps", "line", "given"] [] spLotsP := by
  obtain ⟨fd, F⟩ := T.def_ 25 (d := d_lots_fit)
  have F_Steps_row_of := (ok_Steps_row_of C T).mono (show 1 ≤ 1 by omega)
  have F_next_lot := (ok_next_lot C T).mono (show 1 ≤ 1 by omega)
  refine Fn.of F (T.glo "lots_fit") (fun _ _ _ _ _ _ us hl => match us, hl with | [_, _, _], _ => rfl) (fnD F sc_lots_fit len_lots_fit (by decide) fun cdv A outer s H E hr => ⟨_,
    (dss_cons (ds_set (i := 3) sc_lots_fit.nd rfl (by first | exact Or.inl rfl | exact Or.inr rfl) (de_ix ix_seq opd_ix (dv 1) de_int (fun _ _ => rfl)))
      (dss_cons (ds_set (i := 4) sc_lots_fit.nd rfl (by first | exact Or.inl rfl | exact Or.inr rfl) (de_ix ix_seq opd_ix (dv 1) de_int (fun _ _ => rfl)))
      (dss_cons (ds_set (i := 5) sc_lots_fit.nd rfl (by first | exact Or.inl rfl | exact Or.inr rfl) (de_ix ix_seq opd_ix (dv 1) de_int (fun _ _ => rfl)))
      (dss_cons (ds_if (dt_cmp op_eq opd_eq (dv 5) de_str (nomark _)) (dss_one (ds_ret de_bl)) dss_nil)
      (dss_cons (ds_if (dt_cmp op_eq opd_eq (dv 5) de_str (nomark _)) (dss_one (ds_ret (de_cmp op_eq opd_eq (dv 4) (de_call F_next_lot hr (by rfl) pass0 (da_cons (de_meth (d := d_Steps_row_of) (c := "Steps") T (T.meth .s) F_Steps_row_of hr (dv 0) pass0 (da_cons (de_ix ix_seq opd_ix (de_ix ix_seq opd_ix (dv 1) de_int (fun _ _ => rfl)) de_int (fun _ _ => rfl)) da_nil)) (da_cons (dv 3) da_nil))) (nomark _)))) dss_nil)
      (dss_cons (ds_if (dt_cmp op_eq opd_eq (dv 5) de_str (nomark _)) (dss_one (ds_ret (de_cmp op_eq opd_eq (dv 4) (dv 3) (nomark _)))) dss_nil)
      (dss_cons (ds_if (dt_cmp op_ne opd_ne (de_ix ix_seq opd_ix (de_ix ix_seq opd_ix (dv 2) de_int (fun _ _ => rfl)) de_int (fun _ _ => rfl)) (dv 3) (nomark _)) (dss_one (ds_ret de_bl)) dss_nil)
      (dss_cons (ds_set (i := 6) sc_lots_fit.nd rfl (by first | exact Or.inl rfl | exact Or.inr rfl) (de_ix ix_seq opd_ix (de_ix ix_seq opd_ix (dv 2) de_int (fun _ _ => rfl)) de_int (fun _ _ => rfl)))
      (dss_cons (ds_if (dt_cmp op_eq opd_eq (dv 5) de_str (nomark _)) (dss_one (ds_ret (de_and (de_cmp op_eq opd_eq (de_ix ix_seq opd_ix (de_ix ix_seq opd_ix (dv 2) de_int (fun _ _ => rfl)) de_int (fun _ _ => rfl)) (dv 6) (nomark _)) (de_one (de_cmp op_eq opd_eq (de_ix ix_seq opd_ix (de_ix ix_seq opd_ix (dv 2) de_int (fun _ _ => rfl)) de_int (fun _ _ => rfl)) (dv 4) (nomark _)))))) dss_nil)
      (dss_cons (ds_if (dt_cmp op_eq opd_eq (dv 5) de_str (nomark _)) (dss_one (ds_ret (de_and (de_cmp op_eq opd_eq (de_ix ix_seq opd_ix (de_ix ix_seq opd_ix (dv 2) de_int (fun _ _ => rfl)) de_int (fun _ _ => rfl)) (dv 3) (nomark _)) (de_one (de_cmp op_eq opd_eq (dv 4) (de_op op_or opd_I (dv 6) (de_ix ix_seq opd_ix (de_ix ix_seq opd_ix (dv 2) de_int (fun _ _ => rfl)) de_int (fun _ _ => rfl))) (nomark _)))))) dss_nil)
      (dss_cons (ds_if (dt_cmp op_eq opd_eq (dv 5) de_str (nomark _)) (dss_one (ds_ret (de_and (de_cmp op_eq opd_eq (de_ix ix_seq opd_ix (de_ix ix_seq opd_ix (dv 2) de_int (fun _ _ => rfl)) de_int (fun _ _ => rfl)) (de_op op_or opd_I (dv 3) (dv 6)) (nomark _)) (de_one (de_cmp op_eq opd_eq (de_ix ix_seq opd_ix (de_ix ix_seq opd_ix (dv 2) de_int (fun _ _ => rfl)) de_int (fun _ _ => rfl)) (dv 4) (nomark _)))))) dss_nil)
      (dss_one (ds_ret (de_cmp op_eq opd_eq (dv 4) (de_op op_or opd_I (dv 3) (dv 6)) (nomark _))))))))))))))), fun ds S QD ED h => ?_⟩)
  obtain ⟨v, es, a, e, P, w, ups, gs, b, rfl, h1, h6, ha, hr, hs, hL, q⟩ := h
  cases hL with
  | grow => exact q
  | @step _ _ n =>
    have hs : n ∈ es.map (·.1) := hs
    refine ⟨_, _, rfl, .s, v, es, n, rfl, hs, ?_⟩
    refine ⟨rowOf es n, a, rfl, ?_⟩
    show QD (.bl (decide ((e : Int) = (nextL (rowOf es n) a : Int)))) S
    rw [nat_dec]
    exact q
  | nothing =>
    show QD (.bl (decide ((e : Int) = (a : Int)))) S
    rw [show decide ((e : Int) = (a : Int)) = decide ((a : Int) = (e : Int)) from decide_eq_decide.mpr eq_comm, nat_dec]
    exact q
  | @behind _ _ _ _ g h =>
    refine ite2 (fun h0 => ?_) (fun h0 => ?_)
    · have z : g.a ≠ a := fun z => by rw [z] at h0; simp at h0
      rw [decide_eq_false z] at q
      exact q
    · have z : g.a = a := Decidable.byContradiction fun z => h0 (size_ne z)
      rw [decide_eq_true z] at q
      show (if decide ((h.a : Int) = (g.e : Int)) = true then QD (.bl (decide ((h.e : Int) = (e : Int)))) S else QD (.bl false) S)
      rw [nat_dec, nat_dec]
      refine ite2 (fun h1 => ?_) (fun h1 => ?_)
      · rw [h1] at q; exact q
      · rw [Bool.not_eq_true] at h1
        rw [h1] at q; exact q
  | @either _ _ _ _ g h =>
    refine ite2 (fun h0 => ?_) (fun h0 => ?_)
    · have z : g.a ≠ a := fun z => by rw [z] at h0; simp at h0
      rw [decide_eq_false z] at q
      exact q
    · have z : g.a = a := Decidable.byContradiction fun z => h0 (size_ne z)
      rw [decide_eq_true z] at q
      show (if decide ((h.a : Int) = (a : Int)) = true then QD (.bl (decide ((e : Int) = Builtin.bitOr (g.e : Int) (h.e : Int)))) S else QD (.bl false) S)
      rw [nat_dec, or_dec]
      refine ite2 (fun h1 => ?_) (fun h1 => ?_)
      · rw [h1] at q; exact q
      · rw [Bool.not_eq_true] at h1
        rw [h1] at q; exact q
  | @more _ _ _ g h =>
    refine ite2 (fun h0 => ?_) (fun h0 => ?_)
    · have z : g.a ≠ a := fun z => by rw [z] at h0; simp at h0
      rw [decide_eq_false z] at q
      exact q
    · have z : g.a = a := Decidable.byContradiction fun z => h0 (size_ne z)
      rw [decide_eq_true z] at q
      show (if decide ((h.a : Int) = Builtin.bitOr (a : Int) (g.e : Int)) = true then QD (.bl (decide ((h.e : Int) = (e : Int)))) S else QD (.bl false) S)
      rw [or_dec, nat_dec]
      refine ite2 (fun h1 => ?_) (fun h1 => ?_)
      · rw [h1] at q; exact q
      · rw [Bool.not_eq_true] at h1
        rw [h1] at q; exact q
  | @closed _ _ _ g =>
    refine ite2 (fun h0 => ?_) (fun h0 => ?_)
    · have z : g.a ≠ a := fun z => by rw [z] at h0; simp at h0
      rw [decide_eq_false z] at q
      exact q
    · have z : g.a = a := Decidable.byContradiction fun z => h0 (size_ne z)
      rw [decide_eq_true z] at q
      show QD (.bl (decide ((e : Int) = Builtin.bitOr (a : Int) (g.e : Int)))) S
      rw [or_dec]
      exact q
end TA
set_option Elab.async false
set_option linter.all false
set_option maxRecDepth 100000
set_option maxHeartbeats 4000000
namespace TA
open PySem PySem.Spec L2
open PyProof.Rows hiding St
/-! ## the program's uppers -/
theorem len_uppers_fit : ∀ (ds : List D) (S : Stt) (Q : QE) (E : Str → Stt → Prop), spUpsL ds S Q E → ds.length = 2 := by intro ds S Q E h; delta spUpsL at h; (repeat obtain ⟨_, h⟩ := h); subst_vars; rfl
theorem ok_uppers_fit (C : Ct) (T : Txt C) : Fn C CX0 (1 + 1) "uppers_fit" ["lines", "number"] [] spUpsL := by
  obtain ⟨fd, F⟩ := T.def_ 24 (d := d_uppers_fit)
  have F_due_programs := (ok_due_programs C T).mono (show 1 ≤ 1 by omega)
  have F_is_whole := (ok_is_whole C T).mono (show 1 ≤ 1 by omega)
  refine Fn.of F (T.glo "uppers_fit") (fun _ _ _ _ _ _ us hl => match us, hl with | [_, _], _ => rfl) (fnD F sc_uppers_fit len_uppers_fit (by decide) fun cdv A outer s H E hr => ⟨_,
    (dss_cons (ds_set (i := 2) sc_uppers_fit.nd rfl (by first | exact Or.inl rfl | exact Or.inr rfl) (de_ix ix_seq opd_ix (dv 0) (dv 1) (fun _ _ => rfl)))
      (dss_cons (ds_set (i := 3) sc_uppers_fit.nd rfl (by first | exact Or.inl rfl | exact Or.inr rfl) (de_ix ix_seq opd_ix (dv 2) de_int (fun _ _ => rfl)))
      (dss_cons (ds_set (i := 4) sc_uppers_fit.nd rfl (by first | exact Or.inl rfl | exact Or.inr rfl) (de_call F_due_programs hr (by rfl) pass0 (da_cons (dv 2) da_nil)))
      (dss_cons (ds_if (dt_bop (dw_or (dt_not (dt_val (de_isituple (T.free "isinstance") (T.free "tuple") (dv 3)))) (dw_or1 (dt_cmp op_ne opd_ne (de_cb call_len calld_len (by rfl) (T.free "len") (by decide +kernel) (da_cons (dv 3) da_nil)) (de_cb call_len calld_len (by rfl) (T.free "len") (by decide +kernel) (da_cons (dv 4) da_nil)) (nomark _))))) (dss_one (ds_ret de_bl)) dss_nil)
      (dss_cons (ds_for PassesOwn.never rfl (di_rng1 (by rfl) (T.free "range") (da_cons (de_cb call_len calld_len (by rfl) (T.free "len") (by decide +kernel) (da_cons (dv 4) da_nil)) da_nil)) (dg_name (i := 5) sc_uppers_fit.nd rfl (by first | exact Or.inl rfl | exact Or.inr rfl)) (dss_cons (ds_if (dt_not (dt_val (de_call F_is_whole hr (by rfl) pass0 (da_cons (de_ix ix_seq opd_ix (dv 3) (dv 5) (fun _ _ => rfl)) (da_cons de_int (da_cons (de_op op_sub opd_I (dv 1) de_int) da_nil)))))) (dss_one (ds_ret de_bl)) dss_nil)
      (dss_one (ds_if (dt_cmp (op_neD hr.units) opd_neD (de_ix ix_seq opd_ix (de_ix ix_seq opd_ix (dv 0) (de_ix ix_seq opd_ix (dv 3) (dv 5) (fun _ _ => rfl)) (fun _ _ => rfl)) de_int (fun _ _ => rfl)) (de_ix ix_seq opd_ix (dv 4) (dv 5) (fun _ _ => rfl)) (nomark _)) (dss_one (ds_ret de_bl)) dss_nil))))
      (dss_one (ds_ret de_bl))))))), fun ds S QD ED h => ?_⟩)
  obtain ⟨v, ns, x, ls, prev, a, e, P, w, ups, rfl, hs, hL, hns, hst, hh, hfit, hu, q⟩ := h
  conv => whnf
  rw [hs]
  conv => whnf
  rw [ix_of hL.at_]
  refine ⟨a, progD P, e, w, ups, _, rfl, due_eq hfit, hu.1, ?_⟩
  cases ups with
  | tup us =>
    by_cases hlen : us.length = (dueP w P).length
    · refine ite_false (b := !decide (((us.length : Nat) : Int) = ((((dueP w P).map progD).length : Nat) : Int))) (by rw [List.length_map, decide_eq_true (by omega)]; rfl) ?_
      have few : (dueP w P).length ≤ 2 := by
        unfold dueP
        repeat' split
        all_goals (simp)
      refine ⟨by rw [List.length_map]; omega, by omega, ?_⟩
      rw [ints0, List.length_map]
      have hq : ∀ b, uppersB prev (.tup us) (dueP w P) = b → QD (.bl b) S := fun b e => by rw [← e]; exact q
      have eB : uppersB prev (.tup us) (dueP w P) = upsB prev us (dueP w P) := by
        show (decide _ && _) = _
        rw [decide_eq_true hlen]; rfl
      refine ⟨fun r ρ S' => ∃ k o5, k ≤ (dueP w P).length ∧ r = (List.range' k ((dueP w P).length - k)).map nI ∧ ρ = [some x, some (nI prev.length), some (.tup [a, progD P, e, .str w, .tup us]), some (.tup us), some (.lst ((dueP w P).map progD)), o5] ∧ S' = S ∧ ∀ j (h : j < us.length) (h2 : j < (dueP w P).length), j < k → upB prev us[j] (dueP w P)[j] = true,
        ⟨0, none, by omega, rfl, rfl, rfl, fun j _ _ h => by omega⟩, ?_, ?_⟩
      · rintro y r ρ S' ⟨k, o5, hk, e1, rfl, rfl, hall⟩
        obtain ⟨h1, rfl, rfl⟩ := rng_cases hk e1
        have hku : k < us.length := by omega
        conv => whnf
        rw [ix_of (List.getElem?_eq_getElem hku)]
        have hT := hu.2 us rfl us[k] (List.getElem_mem hku)
        have bad : upB prev us[k] (dueP w P)[k] = false → QD (.bl false) S' := fun hb => by
          refine hq false ?_
          rw [eB]
          cases z : upsB prev us (dueP w P) with
          | false => rfl
          | true =>
            have := (upsB_at hlen).mp z k hku h1
            rw [hb] at this
            cases this
        refine ⟨us[k], 0, (prev.length : Int) - 1, rfl, hT, ?_⟩
        cases hd : us[k] with
        | int i =>
          rw [hd] at bad
          by_cases h0 : i < 0
          · exact ite_true (by show (!(decide ((0 : Int) ≤ i) && decide (i ≤ (prev.length : Int) - 1))) = true; rw [decide_eq_false (by omega)]; rfl) (bad (upB_neg h0))
          · obtain ⟨j, rfl⟩ := Int.eq_ofNat_of_zero_le (show 0 ≤ i by omega)
            by_cases hj : (prev.length : Int) ≤ (j : Int)
            · exact ite_true (by show (!(decide ((0 : Int) ≤ (j : Int)) && decide ((j : Int) ≤ (prev.length : Int) - 1))) = true; rw [decide_eq_true (by omega), decide_eq_false (by omega)]; rfl) (bad (by rw [upB_nat, upN_big (by omega)]))
            · refine ite_false (by show (!(decide ((0 : Int) ≤ (j : Int)) && decide ((j : Int) ≤ (prev.length : Int) - 1))) = false; rw [decide_eq_true (by omega), decide_eq_true (by omega)]; rfl) ?_
              have hj2 : j < prev.length := by omega
              conv => whnf
              rw [ix_of (List.getElem?_eq_getElem hku), hd]
              conv => whnf
              rw [hs]
              conv => whnf
              rw [ix_of (hL.pre j hj2)]
              conv => whnf
              rw [ix_of (show ((dueP w P).map progD)[k]? = some (progD (dueP w P)[k]) by rw [List.getElem?_map, List.getElem?_eq_getElem h1]; rfl)]
              have eB2 : upB prev (.int (j : Int)) (dueP w P)[k] = eqD (progD prev[j].p) (progD (dueP w P)[k]) := by rw [upB_nat, upN_at hj2]
              have ok1 := hL.ok _ (List.getElem_mem hj2)
              obtain ⟨s1, s2⟩ := due_steps (w := w) hst hh _ (List.getElem_mem h1)
              refine ⟨(prog_ok hns ok1.st ok1.ht).eq, (prog_ok hns s1 s2).eq, ?_⟩
              cases hq2 : eqD (progD prev[j].p) (progD (dueP w P)[k]) with
              | false =>
                refine bad ?_
                rw [eB2, hq2]
              | true =>
                refine ⟨k + 1, some (nI k), h1, rfl, rfl, rfl, fun m hm hm2 hlt => ?_⟩
                by_cases z : m = k
                · subst z
                  rw [hd, eB2, hq2]
                · exact hall m hm hm2 (by omega)
        | _ => first | exact bad (by rw [hd]; rfl) | (rw [hd] at hT; cases hT)
      · rintro ρ S' ⟨k, o5, hk, e1, rfl, rfl, hall⟩
        have := rng_end hk e1
        subst this
        refine hq true ?_
        rw [eB]
        exact (upsB_at hlen).mpr fun j h1 h2 => hall j h1 h2 h2
    · have e1 : uppersB prev (.tup us) (dueP w P) = false := by
        show (decide _ && _) = false
        rw [decide_eq_false hlen]; rfl
      rw [e1] at q
      refine ite_true (b := !decide (((us.length : Nat) : Int) = ((((dueP w P).map progD).length : Nat) : Int))) (by rw [List.length_map, decide_eq_false (by omega)]; rfl) q
  | _ => first | exact q | cases hu.1
end TA
set_option Elab.async false
set_option linter.all false
set_option maxRecDepth 100000
set_option maxHeartbeats 4000000
namespace TA
open PySem PySem.Spec L2
open PyProof.Rows hiding St
/-! ## readings with an exception's end -/
abbrev WXD : Type := Value → Option Addr → L2.St → Hp → Prop
abbrev EDR : Type := Str → Rho → Stt → Prop
def LinkW (K : PySem.W.Frag) (M : Rg) (H : Hp) (W : WXD) (ED : EDR) : Prop := ∀ M' H' σ' ρ' S' c o, Grow M H M' H' → Slots K M' H' ρ' σ' → Cells K M' H' S' → ED c ρ' S' → W (.ref (He.ga K c)) o σ' H'
theorem LinkW.mono {K : PySem.W.Frag} {M M1 : Rg} {H H1 : Hp} {W : WXD} {ED : EDR} (g : Grow M H M1 H1) (l : LinkW K M H W ED) : LinkW K M1 H1 W ED := fun M' H' σ' ρ' S' c o k => l M' H' σ' ρ' S' c o (g.trans k)
abbrev DTX : Type := DEnds → EDR → Rho → Stt → Prop
def upSX (K : PySem.W.Frag) (W : WXD) (ds : DTX) : TS := fun D σ H => ∃ M ρ S DD ED, Slots K M H ρ σ ∧ Cells K M H S ∧ LinkS K M H D DD ∧ LinkW K M H W ED ∧ ds DD ED ρ S
abbrev DSX (X : Cx) (W : WXD) (s : Stmt) (ds : DTX) : Prop := PS X s (upSX X.K W ds)
abbrev DSsX (X : Cx) (W : WXD) (s : List Stmt) (ds : DTX) : Prop := PSs X s (upSX X.K W ds)
section
variable {X : Cx} {W : WXD} {s : Stmt} {ss : List Stmt} {d : DTS} {a b : DTX}
def liftX (d : DTS) : DTX := fun DD _ ρ S => d DD ρ S
theorem dsx_lift (h : DS X s d) : DSX X W s (liftX d) := h.up fun D σ H ⟨M, ρ, S, DD, ED, s, c, l, k, q⟩ => ⟨M, ρ, S, DD, s, c, l, q⟩
theorem dssx_lift (h : DSs X ss d) : DSsX X W ss (liftX d) := h.up fun D σ H ⟨M, ρ, S, DD, ED, s, c, l, k, q⟩ => ⟨M, ρ, S, DD, s, c, l, q⟩
def xSeq (a b : DTX) : DTX := fun DD ED ρ S => a { DD with nx := fun ρ S => b DD ED ρ S } ED ρ S
theorem dsx_cons (h : DSX X W s a) (r : DSsX X W ss b) : DSsX X W (s :: ss) (xSeq a b) := (pss_cons h r).up fun D σ H ⟨M, ρ, S, DD, ED, s, c, l, k, q⟩ =>
  ⟨M, ρ, S, { DD with nx := fun ρ S => b DD ED ρ S }, ED, s, c, ⟨fun M1 σ1 H1 ρ1 S1 g1 s1 c1 q1 => ⟨M1, ρ1, S1, DD, ED, s1, c1, l.mono g1, k.mono g1, q1⟩, l.rt, l.bk, l.ct⟩, k, q⟩
def xIf (t : DTT) (a b : DTX) : DTX := fun DD ED ρ S => t ρ S fun c S1 => if c = true then a DD ED ρ S1 else b DD ED ρ S1
theorem dsx_if {e : Expr} {dc : DTT} {sa sb : List Stmt} {pos : Pos} (hc : DT X e dc) (ha : DSsX X W sa a) (hb : DSsX X W sb b) : DSX X W (.If e sa sb pos) (xIf dc a b) :=
  (ps_if hc ha hb).up fun D σ H ⟨M, ρ, S, DD, ED, s, c, l, k, q⟩ => ⟨M, ρ, S, _, s, c, fun M1 b H1 S1 g1 c1 q1 => by
    cases b with
    | true => exact ⟨M1, ρ, S1, DD, ED, s.mono g1, c1, l.mono g1, k.mono g1, q1⟩
    | false => exact ⟨M1, ρ, S1, DD, ED, s.mono g1, c1, l.mono g1, k.mono g1, q1⟩, q⟩
def xFor (di : DTI) (dg : DTG) (db : DTX) : DTX := fun E ED ρ S => di ρ S fun items S1 => ∃ W : List D → Rho → Stt → Prop, W items ρ S1 ∧
  (∀ x r ρ S, W (x :: r) ρ S → dg x ρ S fun ρ1 S1 => db { E with nx := W r, ct := W r, bk := E.nx } ED ρ1 S1) ∧ ∀ ρ S, W [] ρ S → E.nx ρ S
variable {W0 : WXD}
theorem dsx_for {iter tg : Expr} {body : List Stmt} {di : DTI} {dg : DTG} {db : DTX} {pos : Pos} (hp : PassesOwn (model X.prog X.w) X.A X.env X.xe) (hc : X.calm = true) (hi : DI X tg iter di) (hg : DG X tg dg) (hb : DSsX X W0 body db)
    (hs : ∀ x, foldedSetIterable iter X.env x = pure x := by intro _; rfl) : DSX X W0 (.For tg iter body [] pos) (xFor di dg db) := by
  refine (ps_for hp hc hi hg hb hs).up fun D σ H ⟨M, ρ, S, DD, ED, s, c, l, k, q⟩ => ?_
  refine ⟨M, ρ, S, _, s, c, fun M1 H1 J items S1 g1 c1 it q1 => ?_, q⟩
  obtain ⟨W, w0, turn, fin⟩ := q1
  refine ⟨fun i m σ H => ∃ M' ρ' S', Grow M1 H1 M' H ∧ Slots X.K M' H ρ' σ ∧ Cells X.K M' H S' ∧ m = items.length - i ∧ i ≤ items.length ∧ W (items.drop i) ρ' S',
    ⟨items.length, M1, ρ, S1, Grow.refl, s.mono g1, c1, by simp, Nat.zero_le _, by simpa using w0⟩, ?_⟩
  rintro i m σ2 H2 ⟨M2, ρ2, S2, g2, s2, c2, rfl, hi, h2⟩
  have hit := it M2 H2 g2.later i
  by_cases hlt : i < items.length
  · right
    obtain ⟨go, yld⟩ := hit.2 items[i] (List.getElem?_eq_getElem hlt)
    refine ⟨go, fun σ' H' => ∃ M' ρ' S', Grow M1 H1 M' H' ∧ Slots X.K M' H' ρ' σ' ∧ Cells X.K M' H' S' ∧ W (items.drop (i + 1)) ρ' S', ?_, fun x H3 hy => ?_⟩
    · rintro σ' H' ⟨M', ρ', S', a, b, c', d⟩
      exact ⟨items.length - (i + 1), by omega, M', ρ', S', a, b, c', rfl, hlt, d⟩
    · obtain ⟨fr, hd⟩ := yld x H3 hy
      have c3 : Cells X.K M2 H3 S2 := c2.ext fr.grow fr.keep
      rw [drop_at hlt] at h2
      refine ⟨M2, ρ2, S2, items[i], _, s2.mono fr.grow, c3, hd S2 c2, fun M4 σ4 H4 ρ4 S4 g4 s4 c4 q4 => ?_, turn _ _ _ _ h2⟩
      have g5 : Grow M1 H1 M4 H4 := (g2.trans fr.grow).trans g4
      have gg : Grow M H M4 H4 := g1.trans g5
      exact ⟨M4, ρ4, S4, ⟨fun ρ2 S2 => W (items.drop (i + 1)) ρ2 S2, DD.rt, DD.nx, fun ρ2 S2 => W (items.drop (i + 1)) ρ2 S2⟩, ED, s4, c4, ⟨fun M6 σ6 H6 ρ6 S6 g6 s6 c6 q6 => ⟨M6, ρ6, S6, g5.trans g6, s6, c6, q6⟩, l.rt.mono gg, fun M6 σ6 H6 ρ6 S6 g6 s6 c6 q6 => l.nx M6 σ6 H6 ρ6 S6 (gg.trans g6) s6 c6 q6,
        fun M6 σ6 H6 ρ6 S6 g6 s6 c6 q6 => ⟨M6, ρ6, S6, g5.trans g6, s6, c6, q6⟩⟩, k.mono gg, q4⟩
  · left
    have e : i = items.length := by omega
    refine ⟨hit.1 (by omega), l.nx M2 σ2 H2 ρ2 S2 (g1.trans g2) s2 c2 (fin _ _ ?_)⟩
    rw [e, List.drop_length] at h2
    exact h2
theorem dssx_nil : DSsX X W [] (liftX dNext) := dssx_lift dss_nil
theorem dssx_one (h : DSX X W s a) : DSsX X W [s] a := pss_one h
end
/-! ### raise -/
def xRaise (c : Str) : DTX := fun _ ED ρ S => ED c ρ S
/-- self.what = what -/
def spWhat (K : PySem.W.Frag) : Sp := fun vs H Q _ => ∃ (a C : Addr) (y : V), vs = [.ref a, y] ∧ OexC K C ∧ PySem.W.findIn K (.ref C) "what" = some none ∧ H a = some (exo a C none) ∧
  ∀ dx, H dx = none → dx ≠ a → Q .non (upd (upd H dx (exd dx [("what", y)])) a (exo a C (some dx)))
theorem Txt.oex {C : Ct} (T : Txt C) : OexC C.K (He.ga C.K "BadProgram") := oexB_ok (Bool.and_eq_true_iff.mp (Bool.and_eq_true_iff.mp T.ext).1).2
theorem Txt.bpI {C : Ct} (T : Txt C) : Meth C.K (He.ga C.K "BadProgram") "__init__" (He.ma C.K (He.ga C.K "BadProgram") "__init__") := He.meth_ok (T.oth 16)
theorem Txt.bpW {C : Ct} (T : Txt C) : PySem.W.findIn C.K (.ref (He.ga C.K "BadProgram")) "what" = some none := He.noat_ok (T.oth 17)
theorem bp_init {C : Ct} (T : Txt C) : ∃ fd, FnOk C.P C.w C.K C.mg C.base CX0 1 (He.ma C.K (He.ga C.K "BadProgram") "__init__") fd ["self", "what"] (spWhat C.K) ∧ Binds C.K fd ["self", "what"] [] := by
  obtain ⟨fd, F⟩ := T.def_ 0 (d := d_BadProgram__init_)
  refine ⟨fd, FunD.ok F sc_BadProgram__init_ (fun vs H Q E ⟨a, C, y, e, _⟩ => by rw [e]; rfl) (fun cdv A outer s H vs Q E hr h => ⟨_, pss_one (ps_ost (pe_var (i := 0) (x := "self") rfl (by exact Or.inl rfl)) (pe_var (i := 1) (x := "what") rfl (by exact Or.inl rfl))), ?_⟩), F.bindsN (fun _ _ _ _ _ _ us hl => match us, hl with | [_, _], _ => rfl)⟩
  obtain ⟨a, C, y, rfl, hx, hw, ha, q⟩ := h
  exact ⟨y, rfl, .ref a, rfl, a, C, rfl, hx, hw, .inl ⟨ha, q⟩⟩
section
variable {X : Cx} {W : WXD} {p p2 p3 pos : Pos} {m : Str} {j : Nat}
theorem dsx_raiseP (T : Txt (Cx.ct X)) (hc : X.calm = true) (tk : L2.Takes X W) (hr : Room 2 X.A) (hg : Gl X "BadProgram" := by rfl)
    (hs : starEach [.Constant (.str m) j p2] X.env = [(false, eval (.Constant (.str m) j p2) X.env)] := by rfl) : DSX X W (.Raise (some (.Call (.Name "BadProgram" p) [.Constant (.str m) j p2] [] p3)) none pos) (xRaise "BadProgram") := by
  obtain ⟨fd, F1, hb⟩ := bp_init T
  have ha : PA X [.Constant (.str m) j p2] (tCons (tC (.str m)) tNil) := pa_cons pe_str pa_nil (by rw [hs]; rfl)
  refine (L2.ps_raise hc tk (pmk_oex (p := p) (pos := p3) T.oex T.bpI.at_ (beq_iff_eq.mp T.bpI.fn) F1 hr hb .nil pass0 hg (T.glo "BadProgram") ha (by decide) (by rw [hs]; rfl) (by rfl))).up fun D σ H ⟨M, ρ, S, DD, ED, s, c, l, k, q⟩ => ?_
  refine ⟨by show 1 ≤ 1000; decide, fun a hn => ⟨a, _, .str m, rfl, T.oex, T.bpW, upd_same, fun dx hdx hne => ⟨rfl, dx, [("what", .str m)], upd_same, ?_, ?_, ?_⟩⟩⟩
  · rw [upd_ne hne, upd_same]
  · rw [upd_ne hne] at hdx
    exact hdx
  · rw [upd_ne hne] at hdx
    have e : upd (del (upd (upd (upd H a (exo a (He.ga X.K "BadProgram") none)) dx (exd dx [("what", .str m)])) a (exo a (He.ga X.K "BadProgram") (some dx))) a) dx (.xd [("what", .str m)]) = upd H dx (.xd [("what", .str m)]) := by
      funext b
      by_cases h1 : b = dx
      · rw [h1, upd_same, upd_same]
      · rw [upd_ne h1, upd_ne h1]
        by_cases h2 : b = a
        · rw [h2, del_same, hn]
        · rw [del_ne h2, upd_ne h2, upd_ne h1, upd_ne h2]
    have z := k M _ σ ρ S "BadProgram" (some dx) (Grow.new (o := .xd [("what", .str m)]) hdx) (s.mono (Grow.new hdx)) (c.new hdx) q
    rw [← e] at z
    exact z
/-- C(): an own exception class without own __init__ -/
theorem pmk_own0 {C : Addr} {bmB : List Value} {B newId initId : String} {x : Str} (F : ExcBaseFacts B newId initId bmB) (q : PySem.W.excIn X.K C bmB newId = true) (gC : X.mg x = some (.ref C)) (kC : PySem.W.keepIn X.K (.ref C) = true) (r : L2.Raises X (.ref C)) (hg : Gl X x)
    (hdb : (x == ("__debug__" : Str)) = false := by decide) : L2.PMk X (.Call (.Name x p) [] [] pos) (fun _ H Q => Q (.ref C) none H) := by
  intro pins s σ H Q I h
  refine wpAny_Call_Name_kw (ld_glob I hg gC ?_ hdb)
  refine PySem.W.callWith_K0 I.kIn kC ?_
  show wpAny _ _ (call (.ref C) []) _ _ _
  obtain ⟨bm, N, nm, qn, bs, hdct, sn, sub, ab, col, dd, k0, k1, k2, k3, k5, mN, hC, hN, hni, T⟩ := exc_obj I.kIn q
  refine wpAny_call_exc_subT F T hC hN hni (fun h' e hm => ?_) (by show 0 ≤ sizeLine; exact Nat.zero_le _)
  exact L2.mk_of I hm r h (I.hok.gone hm.new)
theorem dsx_raiseU (T : Txt (Cx.ct X)) (hc : X.calm = true) (tk : L2.Takes X W) (hg : Gl X "UnlikeStands" := by rfl) : DSX X W (.Raise (some (.Call (.Name "UnlikeStands" p) [] [] p3)) none pos) (xRaise "UnlikeStands") := by
  obtain ⟨h1, h2, h3, h4⟩ := He.exc_ok (T.oth 13)
  refine (L2.ps_raise hc tk (pmk_own0 F.excBase_ValueError h1 (T.glo "UnlikeStands") h2 (L2.raises_own h3 h4) hg)).up fun D σ H ⟨M, ρ, S, DD, ED, s, c, l, k, q⟩ => ?_
  exact k M H σ ρ S "UnlikeStands" none Grow.refl s c q
end
/-! ### calls of defs that may raise -/
def xCallD (sp : SpD) (da : DTA) : DTX := fun DD ED ρ S => da ρ S fun ds S1 => sp ds S1 (fun _ S2 => DD.nx ρ S2) fun c S2 => ED c ρ S2
def xCallN (sp : SpD) (da : DTA) (i : Nat) : DTX := fun DD ED ρ S => da ρ S fun ds S1 => sp ds S1 (fun d S2 => DD.nx (st ρ i d) S2) fun c S2 => ED c ρ S2
section
variable {X : Cx} {W : WXD} {k : Nat} {x : Str} {ps : List Str} {sp : SpD} {p pos pos2 : Pos} {e : Expr} {es : List Expr} {dr : DTA}
theorem Fn.plain {C : Ct} {CX : CXT} (F : Fn C CX k x ps [] sp) : ∃ f fd, C.mg x = some (.ref f) ∧ PySem.W.keepIn C.K (.ref f) = true ∧ FnOk C.P C.w C.K C.mg C.base CX k f fd ps (upF C.K sp) ∧ Binds C.K fd ps [] := by
  obtain ⟨f, fd, us, vs, h1, h2, h3, h4, h5, h6⟩ := F
  have e : vs = [] := by simpa only [DpL] using h6 ⟨[], []⟩ (fun _ => none)
  subst e
  cases h5
  exact ⟨f, fd, h1, h2, h3, h4⟩
theorem dsx_callD (F : Fn (Cx.ct X) (L2.CX X.prog X.w) k x ps [] sp) (hr : Room k X.A) (tk : L2.Takes X W) (ha : DA X (e :: es) dr) (hg : Gl X x := by rfl) (hdb : (x == ("__debug__" : Str)) = false := by decide)
    (he : starEach (e :: es) X.env = (false, eval e X.env) :: starEach es X.env := by rfl) (hpl : (backTo pos (starEach es X.env)).any (·.1) = false := by rfl)
    (hs : swapsWith (.Call (.Name x p) (e :: es) [] pos) none pos2.line X.env = pure false := by rfl) : DSX X W (.Expr (.Call (.Name x p) (e :: es) [] pos) pos2) (xCallD sp dr) := by
  obtain ⟨f, fd, hm, hk, G, hb⟩ := F.plain
  exact (ps_expr (pe_callS (E := WE W) G hr hg hm hk hb (fun σ => passAt tk σ) ha hdb he hpl) hs).up fun D σ H ⟨M, ρ, S, DD, ED, s, c, l, k, q⟩ => ⟨M, ρ, S, _, s, c, fun M1 vs H1 ds S1 g1 c1 hl q1 =>
    ⟨M1, ds, S1, _, _, hl, c1, fun M2 v H2 d S2 g2 c2 hd q2 => l.nx M2 σ H2 ρ S2 (g1.trans g2) (s.mono (g1.trans g2)) c2 q2, fun M2 H2 c' o S2 g2 c2 q2 => k M2 H2 σ ρ S2 c' o (g1.trans g2) (s.mono (g1.trans g2)) c2 q2, q1⟩, q⟩
theorem dsx_callN {i : Nat} {y : Str} {py : Pos} (hN : X.N.Nodup) (hi : X.N[i]? = some y) (hy : Loc X.env.scope y) (F : Fn (Cx.ct X) (L2.CX X.prog X.w) k x ps [] sp) (hr : Room k X.A) (tk : L2.Takes X W) (ha : DA X (e :: es) dr) (hg : Gl X x := by rfl)
    (hdb : (x == ("__debug__" : Str)) = false := by decide) (he : starEach (e :: es) X.env = (false, eval e X.env) :: starEach es X.env := by rfl) (hpl : (backTo pos (starEach es X.env)).any (·.1) = false := by rfl)
    (hs : swapsWith (.Call (.Name x p) (e :: es) [] pos) (some (.Name y py)) pos2.line X.env = pure false := by rfl) (hf : X.fn y = true ∨ X.env.scope.names.lookup y = some .local := by first | exact .inl rfl | exact .inr rfl | assumption) :
    DSX X W (.Assign [.Name y py] (.Call (.Name x p) (e :: es) [] pos) pos2) (xCallN sp dr i) := by
  obtain ⟨f, fd, hm, hk, G, hb⟩ := F.plain
  exact (ps_set hN hi hy (pe_callS (E := WE W) G hr hg hm hk hb (fun σ => passAt tk σ) ha hdb he hpl) hs hf).up fun D σ H ⟨M, ρ, S, DD, ED, s, c, l, k, q⟩ => ⟨M, ρ, S, _, s, c, fun M1 vs H1 ds S1 g1 c1 hl q1 =>
    ⟨M1, ds, S1, _, _, hl, c1, fun M2 v H2 d S2 g2 c2 hd q2 => l.nx M2 _ H2 _ S2 (g1.trans g2) ((s.mono (g1.trans g2)).set hd i) c2 q2, fun M2 H2 c' o S2 g2 c2 q2 => k M2 H2 σ ρ S2 c' o (g1.trans g2) (s.mono (g1.trans g2)) c2 q2, q1⟩, q⟩
end
/-! ### a raising def's body -/
theorem fnDX {C : Ct} {x qual : Str} {params : Arguments} {body : List Stmt} {scope : Scope} {dvs : List V} {kws : List (Str × V)} {f : Addr} {fd : FuncData} {N ps : List Str} {k : Nat} {sp : SpD}
    (F : FunD C.K x qual params body scope dvs kws f fd) (S : FnScope N ps scope) (len : ∀ ds S Q E, sp ds S Q E → ds.length = ps.length) (hN : ps.length ≤ N.length)
    (hbody : ∀ (cdv : Value) (A : Around) (outer : List PySem.Env) (s : Shared) (H : Hp) (E : XK), Room k (A.deeper (envOfC qual scope s.heap.objs.size f cdv)) →
      L2.Takes (cxOf (L2.CX C.P C.w) C.P C.w C.K C.mg C.base N qual scope f cdv A outer s H E) (fun cls d _ H' => E cls d H') →
      PassesOwn (model C.P C.w) (A.deeper (envOfC qual scope s.heap.objs.size f cdv)) (envOfC qual scope s.heap.objs.size f cdv) (cxOf (L2.CX C.P C.w) C.P C.w C.K C.mg C.base N qual scope f cdv A outer s H E).xe →
      ∃ dt, DSsX (cxOf (L2.CX C.P C.w) C.P C.w C.K C.mg C.base N qual scope f cdv A outer s H E) (fun cls d _ H' => E cls d H') body dt ∧ ∀ ds S QD ED, sp ds S QD ED → dt (endsD QD) (fun c _ S => ED c S) (startD N ds) S) :
    FnOk C.P C.w C.K C.mg C.base (L2.CX C.P C.w) (k + 1) f fd ps (upF C.K sp) := by
  refine FunD.ok F S (fun vs H Q E h => ?_) fun cdv A outer s H vs Q E hr h => ?_
  · obtain ⟨M, ds, S', QD, ED, hl, _, _, _, q⟩ := h
    rw [← hl.len]
    exact len _ _ _ _ q
  · obtain ⟨M, ds, S', QD, ED, hl, c, l, lx, q⟩ := h
    obtain ⟨dt, hd, hq⟩ := hbody cdv A outer s H E hr (L2.takes_of rfl rfl rfl rfl) (L2.passes_of rfl)
    have hlen := len _ _ _ _ q
    refine ⟨_, hd, M, startD N ds, S', endsD QD, _, startD_slots hl (by omega), c, ⟨fun M1 σ1 H1 ρ1 S1 g1 s1 c1 q1 => ?_, l, fun _ _ _ _ _ _ _ _ z => z.elim, fun _ _ _ _ _ _ _ _ z => z.elim⟩, fun M1 H1 σ1 ρ1 S1 c' o g1 s1 c1 q1 => lx M1 H1 c' o S1 g1 c1 q1, hq ds S' QD ED q⟩
    exact l M1 .non H1 .non S1 g1 c1 dp_non q1
/-! ### try: body, except c: suite -/
def dTry (c : Str) (db : DTX) (du : DTS) : DTS := fun DD ρ S => db DD (fun c' ρ' S' => c' = c ∧ du DD ρ' S') ρ S
section
variable {X : Cx} {x : Str} {body suite : List Stmt} {b₀ : Stmt} {np pos pos' : Pos} {db : DTX} {du : DTS}
theorem ds_try (T : Txt (Cx.ct X)) (hs : X.stack = X.env :: X.outer) (hf : X.env.frame = some X.env.locals) (hg : Gl X x) (hm : X.mg x = some (.ref (He.ga X.K x))) (he : PySem.W.exmOne X.K (.ref (He.ga X.K x)) (.ref (He.ga X.K x)) = some true)
    (hb : ∀ (W : WXD) (pn : List (Addr × Obj)) (xe : Value → Shared → Prop), L2.Takes (L2.Cx.tr X pn xe) W → PassesOwn (model X.prog X.w) X.A X.env xe → DSsX (L2.Cx.tr X pn xe) W body db)
    (hsu : ∀ (a : Addr) (pn : List (Addr × Obj)), DSs (L2.Cx.suite X a pn) (b₀ :: suite) du) (hdb : (x == ("__debug__" : Str)) = false := by decide) :
    DS X (.Try body [.ExceptHandler (some (.Name x np)) none (b₀ :: suite) pos'] [] [] pos) (dTry x db du) := by
  refine (ps_try_only (Wout := fun _ _ _ _ => False) (tb := fun W => upSX X.K W db) (ts := fun _ _ _ => upS X.K du) hs hf ⟨hg, hdb, .inl hm⟩ (fun u s' xx => ?_) hb fun a oe cls d pn _ _ => hsu a _).up fun D σ H ⟨M, ρ, S, DD, s, c, l, q⟩ => ?_
  · obtain ⟨_, _, _, _, _, _, _, _, _, _, _, _, _, _, _, _, z⟩ := xx
    exact z.elim
  · refine ⟨M, ρ, S, DD, _, s, c, l, fun M1 H1 σ1 ρ1 S1 c' o g1 s1 c1 ⟨ec, q1⟩ => ?_, q⟩
    subst ec
    exact ⟨true, he, fun _ a _ => ⟨M1, ρ1, S1, DD, s1, c1, l.mono g1, q1⟩, fun z => by cases z⟩
end
/-! ### x not in o, by o's own __contains__ -/
section
variable {X : Cx} {CX : CXT} {k : Nat} {C f : Addr} {fd : FuncData} {ps : List Str} {sp : Sp} {E : XK} {e e2 : Expr} {de de2 : DTE} {pos : Pos}
def rNotIn (C : Addr) (sp : Sp) (E : XK) : R2 := fun x o H Q => ∃ a dx fs, o = .ref a ∧ H a = some (.ins C dx fs) ∧ sp [.ref a, x] H (fun r H' => ∃ b, r = .bl b ∧ Q (.bl (!b)) H') E
theorem op_notIn_own (F : FnOk X.prog X.w X.K X.mg X.base CX k f fd ps sp) (hm : Meth X.K C "__contains__" f) (hr : Room k X.A) (hb : Binds X.K fd ps []) (hx : Passes CX X E) : OpR X (compareOp .NotIn) (rNotIn C sp E) := by
  intro pins s σ H x o v u Q I rx ry h
  obtain ⟨a, dx, fs, rfl, ha, q⟩ := h
  obtain rfl : u = Value.ref a := ry
  obtain ⟨mA, J, _⟩ := ins_get I.hok ha
  obtain ⟨od, J, _⟩ := J.look
  obtain ⟨m, hF⟩ := I.fr
  refine PySem.W.notIn_K hF I.ok.mod.kin J hm.at_ hm.fn (thn (run_fn (us := [.ref a, v]) (vs := [.ref a, x]) (ds := []) (dvs := []) F hr hb .nil hx I (.cons rfl (.cons rx .nil)) q) fun r s1 ⟨z, H1, I1, rz, b, ez, q1⟩ => ?_)
  subst ez
  cases rz
  exact wpAny_pure ⟨.bl (!b), H1, I1, rfl, q1⟩
/-- over data: an object of the class c -/
def dNotInO (sp : SpD) (da db : DTE) : DTE := fun ρ S Q => da ρ S fun x S1 => db ρ S1 fun y S2 => ∃ fs ds, objAt S2 y = some (("Steps" : Str), fs, ds) ∧ sp [y, x] S2 (fun r S3 => ∃ b, r = .bl b ∧ Q (.bl (!b)) S3) fun _ _ => False
theorem up_notInS {sp : SpD} (M : Rg) (ρ : Rho) (S : Stt) (QD : QE) (σ : L2.St) (H : Hp) (Q : VK) (s : Slots X.K M H ρ σ) (c : Cells X.K M H S) (l : LinkE X.K M H Q QD) (q : dNotInO sp de de2 ρ S QD) :
    tOp (rNotIn (He.ga X.K "Steps") (upF X.K sp) E0) (upE X.K de) (upE X.K de2) σ H Q := by
  refine ⟨M, ρ, S, _, s, c, fun M1 x H1 dx S1 g1 c1 hx q1 => ?_, q⟩
  refine ⟨M1, ρ, S1, _, s.mono g1, c1, fun M2 y H2 dy S2 g2 c2 hy ⟨fs, ds, eo, q2⟩ => ?_, q1⟩
  obtain ⟨a, dd, vs, ev, ha, hk, hl⟩ := obj_inv c2 hy eo
  have g := g1.trans g2
  subst ev
  refine ⟨a, dd, _, rfl, ha, M2, [dy, dx], S2, _, _, DpL.cons hy (DpL.cons (hx.mono g2) DpL.nil), c2, fun M3 r H3 dr S3 g3 c3 hr ⟨b, eb, q3⟩ => ?_, linkx0, q2⟩
  subst eb
  exact ⟨b, hr.bl_inv, l M3 _ H3 _ S3 (g.trans g3) c3 dp_bl q3⟩
theorem dt_notInSteps {sp : SpD} (T : Txt (Cx.ct X)) (F : FnM (Cx.ct X) CX0 k d_Steps__contains_ ps sp) (hr : Room k X.A) (he : DE X e de) (he2 : DE X e2 de2) (hm : behindInMarks .NotIn e2 = false := by rfl) : DT X (.Compare e [.NotIn] [e2] pos) (dTest (dNotInO sp de de2)) := by
  obtain ⟨fd, G, hb⟩ := F
  exact upT_of (pt_cmpR (op_notIn_own (E := E0) G (He.meth_ok (T.oth 12)) hr hb pass0) he he2 hm) fun M ρ S QD σ H Q s c k q => up_notInS M ρ S _ σ H _ s c (link_b k) q
end
end TA
set_option Elab.async false
set_option linter.all false
set_option maxRecDepth 100000
set_option maxHeartbeats 4000000
namespace TA
open PySem PySem.Spec L2
open PyProof.Rows hiding St
/-! ## what the program refuses -/
def hasB (es : List Ent) : D → Bool
  | .str n => decide (n ∈ es.map (·.1))
  | _ => false
def spHas : SpD := fun ds S Q _ => ∃ (v : Nat) (es : List Ent) (d : D), ds = [stD v es, d] ∧ hasT d ∧ Q (.bl (hasB es d)) S
theorem len_Steps__contains_ : ∀ (ds : List D) (S : Stt) (Q : QE) (E : Str → Stt → Prop), spHas ds S Q E → ds.length = 2 := by intro ds S Q E h; delta spHas at h; (repeat obtain ⟨_, h⟩ := h); subst_vars; rfl
theorem ok_Steps__contains_ (C : Ct) (T : Txt C) : FnM C CX0 (0 + 1) d_Steps__contains_ ["self", "name"] spHas := by
  obtain ⟨fd, F⟩ := T.def_ 32 (d := d_Steps__contains_)
  refine FnM.of F (fun _ _ _ _ _ _ us hl => match us, hl with | [_, _], _ => rfl) (fnD F sc_Steps__contains_ len_Steps__contains_ (by decide) fun cdv A outer s H E hr => ⟨_,
    (dss_one (ds_ret (de_and (de_isistr (T.free "isinstance") (T.free "str") (dv 1)) (de_one (de_cmp op_in_seq opd_in (dv 1) (de_fld T (dv 0)) (nomarkin _)))))), fun ds S QD ED h => ?_⟩)
  obtain ⟨v, es, d, rfl, hT, q⟩ := h
  refine ⟨hT, ?_⟩
  cases d with
  | str n =>
    refine ⟨_, _, _, _, _, rfl, .s1, rfl, ?_⟩
    have e0 : es.map nameD = (es.map (·.1)).map D.str := by rw [List.map_map]; rfl
    refine ⟨rfl, by rw [e0]; exact flat_str _, ?_⟩
    have e : hasB es (.str n) = inD (.str n) (es.map nameD) := by
      rw [e0]
      show decide _ = _
      cases z : inD (.str n) ((es.map (·.1)).map D.str) with
      | true => exact decide_eq_true (inD_str.mp z)
      | false => exact decide_eq_false fun h => by rw [inD_str.mpr h] at z; cases z
    rw [e] at q
    exact q
  | _ => first | exact q | cases hT
theorem nodes_deep {ns : List Str} {d : D} {dp ag n : Nat} (h : Nodes ns d dp ag n) (hd : 12 < dp) : n = 0 := by
  cases h <;> first | rfl | omega
theorem nodes_shape {ns : List Str} {d : D} {dp ag n : Nat} (h : Nodes ns d dp ag n) (hs : shapeB d = false) : n = 0 := by
  cases h with
  | nothing => cases hs
  | step => cases hs
  | again => cases hs
  | two _ hw => rcases hw with rfl | rfl <;> cases hs
  | _ => rfl
theorem shape_not {w : Str} {ps : List D} (h : ps.length + 1 ≠ sizeW w) : shapeB (.tup (.str w :: ps)) = false := by
  show decide _ = false
  exact decide_eq_false h
def spNodeX (f : Nat) : SpD := fun ds S Q E => ∃ (v : Nat) (es : List Ent) (p : D) (dp ag had n : Nat), ds = [stD v es, p, nI dp, nI ag, nI had] ∧ 14 ≤ dp + f ∧ dp ≤ 13 ∧ ag ≤ 4 ∧ had ≤ 60 ∧ WP p ∧ Nodes (es.map (·.1)) p dp ag n ∧ (if n ≠ 0 ∧ had + n ≤ 60 then Q (nI (had + n)) S else E "BadProgram" S)
theorem nonex_check_node (C : Ct) (T : Txt C) : Fn C (L2.CX C.P C.w) 1 "check_node" ["steps", "node", "deep", "agains", "had"] [] (fun _ _ _ _ => False) := by
  obtain ⟨fd, F⟩ := T.def_ 13 (d := d_check_node)
  exact Fn.of F (T.glo "check_node") (fun _ _ _ _ _ _ us hl => match us, hl with | [_, _, _, _, _], _ => rfl) (fnDX F sc_check_node (fun _ _ _ _ h => h.elim) (by decide) fun cdv A outer s H E hr tk hp => ⟨_, dssx_lift dss_never, fun _ _ _ _ h => h.elim⟩)
theorem len_check_node : ∀ (ds : List D) (S : Stt) (Q : QE) (E : Str → Stt → Prop), (spNodeX (f + 1)) ds S Q E → ds.length = 5 := by intro ds S Q E h; delta spNodeX at h; (repeat obtain ⟨_, h⟩ := h); subst_vars; rfl
theorem step_check_node (C : Ct) (T : Txt C) (f : Nat) (F_check_node : Fn C (L2.CX C.P C.w) (f + 7) "check_node" ["steps", "node", "deep", "agains", "had"] [] (spNodeX f)) : Fn C (L2.CX C.P C.w) ((f + 7) + 1) "check_node" ["steps", "node", "deep", "agains", "had"] [] (spNodeX (f + 1)) := by
  obtain ⟨fd, F⟩ := T.def_ 13 (d := d_check_node)
  have F_Steps__contains_ := (ok_Steps__contains_ C T).mono (show 1 ≤ (f + 7) by omega)
  have F_has_shape := (ok_has_shape C T).mono (show 1 ≤ (f + 7) by omega)
  have F_inner_programs := (ok_inner_programs C T).mono (show 1 ≤ (f + 7) by omega)
  refine Fn.of F (T.glo "check_node") (fun _ _ _ _ _ _ us hl => match us, hl with | [_, _, _, _, _], _ => rfl) (fnDX F sc_check_node len_check_node (by decide) fun cdv A outer s H E hr tk hp => ⟨_,
    (dsx_cons (dsx_if (dt_cmp op_gt opd_B (dv 2) (de_globI rfl (T.int_ "MOST_DEEP" (i := 12))) (nomark _)) (dssx_one (dsx_raiseP T rfl tk (hr.mono (by omega)))) dssx_nil)
      (dsx_cons (dsx_if (dt_cmp op_ge opd_B (dv 4) (de_globI rfl (T.int_ "MOST_LONG" (i := 60))) (nomark _)) (dssx_one (dsx_raiseP T rfl tk (hr.mono (by omega)))) dssx_nil)
      (dsx_cons (dsx_if (dt_not (dt_val (de_call F_has_shape hr (by rfl) pass0 (da_cons (dv 1) da_nil)))) (dssx_one (dsx_raiseP T rfl tk (hr.mono (by omega)))) dssx_nil)
      (dsx_cons (dsx_if (dt_bop (dw_and (dt_cmp op_eq opd_eq (de_ix ix_seq opd_ix (dv 1) de_int (fun _ _ => rfl)) de_str (nomark _)) (dw_and1 (dt_cmp op_ge opd_B (dv 3) (de_globI rfl (T.int_ "MOST_AGAINS" (i := 4))) (nomark _))))) (dssx_one (dsx_raiseP T rfl tk (hr.mono (by omega)))) dssx_nil)
      (dsx_cons (dsx_if (dt_bop (dw_and (dt_cmp op_eq opd_eq (de_ix ix_seq opd_ix (dv 1) de_int (fun _ _ => rfl)) de_str (nomark _)) (dw_and1 (dt_notInSteps T F_Steps__contains_ hr (de_ix ix_seq opd_ix (dv 1) de_int (fun _ _ => rfl)) (dv 0))))) (dssx_one (dsx_raiseP T rfl tk (hr.mono (by omega)))) dssx_nil)
      (dsx_cons (dsx_lift (ds_set (i := 5) sc_check_node.nd rfl (by first | exact Or.inl rfl | exact Or.inr rfl) (de_op op_add opd_I (dv 4) de_int)))
      (dsx_cons (dsx_lift (ds_set (i := 6) sc_check_node.nd rfl (by first | exact Or.inl rfl | exact Or.inr rfl) (de_op op_add opd_I (dv 3) (de_ifE (dt_cmp op_eq opd_eq (de_ix ix_seq opd_ix (dv 1) de_int (fun _ _ => rfl)) de_str (nomark _)) de_int de_int))))
      (dsx_cons (dsx_for hp rfl (di_seq (de_call F_inner_programs hr (by rfl) pass0 (da_cons (dv 1) da_nil))) (dg_name (i := 7) sc_check_node.nd rfl (by first | exact Or.inl rfl | exact Or.inr rfl)) (dssx_one (dsx_callN (i := 5) sc_check_node.nd rfl (by first | exact Or.inl rfl | exact Or.inr rfl) F_check_node hr tk (da_cons (dv 0) (da_cons (dv 7) (da_cons (de_op op_add opd_I (dv 2) de_int) (da_cons (dv 6) (da_cons (dv 5) da_nil))))))))
      (dssx_lift (dss_one (ds_ret (dv 5)))))))))))), fun ds S QD ED h => ?_⟩)
  obtain ⟨v, es, p, dp, ag, had, n, rfl, hf, h13, ha, hh, hp, hN, q⟩ := h
  have bad : ¬ (n ≠ 0 ∧ had + n ≤ 60) → ED "BadProgram" S := fun h => by rw [if_neg h] at q; exact q
  have good : n ≠ 0 → had + n ≤ 60 → QD (nI (had + n)) S := fun h1 h2 => by rw [if_pos ⟨h1, h2⟩] at q; exact q
  by_cases hd : dp ≤ 12
  · refine dec_f (by omega) ?_
    by_cases h60 : had < 60
    · refine dec_f (by omega) ?_
      refine ⟨p, rfl, hp, ?_⟩
      cases hs : shapeB p with
      | false => exact ite_true (b := !false) rfl (bad fun h => h.1 (nodes_shape hN hs))
      | true =>
        refine ite_false (b := !true) rfl ?_
        cases hN with
        | other h1 h2 => cases p <;> first | (cases hs; done) | (cases h2; done)
        | nil => cases hs
        | deep h => omega
        | @odd x ps _ _ _ _ h => cases x <;> first | (cases hs; done) | (cases h; done)
        | short _ _ h => rw [shape_not h] at hs; cases hs
        | nothing _ =>
          refine ⟨"nothing", [], rfl, .inr (by show 0 ≤ 1000; omega), ?_⟩
          refine ⟨fun r ρ S' => S' = S ∧ r = [] ∧ ∃ o6 o7, ρ = [some (stD v es), some (.tup [.str "nothing"]), some (nI dp), some (nI ag), some (nI had), some (nI (had + 1)), o6, o7], ⟨rfl, rfl, _, _, rfl⟩, ?_, ?_⟩
          · rintro x r ρ S' ⟨rfl, e, o6, o7, rfl⟩
            cases e
          · rintro ρ S' ⟨rfl, e, o6, o7, rfl⟩
            exact good (by decide) (by omega)
        | @step m _ _ _ hm =>
          refine ⟨_, _, rfl, v, es, .str m, rfl, rfl, _, rfl, ?_⟩
          refine ite_false (b := !decide (m ∈ es.map (·.1))) (by rw [decide_eq_true hm]; rfl) ?_
          refine ⟨"step", [.str m], rfl, .inl rfl, ?_⟩
          refine ⟨fun r ρ S' => S' = S ∧ r = [] ∧ ∃ o6 o7, ρ = [some (stD v es), some (.tup [.str "step", .str m]), some (nI dp), some (nI ag), some (nI had), some (nI (had + 1)), o6, o7], ⟨rfl, rfl, _, _, rfl⟩, ?_, ?_⟩
          · rintro x r ρ S' ⟨rfl, e, o6, o7, rfl⟩
            cases e
          · rintro ρ S' ⟨rfl, e, o6, o7, rfl⟩
            exact good (by decide) (by omega)
        | @noname x _ _ _ hx hm =>
          refine ⟨_, _, rfl, v, es, x, rfl, hx, _, rfl, ?_⟩
          refine ite_true (b := !hasB es x) ?_ (bad fun h => h.1 rfl)
          cases x with
          | str m => show (!decide _) = true; rw [decide_eq_false (hm m rfl)]; rfl
          | _ => rfl
        | @agains r _ _ _ h4 =>
          subst h4
          exact bad fun h => h.1 rfl
        | @again r _ _ n _ h4 hn =>
          have wp : WP r := by
            cases hp with
            | again h => exact h
            | other _ h => cases h
            | odd _ h => cases h
            | short _ h => exact absurd rfl h
          refine dec_f (by omega) ?_
          refine ⟨"again", [r], rfl, .inr (by show 1 ≤ 1000; omega), ?_⟩
          refine ⟨fun l ρ S' => S' = S ∧ ∃ t o7, ρ = [some (stD v es), some (.tup [.str "again", r]), some (nI dp), some (nI ag), some (nI had), some (nI t), some (nI (ag + 1)), o7] ∧ ((l = [r] ∧ t = had + 1) ∨ (l = [] ∧ n ≠ 0 ∧ had + 1 + n ≤ 60 ∧ t = had + 1 + n)), ⟨rfl, had + 1, none, rfl, .inl ⟨rfl, rfl⟩⟩, ?_, ?_⟩
          · rintro x l ρ S' ⟨rfl, t, o7, rfl, hl⟩
            rcases hl with ⟨e, rfl⟩ | ⟨e, _⟩
            · cases e
              refine ⟨v, es, r, dp + 1, ag + 1, had + 1, n, rfl, by omega, by omega, by omega, by omega, wp, hn, ?_⟩
              by_cases hc : n ≠ 0 ∧ had + 1 + n ≤ 60
              · rw [if_pos hc]
                exact ⟨rfl, had + 1 + n, _, rfl, .inr ⟨rfl, hc.1, hc.2, rfl⟩⟩
              · rw [if_neg hc]
                refine bad fun h => hc ?_
                by_cases z : n = 0
                · rw [if_pos z] at h; exact absurd rfl h.1
                · rw [if_neg z] at h; exact ⟨z, by omega⟩
            · cases e
          · rintro ρ S' ⟨rfl, t, o7, rfl, hl⟩
            rcases hl with ⟨e, _⟩ | ⟨e, h0, h2, rfl⟩
            · cases e
            · rw [if_neg h0] at good
              have := good (by omega) (by omega)
              rw [show had + (1 + n) = had + 1 + n by omega] at this
              exact this
        | @two0 w r1 r2 _ _ _ hw hn =>
          have wp : WP r1 := by
            cases hp with
            | behind h _ => exact h
            | either h _ => exact h
            | other _ h => cases h
            | odd _ h => cases h
            | short _ h => rcases hw with z | z <;> subst z <;> exact absurd rfl h
          rcases hw with hw | hw
          all_goals
            subst hw
            refine ⟨_, [r1, r2], rfl, .inr (by show 2 ≤ 1000; omega), ?_⟩
            refine ⟨fun l ρ S' => S' = S ∧ ∃ w2 o7, ρ = [some (stD v es), some (.tup [.str w2, r1, r2]), some (nI dp), some (nI ag), some (nI had), some (nI (had + 1)), some (nI ag), o7] ∧ l = [r1, r2], ⟨rfl, _, none, rfl, rfl⟩, ?_, ?_⟩
            · rintro x l ρ S' ⟨rfl, w2, o7, rfl, e⟩
              cases e
              refine ⟨v, es, r1, dp + 1, ag, had + 1, 0, rfl, by omega, by omega, by omega, by omega, wp, hn, ?_⟩
              rw [if_neg (fun h => h.1 rfl)]
              exact bad fun h => h.1 rfl
            · rintro ρ S' ⟨rfl, w2, o7, rfl, e⟩
              cases e
        | @two w r1 r2 _ _ n m _ hw hn hn0 hm =>
          have wp : WP r1 ∧ WP r2 := by
            cases hp with
            | behind h k => exact ⟨h, k⟩
            | either h k => exact ⟨h, k⟩
            | other _ h => cases h
            | odd _ h => cases h
            | short _ h => rcases hw with z | z <;> subst z <;> exact absurd rfl h
          have gd : m ≠ 0 → had + 1 + n + m ≤ 60 → QD (nI (had + 1 + n + m)) S := fun h1 h2 => by
            rw [if_neg h1] at good
            have := good (by omega) (by omega)
            rw [show had + (1 + n + m) = had + 1 + n + m by omega] at this
            exact this
          have bd : ¬ (m ≠ 0 ∧ had + 1 + n + m ≤ 60) → ED "BadProgram" S := fun hc => bad fun h => hc (by
            by_cases z : m = 0
            · rw [if_pos z] at h; exact absurd rfl h.1
            · rw [if_neg z] at h; exact ⟨z, by omega⟩)
          rcases hw with hw | hw
          all_goals
            subst hw
            refine ⟨_, [r1, r2], rfl, .inr (by show 2 ≤ 1000; omega), ?_⟩
            refine ⟨fun l ρ S' => S' = S ∧ ∃ w2 t o7, ρ = [some (stD v es), some (.tup [.str w2, r1, r2]), some (nI dp), some (nI ag), some (nI had), some (nI t), some (nI ag), o7] ∧ ((l = [r1, r2] ∧ t = had + 1) ∨ (l = [r2] ∧ had + 1 + n ≤ 60 ∧ t = had + 1 + n) ∨ (l = [] ∧ m ≠ 0 ∧ had + 1 + n + m ≤ 60 ∧ t = had + 1 + n + m)),
              ⟨rfl, _, had + 1, none, rfl, .inl ⟨rfl, rfl⟩⟩, ?_, ?_⟩
            · rintro x l ρ S' ⟨rfl, w2, t, o7, rfl, hl⟩
              rcases hl with ⟨e, rfl⟩ | ⟨e, h1, rfl⟩ | ⟨e, _⟩
              · cases e
                refine ⟨v, es, r1, dp + 1, ag, had + 1, n, rfl, by omega, by omega, by omega, by omega, wp.1, hn, ?_⟩
                by_cases hc : n ≠ 0 ∧ had + 1 + n ≤ 60
                · rw [if_pos hc]
                  exact ⟨rfl, _, had + 1 + n, _, rfl, .inr (.inl ⟨rfl, hc.2, rfl⟩)⟩
                · rw [if_neg hc]
                  exact bd fun h => hc ⟨hn0, by omega⟩
              · cases e
                refine ⟨v, es, r2, dp + 1, ag, had + 1 + n, m, rfl, by omega, by omega, by omega, by omega, wp.2, hm, ?_⟩
                by_cases hc : m ≠ 0 ∧ had + 1 + n + m ≤ 60
                · rw [if_pos hc]
                  exact ⟨rfl, _, had + 1 + n + m, _, rfl, .inr (.inr ⟨rfl, hc.1, hc.2, rfl⟩)⟩
                · rw [if_neg hc]
                  exact bd hc
              · cases e
            · rintro ρ S' ⟨rfl, w2, t, o7, rfl, hl⟩
              rcases hl with ⟨e, _⟩ | ⟨e, _⟩ | ⟨e, h0, h2, rfl⟩
              · cases e
              · cases e
              · exact gd h0 h2
    · exact dec_t (by omega) (bad fun h => by omega)
  · exact dec_t (by omega) (bad fun h => h.1 (nodes_deep hN (by omega)))
theorem node_fn (C : Ct) (T : Txt C) : ∀ f, Fn C (L2.CX C.P C.w) (f + 7) "check_node" ["steps", "node", "deep", "agains", "had"] [] (spNodeX f)
  | 0 => ((nonex_check_node C T).mono (by omega)).imp fun ds S Q E ⟨v, es, p, dp, ag, had, n, _, h1, h2, _⟩ => by omega
  | f + 1 => step_check_node C T f (node_fn C T f)
theorem okx_check_node (C : Ct) (T : Txt C) : Fn C (L2.CX C.P C.w) 20 "check_node" ["steps", "node", "deep", "agains", "had"] [] (spNodeX 13) := node_fn C T 13
def spProgX : SpD := fun ds S Q E => ∃ (v : Nat) (es : List Ent) (p : D) (b : Bool), ds = [stD v es, p] ∧ WP p ∧ Fine (es.map (·.1)) p b ∧ (if b = true then Q p S else E "BadProgram" S)
theorem len_check_program : ∀ (ds : List D) (S : Stt) (Q : QE) (E : Str → Stt → Prop), spProgX ds S Q E → ds.length = 2 := by intro ds S Q E h; delta spProgX at h; (repeat obtain ⟨_, h⟩ := h); subst_vars; rfl
theorem okx_check_program (C : Ct) (T : Txt C) : Fn C (L2.CX C.P C.w) (20 + 1) "check_program" ["steps", "program"] [] spProgX := by
  obtain ⟨fd, F⟩ := T.def_ 14 (d := d_check_program)
  have F_check_node := (okx_check_node C T).mono (show 20 ≤ 20 by omega)
  refine Fn.of F (T.glo "check_program") (fun _ _ _ _ _ _ us hl => match us, hl with | [_, _], _ => rfl) (fnDX F sc_check_program len_check_program (by decide) fun cdv A outer s H E hr tk hp => ⟨_,
    (dsx_cons (dsx_callD F_check_node hr tk (da_cons (dv 0) (da_cons (dv 1) (da_cons de_int (da_cons de_int (da_cons de_int da_nil))))))
      (dssx_lift (dss_one (ds_ret (dv 1))))), fun ds S QD ED h => ?_⟩)
  obtain ⟨v, es, p, b, rfl, hp, ⟨n, hn, rfl⟩, q⟩ := h
  refine ⟨v, es, p, 1, 0, 0, n, rfl, by omega, by omega, by omega, by omega, hp, hn, ?_⟩
  by_cases hc : n ≠ 0 ∧ 0 + n ≤ 60
  · rw [if_pos hc]
    rw [decide_eq_true (show 0 < n by omega), decide_eq_true (show n < 61 by omega)] at q
    exact q
  · rw [if_neg hc]
    have e : (decide (0 < n) && decide (n < 61)) = false := by
      rw [Bool.and_eq_false_iff]
      by_cases z : n = 0
      · exact .inl (decide_eq_false (by omega))
      · exact .inr (decide_eq_false fun h => hc ⟨z, by omega⟩)
    rw [e] at q
    exact q
def spRefused : SpD := fun ds S Q _ => ∃ (v : Nat) (es : List Ent) (p : D) (b : Bool), ds = [stD v es, p] ∧ WP p ∧ Fine (es.map (·.1)) p b ∧ Q (.bl (!b)) S
theorem len_is_refused : ∀ (ds : List D) (S : Stt) (Q : QE) (E : Str → Stt → Prop), spRefused ds S Q E → ds.length = 2 := by intro ds S Q E h; delta spRefused at h; (repeat obtain ⟨_, h⟩ := h); subst_vars; rfl
theorem ok_is_refused (C : Ct) (T : Txt C) : Fn C CX0 (21 + 1) "is_refused" ["steps", "program"] [] spRefused := by
  obtain ⟨fd, F⟩ := T.def_ 22 (d := d_is_refused)
  have F_check_program := (okx_check_program C T).mono (show 21 ≤ 21 by omega)
  refine Fn.of F (T.glo "is_refused") (fun _ _ _ _ _ _ us hl => match us, hl with | [_, _], _ => rfl) (fnD F sc_is_refused len_is_refused (by decide) fun cdv A outer s H E hr => ⟨_,
    (dss_cons (ds_try T rfl rfl rfl (T.glo "BadProgram") (He.exm_ok (T.oth 15)) (fun W pn xe tk hp => (dssx_one (dsx_callD F_check_program hr tk (da_cons (dv 0) (da_cons (dv 1) da_nil)))))
      (fun a pn => (dss_one (ds_ret de_bl))))
      (dss_one (ds_ret de_bl))), fun ds S QD ED h => ?_⟩)
  obtain ⟨v, es, p, b, rfl, hp, hF, q⟩ := h
  refine ⟨v, es, p, b, rfl, hp, hF, ?_⟩
  cases b with
  | true => exact q
  | false => exact ⟨rfl, q⟩
end TA
set_option Elab.async false
set_option linter.all false
set_option maxRecDepth 100000
set_option maxHeartbeats 4000000
namespace TA
open PySem PySem.Spec L2
open PyProof.Rows hiding St
/-! ## the program's word of a line -/
def wordD (w : Str) : D := if w = "good" then .non else .str w
theorem wordD_ne {w : Str} (h : w ≠ "good") : wordD w = .str w := if_neg h
theorem wordD_good : wordD "good" = .non := if_pos rfl
theorem makes_in {w : Str} (h : makesF w ≠ "none") : w ∈ namesT ∧ w ≠ "grow" ∧ ((w, .str (makesF w)) : Str × D) ∈ shapeTab := by
  by_cases h1 : w = "step"
  · subst h1; exact ⟨.head _, by decide, .head _⟩
  by_cases h2 : w = "nothing"
  · subst h2; exact ⟨.tail _ (.head _), by decide, .tail _ (.head _)⟩
  by_cases h3 : w = "behind"
  · subst h3; exact ⟨.tail _ (.tail _ (.tail _ (.head _))), by decide, .tail _ (.tail _ (.head _))⟩
  by_cases h4 : w = "either"
  · subst h4; exact ⟨.tail _ (.tail _ (.tail _ (.tail _ (.head _)))), by decide, .tail _ (.tail _ (.tail _ (.head _)))⟩
  by_cases h5 : w = "more"
  · subst h5; exact ⟨.tail _ (.tail _ (.tail _ (.tail _ (.tail _ (.head _))))), by decide, .tail _ (.tail _ (.tail _ (.tail _ (.head _))))⟩
  by_cases h6 : w = "closed"
  · subst h6; exact ⟨.tail _ (.tail _ (.tail _ (.tail _ (.tail _ (.tail _ (.head _)))))), by decide, .tail _ (.tail _ (.tail _ (.tail _ (.tail _ (.head _)))))⟩
  exact absurd (by unfold makesF; rw [if_neg h1, if_neg h2, if_neg h3, if_neg h4, if_neg h5, if_neg h6]) h
theorem makes_of {w : Str} (h : w ∈ namesT) (hg : w ≠ "grow") : makesF w ≠ "none" := by
  rcases List.mem_cons.mp h with e | h
  · subst e; decide
  rcases List.mem_cons.mp h with e | h
  · subst e; decide
  rcases List.mem_cons.mp h with e | h
  · exact absurd e hg
  rcases List.mem_cons.mp h with e | h
  · subst e; decide
  rcases List.mem_cons.mp h with e | h
  · subst e; decide
  rcases List.mem_cons.mp h with e | h
  · subst e; decide
  rcases List.mem_cons.mp h with e | h
  · subst e; decide
  cases h
theorem head_ne : ∀ P : Prog, headP P ≠ "none"
  | .nothing => show ("nothing" : Str) ≠ "none" by decide
  | .step _ => show ("step" : Str) ≠ "none" by decide
  | .behind _ _ => show ("behind" : Str) ≠ "none" by decide
  | .either _ _ => show ("either" : Str) ≠ "none" by decide
  | .again _ => show ("again" : Str) ≠ "none" by decide
def spShapeP : SpD := fun ds S Q _ => ∃ (v : Nat) (es : List Ent) (d : D) (w : Str), ds = [stD v es, d] ∧ 1 ≤ v ∧ v ≤ 6 ∧ Shape v (es.map (·.1)) d w ∧ Q (wordD w) S
theorem whB_lotB {v : Nat} (d : D) : whB d 0 ((1 : Int) * 2 ^ ((v : Int)).toNat - 1) = lotB v d := by
  rw [every_eq]
  cases d with
  | int i =>
    show (decide (0 ≤ i) && decide (i ≤ ((2 ^ v - 1 : Nat) : Int))) = (decide (0 ≤ i) && decide (i < ((2 ^ v : Nat) : Int)))
    have := two_pos v
    rw [show decide (i ≤ ((2 ^ v - 1 : Nat) : Int)) = decide (i < ((2 ^ v : Nat) : Int)) from decide_eq_decide.mpr (by omega)]
  | _ => rfl
theorem inD_no {w : Str} {ns : List Str} (h : w ∉ ns) : inD (.str w) (ns.map D.str) = false := by
  cases z : inD (.str w) (ns.map D.str) with
  | false => rfl
  | true => exact absurd (inD_str.mp z) h
theorem len_shape_word : ∀ (ds : List D) (S : Stt) (Q : QE) (E : Str → Stt → Prop), spShapeP ds S Q E → ds.length = 2 := by intro ds S Q E h; delta spShapeP at h; (repeat obtain ⟨_, h⟩ := h); subst_vars; rfl
theorem ok_shape_word (C : Ct) (T : Txt C) : Fn C CX0 (22 + 1) "shape_word" ["steps", "line"] [] spShapeP := by
  obtain ⟨fd, F⟩ := T.def_ 23 (d := d_shape_word)
  have F_is_refused := (ok_is_refused C T).mono (show 22 ≤ 22 by omega)
  have F_is_whole := (ok_is_whole C T).mono (show 1 ≤ 22 by omega)
  have F_rule_names := (ok_rule_names C T).mono (show 1 ≤ 22 by omega)
  refine Fn.of F (T.glo "shape_word") (fun _ _ _ _ _ _ us hl => match us, hl with | [_, _], _ => rfl) (fnD F sc_shape_word len_shape_word (by decide) fun cdv A outer s H E hr => ⟨_,
    (dss_cons (ds_if (dt_bop (dw_or (dt_not (dt_val (de_isituple (T.free "isinstance") (T.free "tuple") (dv 1)))) (dw_or1 (dt_cmp op_ne opd_ne (de_cb call_len calld_len (by rfl) (T.free "len") (by decide +kernel) (da_cons (dv 1) da_nil)) de_int (nomark _))))) (dss_one (ds_ret de_str)) dss_nil)
      (dss_cons (ds_set (i := 2) sc_shape_word.nd rfl (by first | exact Or.inl rfl | exact Or.inr rfl) (de_op op_sub opd_I (de_op op_shl opd_IC de_int (de_fld T (dv 0))) de_int))
      (dss_cons (ds_if (dt_bop (dw_or (dt_not (dt_val (de_call F_is_whole hr (by rfl) pass0 (da_cons (de_ix ix_seq opd_ix (dv 1) de_int (fun _ _ => rfl)) (da_cons de_int (da_cons (dv 2) da_nil)))))) (dw_or1 (dt_not (dt_val (de_call F_is_whole hr (by rfl) pass0 (da_cons (de_ix ix_seq opd_ix (dv 1) de_int (fun _ _ => rfl)) (da_cons de_int (da_cons (dv 2) da_nil))))))))) (dss_one (ds_ret de_str)) dss_nil)
      (dss_cons (ds_if (dt_val (de_call F_is_refused hr (by rfl) pass0 (da_cons (dv 0) (da_cons (de_ix ix_seq opd_ix (dv 1) de_int (fun _ _ => rfl)) da_nil)))) (dss_one (ds_ret de_str)) dss_nil)
      (dss_cons (ds_set (i := 3) sc_shape_word.nd rfl (by first | exact Or.inl rfl | exact Or.inr rfl) (de_ix ix_seq opd_ix (dv 1) de_int (fun _ _ => rfl)))
      (dss_cons (ds_if (dt_bop (dw_or (dt_not (dt_val (de_isistr (T.free "isinstance") (T.free "str") (dv 3)))) (dw_or1 (dt_cmp op_notIn_seq opd_notin (dv 3) (de_call0 F_rule_names hr (by rfl) pass0) (nomarkin _))))) (dss_one (ds_ret de_str)) dss_nil)
      (dss_cons (ds_if (dt_bop (dw_and (dt_cmp op_ne opd_ne (dv 3) de_str (nomark _)) (dw_and1 (dt_cmp op_ne opd_ne (de_ix ix_seq opd_ix (de_ix ix_seq opd_ix (dv 1) de_int (fun _ _ => rfl)) de_int (fun _ _ => rfl)) (de_tabSHAPES T (dv 3)) (nomark _))))) (dss_one (ds_ret de_str)) dss_nil)
      (dss_one (ds_ret de_non))))))))), fun ds S QD ED h => ?_⟩)
  obtain ⟨v, es, d, w, rfl, h1, h6, hS, q⟩ := h
  have q1 : w ≠ "good" → QD (.str w) S := fun h => by rw [wordD_ne h] at q; exact q
  cases hS with
  | other g1 g2 =>
    cases d with
    | tup ds =>
      refine ⟨rfl, ?_⟩
      exact ite_false rfl (ite_true (len5 (g2 ds rfl)) (q1 (by decide)))
    | _ => first | exact ⟨g1, q1 (by decide)⟩ | cases g1
  | @lots a p e how ups g1 g2 g3 =>
    refine ⟨rfl, _, _, _, _, _, rfl, .s0, rfl, cpow1 (by omega), a, 0, _, rfl, g1, ?_⟩
    cases ha : lotB v a with
    | false => exact ite_true (by rw [whB_lotB, ha]; rfl) (q1 (by decide))
    | true =>
      refine ite_false (by rw [whB_lotB, ha]; rfl) ⟨e, 0, _, rfl, g2, ?_⟩
      rw [ha] at g3
      exact ite_true (by rw [whB_lotB, show lotB v e = false from g3]; rfl) (q1 (by decide))
  | @prog a e p how ups g1 g2 g3 g4 =>
    refine ⟨rfl, _, _, _, _, _, rfl, .s0, rfl, cpow1 (by omega), nI a, 0, _, rfl, rfl, ite_false (by rw [whB_lotB, lotB_of g1]; rfl) ⟨nI e, 0, _, rfl, rfl, ite_false (by rw [whB_lotB, lotB_of g2]; rfl) ?_⟩⟩
    exact ⟨v, es, p, false, rfl, g3, g4, q1 (by decide)⟩
  | @how a e P how ups g1 g2 g3 g4 g5 g6 g7 =>
    refine ⟨rfl, _, _, _, _, _, rfl, .s0, rfl, cpow1 (by omega), nI a, 0, _, rfl, rfl, ite_false (by rw [whB_lotB, lotB_of g1]; rfl) ⟨nI e, 0, _, rfl, rfl, ite_false (by rw [whB_lotB, lotB_of g2]; rfl) ?_⟩⟩
    refine ⟨v, es, progD P, true, rfl, g3, g4, ?_⟩
    refine ⟨g6, ?_⟩
    cases how with
    | str w =>
      obtain ⟨y1, y2⟩ := g7 w rfl
      refine ite_false rfl ⟨rfl, rfl, flat_str namesT, ?_⟩
      by_cases hw : w ∈ namesT
      · refine ite_false (b := !inD (.str w) (namesT.map D.str)) (by rw [inD_str.mpr hw]; rfl) ?_
        refine ite_true (by rw [decide_eq_false y1]; rfl) ?_
        obtain ⟨r, er⟩ := head_ix P
        rw [er]
        refine ⟨w, _, rfl, (makes_in (makes_of hw y1)).2.2, ?_⟩
        exact ite_true (b := !decide (headP P = makesF w)) (by rw [decide_eq_false (fun z => y2 z.symm)]; rfl) (q1 (by decide))
      · exact ite_true (b := !inD (.str w) (namesT.map D.str)) (by rw [inD_no hw]; rfl) (q1 (by decide))
    | _ => first | exact q1 (by decide) | cases g6
  | @good a e P w ups g1 g2 g3 g4 g5 g6 g7 g8 g9 =>
    rw [wordD_good] at q
    refine ⟨rfl, _, _, _, _, _, rfl, .s0, rfl, cpow1 (by omega), nI a, 0, _, rfl, rfl, ite_false (by rw [whB_lotB, lotB_of g1]; rfl) ⟨nI e, 0, _, rfl, rfl, ite_false (by rw [whB_lotB, lotB_of g2]; rfl) ?_⟩⟩
    refine ⟨v, es, progD P, true, rfl, g3, g4, ?_⟩
    refine ⟨rfl, ite_false rfl ⟨rfl, rfl, flat_str namesT, ?_⟩⟩
    by_cases y1 : w = "grow"
    · subst y1
      exact q
    · have g9 : makesF w = headP P := g9.elim (fun z => absurd z y1) id
      obtain ⟨hw, _, ht⟩ := makes_in (w := w) (by rw [g9]; exact head_ne P)
      refine ite_false (b := !inD (.str w) (namesT.map D.str)) (by rw [inD_str.mpr hw]; rfl) ?_
      refine ite_true (by rw [decide_eq_false y1]; rfl) ?_
      obtain ⟨r, er⟩ := head_ix P
      rw [er]
      refine ⟨w, _, rfl, ht, ?_⟩
      exact ite_false (b := !decide (headP P = makesF w)) (by rw [decide_eq_true g9.symm]; rfl) q
end TA
set_option Elab.async false
set_option linter.all false
set_option maxRecDepth 100000
set_option maxHeartbeats 4000000
namespace TA
open PySem PySem.Spec L2
open PyProof.Rows hiding St
/-! ## the program's judgement -/
def spWordP : SpD := fun ds S Q _ => ∃ (v : Nat) (ms : List Nat) (es : List Ent) (x : D) (ls : List D) (prev : List Ln) (d : D) (w : Str), ds = [glD v ms, stD v es, x, nI prev.length] ∧ Good v ms ∧ Ents v es ∧ seqD S x = some ls ∧ LinesAt v (es.map (·.1)) ls prev d ∧
  WordIs v ms es prev d w ∧ Q (wordD w) S
theorem growB_eq {ms : List Nat} {a e b f : Nat} : growB ms a e b f = ((decide (b &&& a = b) && decide (a &&& rnd ms b = a)) && (decide (e &&& f = e) && decide (f &&& rnd ms e = f))) := by
  unfold growB
  by_cases h1 : b &&& a = b
  · rw [if_pos h1, decide_eq_true h1]
    by_cases h2 : a &&& rnd ms b = a
    · rw [if_pos h2, decide_eq_true h2]
      by_cases h3 : e &&& f = e
      · rw [if_pos h3, decide_eq_true h3]; rfl
      · rw [if_neg h3, decide_eq_false h3]; rfl
    · rw [if_neg h2, decide_eq_false h2]; rfl
  · rw [if_neg h1, decide_eq_false h1]; rfl
theorem len_line_word : ∀ (ds : List D) (S : Stt) (Q : QE) (E : Str → Stt → Prop), spWordP ds S Q E → ds.length = 4 := by intro ds S Q E h; delta spWordP at h; (repeat obtain ⟨_, h⟩ := h); subst_vars; rfl
theorem ok_line_word (C : Ct) (T : Txt C) : Fn C CX0 (23 + 1) "line_word" ["glasses", "steps", "lines", "number"] [] spWordP := by
  obtain ⟨fd, F⟩ := T.def_ 27 (d := d_line_word)
  have F_Glasses_rounded := (ok_Glasses_rounded C T).mono (show 5 ≤ 23 by omega)
  have F_Steps_row_of := (ok_Steps_row_of C T).mono (show 1 ≤ 23 by omega)
  have F_grow_fits := (ok_grow_fits C T).mono (show 6 ≤ 23 by omega)
  have F_is_within := (ok_is_within C T).mono (show 5 ≤ 23 by omega)
  have F_lots_fit := (ok_lots_fit C T).mono (show 2 ≤ 23 by omega)
  have F_shape_word := (ok_shape_word C T).mono (show 23 ≤ 23 by omega)
  have F_sharp_at := (ok_sharp_at C T).mono (show 7 ≤ 23 by omega)
  have F_uppers_fit := (ok_uppers_fit C T).mono (show 2 ≤ 23 by omega)
  refine Fn.of F (T.glo "line_word") (fun _ _ _ _ _ _ us hl => match us, hl with | [_, _, _, _], _ => rfl) (fnD F sc_line_word len_line_word (by decide) fun cdv A outer s H E hr => ⟨_,
    (dss_cons (ds_set (i := 4) sc_line_word.nd rfl (by first | exact Or.inl rfl | exact Or.inr rfl) (de_ix ix_seq opd_ix (dv 2) (dv 3) (fun _ _ => rfl)))
      (dss_cons (ds_set (i := 5) sc_line_word.nd rfl (by first | exact Or.inl rfl | exact Or.inr rfl) (de_call F_shape_word hr (by rfl) pass0 (da_cons (dv 1) (da_cons (dv 4) da_nil))))
      (dss_cons (ds_if (dt_cmp op_notN opd_notN (dv 5) de_non (nomark _)) (dss_one (ds_ret (dv 5))) dss_nil)
      (dss_cons (ds_if (dt_not (dt_val (de_call F_uppers_fit hr (by rfl) pass0 (da_cons (dv 2) (da_cons (dv 3) da_nil))))) (dss_one (ds_ret de_str)) dss_nil)
      (dss_cons (ds_setLc (i := 6) (own := [("upper", 8)]) (g := gName 8) (dg := gN 8) rfl sc_line_word.nd rfl rfl (sw_true rfl rfl rfl (by decide +kernel)) (di_seq (de_ix ix_seq opd_ix (dv 4) de_int (fun _ _ => rfl))) (blkOk_by (N := ["glasses", "steps", "lines", "number", "line", "word", "given", "how", "upper"]) (sc := defScope (topS 48)) (by decide +kernel)) (own_name (by decide)) (fun _ _ _ _ _ => pg_name (i := 8) sc_line_word.nd rfl (by first | exact Or.inl rfl | exact Or.inr rfl)) (fun _ _ _ _ _ => dts_nil) (fun _ _ _ _ _ => (de_ix ix_seq opd_ix (dv 2) (dv 8) (fun _ _ => rfl))))
      (dss_cons (ds_if (dt_not (dt_val (de_call F_lots_fit hr (by rfl) pass0 (da_cons (dv 1) (da_cons (dv 4) (da_cons (dv 6) da_nil)))))) (dss_one (ds_ret de_str)) dss_nil)
      (dss_cons (ds_set (i := 7) sc_line_word.nd rfl (by first | exact Or.inl rfl | exact Or.inr rfl) (de_ix ix_seq opd_ix (dv 4) de_int (fun _ _ => rfl)))
      (dss_cons (ds_if (dt_bop (dw_and (dt_cmp op_eq opd_eq (dv 7) de_str (nomark _)) (dw_and1 (dt_not (dt_val (de_call F_sharp_at hr (by rfl) pass0 (da_cons (dv 0) (da_cons (de_meth (d := d_Steps_row_of) (c := "Steps") T (T.meth .s) F_Steps_row_of hr (dv 1) pass0 (da_cons (de_ix ix_seq opd_ix (de_ix ix_seq opd_ix (dv 4) de_int (fun _ _ => rfl)) de_int (fun _ _ => rfl)) da_nil)) (da_cons (de_ix ix_seq opd_ix (dv 4) de_int (fun _ _ => rfl)) da_nil))))))))) (dss_one (ds_ret de_str)) dss_nil)
      (dss_cons (ds_if (dt_bop (dw_and (dt_cmp op_eq opd_eq (dv 7) de_str (nomark _)) (dw_and1 (dt_not (dt_val (de_call F_grow_fits hr (by rfl) pass0 (da_cons (dv 0) (da_cons (dv 4) (da_cons (de_ix ix_seq opd_ix (dv 6) de_int (fun _ _ => rfl)) da_nil))))))))) (dss_one (ds_ret de_str)) dss_nil)
      (dss_cons (ds_if (dt_bop (dw_and (dt_cmp op_eq opd_eq (dv 7) de_str (nomark _)) (dw_and1 (dt_not (dt_val (de_call F_is_within hr (by rfl) pass0 (da_cons (de_ix ix_seq opd_ix (de_ix ix_seq opd_ix (dv 6) de_int (fun _ _ => rfl)) de_int (fun _ _ => rfl)) (da_cons (de_meth (d := d_Glasses_rounded) (c := "Glasses") T (T.meth .g) F_Glasses_rounded hr (dv 0) pass0 (da_cons (de_ix ix_seq opd_ix (dv 4) de_int (fun _ _ => rfl)) da_nil)) da_nil)))))))) (dss_one (ds_ret de_str)) dss_nil)
      (dss_one (ds_ret de_non)))))))))))), fun ds S QD ED h => ?_⟩)
  obtain ⟨v, ms, es, x, ls, prev, d, w, rfl, g, E, hs, hL, hW, q⟩ := h
  conv => whnf
  rw [hs]
  conv => whnf
  rw [ix_of hL.at_]
  cases hW with
  | shape hS hn =>
    refine ⟨v, es, d, w, rfl, g.v1, g.v6, hS, ?_⟩
    rw [wordD_ne hn] at q ⊢
    exact q
  | @ups a e P w u G hu =>
    refine ⟨v, es, _, "good", rfl, g.v1, g.v6, G.sh, ?_⟩
    rw [wordD_good]
    refine ⟨v, es.map (·.1), x, ls, prev, _, _, P, w, u, rfl, hs, hL, ents_ok E, G.st, G.ht, G.fit, G.up, ?_⟩
    rw [hu]
    rw [wordD_ne (by decide)] at q
    exact q
  | @lot a e P w us gs G hu hg hb =>
    refine ⟨v, es, _, "good", rfl, g.v1, g.v6, G.sh, ?_⟩
    rw [wordD_good]
    refine ⟨v, es.map (·.1), x, ls, prev, _, _, P, w, _, rfl, hs, hL, ents_ok E, G.st, G.ht, G.fit, G.up, ?_⟩
    rw [hu]
    have hul : us.length = (dueP w P).length := by
      have h : (decide (us.length = (dueP w P).length) && _) = true := hu
      rw [Bool.and_eq_true, decide_eq_true_iff] at h
      exact h.1
    have := due_few (w := w) (P := P)
    refine lc_given hg (by omega) (fun k gk hk K hK => ?_) ?_
    · conv => whnf
      rw [hs]
      conv => whnf
      obtain ⟨hk2, ek⟩ := List.getElem?_eq_some_iff.mp hk
      rw [ix_of (hL.pre k hk2), ek]
      exact hK
    · rw [wordD_ne (by decide)] at q
      exact ⟨v, es, a, e, P, w, _, gs, false, rfl, g.v1, g.v6, G.a, E.ok, G.st, hb, q⟩
  | @seen a e P w z us gs G hu hg hb hz =>
    refine ⟨v, es, _, "good", rfl, g.v1, g.v6, G.sh, ?_⟩
    rw [wordD_good]
    refine ⟨v, es.map (·.1), x, ls, prev, _, _, P, w, _, rfl, hs, hL, ents_ok E, G.st, G.ht, G.fit, G.up, ?_⟩
    rw [hu]
    have hul : us.length = (dueP w P).length := by
      have h : (decide (us.length = (dueP w P).length) && _) = true := hu
      rw [Bool.and_eq_true, decide_eq_true_iff] at h
      exact h.1
    have := due_few (w := w) (P := P)
    have gok := given_ok hL.ok hg
    have b6 := p2_bound g.v6
    refine lc_given hg (by omega) (fun k gk hk K hK => ?_) ?_
    · conv => whnf
      rw [hs]
      conv => whnf
      obtain ⟨hk2, ek⟩ := List.getElem?_eq_some_iff.mp hk
      rw [ix_of (hL.pre k hk2), ek]
      exact hK
    · refine ⟨v, es, a, e, P, w, _, gs, true, rfl, g.v1, g.v6, G.a, E.ok, G.st, hb, ?_⟩
      cases hz with
      | @step _ _ n =>
        have hn : n ∈ es.map (·.1) := G.st
        refine ⟨_, _, rfl, .s, v, es, n, rfl, hn, v, ms, rowOf es n, a, rfl, g, row_ok E.ok hn, G.a, ?_⟩
        cases hb : sharpB ms (rowOf es n) a with
        | true =>
          rw [hb] at q
          rw [if_pos rfl, wordD_good] at q
          exact q
        | false =>
          rw [hb] at q
          rw [if_neg Bool.false_ne_true, wordD_ne (by decide)] at q
          exact q
      | nothing => rw [wordD_good] at q; exact q
      | behind => rw [wordD_good] at q; exact q
      | either => rw [wordD_good] at q; exact q
      | more => rw [wordD_good] at q; exact q
      | @closed _ _ _ h =>
        have hh := gok h (List.mem_cons_self ..)
        have r1 := g.rnd_lt a
        refine ⟨_, _, rfl, .g, v, ms, a, rfl, g, G.a, h.e, rnd ms a, rfl, by have := hh.e; omega, by omega, ?_⟩
        cases hb : decide (h.e &&& rnd ms a = h.e) with
        | true =>
          rw [hb] at q
          rw [if_pos rfl, wordD_good] at q
          exact q
        | false =>
          rw [hb] at q
          rw [if_neg Bool.false_ne_true, wordD_ne (by decide)] at q
          exact q
      | @grow _ _ _ h =>
        have hh := gok h (List.mem_cons_self ..)
        refine ⟨v, ms, a, e, h.a, h.e, progD P, .str "grow", .tup us, progD h.p, .str h.w, .tup (h.us.map nI), rfl, g, G.a, G.e, hh.a, hh.e, ?_⟩
        rw [← growB_eq] at q
        cases hb : growB ms a e h.a h.e with
        | true =>
          rw [hb] at q
          rw [if_pos rfl, wordD_good] at q
          exact q
        | false =>
          rw [hb] at q
          rw [if_neg Bool.false_ne_true, wordD_ne (by decide)] at q
          exact q
def spAlikeP : SpD := fun ds S Q _ => ∃ (v : Nat) (ms : List Nat) (es : List Ent), ds = [glD v ms, stD v es] ∧ Q .non S
theorem len_check_alike : ∀ (ds : List D) (S : Stt) (Q : QE) (E : Str → Stt → Prop), spAlikeP ds S Q E → ds.length = 2 := by intro ds S Q E h; delta spAlikeP at h; (repeat obtain ⟨_, h⟩ := h); subst_vars; rfl
theorem ok_check_alike (C : Ct) (T : Txt C) : Fn C CX0 (0 + 1) "check_alike" ["one", "other"] [] spAlikeP := by
  obtain ⟨fd, F⟩ := T.def_ 17 (d := d_check_alike)
  refine Fn.of F (T.glo "check_alike") (fun _ _ _ _ _ _ us hl => match us, hl with | [_, _], _ => rfl) (fnD F sc_check_alike len_check_alike (by decide) fun cdv A outer s H E hr => ⟨_,
    (dss_one (ds_if (dt_cmp op_ne opd_ne (de_fld T (dv 0)) (de_fld T (dv 1)) (nomark _)) (dss_one ds_never) dss_nil)), fun ds S QD ED h => ?_⟩)
  obtain ⟨v, ms, es, rfl, q⟩ := h
  refine ⟨_, _, _, _, _, rfl, .g0, rfl, _, _, _, _, _, rfl, .s0, rfl, ?_⟩
  exact ite_false (b := !decide ((v : Int) = (v : Int))) (by rw [decide_eq_true rfl]; rfl) q
def spAlikeX : SpD := fun ds S Q E => ∃ (v w : Nat) (ms : List Nat) (es : List Ent), ds = [glD v ms, stD w es] ∧ v ≠ w ∧ E "UnlikeStands" S
theorem len_check_alikeX : ∀ (ds : List D) (S : Stt) (Q : QE) (E : Str → Stt → Prop), spAlikeX ds S Q E → ds.length = 2 := by intro ds S Q E h; delta spAlikeX at h; (repeat obtain ⟨_, h⟩ := h); subst_vars; rfl
theorem okx_check_alike (C : Ct) (T : Txt C) : Fn C (L2.CX C.P C.w) (0 + 1) "check_alike" ["one", "other"] [] spAlikeX := by
  obtain ⟨fd, F⟩ := T.def_ 17 (d := d_check_alike)
  refine Fn.of F (T.glo "check_alike") (fun _ _ _ _ _ _ us hl => match us, hl with | [_, _], _ => rfl) (fnDX F sc_check_alike len_check_alikeX (by decide) fun cdv A outer s H E hr tk hp => ⟨_,
    (dssx_one (dsx_if (dt_cmp op_ne opd_ne (de_fld T (dv 0)) (de_fld T (dv 1)) (nomark _)) (dssx_one (dsx_raiseU T rfl tk)) dssx_nil)), fun ds S QD ED h => ?_⟩)
  obtain ⟨v, w, ms, es, rfl, hv, q⟩ := h
  refine ⟨_, _, _, _, _, rfl, .g0, rfl, _, _, _, _, _, rfl, .s0, rfl, ?_⟩
  exact ite_true (b := !decide ((v : Int) = (w : Int))) (by rw [decide_eq_false (by omega)]; rfl) q
end TA
set_option Elab.async false
set_option linter.all false
set_option maxRecDepth 100000
set_option maxHeartbeats 4000000
namespace TA
open PySem PySem.Spec L2
open PyProof.Rows hiding St
/-! ## the first fault, by the program -/
/-- things that are no lines -/
inductive Strange : D → Prop where
  | l0 : Strange (.lst [])
  | t0 : Strange (.tup [])
  | non : Strange .non
  | str {x : Str} : Strange (.str x)
  | int {i : Int} : Strange (.int i)
def spFaultP : SpD := fun ds S Q _ => ∃ (v : Nat) (ms : List Nat) (es : List Ent) (x : D), ds = [glD v ms, stD v es, x] ∧
  ((∃ (ls : List D) (z : Option (Nat × Str)), Good v ms ∧ Ents v es ∧ SeqOf x ls ∧ ls ≠ [] ∧ ls.length ≤ 90000 ∧ Fault v ms es [] ls z ∧ Q (faultD z) S) ∨ (Strange x ∧ Q (.tup [nI 0, .str "many"]) S))
theorem len_lines_fault : ∀ (ds : List D) (S : Stt) (Q : QE) (E : Str → Stt → Prop), spFaultP ds S Q E → ds.length = 3 := by intro ds S Q E h; obtain ⟨v, ms, es, x, e, _⟩ := h; rw [e]; rfl
theorem ok_lines_fault (C : Ct) (T : Txt C) : Fn C CX0 (24 + 1) "lines_fault" ["glasses", "steps", "lines"] [] spFaultP := by
  obtain ⟨fd, F⟩ := T.def_ 28 (d := d_lines_fault)
  have F_check_alike := (ok_check_alike C T).mono (show 1 ≤ 24 by omega)
  have F_is_sequence := (ok_is_sequence C T).mono (show 1 ≤ 24 by omega)
  have F_line_word := (ok_line_word C T).mono (show 24 ≤ 24 by omega)
  refine Fn.of F (T.glo "lines_fault") (fun _ _ _ _ _ _ us hl => match us, hl with | [_, _, _], _ => rfl) (fnD F sc_lines_fault len_lines_fault (by decide) fun cdv A outer s H E hr => ⟨_,
    (dss_cons (ds_expr (de_call F_check_alike hr (by rfl) pass0 (da_cons (dv 0) (da_cons (dv 1) da_nil))))
      (dss_cons (ds_if (dt_bop (dw_or (dt_not (dt_val (de_call F_is_sequence hr (by rfl) pass0 (da_cons (dv 2) da_nil)))) (dw_or1 (dt_cmp op_eq opd_eq (de_cb call_len calld_len (by rfl) (T.free "len") (by decide +kernel) (da_cons (dv 2) da_nil)) de_int (nomark _))))) (dss_one (ds_ret (de_tup (da_cons de_int (da_cons de_str da_nil))))) dss_nil)
      (dss_cons (ds_for PassesOwn.never rfl (di_rng1 (by rfl) (T.free "range") (da_cons (de_cb call_len calld_len (by rfl) (T.free "len") (by decide +kernel) (da_cons (dv 2) da_nil)) da_nil)) (dg_name (i := 3) sc_lines_fault.nd rfl (by first | exact Or.inl rfl | exact Or.inr rfl)) (dss_cons (ds_set (i := 4) sc_lines_fault.nd rfl (by first | exact Or.inl rfl | exact Or.inr rfl) (de_call F_line_word hr (by rfl) pass0 (da_cons (dv 0) (da_cons (dv 1) (da_cons (dv 2) (da_cons (dv 3) da_nil))))))
      (dss_one (ds_if (dt_cmp op_notN opd_notN (dv 4) de_non (nomark _)) (dss_one (ds_ret (de_tup (da_cons (dv 3) (da_cons (dv 4) da_nil))))) dss_nil))))
      (dss_one (ds_ret de_non))))), fun ds S QD ED h => ?_⟩)
  obtain ⟨v, ms, es, x, rfl, h⟩ := h
  refine ⟨v, ms, es, rfl, ?_⟩
  rcases h with ⟨ls, z, g, E, hx, hne, hl, hF, q⟩ | ⟨hs, q⟩
  · have hs : seqD S x = some ls := by rcases hx with rfl | rfl <;> rfl
    have hsq : isSq x = true := by rcases hx with rfl | rfl <;> rfl
    have hT : hasT x := by rcases hx with rfl | rfl <;> rfl
    have hl0 : ls.length ≠ 0 := fun h => hne (List.eq_nil_of_length_eq_zero h)
    refine ⟨x, rfl, hT, ?_⟩
    rw [hsq]
    have main : ∀ (o3 o4 : Option D), (ls.length : Int) < 4611686018427387904 ∧ -4611686018427387904 ≤ (ls.length : Int) ∧ ∃ W : List D → Rho → Stt → Prop, W (intsFrom 0 ((ls.length : Int)).toNat) [some (glD v ms), some (stD v es), some x, o3, o4] S ∧
        (∀ y r ρ S, W (y :: r) ρ S → gN 3 y ρ S fun ρ1 S1 => (dSeq (dAsg (dCall spWordP [] (dCons (dVar 0) (dCons (dVar 1) (dCons (dVar 2) (dCons (dVar 3) dNil))))) (gN 4))
          (dIf (dTest (dOp (rdNotN) (dVar 4) (dC .non))) (dRet (dTup (dCons (dVar 3) (dCons (dVar 4) dNil)))) dNext)) { nx := W r, rt := QD, ct := W r, bk := dRet (dC .non) (endsD QD) } ρ1 S1) ∧ ∀ ρ S, W [] ρ S → dRet (dC .non) (endsD QD) ρ S := fun o3 o4 => by
      refine ⟨by omega, by omega, ?_⟩
      rw [ints0]
      refine ⟨fun r ρ S' => ∃ (prev : List Ln) (rest : List D) (o3 o4 : Option D), r = (List.range' prev.length (ls.length - prev.length)).map nI ∧ ls = prev.map lnD ++ rest ∧ ρ = [some (glD v ms), some (stD v es), some x, o3, o4] ∧ S' = S ∧ (∀ l ∈ prev, LnOk v (es.map (·.1)) l) ∧ Fault v ms es prev rest z,
        ⟨[], ls, o3, o4, rfl, rfl, rfl, rfl, by simp, hF⟩, ?_, ?_⟩
      · rintro y r ρ S' ⟨prev, rest, o3, o4, e, el, rfl, rfl, hp, hf⟩
        have hpl : prev.length ≤ ls.length := by rw [el, List.length_append, List.length_map]; omega
        obtain ⟨h1, rfl, rfl⟩ := rng_cases hpl e
        have at0 : ∀ (d : D) (r : List D), rest = d :: r → LinesAt v (es.map (·.1)) ls prev d := fun d r er => by
          refine ⟨?_, fun k hk => ?_, hp, by omega⟩
          · rw [el, er, List.getElem?_append_right (by rw [List.length_map]; exact Nat.le_refl _), List.length_map, Nat.sub_self]; rfl
          · rw [el, List.getElem?_append_left (by rw [List.length_map]; exact hk), List.getElem?_map, List.getElem?_eq_getElem hk]; rfl
        cases hf with
        | none =>
          rw [List.append_nil] at el
          rw [el, List.length_map] at h1
          omega
        | @bad _ d r w hw hn =>
          refine ⟨v, ms, es, x, ls, prev, d, w, rfl, g, E, hs, at0 d r rfl, hw, ?_⟩
          rw [wordD_ne hn]
          exact ⟨by show 2 ≤ 100000; decide, q⟩
        | @good _ l r _ hw hl2 hf2 =>
          refine ⟨v, ms, es, x, ls, prev, lnD l, "good", rfl, g, E, hs, at0 (lnD l) r rfl, hw, ?_⟩
          rw [wordD_good]
          refine ⟨prev ++ [l], r, some (nI prev.length), some .non, ?_, by rw [el, List.map_append, List.append_assoc]; rfl, rfl, rfl, fun z hz => ?_, hf2⟩
          · rw [List.length_append]; rfl
          · rcases List.mem_append.mp hz with y | y
            · exact hp z y
            · rw [List.mem_singleton.mp y]; exact hl2
      · rintro ρ S' ⟨prev, rest, o3, o4, e, el, rfl, rfl, hp, hf⟩
        have hpl : prev.length ≤ ls.length := by rw [el, List.length_append, List.length_map]; omega
        have hend := rng_end hpl e
        have hr : rest = [] := by
          have := congrArg List.length el
          rw [List.length_append, List.length_map] at this
          exact List.eq_nil_of_length_eq_zero (by omega)
        subst hr
        cases hf
        exact q
    rcases hx with rfl | rfl
    · refine ite_false (b := decide (((ls.length : Nat) : Int) = 0)) (decide_eq_false (by omega)) ?_
      exact main none none
    · refine ite_false (b := decide (((ls.length : Nat) : Int) = 0)) (decide_eq_false (by omega)) ?_
      exact main none none
  · cases hs with
    | l0 => exact ⟨_, rfl, rfl, by show 2 ≤ 100000; decide, q⟩
    | t0 => exact ⟨_, rfl, rfl, by show 2 ≤ 100000; decide, q⟩
    | non => exact ⟨_, rfl, rfl, by show 2 ≤ 100000; decide, q⟩
    | str => exact ⟨_, rfl, rfl, by show 2 ≤ 100000; decide, q⟩
    | int => exact ⟨_, rfl, rfl, by show 2 ≤ 100000; decide, q⟩
def spFaultX : SpD := fun ds S Q E => ∃ (v w : Nat) (ms : List Nat) (es : List Ent) (x : D), ds = [glD v ms, stD w es, x] ∧ v ≠ w ∧ E "UnlikeStands" S
theorem len_lines_faultX : ∀ (ds : List D) (S : Stt) (Q : QE) (E : Str → Stt → Prop), spFaultX ds S Q E → ds.length = 3 := by intro ds S Q E h; delta spFaultX at h; (repeat obtain ⟨_, h⟩ := h); subst_vars; rfl
theorem okx_lines_fault (C : Ct) (T : Txt C) : Fn C (L2.CX C.P C.w) (1 + 1) "lines_fault" ["glasses", "steps", "lines"] [] spFaultX := by
  obtain ⟨fd, F⟩ := T.def_ 28 (d := d_lines_fault)
  have F_check_alike := (okx_check_alike C T).mono (show 1 ≤ 1 by omega)
  refine Fn.of F (T.glo "lines_fault") (fun _ _ _ _ _ _ us hl => match us, hl with | [_, _, _], _ => rfl) (fnDX F sc_lines_fault len_lines_faultX (by decide) fun cdv A outer s H E hr tk hp => ⟨_,
    (dsx_cons (dsx_callD F_check_alike hr tk (da_cons (dv 0) (da_cons (dv 1) da_nil))) (dssx_lift dss_never)), fun ds S QD ED h => ?_⟩)
  obtain ⟨v, w, ms, es, x, rfl, hv, q⟩ := h
  exact ⟨v, w, ms, es, rfl, hv, q⟩
end TA
set_option Elab.async false
set_option linter.all false
set_option maxRecDepth 100000
set_option maxHeartbeats 4000000
namespace TA
open PySem PySem.Spec L2
open PyProof.Rows hiding St
/-! ## unlike numbers of stands -/
def spAlk : SpD := fun ds S Q _ => ∃ (v : Nat) (ms : List Nat) (es : List Ent) (S2 : Stt) (x : D), ds = [.hdl 0, .hdl 1, x] ∧ S = .hand :: wC v ms es :: S2 ∧ Good v ms ∧ Q (.bl true) S
theorem len__law_alike : ∀ (ds : List D) (S : Stt) (Q : QE) (E : Str → Stt → Prop), spAlk ds S Q E → ds.length = 3 := by intro ds S Q E h; delta spAlk at h; (repeat obtain ⟨_, h⟩ := h); subst_vars; rfl
theorem ok__law_alike (C : Ct) (T : Txt C) : Fn C CX0 (6 + 1) "_law_alike" ["_law_hand_here", "_law_world_here", "_law_lines"] [] spAlk := by
  obtain ⟨fd, F⟩ := T.def_ 83 (d := d__law_alike)
  have F_Glasses__init_ := (ok_Glasses__init_ C T).mono (show 2 ≤ 5 by omega)
  have F_Steps__init_ := (ok_Steps__init_ C T).mono (show 5 ≤ 5 by omega)
  have F__law_list := (ok__law_list C T).mono (show 3 ≤ 6 by omega)
  have F_lines_fault := (okx_lines_fault C T).mono (show 2 ≤ 6 by omega)
  refine Fn.of F (T.glo "_law_alike") (fun _ _ _ _ _ _ us hl => match us, hl with | [_, _, _], _ => rfl) (fnD F sc__law_alike len__law_alike (by decide) fun cdv A outer s H E hr => ⟨_,
    (dss_cons (ds_set (i := 3) sc__law_alike.nd rfl (by first | exact Or.inl rfl | exact Or.inr rfl) (de_make (d := d_Steps__init_) T.mkS F_Steps__init_ hr (by rfl) (T.glo "Steps") pass0 (da_cons (de_ifE (dt_cmp op_lt opd_B (de_ix ix_seq opd_ix (dv 1) de_int (fun _ _ => rfl)) de_int (nomark _)) (de_op op_add opd_I (de_ix ix_seq opd_ix (dv 1) de_int (fun _ _ => rfl)) de_int) de_int) (da_cons (de_lst da_nil) da_nil))))
      (dss_cons (ds_set (i := 4) sc__law_alike.nd rfl (by first | exact Or.inl rfl | exact Or.inr rfl) (de_make (d := d_Glasses__init_) T.mkG F_Glasses__init_ hr (by rfl) (T.glo "Glasses") pass0 (da_cons (de_ix ix_seq opd_ix (dv 1) de_int (fun _ _ => rfl)) (da_cons (de_call F__law_list hr (by rfl) pass0 (da_cons (dv 0) (da_cons (de_ix ix_seq opd_ix (dv 1) de_int (fun _ _ => rfl)) da_nil))) da_nil))))
      (dss_cons (ds_try T rfl rfl rfl (T.glo "UnlikeStands") (He.exm_ok (T.oth 14)) (fun W pn xe tk hp => (dsx_cons (dsx_callD F_lines_fault hr tk (da_cons (dv 4) (da_cons (dv 3) (da_cons (dv 2) da_nil))))
      (dssx_lift (dss_one (ds_set (i := 5) sc__law_alike.nd rfl (by first | exact Or.inl rfl | exact Or.inr rfl) de_str)))))
      (fun a pn => (dss_one (ds_set (i := 5) sc__law_alike.nd rfl (by first | exact Or.inl rfl | exact Or.inr rfl) de_str))))
      (dss_one (ds_ret (de_cmp op_eq opd_eq (dv 5) de_str (nomark _))))))), fun ds S QD ED h => ?_⟩)
  obtain ⟨v, ms, es, S2, x, rfl, rfl, g, q⟩ := h
  have b6 := g.v6
  have b1 := g.v1
  have bm : belL (Cell.hand :: wC v ms es :: S2).length [nI v, .tup (ms.map nI)] = true := by
    show (true && (belL _ (ms.map nI) && true)) = true
    rw [bel_nI]; rfl
  by_cases h : v < 6
  · refine dec_t (by omega) ?_
    refine ⟨by show 0 ≤ 100000; decide, ?_⟩
    intro wf
    refine ⟨v + 1, [], .lst [], [], .hand :: wC v ms es :: S2, rfl, .inl rfl, .nil, by omega, by omega, by simp, by simp, by simp, by simp, rfl, rfl, thaw_obj wf rfl ?_⟩
    refine ⟨_, ms.map nI, _, rfl, rfl, rfl, ?_, ?_⟩
    · intro wf
      refine ⟨v, ms, _, .hand :: wC v ms es :: S2, rfl, .inl rfl, g, rfl, rfl, thaw_obj wf bm ?_⟩
      exact ⟨v, v + 1, ms, [], x, rfl, by omega, rfl, q⟩
    · intro wf
      refine ⟨v, ms, _, .hand :: wC v ms es :: S2, rfl, .inr rfl, g, rfl, rfl, thaw_obj wf bm ?_⟩
      exact ⟨v, v + 1, ms, [], x, rfl, by omega, rfl, q⟩
  · refine dec_f (by omega) ?_
    refine ⟨by show 0 ≤ 100000; decide, ?_⟩
    intro wf
    refine ⟨5, [], .lst [], [], .hand :: wC v ms es :: S2, rfl, .inl rfl, .nil, by omega, by omega, by simp, by simp, by simp, by simp, rfl, rfl, thaw_obj wf rfl ?_⟩
    refine ⟨_, ms.map nI, _, rfl, rfl, rfl, ?_, ?_⟩
    · intro wf
      refine ⟨v, ms, _, .hand :: wC v ms es :: S2, rfl, .inl rfl, g, rfl, rfl, thaw_obj wf bm ?_⟩
      exact ⟨v, 5, ms, [], x, rfl, by omega, rfl, q⟩
    · intro wf
      refine ⟨v, ms, _, .hand :: wC v ms es :: S2, rfl, .inr rfl, g, rfl, rfl, thaw_obj wf bm ?_⟩
      exact ⟨v, 5, ms, [], x, rfl, by omega, rfl, q⟩
end TA
set_option Elab.async false
set_option linter.all false
set_option maxRecDepth 100000
set_option maxHeartbeats 4000000
namespace TA
open PySem PySem.Spec L2
open PyProof.Rows hiding St
/-! ## repr -/
def rdRepr : List D → Stt → QE → Prop := fun ds S Q => ∃ d, ds = [d] ∧ isSq d = true ∧ OkD 60 d ∧ TxD 16000000 d ∧ Q (.str (toPy d).shown) S
section
variable {X : Cx} {k : Nat}
def rRepr (K : PySem.W.Frag) : List V → Hp → VK → Prop := fun xs H Q => ∃ (a : Addr) (d : PyData), xs = [.ref a] ∧ L2.Dp K H (.ref a) d ∧ d.showable = true ∧ d.hasDict = false ∧ d.depth ≤ 60 ∧ d.shown.length ≤ 16000000 ∧ Q (.str d.shown) H
theorem call_reprD (hr : Room k X.A) (hgd : X.A.guards = some []) : CallR X (.builtin "repr") (rRepr X.K) := by
  intro pins s σ H xs us Q I r h
  obtain ⟨a, d, rfl, hd, hs, hk, hdep, hsz, q⟩ := h
  cases r with
  | @cons _ u _ ur ra rw' =>
    cases rw'
    obtain rfl : u = Value.ref a := ra
    obtain ⟨as, rd⟩ := L2.Dp.reads I d (.ref a) (.ref a) hd rfl
    exact repr_of_reads' rd hs (PyData.noDict_hsm hk) hgd (by have := hr.un; omega) (fun _ _ e => e) (fun h' u tk k => ⟨.str d.shown, H, I.kept (t' := tk) k, ⟨u, rfl⟩, q⟩) (by rw [sizeLine_eq]; omega)
theorem calld_repr {K : PySem.W.Frag} : CallD K (rRepr K) rdRepr := fun M H S xs dxs Q QD c hx l q => by
  obtain ⟨d, rfl, hs, hok, htx, q⟩ := q
  obtain ⟨v, e, h1⟩ := dpl1 hx
  subst e
  have hp := dp_py d v h1 hok.pure
  have hv : ∃ a, v = .ref a := by
    cases d with
    | tup ds => obtain ⟨a, _, e, _⟩ := h1.tup_inv; exact ⟨a, e⟩
    | lst ds => obtain ⟨a, _, e, _⟩ := h1.lst_inv; exact ⟨a, e⟩
    | _ => cases hs
  obtain ⟨a, rfl⟩ := hv
  exact ⟨a, toPy d, rfl, hp, htx.sh, PyData.hasDict_of_canLay _ hok.lay, hok.dep, htx.len, l M _ H _ S Grow.refl c dp_str q⟩
end
/-! ## what lines are -/
theorem DLs.lnm {v : Nat} {ms : List Nat} {es : List Ent} {gs : List Ln} (h : DLs v ms es gs) (hl : gs.length ≤ 3000) : ∀ l ∈ gs, LnM v (es.map (·.1)) 7 15 l := by
  induction h with
  | nil => simp
  | @snoc gs l D1 h2 h3 pf ih =>
    intro x hx
    rw [List.length_append] at hl
    rcases List.mem_append.mp hx with z | z
    · exact ih (by omega) x z
    · rw [List.mem_singleton.mp z]
      have key : ∀ d w, WordIs v ms es gs d w → d = lnD l → w = "good" → (l.us.length ≤ 2 ∧ ∀ k ∈ l.us, k < 100000) ∧ l.w ∈ namesT := fun d w hW => by
        cases hW with
        | shape _ hn => exact fun _ z => absurd z hn
        | ups _ _ => exact fun _ z => absurd z (by decide)
        | lot _ _ _ _ => exact fun _ z => absurd z (by decide)
        | @seen a e P w z us gs2 G hu hg hb hz =>
          intro e1 _
          injection e1 with e1
          injection e1 with _ e1
          injection e1 with e2 e1
          injection e1 with _ e1
          injection e1 with e3 e1
          injection e1 with e4 _
          injection e3 with e3
          injection e4 with e4
          have e3 : w = l.w := e3
          subst e3
          have hul : us.length = (dueP l.w P).length := by
            have h : (decide (us.length = (dueP l.w P).length) && _) = true := hu
            rw [Bool.and_eq_true, decide_eq_true_iff] at h
            exact h.1
          have few := due_few (w := l.w) (P := P)
          refine ⟨⟨?_, fun k hk => ?_⟩, ?_⟩
          · have := congrArg List.length e4
            rw [List.length_map] at this
            omega
          · obtain ⟨ks, e5, hks⟩ := given_nat hg
            have hm : nI k ∈ l.us.map nI := List.mem_map_of_mem hk
            rw [← e4, e5] at hm
            obtain ⟨j, hj, ej⟩ := List.mem_map.mp hm
            have ej : (j : Int) = (k : Int) := D.int.inj ej
            have := hks j hj
            omega
          · rcases G.fit with z | z
            · rw [z]; exact n_grow
            · exact (makes_in (by rw [z]; exact head_ne P)).1
      obtain ⟨hu, hw⟩ := key _ _ h2 rfl rfl
      exact ⟨h3.a, h3.e, h3.st, ⟨pf.ht, pf.sz⟩, hu, hw⟩
theorem toPyL_app : ∀ a b : List D, toPyL (a ++ b) = toPyL a ++ toPyL b
  | [], _ => rfl
  | d :: a, b => by
    show toPy d :: toPyL (a ++ b) = _
    rw [toPyL_app a b]; rfl
theorem shown_app : ∀ a b : List PyData, PyData.shownAll (a ++ b) = PyData.shownAll a ++ PyData.shownAll b
  | [], _ => rfl
  | d :: a, b => by
    show d.shown :: PyData.shownAll (a ++ b) = _
    rw [shown_app a b]; rfl
theorem piled_app : ∀ a b : List Str, piled (a ++ b) = piled a + piled b
  | [], b => by show piled b = 0 + piled b; omega
  | d :: a, b => by
    rw [List.cons_append, piled_cons, piled_cons, piled_app a b]
    omega
theorem showable_app : ∀ a b : List PyData, PyData.showableAll (a ++ b) = (PyData.showableAll a && PyData.showableAll b)
  | [], _ => rfl
  | d :: a, b => by
    show (d.showable && PyData.showableAll (a ++ b)) = ((d.showable && PyData.showableAll a) && PyData.showableAll b)
    rw [showable_app a b, Bool.and_assoc]
theorem TxL.app {j k : Nat} {a b : List D} (h : TxL j a) (r : TxL k b) : TxL (j + k) (a ++ b) := by
  refine ⟨?_, ?_⟩
  · rw [toPyL_app, showable_app, h.sh, r.sh]; rfl
  · rw [toPyL_app, shown_app, piled_app]
    have := h.len
    have := r.len
    omega
theorem TxL.both {k : Nat} {a b : List D} (h : TxL k (a ++ b)) : TxL k a ∧ TxL k b := by
  have h1 := h.sh
  have h2 := h.len
  rw [toPyL_app, showable_app, Bool.and_eq_true] at h1
  rw [toPyL_app, shown_app, piled_app] at h2
  exact ⟨⟨h1.1, by omega⟩, ⟨h1.2, by omega⟩⟩
theorem ents_tx {v : Nat} {es : List Ent} (E : Ents v es) : NsT (es.map (·.1)) := ⟨fun n hn => by
  obtain ⟨e, he, rfl⟩ := List.mem_map.mp hn
  exact pool_tx _ (E.pl e he), ents_ok E⟩
section
variable {v h z : Nat} {ns : List Str} {l : Ln} (L : LnM v ns h z l) (N : NsT ns) (h6 : v ≤ 6)
include L N h6
theorem LnM.okD (hh : h ≤ 30) : OkD 31 (lnD l) := by
  refine ok_tup fun d hd => ?_
  rcases List.mem_cons.mp hd with e | hd
  · rw [e]; exact ok_int _
  rcases List.mem_cons.mp hd with e | hd
  · rw [e]; exact (ht_ok l.p ns N.ok L.st).mono (by have := L.ht.1; omega)
  rcases List.mem_cons.mp hd with e | hd
  · rw [e]; exact ok_int _
  rcases List.mem_cons.mp hd with e | hd
  · rw [e]; exact (cm_how L.w).ok.mono (by omega)
  rw [List.mem_singleton.mp hd]
  exact (ok_tup (k := 0) fun d hd => by
    obtain ⟨k, _, e⟩ := List.mem_map.mp hd
    rw [← e]; exact ok_int _).mono (by omega)
theorem LnM.tx : TxD (30 * z + 100) (lnD l) := by
  have b := p2_bound h6
  have ha := L.a
  have he := L.e
  have hz := L.ht.2
  have hu := L.us.1
  have u := (tx_nats (ns := l.us) L.us.2).tup
  have w := tx_str (names_tx l.w L.w)
  have := (TxL.cons (tx_nat (n := l.a) (by omega)) (.cons (prog_tx N.tx l.p L.st) (.cons (tx_nat (n := l.e) (by omega)) (.cons w (.cons u .nil))))).tup
  exact this.mono (by omega)
theorem LnM.lineIn (hh : h ≤ 40) : LineIn (lnD l) := .five rfl (prog_wp l.p) ((ht_ok l.p ns N.ok L.st).mono (by have := L.ht.1; omega)) rfl rfl (ups_in _)
end
theorem SpL.lineIn {d : D} (h : SpL d) : LineIn d := by
  cases h with
  | five F => exact .five F.a.t F.p.wp (F.p.ok.mono (by decide)) F.e.t F.how.t F.ups.up
  | odd t n _ _ => exact .other t n
theorem SpL.okD {d : D} (h : SpL d) : OkD 50 d := by
  cases h with
  | five F =>
    refine (ok_tup (k := 40) fun d hd => ?_).mono (by decide)
    rcases List.mem_cons.mp hd with e | hd
    · rw [e]; exact F.a.ok.mono (by decide)
    rcases List.mem_cons.mp hd with e | hd
    · rw [e]; exact F.p.ok.mono (by decide)
    rcases List.mem_cons.mp hd with e | hd
    · rw [e]; exact F.e.ok.mono (by decide)
    rcases List.mem_cons.mp hd with e | hd
    · rw [e]; exact F.how.ok.mono (by decide)
    rw [List.mem_singleton.mp hd]
    exact F.ups.ok.mono (by decide)
  | odd _ _ o _ => exact o.mono (by decide)
theorem SpL.tx {d : D} (h : SpL d) : TxD 17000 d := by
  cases h with
  | five F => exact ((TxL.cons F.a.tx (.cons F.p.tx (.cons F.e.tx (.cons F.how.tx (.cons F.ups.tx .nil))))).tup).mono (by decide)
  | odd _ _ _ t => exact t.mono (by decide)
end TA
set_option Elab.async false
set_option linter.all false
set_option maxRecDepth 100000
set_option maxHeartbeats 4000000
namespace TA
open PySem PySem.Spec L2
open PyProof.Rows hiding St
/-! ## the law, from its end -/
abbrev lawN : List Str := ["_law_script", "_law_hand_here", "_law_world_here", "_law_names_here", "_law_program_here", "_law_lot_here", "_law_lines", "_law_k", "_law_made", "_law_passed", "_law_kept", "_law_number", "_law_spoilt_here", "_law_given", "_law_strange", "_law_entry"]
abbrev lawX (C : Ct) (cdv : Value) (A : Around) (outer : List PySem.Env) (s : Shared) (H : Hp) (E : XK) : Cx := (cxOf CX0 C.P C.w C.K C.mg C.base lawN d_law.qual d_law.scope (He.fAd C.K d_law.at_) cdv A outer s H E).nox
section
variable {C : Ct} (T : Txt C) {cdv : Value} {A : Around} {outer : List PySem.Env} {s : Shared} {H : Hp} {E : XK} (hr : Room 27 (lawX C cdv A outer s H E).A) (hgd : (lawX C cdv A outer s H E).A.guards = some [])
include T hr hgd
theorem law_end : ∃ dt, DSs (lawX C cdv A outer s H E) (d_law.body.drop 14) dt ∧ ∀ (v : Nat) (ms : List Nat) (es : List Ent) (S2 : Stt) (x : D) (QD : QE) (o0 o3 o4 o5 o6 o7 o10 o11 o12 o13 o14 o15 : Option D), Good v ms → (∀ S, QD (.bl true) S) →
    dt (endsD QD) [o0, some (.hdl 0), some (.hdl 1), o3, o4, o5, o6, o7, some (.tup [glD v ms, stD v es]), some x, o10, o11, o12, o13, o14, o15] (.hand :: wC v ms es :: S2) := by
  have F__law_alike := (ok__law_alike C T).mono (show 7 ≤ 27 by omega)
  have F__law_exact := (ok__law_exact C T).mono (show 3 ≤ 27 by omega)
  have F__law_take := (ok__law_take C T).mono (show 2 ≤ 27 by omega)
  have F_lines_fault := (ok_lines_fault C T).mono (show 25 ≤ 27 by omega)
  have F_rule_names := (ok_rule_names C T).mono (show 1 ≤ 27 by omega)
  refine ⟨_,
    (dss_cons (ds_set (i := 14) sc_law.nd rfl (by first | exact Or.inl rfl | exact Or.inr rfl) (de_ix ix_seq opd_ix (de_tup (da_cons (de_lst da_nil) (da_cons (de_tup da_nil) (da_cons de_non (da_cons de_str (da_cons de_int da_nil)))))) (de_call F__law_take hr (by rfl) pass0 (da_cons (dv 1) (da_cons de_int da_nil))) (fun _ _ => rfl)))
      (dss_cons (ds_if (dt_not (dt_val (de_call F__law_exact hr (by rfl) pass0 (da_cons (de_call F_lines_fault hr (by rfl) pass0 (da_cons (de_ix ix_seq opd_ix (dv 8) de_int (fun _ _ => rfl)) (da_cons (de_ix ix_seq opd_ix (dv 8) de_int (fun _ _ => rfl)) (da_cons (dv 14) da_nil)))) (da_cons (de_tup (da_cons de_int (da_cons de_str da_nil))) da_nil))))) (dss_one (ds_ret de_bl)) dss_nil)
      (dss_cons (ds_if (dt_not (dt_val (de_call F__law_exact hr (by rfl) pass0 (da_cons (de_call0 F_rule_names hr (by rfl) pass0) (da_cons (de_tup (da_cons de_str (da_cons de_str (da_cons de_str (da_cons de_str (da_cons de_str (da_cons de_str (da_cons de_str da_nil)))))))) da_nil))))) (dss_one (ds_ret de_bl)) dss_nil)
      (dss_one (ds_ret (de_call F__law_alike hr (by rfl) pass0 (da_cons (dv 1) (da_cons (dv 2) (da_cons (de_ifE (dt_truth trud (de_call F__law_take hr (by rfl) pass0 (da_cons (dv 1) (da_cons de_int da_nil)))) (dv 9) (dv 14)) da_nil)))))))))
    , fun v ms es S2 x QD o0 o3 o4 o5 o6 o7 o10 o11 o12 o13 o14 o15 G q => ?_⟩
  refine ⟨by show 0 ≤ 100000; decide, by show 0 ≤ 100000; decide, by show 5 ≤ 100000; decide, 5, _, rfl, by decide, by decide, rfl, fun r hr => ?_⟩
  have f1 : ∀ y ∈ ([nI 0, .str "many"] : List D), FlatE y := fun y hy => by
    rcases List.mem_cons.mp hy with e | hy
    · rw [e]; exact .int _
    · rw [List.mem_singleton.mp hy]; exact .str _
  have f2 : ∀ y ∈ namesT.map D.str, FlatE y := fun y hy => by
    obtain ⟨n, _, e⟩ := List.mem_map.mp hy
    rw [← e]; exact .str _
  rcases (by omega : r = 0 ∨ r = 1 ∨ r = 2 ∨ r = 3 ∨ r = 4) with rfl | rfl | rfl | rfl | rfl
  all_goals
    refine ⟨v, ms, es, _, rfl, .inr ⟨by first | exact .l0 | exact .t0 | exact .non | exact .str | exact .int, by show 2 ≤ 100000; decide, _, rfl, .inr ⟨by decide, [nI 0, .str "many"], rfl, by decide, f1⟩, ?_⟩⟩
    refine ⟨rfl, by show 7 ≤ 100000; decide, _, rfl, .inr ⟨by decide, namesT.map D.str, rfl, by decide, f2⟩, ?_⟩
    refine ⟨2, _, rfl, by decide, by decide, rfl, fun t ht => ite2 (fun h => ?_) (fun h => ?_)⟩
    · exact ⟨v, ms, es, S2, _, rfl, rfl, G, q _⟩
    · exact ⟨v, ms, es, S2, _, rfl, rfl, G, q _⟩
end
end TA
set_option Elab.async false
set_option linter.all false
set_option maxRecDepth 100000
set_option maxHeartbeats 4000000
namespace TA
open PySem PySem.Spec L2
open PyProof.Rows hiding St
/-! ## the law's middle: the spoilt line -/
theorem cut_tx {k : Nat} {ds : List D} {lo hi : Option Int} (h : TxL k ds) : TxL k (cutD ds lo hi) := by
  unfold cutD
  generalize HT.sIx ds.length 0 lo = a
  generalize HT.sIx ds.length ds.length hi - a = b
  have h1 : TxL k (ds.drop a) := by
    rw [← List.take_append_drop a ds] at h
    exact h.both.2
  rw [← List.take_append_drop b (ds.drop a)] at h1
  exact h1.both.1
theorem exact_fault (z : Option (Nat × Str)) : (1 ≤ 2 ∧ FlatE (faultD z)) ∨ (2 ≤ 2 ∧ ∃ items, faultD z = .tup items ∧ items.length ≤ 1000 ∧ ∀ x ∈ items, FlatE x) := by
  cases z with
  | none => exact .inl ⟨by decide, .non⟩
  | some p =>
    obtain ⟨k, w⟩ := p
    refine .inr ⟨Nat.le_refl _, [nI k, .str w], rfl, by show 2 ≤ 1000; decide, fun x hx => ?_⟩
    rcases List.mem_cons.mp hx with e | hx
    · rw [e]; exact .int _
    · rw [List.mem_singleton.mp hx]; exact .str _
/-- a sequence of lines that is told and judged -/
structure Judged (v : Nat) (ms : List Nat) (es : List Ent) (ls : List D) (z : Option (Nat × Str)) : Prop where
  ne : ls ≠ []
  len : ls.length ≤ 90000
  f : Fault v ms es [] ls z
  ok : ∀ d ∈ ls, OkD 50 d
  tx : TxL 9000000 ls
theorem Judged.okS {v : Nat} {ms : List Nat} {es : List Ent} {ls : List D} {z : Option (Nat × Str)} (J : Judged v ms es ls z) {x : D} (h : SeqOf x ls) : isSq x = true ∧ OkD 60 x ∧ TxD 16000000 x := by
  rcases h with rfl | rfl
  · exact ⟨rfl, (ok_lst J.ok).mono (by decide), J.tx.lst.mono (by decide)⟩
  · exact ⟨rfl, (ok_tup J.ok).mono (by decide), J.tx.tup.mono (by decide)⟩
section
variable {C : Ct} (T : Txt C) {cdv : Value} {A : Around} {outer : List PySem.Env} {s : Shared} {H : Hp} {E : XK} (hr : Room 27 (lawX C cdv A outer s H E).A) (hgd : (lawX C cdv A outer s H E).A.guards = some [])
include T hr hgd
theorem law_spoil : ∃ dt, DSs (lawX C cdv A outer s H E) (d_law.body.drop 13) dt ∧ ∀ (v : Nat) (ms : List Nat) (es : List Ent) (n : Nat) (gs : List Ln) (S2 : Stt) (x : D) (QD : QE) (o0 o3 o4 o5 o7 o10 o11 o12 o13 o14 o15 : Option D), Good v ms → Ents v es →
    S2[n]? = some (.lst (gs.map lnD)) → gs ≠ [] → gs.length ≤ 3000 → (∀ l ∈ gs, LnM v (es.map (·.1)) 12 300 l) → TxL 4000000 (gs.map lnD) → (∀ S, QD (.bl true) S) →
    dt (endsD QD) [o0, some (.hdl 0), some (.hdl 1), o3, o4, o5, some (.hdl (n + 2)), o7, some (.tup [glD v ms, stD v es]), some x, o10, o11, o12, o13, o14, o15] (.hand :: wC v ms es :: S2) := by
  have F__law_exact := (ok__law_exact C T).mono (show 3 ≤ 27 by omega)
  have F__law_fault := (ok__law_fault C T).mono (show 18 ≤ 27 by omega)
  have F__law_list := (ok__law_list C T).mono (show 3 ≤ 27 by omega)
  have F__law_spoilt_more := (ok__law_spoilt_more C T).mono (show 5 ≤ 27 by omega)
  have F__law_take := (ok__law_take C T).mono (show 2 ≤ 27 by omega)
  have F_lines_fault := (ok_lines_fault C T).mono (show 25 ≤ 27 by omega)
  obtain ⟨r14, h14, q14⟩ := law_end T hr hgd
  refine ⟨_,
    (dss_cons (ds_if (dt_cmp op_gt opd_B (de_call F__law_take hr (by rfl) pass0 (da_cons (dv 1) (da_cons de_int da_nil))) de_int (nomark _)) (dss_cons (ds_set (i := 11) sc_law.nd rfl (by first | exact Or.inl rfl | exact Or.inr rfl) (de_call F__law_take hr (by rfl) pass0 (da_cons (dv 1) (da_cons (de_cb call_len calld_len (by rfl) (T.free "len") (by decide +kernel) (da_cons (dv 6) da_nil)) da_nil))))
      (dss_cons (ds_set (i := 12) sc_law.nd rfl (by first | exact Or.inl rfl | exact Or.inr rfl) (de_op op_cat opd_catL (de_op op_cat opd_catL (de_slice sl_list sld_list (dv 6) do_none (do_some (dv 11))) (de_lst (da_cons (de_call F__law_spoilt_more hr (by rfl) pass0 (da_cons (dv 1) (da_cons (dv 2) (da_cons (de_ix ix_seq opd_ix (dv 6) (dv 11) (fun _ _ => rfl)) (da_cons (dv 11) da_nil))))) da_nil))) (de_slice sl_list sld_list (dv 6) (do_some (de_op op_add opd_I (dv 11) de_int)) do_none)))
      (dss_cons (ds_set (i := 13) sc_law.nd rfl (by first | exact Or.inl rfl | exact Or.inr rfl) (de_call F__law_list hr (by rfl) pass0 (da_cons (dv 1) (da_cons (dv 12) da_nil))))
      (dss_cons (ds_set (i := 10) sc_law.nd rfl (by first | exact Or.inl rfl | exact Or.inr rfl) (de_cb (call_reprD hr hgd) calld_repr (by rfl) (T.free "repr") (by decide +kernel) (da_cons (dv 13) da_nil)))
      (dss_one (ds_if (dt_bop (dw_or (dt_not (dt_val (de_call F__law_exact hr (by rfl) pass0 (da_cons (de_call F_lines_fault hr (by rfl) pass0 (da_cons (de_ix ix_seq opd_ix (dv 8) de_int (fun _ _ => rfl)) (da_cons (de_ix ix_seq opd_ix (dv 8) de_int (fun _ _ => rfl)) (da_cons (dv 13) da_nil)))) (da_cons (de_call F__law_fault hr (by rfl) pass0 (da_cons (dv 2) (da_cons (dv 12) da_nil))) da_nil))))) (dw_or1 (dt_cmp op_ne opd_ne (de_cb (call_reprD hr hgd) calld_repr (by rfl) (T.free "repr") (by decide +kernel) (da_cons (dv 13) da_nil)) (dv 10) (nomark _))))) (dss_one (ds_ret de_bl)) dss_nil)))))) dss_nil)
      h14)
    , fun v ms es n gs S2 x QD o0 o3 o4 o5 o7 o10 o11 o12 o13 o14 o15 G En hn hne hlen hall htx q => ?_⟩
  have h0 : 0 < gs.length := List.length_pos_iff.mpr hne
  have N := ents_tx En
  refine ⟨3, _, rfl, by decide, by decide, rfl, fun t ht => ite2 (fun h => ?_) (fun h => ?_)⟩
  · conv => whnf
    rw [seq_w hn]
    refine ⟨gs.length, _, by rw [List.length_map]; rfl, h0, by omega, rfl, fun k hk => ?_⟩
    conv => whnf
    rw [seq_w hn]
    conv => whnf
    rw [seq_w hn]
    conv => whnf
    rw [ln_get (List.getElem?_eq_getElem hk)]
    have lk := hall _ (List.getElem_mem hk)
    generalize gs[k] = l at lk ⊢
    refine ⟨v, ms, es, l, k, S2, rfl, rfl, G, N, lk, by omega, fun d hd => ?_⟩
    have c1 := cut_len (gs.map lnD) none (some (k : Int))
    have c2 := cut_len (gs.map lnD) (some ((k : Int) + 1)) none
    rw [List.length_map] at c1 c2
    refine ⟨by show 1 ≤ 100000; decide, by rw [List.length_singleton]; omega, ?_⟩
    conv => whnf
    rw [seq_w hn]
    conv => whnf
    refine ⟨by rw [List.length_append, List.length_singleton]; omega, ?_⟩
    have hmem : ∀ y ∈ cutD (gs.map lnD) none (some (k : Int)) ++ [d] ++ cutD (gs.map lnD) (some ((k : Int) + 1)) none, LineIn y ∧ OkD 50 y := fun y hy => by
      have line : ∀ y ∈ gs.map lnD, LineIn y ∧ OkD 50 y := fun y hy => by
        obtain ⟨g, hg, e⟩ := List.mem_map.mp hy
        rw [← e]
        exact ⟨(hall g hg).lineIn N G.v6 (by decide), ((hall g hg).okD N G.v6 (by decide)).mono (by decide)⟩
      rcases List.mem_append.mp hy with hy | hy
      · rcases List.mem_append.mp hy with hy | hy
        · exact line y (cut_mem hy)
        · rw [List.mem_singleton.mp hy]; exact ⟨hd.lineIn, hd.okD⟩
      · exact line y (cut_mem hy)
    have htx2 : TxL 9000000 (cutD (gs.map lnD) none (some (k : Int)) ++ [d] ++ cutD (gs.map lnD) (some ((k : Int) + 1)) none) := (((cut_tx htx).app (TxL.cons hd.tx .nil)).app (cut_tx htx)).mono (by decide)
    have hlen2 : (cutD (gs.map lnD) none (some (k : Int)) ++ [d] ++ cutD (gs.map lnD) (some ((k : Int) + 1)) none).length ≤ 90000 := by
      rw [List.length_append, List.length_append, List.length_singleton]; omega
    have hne2 : cutD (gs.map lnD) none (some (k : Int)) ++ [d] ++ cutD (gs.map lnD) (some ((k : Int) + 1)) none ≠ [] := by simp
    generalize cutD (gs.map lnD) none (some (k : Int)) ++ [d] ++ cutD (gs.map lnD) (some ((k : Int) + 1)) none = sp at hmem htx2 hlen2 hne2 ⊢
    obtain ⟨z, hz⟩ := fault_all v ms es sp [] fun y hy => (hmem y hy).1
    have J : Judged v ms es sp z := ⟨hne2, hlen2, hz, fun y hy => (hmem y hy).2, htx2⟩
    refine ⟨_, sp, _, rfl, rfl, rfl, ?_, ?_⟩
    · obtain ⟨s1, s2, s3⟩ := J.okS (x := .lst sp) (.inl rfl)
      refine ⟨_, rfl, s1, s2, s3, ?_⟩
      refine ⟨v, ms, es, _, rfl, .inl ⟨sp, z, G, En, .inl rfl, J.ne, J.len, J.f, ?_⟩⟩
      refine ⟨v, ms, es, .lst sp, sp, S2, z, rfl, rfl, G, En, J.len, rfl, J.f, ?_⟩
      refine ⟨_, rfl, exact_fault z, ?_⟩
      refine ⟨_, rfl, s1, s2, s3, ?_⟩
      refine ite_false (by rw [decide_eq_true rfl]; rfl) ?_
      exact q14 v ms es S2 x QD _ _ _ _ _ _ _ _ _ _ _ _ G q
    · obtain ⟨s1, s2, s3⟩ := J.okS (x := .tup sp) (.inr rfl)
      refine ⟨_, rfl, s1, s2, s3, ?_⟩
      refine ⟨v, ms, es, _, rfl, .inl ⟨sp, z, G, En, .inr rfl, J.ne, J.len, J.f, ?_⟩⟩
      refine ⟨v, ms, es, .lst sp, sp, S2, z, rfl, rfl, G, En, J.len, rfl, J.f, ?_⟩
      refine ⟨_, rfl, exact_fault z, ?_⟩
      refine ⟨_, rfl, s1, s2, s3, ?_⟩
      refine ite_false (by rw [decide_eq_true rfl]; rfl) ?_
      exact q14 v ms es S2 x QD _ _ _ _ _ _ _ _ _ _ _ _ G q
  · exact q14 v ms es S2 x QD _ _ _ _ _ _ _ _ _ _ _ _ G q
end
end TA
set_option Elab.async false
set_option linter.all false
set_option maxRecDepth 100000
set_option maxHeartbeats 4000000
namespace TA
open PySem PySem.Spec L2
open PyProof.Rows hiding St
/-! ## the law's middle: as built -/
section
variable {C : Ct} (T : Txt C) {cdv : Value} {A : Around} {outer : List PySem.Env} {s : Shared} {H : Hp} {E : XK} (hr : Room 27 (lawX C cdv A outer s H E).A) (hgd : (lawX C cdv A outer s H E).A.guards = some [])
include T hr hgd
theorem law_built : ∃ dt, DSs (lawX C cdv A outer s H E) (d_law.body.drop 9) dt ∧ ∀ (v : Nat) (ms : List Nat) (es : List Ent) (n : Nat) (gs : List Ln) (S2 : Stt) (QD : QE) (o0 o3 o4 o5 o7 o8 o9 o10 o11 o12 o13 o14 o15 : Option D), Good v ms → Ents v es →
    S2[n]? = some (.lst (gs.map lnD)) → gs ≠ [] → gs.length ≤ 3000 → (∀ l ∈ gs, LnM v (es.map (·.1)) 12 300 l) → TxL 4000000 (gs.map lnD) → (∀ S, QD (.bl true) S) →
    dt (endsD QD) [o0, some (.hdl 0), some (.hdl 1), o3, o4, o5, some (.hdl (n + 2)), o7, o8, o9, o10, o11, o12, o13, o14, o15] (.hand :: wC v ms es :: S2) := by
  have F__law_exact := (ok__law_exact C T).mono (show 3 ≤ 27 by omega)
  have F__law_fault := (ok__law_fault C T).mono (show 18 ≤ 27 by omega)
  have F__law_list := (ok__law_list C T).mono (show 3 ≤ 27 by omega)
  have F__law_make := (ok__law_make C T).mono (show 7 ≤ 27 by omega)
  have F_lines_fault := (ok_lines_fault C T).mono (show 25 ≤ 27 by omega)
  obtain ⟨r13, h13, q13⟩ := law_spoil T hr hgd
  refine ⟨_,
    (dss_cons (ds_set (i := 8) sc_law.nd rfl (by first | exact Or.inl rfl | exact Or.inr rfl) (de_call F__law_make hr (by rfl) pass0 (da_cons (dv 1) (da_cons (dv 2) da_nil))))
      (dss_cons (ds_set (i := 9) sc_law.nd rfl (by first | exact Or.inl rfl | exact Or.inr rfl) (de_call F__law_list hr (by rfl) pass0 (da_cons (dv 1) (da_cons (dv 6) da_nil))))
      (dss_cons (ds_set (i := 10) sc_law.nd rfl (by first | exact Or.inl rfl | exact Or.inr rfl) (de_cb (call_reprD hr hgd) calld_repr (by rfl) (T.free "repr") (by decide +kernel) (da_cons (dv 9) da_nil)))
      (dss_cons (ds_if (dt_bop (dw_or (dt_not (dt_val (de_call F__law_exact hr (by rfl) pass0 (da_cons (de_call F_lines_fault hr (by rfl) pass0 (da_cons (de_ix ix_seq opd_ix (dv 8) de_int (fun _ _ => rfl)) (da_cons (de_ix ix_seq opd_ix (dv 8) de_int (fun _ _ => rfl)) (da_cons (dv 9) da_nil)))) (da_cons (de_call F__law_fault hr (by rfl) pass0 (da_cons (dv 2) (da_cons (dv 6) da_nil))) da_nil))))) (dw_or1 (dt_cmp op_ne opd_ne (de_cb (call_reprD hr hgd) calld_repr (by rfl) (T.free "repr") (by decide +kernel) (da_cons (dv 9) da_nil)) (dv 10) (nomark _))))) (dss_one (ds_ret de_bl)) dss_nil)
      h13))))
    , fun v ms es n gs S2 QD o0 o3 o4 o5 o7 o8 o9 o10 o11 o12 o13 o14 o15 G En hn hne hlen hall htx q => ?_⟩
  have N := ents_tx En
  have line : ∀ y ∈ gs.map lnD, LineIn y ∧ OkD 50 y := fun y hy => by
    obtain ⟨g, hg, e⟩ := List.mem_map.mp hy
    rw [← e]
    exact ⟨(hall g hg).lineIn N G.v6 (by decide), ((hall g hg).okD N G.v6 (by decide)).mono (by decide)⟩
  obtain ⟨z, hz⟩ := fault_all v ms es (gs.map lnD) [] fun y hy => (line y hy).1
  have J : Judged v ms es (gs.map lnD) z := ⟨by simpa using hne, by rw [List.length_map]; omega, hz, fun y hy => (line y hy).2, htx.mono (by decide)⟩
  refine ⟨v, ms, es, S2, rfl, rfl, G, En, ?_⟩
  refine ⟨_, gs.map lnD, _, rfl, rfl, seq_w hn, ?_, ?_⟩
  · obtain ⟨s1, s2, s3⟩ := J.okS (x := .lst (gs.map lnD)) (.inl rfl)
    refine ⟨_, rfl, s1, s2, s3, ?_⟩
    refine ⟨v, ms, es, _, rfl, .inl ⟨gs.map lnD, z, G, En, .inl rfl, J.ne, J.len, J.f, ?_⟩⟩
    refine ⟨v, ms, es, .hdl (n + 2), gs.map lnD, S2, z, rfl, rfl, G, En, J.len, seq_w hn, J.f, ?_⟩
    refine ⟨_, rfl, exact_fault z, ?_⟩
    refine ⟨_, rfl, s1, s2, s3, ?_⟩
    refine ite_false (by rw [decide_eq_true rfl]; rfl) ?_
    exact q13 v ms es n gs S2 _ QD _ _ _ _ _ _ _ _ _ _ _ G En hn hne hlen hall htx q
  · obtain ⟨s1, s2, s3⟩ := J.okS (x := .tup (gs.map lnD)) (.inr rfl)
    refine ⟨_, rfl, s1, s2, s3, ?_⟩
    refine ⟨v, ms, es, _, rfl, .inl ⟨gs.map lnD, z, G, En, .inr rfl, J.ne, J.len, J.f, ?_⟩⟩
    refine ⟨v, ms, es, .hdl (n + 2), gs.map lnD, S2, z, rfl, rfl, G, En, J.len, seq_w hn, J.f, ?_⟩
    refine ⟨_, rfl, exact_fault z, ?_⟩
    refine ⟨_, rfl, s1, s2, s3, ?_⟩
    refine ite_false (by rw [decide_eq_true rfl]; rfl) ?_
    exact q13 v ms es n gs S2 _ QD _ _ _ _ _ _ _ _ _ _ _ G En hn hne hlen hall htx q
end
end TA
set_option Elab.async false
set_option linter.all false
set_option maxRecDepth 100000
set_option maxHeartbeats 4000000
namespace TA
open PySem PySem.Spec L2
open PyProof.Rows hiding St
/-! ## the law -/
def zk : Nat → Nat
  | 0 => 15
  | k + 1 => 2 * zk k + 2
theorem names_of : ∀ {es : List Ent} {ys : List D}, All2 (fun x y => ∃ e : Ent, x = entD e ∧ y = .str e.1) (es.map entD) ys → ys = (es.map (·.1)).map D.str
  | [], _, h => by
    cases h
    rfl
  | e :: es, ys, h => by
    cases h with
    | cons a b =>
      obtain ⟨e2, h1, h2⟩ := a
      have h1 : D.tup [.str e.1, rowL e] = D.tup [.str e2.1, rowL e2] := h1
      injection h1 with h1
      injection h1 with h3 _
      rw [h2, ← h3, names_of b]
      rfl
section
variable {C : Ct} (T : Txt C) {cdv : Value} {A : Around} {outer : List PySem.Env} {s : Shared} {H : Hp} {E : XK} (hr : Room 27 (lawX C cdv A outer s H E).A) (hgd : (lawX C cdv A outer s H E).A.guards = some [])
include T hr hgd
theorem law_all : ∃ dt, DSs (lawX C cdv A outer s H E) d_law.body dt ∧ ∀ (ns : List Int) (QD : QE), ns.length ≤ 63 → (∀ S, QD (.bl true) S) → dt (endsD QD) (startD lawN [.scr ns]) [] := by
  have F__law_derived := (ok__law_derived C T).mono (show 27 ≤ 27 by omega)
  have F__law_fault := (ok__law_fault C T).mono (show 18 ≤ 27 by omega)
  have F__law_hand := (ok__law_hand C T).mono (show 1 ≤ 27 by omega)
  have F__law_more := (ok__law_more C T).mono (show 4 ≤ 27 by omega)
  have F__law_program := (ok__law_program C T).mono (show 9 ≤ 27 by omega)
  have F__law_start := (ok__law_start C T).mono (show 3 ≤ 27 by omega)
  have F__law_steered := (ok__law_steered C T).mono (show 11 ≤ 27 by omega)
  have F__law_take := (ok__law_take C T).mono (show 2 ≤ 27 by omega)
  have F__law_world := (ok__law_world C T).mono (show 5 ≤ 27 by omega)
  obtain ⟨r9, h9, q9⟩ := law_built T hr hgd
  refine ⟨_,
    (dss_cons (ds_set (i := 1) sc_law.nd rfl (by first | exact Or.inl rfl | exact Or.inr rfl) (de_call F__law_hand hr (by rfl) pass0 (da_cons (dv 0) da_nil)))
      (dss_cons (ds_set (i := 2) sc_law.nd rfl (by first | exact Or.inl rfl | exact Or.inr rfl) (de_call F__law_world hr (by rfl) pass0 (da_cons (dv 1) (da_cons de_int da_nil))))
      (dss_cons (ds_setLc (i := 3) (own := [("_law_entry", 15)]) (g := gName 15) (dg := gN 15) rfl sc_law.nd rfl rfl (sw_true rfl rfl rfl (by decide +kernel)) (di_seq (de_ix ix_seq opd_ix (dv 2) de_int (fun _ _ => rfl))) (blkOk_by (N := ["_law_script", "_law_hand_here", "_law_world_here", "_law_names_here", "_law_program_here", "_law_lot_here", "_law_lines", "_law_k", "_law_made", "_law_passed", "_law_kept", "_law_number", "_law_spoilt_here", "_law_given", "_law_strange", "_law_entry"]) (sc := defScope (topS 108)) (by decide +kernel)) (own_name (by decide)) (fun _ _ _ _ _ => pg_name (i := 15) sc_law.nd rfl (by first | exact Or.inl rfl | exact Or.inr rfl)) (fun _ _ _ _ _ => dts_nil) (fun _ _ _ _ _ => (de_ix ix_seq opd_ix (dv 15) de_int (fun _ _ => rfl))))
      (dss_cons (ds_set (i := 4) sc_law.nd rfl (by first | exact Or.inl rfl | exact Or.inr rfl) (de_call F__law_program hr (by rfl) pass0 (da_cons (dv 1) (da_cons (dv 3) (da_cons (de_op op_add opd_I de_int (de_call F__law_take hr (by rfl) pass0 (da_cons (dv 1) (da_cons de_int da_nil)))) (da_cons de_int da_nil))))))
      (dss_cons (ds_set (i := 5) sc_law.nd rfl (by first | exact Or.inl rfl | exact Or.inr rfl) (de_call F__law_start hr (by rfl) pass0 (da_cons (dv 1) (da_cons (de_ix ix_seq opd_ix (dv 2) de_int (fun _ _ => rfl)) da_nil))))
      (dss_cons (ds_set (i := 2) sc_law.nd rfl (by first | exact Or.inl rfl | exact Or.inr rfl) (de_call F__law_steered hr (by rfl) pass0 (da_cons (dv 1) (da_cons (dv 2) (da_cons (dv 4) (da_cons (dv 5) da_nil))))))
      (dss_cons (ds_set (i := 6) sc_law.nd rfl (by first | exact Or.inl rfl | exact Or.inr rfl) (de_ix ix_seq opd_ix (de_call F__law_derived hr (by rfl) pass0 (da_cons (dv 1) (da_cons (dv 2) (da_cons (dv 4) (da_cons (dv 5) (da_cons de_bl da_nil)))))) de_int (fun _ _ => rfl)))
      (dss_cons (ds_if (dt_cmp op_notN opd_notN (de_call F__law_fault hr (by rfl) pass0 (da_cons (dv 2) (da_cons (dv 6) da_nil))) de_non (nomark _)) (dss_one (ds_ret de_bl)) dss_nil)
      (dss_cons (ds_for PassesOwn.never rfl (di_rng1 (by rfl) (T.free "range") (da_cons (de_call F__law_take hr (by rfl) pass0 (da_cons (dv 1) (da_cons de_int da_nil))) da_nil)) (dg_name (i := 7) sc_law.nd rfl (by first | exact Or.inl rfl | exact Or.inr rfl)) (dss_one (ds_expr (de_call F__law_more hr (by rfl) pass0 (da_cons (dv 1) (da_cons (dv 2) (da_cons (dv 6) da_nil)))))))
      h9)))))))))
    , fun ns QD hl q => ?_⟩
  refine ⟨ns, rfl, hl, rfl, ?_⟩
  refine ⟨rfl, rfl, fun v ms0 es G0 En => ?_⟩
  have few := En.few
  refine lc_map (fun x y => ∃ e : Ent, x = entD e ∧ y = .str e.1) (by rw [List.length_map]; omega) (fun x hx K hK => ?_) fun ys h => ?_
  · obtain ⟨e, he, ee⟩ := List.mem_map.mp hx
    subst ee
    exact hK _ ⟨e, rfl, rfl⟩
  rw [names_of h]
  refine ⟨4, _, rfl, by decide, by decide, rfl, fun L hL => ?_⟩
  refine ⟨es.map (·.1), 1 + L, 2, _, rfl, rfl, by omega, by omega, by omega, by simpa using En.ne, by rw [List.length_map]; omega, fun P hP => ?_⟩
  obtain ⟨d1, d2, d3, d4⟩ := drawn_pf P (1 + L) 2 hP (by omega)
  obtain ⟨d5, d6⟩ := drawn_cnt P (1 + L) 2 hP (by omega)
  have d2 : sz P + 1 ≤ 4 * (1 + L) := d2
  have d5 : ocnt P + 3 ≤ 4 * 64 * (1 + L) := d5
  have d6 : cnt P ≤ 64 * (1 + L) := d6
  refine ⟨v, _, rfl, rfl, G0.v1, G0.v6, fun lot hlot => ?_⟩
  refine ⟨v, ms0, es, P, lot, rfl, rfl, G0, En, d1, by omega, by omega, hlot, fun ms G => ?_⟩
  refine ⟨v, ms, es, P, lot, rfl, rfl, G, En, ⟨d1, by omega, by omega, by omega⟩, by omega, hlot, by omega, fun n gs P' lot' S2 hn D1 hne hlen => ?_⟩
  refine ⟨v, ms, es, .hdl (n + 2), gs.map lnD, S2, none, rfl, rfl, G, En, by rw [List.length_map]; omega, seq_w hn, D1.fault, ?_⟩
  refine ⟨5, _, rfl, by decide, by decide, rfl, fun m hm => ⟨by omega, by omega, ?_⟩⟩
  rw [ints0]
  have N := ents_tx En
  have lg := D1.lnm (by omega)
  simp only [startD, st]
  refine ⟨fun r ρ S' => ∃ (k : Nat) (more : List Ln) (S3 : Stt) (o7 : Option D), r = (List.range' k (m - k)).map nI ∧ k ≤ m ∧ ρ = [some (.scr ns), some (.hdl 0), some (.hdl 1), some (.lst ((es.map (·.1)).map D.str)), some (progD P), some (nI lot), some (.hdl (n + 2)), o7, none, none, none, none, none, none, none, none] ∧ S' = .hand :: wC v ms es :: S3 ∧
    S3[n]? = some (.lst ((gs ++ more).map lnD)) ∧ more.length ≤ 2 * k ∧ ∀ l ∈ more, LnM v (es.map (·.1)) (7 + k) (zk k) l, ⟨0, [], S2, none, rfl, Nat.zero_le _, rfl, rfl, by rw [List.append_nil]; exact hn, Nat.zero_le _, by simp⟩, ?_, ?_⟩
  · rintro y r ρ S' ⟨k, more, S3, o7, e, hk, rfl, rfl, hn3, hmore, hall⟩
    obtain ⟨h1, rfl, rfl⟩ := rng_cases hk e
    have zle : ∀ k, 15 ≤ zk k := fun k => by
      induction k with
      | zero => exact Nat.le_refl _
      | succ k ih => show 15 ≤ 2 * zk k + 2; omega
    refine ⟨v, ms, es, n, 7 + k, zk k, gs ++ more, S3, rfl, rfl, hn3, G, En, by simp [hne], by rw [List.length_append]; omega, by omega, fun l hl => ?_, fun j mr hmr hmrall => ?_⟩
    · rcases List.mem_append.mp hl with z | z
      · exact (lg l z).mono (by omega) (zle k)
      · exact hall l z
    · refine ⟨k + 1, more ++ mr, _, _, rfl, h1, rfl, rfl, ?_, by rw [List.length_append]; omega, fun l hl => ?_⟩
      · rw [List.getElem?_set_self (List.getElem?_eq_some_iff.mp hn3).1, List.append_assoc]
      · rcases List.mem_append.mp hl with z | z
        · exact (hall l z).mono (by omega) (by show zk k ≤ 2 * zk k + 2; omega)
        · exact hmrall l z
  · rintro ρ S' ⟨k, more, S3, o7, e, hk, rfl, rfl, hn3, hmore, hall⟩
    have hend := rng_end hk e
    have zb : zk k ≤ 270 := by
      rcases (by omega : k = 0 ∨ k = 1 ∨ k = 2 ∨ k = 3 ∨ k = 4) with rfl | rfl | rfl | rfl | rfl <;> decide
    refine q9 v ms es n (gs ++ more) S3 QD _ _ _ _ _ _ _ _ _ _ _ _ _ G En hn3 (by simp [hne]) (by rw [List.length_append]; omega) (fun l hl => ?_) ?_ q
    · rcases List.mem_append.mp hl with z | z
      · exact (lg l z).mono (by omega) (by omega)
      · exact (hall l z).mono (by omega) (by omega)
    · rw [List.map_append]
      have t1 : TxL ((gs.map lnD).length * (550 + 2)) (gs.map lnD) := TxL.all fun d hd => by
        obtain ⟨l, hl, e⟩ := List.mem_map.mp hd
        rw [← e]; exact ((lg l hl).tx N G.v6).mono (by decide)
      have t2 : TxL ((more.map lnD).length * (8200 + 2)) (more.map lnD) := TxL.all fun d hd => by
        obtain ⟨l, hl, e⟩ := List.mem_map.mp hd
        rw [← e]; exact ((hall l hl).tx N G.v6).mono (by omega)
      rw [List.length_map] at t1 t2
      exact (t1.app t2).mono (by omega)
end
end TA
set_option Elab.async false
set_option linter.all false
set_option maxRecDepth 100000
set_option maxHeartbeats 4000000
namespace TA
open PySem PySem.Spec L2
open PyProof.Rows hiding St
/-! ## the law, called -/
/-- what the script's list is -/
abbrev scrO (vs : List Value) : Obj := { cls := .type "list", data := .seq vs.toArray }
/-- the script alone is known -/
def scrH (a : Addr) (vs : List Value) (ns : List Int) : Hp := fun b => if b = a then some (.frz (scrO vs) (.lst (ns.map V.int))) else none
theorem scrH_at {a : Addr} {vs : List Value} {ns : List Int} : scrH a vs ns a = some (.frz (scrO vs) (.lst (ns.map V.int))) := if_pos rfl
theorem scrH_ne {a b : Addr} {vs : List Value} {ns : List Int} (h : b ≠ a) : scrH a vs ns b = none := if_neg h
theorem cells0 {K : PySem.W.Frag} {H : Hp} : Cells K ⟨[], []⟩ H [] := ⟨rfl, List.nodup_nil, fun y hy => absurd hy (by simp), fun n a c h _ => absurd h (by simp)⟩
theorem law_at {P : Program} {w : World} {K : PySem.W.Frag} {mg mb : PySem.Str → Option Value} {f a : Addr} {s : Shared} {vs : List Value} {ns : List Int} (KX : K.In s.heap) (hS : He.SaysT fa fnL tabs w K) (hE : extB K = true)
    (hG : s.heap.Ns mainGlobals mg) (hB : s.heap.Ns builtinsNs mb) (hbb : ∀ x : PySem.Str, x ≠ "__name__" → mb x = bootBuiltins x) (hlim : s.heap.NoLimit) (hgen : s.gens = #[]) (hf : mg "law" = some (.ref f))
    (ha : s.heap.get? a = some (scrO vs)) (hi : IntsAre vs ns) (hz : ns.length ≤ 63) :
    codeAny (model P w) callerA (.call (.ref f) ⟨[.ref a], []⟩) (fun r s' => r = .ok (.ret (.bool true)) ∧ OldK s.heap s'.heap ∧ s'.os = s.os ∧ AllBare s'.gens) s := by
  have rv := vals_ints hi
  have hKa : K.lookup a = none := by
    cases q : K.lookup a with
    | none => rfl
    | some o =>
      have e := KX a o q
      rw [ha] at e
      cases e
      exact absurd rfl (noLst_ok (Bool.and_eq_true_iff.mp hE).2 q)
  have keepB : ∀ {b : Addr} {o : Obj}, s.heap.get? b = some o → b ≠ a → (hidT s.heap (scrH a vs ns)).get? b = some o := fun e n => hidT_get e (scrH_ne n)
  have nsB : ∀ {b : Addr} {m : PySem.Str → Option Value}, s.heap.Ns b m → (hidT s.heap (scrH a vs ns)).Ns b m := fun {b m} h => by
    obtain ⟨o, es, ep, e1, e2, e3⟩ := h
    refine ⟨o, es, ep, keepB e1 fun z => ?_, e2, e3⟩
    rw [z, ha] at e1
    cases e1
    have e2 : Data.seq vs.toArray _ = Data.dict es ep := e2
    cases e2
  have KB : K.In (hidT s.heap (scrH a vs ns)) := fun b o e => keepB (KX b o e) fun z => by rw [z, hKa] at e; cases e
  have limB : (hidT s.heap (scrH a vs ns)).NoLimit := by
    obtain ⟨m, l1, l2⟩ := hlim
    exact ⟨m, nsB l1, l2⟩
  have hok : HOk P w (scrH a vs ns) s.heap := fun b o e => by
    by_cases z : b = a
    · subst z
      rw [scrH_at] at e
      cases e
      exact ⟨ha, by rw [List.length_map, sizeLine_eq]; omega, vs, _, rv, ha⟩
    · rw [scrH_ne z] at e
      cases e
  have e0 : Env0 P w K mg (hidT s.heap (scrH a vs ns)) callerA [] s (scrH a vs ns) := by
    refine ⟨rfl, ⟨KB, nsB hG, ⟨mb, nsB hB, hbb⟩, limB⟩, fun b o e => of_hidT e, Nat.le_of_eq (hidT_size _ _), trivial, fun b hb => ?_, hok, .of_eq hgen⟩
    cases hb
  have T : Txt ⟨P, w, K, mg, hidT s.heap (scrH a vs ns)⟩ := ⟨hS, hE, ⟨_, KB, nsB hG⟩⟩
  obtain ⟨fd, F⟩ := T.def_ 84 (d := d_law)
  have ef : f = He.fAd K d_law.at_ := by
    have e := T.glo "law"
    have e : mg "law" = some (.ref (He.ga K "law")) := e
    rw [hf] at e
    cases e
    rfl
  subst ef
  have bind := FunD.bindsA (ps := ["_law_script"]) F fun _ _ _ _ _ _ us hl => match us, hl with | [_], _ => rfl
  obtain ⟨oc, od, dV, kV, doc, pm, an, cdv, ct, osl, efd, lk, hcd, _, _⟩ := F.ex
  subst efd
  have hb := bind s [.ref a] rfl
  refine Att.call_fn (binds := [("_law_script", .ref a)]) KX hlim lk hcd (by decide) hb (show ((d_law.scope.names.lookup ("_law_script" : PySem.Str) == some .local || d_law.scope.names.lookup ("_law_script" : PySem.Str) == some .cell) && true) = true by decide +kernel) (fun s1 x => ?_) rfl rfl rfl
  obtain ⟨dt, hd, hq⟩ := law_all T (cdv := cdv) (A := callerA) (outer := []) (s := s) (H := scrH a vs ns) (E := E0) ⟨rfl, by show 1 + claimMargin + 1 + 3 * 27 + 5 < recursionLimit; decide, by show 4 + 3 + 16 * 27 + 200 < cLine; decide⟩ rfl
  have I := inv_start (CX := CX0) (E := E0) (N := lawN) (us := [.ref a]) (vs := [.ref a]) sc_law rfl e0 rfl (.cons rfl .nil) x
  refine wpAny_mono (hd.nox.run [] s1 (L2.start lawN [.ref a]) (scrH a vs ns) { nx := fun _ _ => False, rt := fun v _ => v = .bl true } I
    ⟨⟨[], []⟩, startD lawN [.scr ns], [], endsD fun d _ => d = .bl true, startD_slots (DpL.cons ?dp DpL.nil) (by show 1 ≤ 16; decide), cells0, ⟨fun M1 σ1 H1 ρ1 S1 g1 s1 c1 q1 => (by cases q1), fun M1 v H1 d S1 g1 c1 hd q1 => ?rt, fun _ _ _ _ _ _ _ _ z => z.elim, fun _ _ _ _ _ _ _ _ z => z.elim⟩, hq ns _ hz fun _ => rfl⟩) (fun fl s' hs => ?fin) (fun e s' hs => ?err)
  case dp =>
    simp only [Dp]
    exact ⟨a, _, rfl, ⟨by simp, by simp⟩, scrH_at⟩
  case rt =>
    subst q1
    exact hd.bl_inv
  case err => exact wpAny_mono hs (fun _ _ z => False.elim z) (fun _ _ z => False.elim z)
  case fin =>
    cases fl with
    | next =>
      obtain ⟨_, _, _, q⟩ := hs
      exact False.elim q
    | brk =>
      obtain ⟨_, _, _, q⟩ := hs
      exact False.elim q
    | cont =>
      obtain ⟨_, _, _, q⟩ := hs
      exact False.elim q
    | ret u =>
      obtain ⟨v, σ', H', J, ru, q⟩ := hs
      have q : v = .bl true := q
      subst q
      obtain rfl : u = Value.bool true := ru
      refine ⟨rfl, OldK.of_keep fun b o e => ?_, J.os, J.bare⟩
      by_cases z : b = a
      · subst z
        obtain ⟨r, _⟩ := J.hok b _ (J.base.frzs b _ _ scrH_at)
        rw [ha] at e
        cases e
        exact r
      · exact J.base.keep b o e (scrH_ne z) (by intro y; cases y) (by intro y; cases y)
end TA
set_option Elab.async false
set_option linter.all false
set_option maxRecDepth 100000
set_option maxHeartbeats 0
open PySem PySem.W PySem.Calls PyProof.Rows
theorem PySem.Challenge.cw_truealarms_k25_whole_lines_judged_word_f_holds : PySem.Challenge.rw_truealarms_k25_whole_lines_judged_word_f.Holds := by
  w_on; o_law
  refine HandSHeadRun.head_any (r := TA.RW) (q := TA.qv) (H := TA.hookZ) (ob := TA.obZ) (M := 6500) (loose := TA.loose) (d := HandSHeadRun.topDef TA.RW.prog 108) (kwd := []) TA.obZ_eq
    (by kernel_rfl) (fun s => by kernel_rfl) TA.runZ (by kernel_rfl) (by kernel_rfl) (by kernel_rfl) (by rfl) (by first | assumption | decide +kernel) (by decide +kernel) ⟨rfl, rfl, rfl, rfl, rfl, by decide +kernel⟩ ?hw ?hc
  case hw => w_witness2
  case hc =>
    refine Att.attach_call (n := 63) rfl (by kernel_rfl) fun w s₀ s₁ mg mb fa o pm cd doc a vs ns G Y ho hd hcd hmg hobj hints hlen hg => ?_
    obtain ⟨K, KX, c, e⟩ := Y
    have hm : mg ("law" : PySem.Str) = some (.ref fa) := by
      have n : (HandSHeadRun.topDef TA.RW.prog 108).name = ("law" : PySem.Str) := by kernel_rfl
      rw [← n]
      exact hmg
    exact TA.law_at KX c e G.T.g G.T.b G.T.builtins G.T.nolimit hg hm hobj hints hlen

