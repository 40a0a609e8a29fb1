import PyProof.Rows.All
import Wide.All
import OpenK.AllK
import Wide.FinOn
import HandS.ForMost
import HandS.Exc
import HandS.ExcOwn
import HandS.TryOnly
import HandS.WordsExc
import HandS.AnyAll
import HandS.Wide
import HandS.TupAny
import HandS.Zip
import HandS.More
import HandS.Steps
import HandS.Style
import HandS.IsInst
import HandS.Iter
import HandS.SortInts
import HandS.SortRule
import HandS.SetFor
import HandS.Strs
import KE.SortData
import HandS.Conv
import HandS.Deep
import PyProof.GenCompT
import KE.DataIsa
import KE.GoesZip
import KE.GoesMore
import HandS.Zip0
import HandS.EndTab
import HandS.EndOwn
import PySem.Challenge.RW_foundalways_k88_whole_seeks_from_all_pla
set_option Elab.async false
set_option linter.all false
set_option maxRecDepth 100000
set_option maxHeartbeats 4000000
/-! Mo0: data, owned trees, what of them stands in the heap; a step forward. -/
namespace Mo
open PySem PySem.Spec PyProof.Rows L2

abbrev D := PyData

/-! ### heaps that grow -/
/-- all is kept but tables of code objects, which may grow -/
structure Ex (H H' : Hp) : Prop where
  at' : ∀ a o, H a = some o → (k : ∀ ps, o ≠ .tbl ps := by nofun) → H' a = some o
  tb : ∀ a ps, H a = some (.tbl ps) → ∃ qs, H' a = some (.tbl qs) ∧ (TriplesOk ps.toList → TriplesOk qs.toList)
theorem Ex.all {H H' : Hp} (h : ∀ a o, H a = some o → H' a = some o) : Ex H H' := ⟨fun a o q _ => h a o q, fun a ps q => ⟨ps, h a _ q, id⟩⟩
theorem Ex.refl (H : Hp) : Ex H H := .all fun _ _ h => h
theorem Ex.trans {H H1 H2 : Hp} (a : Ex H H1) (b : Ex H1 H2) : Ex H H2 := ⟨fun x o h k => b.at' x o (a.at' x o h k) k, fun x ps h => by
  obtain ⟨qs, h1, k1⟩ := a.tb x ps h
  obtain ⟨rs, h2, k2⟩ := b.tb x qs h1
  exact ⟨rs, h2, fun t => k2 (k1 t)⟩⟩
theorem Ex.new {H : Hp} {p : Addr} {o : HO} (h : H p = none) : Ex H (upd H p o) := .all fun a u e => by
  rw [upd_ne (ne_of_none e h)]; exact e
theorem Ex.th {H H' : Hp} (e : Ex H H') {a : Addr} {o : HO} (h : H a = some o) : ∃ o', H' a = some o' := by
  by_cases q : ∃ ps, o = .tbl ps
  · obtain ⟨ps, rfl⟩ := q
    obtain ⟨qs, h1, _⟩ := e.tb a ps h
    exact ⟨_, h1⟩
  · exact ⟨o, e.at' a o h fun ps z => q ⟨ps, z⟩⟩
theorem Ex.tab {H H' : Hp} (e : Ex H H') {P : Addr} (h : GxR.TabG H P) : GxR.TabG H' P := by
  obtain ⟨ps, q, t⟩ := h
  obtain ⟨qs, q1, t1⟩ := e.tb P ps q
  exact ⟨qs, q1, t1 t⟩
/-- the tables of code objects that the program has -/
class Tabs where
  l : List Addr
/-- they stand -/
def Tb [T : Tabs] (H : Hp) : Prop := ∀ P ∈ T.l, GxR.TabG H P
theorem Ex.tbs [Tabs] {H H' : Hp} (e : Ex H H') (h : Tb H) : Tb H' := fun P hP => e.tab (h P hP)
theorem Ex.rd {H H' : Hp} {a : Addr} {u : HO} (e : Ex H H') (h : Rd H a u) (k : ∀ ps, u ≠ .tbl ps := by nofun) : Rd H' a u := by
  rcases h with h | ⟨o, h⟩
  · exact .inl (e.at' a _ h k)
  · exact .inr ⟨o, e.at' a _ h⟩
theorem Ex.l {K : PySem.W.Frag} {H H' : Hp} {a : Addr} {xs : List V} (e : Ex H H') (h : SqL K H a xs) : SqL K H' a xs := by
  rcases h with h | h
  · exact .inl (e.rd h)
  · exact .inr h
theorem Ex.t {K : PySem.W.Frag} {H H' : Hp} {a : Addr} {xs : List V} (e : Ex H H') (h : SqT K H a xs) : SqT K H' a xs := by
  rcases h with h | h
  · exact .inl (e.rd h)
  · exact .inr h
theorem Ex.none {H H' : Hp} {p : Addr} (e : Ex H H') (h : H' p = none) : H p = none := by
  cases q : H p with
  | none => rfl
  | some o =>
    obtain ⟨o', z⟩ := e.th q
    rw [z] at h; cases h

/-! ### data in a heap -/
def keyD : Key → D
  | .inl i => .int i
  | .inr s => .str s
mutual
def Rp (K : PySem.W.Frag) (G : Hp) : D → V → Prop
  | .none, v => v = .non
  | .bool b, v => v = .bl b
  | .int i, v => v = .int i
  | .str s, v => v = .str s ∧ s.length ≤ sizeLine
  | .list ds, v => ∃ a vs, v = .ref a ∧ G a = some (.lst vs) ∧ RpL K G ds vs
  | .tuple ds, v => ∃ a vs, v = .ref a ∧ SqT K G a vs ∧ RpL K G ds vs
  | .dict kvs, v => ∃ a, v = .ref a ∧ ((∃ es, Rd G a (.dK es) ∧ RpK K G kvs es) ∨ (∃ es, Rd G a (.dT es) ∧ RpT K G kvs es))
def RpL (K : PySem.W.Frag) (G : Hp) : List D → List V → Prop
  | [], vs => vs = []
  | d :: ds, vs => ∃ v r, vs = v :: r ∧ Rp K G d v ∧ RpL K G ds r
def RpK (K : PySem.W.Frag) (G : Hp) : List (D × D) → List (Key × V) → Prop
  | [], es => es = []
  | (k, d) :: ds, es => ∃ q v r, es = (q, v) :: r ∧ k = keyD q ∧ Rp K G d v ∧ RpK K G ds r
def RpT (K : PySem.W.Frag) (G : Hp) : List (D × D) → List (List Key × V) → Prop
  | [], es => es = []
  | (k, d) :: ds, es => ∃ q v r, es = (q, v) :: r ∧ k = .tuple (q.map keyD) ∧ Rp K G d v ∧ RpT K G ds r
end

section
variable {K : PySem.W.Frag} {G G' H H' : Hp}
mutual
theorem Rp.mono (e : Ex G G') : ∀ {d : D} {v : V}, Rp K G d v → Rp K G' d v
  | .none, _, h => h
  | .bool _, _, h => h
  | .int _, _, h => h
  | .str _, _, h => h
  | .list ds, _, ⟨a, vs, e1, s, r⟩ => ⟨a, vs, e1, e.at' _ _ s, RpL.mono e r⟩
  | .tuple ds, _, ⟨a, vs, e1, s, r⟩ => ⟨a, vs, e1, e.t s, RpL.mono e r⟩
  | .dict kvs, _, ⟨a, e1, h⟩ => ⟨a, e1, h.elim (fun ⟨es, s, r⟩ => .inl ⟨es, e.rd s, RpK.mono e r⟩) fun ⟨es, s, r⟩ => .inr ⟨es, e.rd s, RpT.mono e r⟩⟩
theorem RpL.mono (e : Ex G G') : ∀ {ds : List D} {vs : List V}, RpL K G ds vs → RpL K G' ds vs
  | [], _, h => h
  | _ :: _, _, ⟨v, r, e1, h, t⟩ => ⟨v, r, e1, Rp.mono e h, RpL.mono e t⟩
theorem RpK.mono (e : Ex G G') : ∀ {ds : List (D × D)} {vs : List (Key × V)}, RpK K G ds vs → RpK K G' ds vs
  | [], _, h => h
  | (_, _) :: _, _, ⟨q, v, r, e1, k, h, t⟩ => ⟨q, v, r, e1, k, Rp.mono e h, RpK.mono e t⟩
theorem RpT.mono (e : Ex G G') : ∀ {ds : List (D × D)} {vs : List (List Key × V)}, RpT K G ds vs → RpT K G' ds vs
  | [], _, h => h
  | (_, _) :: _, _, ⟨q, v, r, e1, k, h, t⟩ => ⟨q, v, r, e1, k, Rp.mono e h, RpT.mono e t⟩
end
theorem RpL.length : ∀ {ds : List D} {vs : List V}, RpL K G ds vs → vs.length = ds.length
  | [], _, h => by cases h; rfl
  | _ :: _, _, ⟨v, r, e, _, t⟩ => by subst e; simp [RpL.length t]
theorem RpL.get : ∀ {ds : List D} {vs : List V} {i : Nat} {d : D}, RpL K G ds vs → ds[i]? = some d → ∃ v, vs[i]? = some v ∧ Rp K G d v
  | [], _, i, _, _, h => by simp at h
  | x :: ds, _, 0, d, ⟨v, r, e, h, t⟩, g => by
    subst e
    have : x = d := by simpa using g
    subst this
    exact ⟨v, rfl, h⟩
  | x :: ds, _, i + 1, d, ⟨v, r, e, h, t⟩, g => by
    subst e
    obtain ⟨w, g1, g2⟩ := RpL.get (i := i) (d := d) t (by simpa using g)
    exact ⟨w, by simpa using g1, g2⟩
theorem RpL.get' : ∀ {ds : List D} {vs : List V} {i : Nat} {v : V}, RpL K G ds vs → vs[i]? = some v → ∃ d, ds[i]? = some d ∧ Rp K G d v
  | [], _, i, _, h, g => by cases h; simp at g
  | x :: ds, _, 0, v, ⟨w, r, e, h, t⟩, g => by
    subst e
    have : w = v := by simpa using g
    subst this
    exact ⟨x, rfl, h⟩
  | x :: ds, _, i + 1, v, ⟨w, r, e, h, t⟩, g => by
    subst e
    obtain ⟨d, g1, g2⟩ := RpL.get' (i := i) (v := v) t (by simpa using g)
    exact ⟨d, by simpa using g1, g2⟩
theorem RpL.append : ∀ {ds es : List D} {vs us : List V}, RpL K G ds vs → RpL K G es us → RpL K G (ds ++ es) (vs ++ us)
  | [], _, _, _, h, g => by cases h; exact g
  | _ :: _, _, _, _, ⟨v, r, e, h, t⟩, g => by subst e; exact ⟨v, _, rfl, h, RpL.append t g⟩
theorem RpL.take : ∀ {ds : List D} {vs : List V} (n : Nat), RpL K G ds vs → RpL K G (ds.take n) (vs.take n)
  | [], _, n, h => by cases h; simp [RpL]
  | _ :: _, _, 0, ⟨v, r, e, h, t⟩ => by subst e; simp [RpL]
  | _ :: _, _, n + 1, ⟨v, r, e, h, t⟩ => by subst e; exact ⟨v, _, rfl, h, RpL.take n t⟩
theorem RpL.drop : ∀ {ds : List D} {vs : List V} (n : Nat), RpL K G ds vs → RpL K G (ds.drop n) (vs.drop n)
  | [], _, n, h => by cases h; simp [RpL]
  | _ :: _, _, 0, h => h
  | _ :: _, _, n + 1, ⟨v, r, e, h, t⟩ => by subst e; exact RpL.drop n t
theorem RpL.one {d : D} {v : V} (h : Rp K G d v) : RpL K G [d] [v] := ⟨v, [], rfl, h, rfl⟩
theorem RpL.snoc {ds : List D} {vs : List V} {d : D} {v : V} (h : RpL K G ds vs) (g : Rp K G d v) : RpL K G (ds ++ [d]) (vs ++ [v]) := h.append (.one g)

/-- read through a view: the topmost cell in the heap, what is within in the ghost -/
def Rv (K : PySem.W.Frag) (H G : Hp) : D → V → Prop
  | .list ds, v => ∃ a vs, v = .ref a ∧ H a = some (.lst vs) ∧ RpL K G ds vs
  | d, v => Rp K G d v
theorem Rp.rv (e : Ex G H) : ∀ {d : D} {v : V}, Rp K G d v → Rv K H G d v
  | .none, _, h => h
  | .bool _, _, h => h
  | .int _, _, h => h
  | .str _, _, h => h
  | .list ds, _, ⟨a, vs, e1, s, r⟩ => ⟨a, vs, e1, e.at' _ _ s, r⟩
  | .tuple _, _, h => h
  | .dict _, _, h => h
theorem Rv.rp (e : Ex G H) : ∀ {d : D} {v : V}, Rv K H G d v → Rp K H d v
  | .none, _, h => h
  | .bool _, _, h => h
  | .int _, _, h => h
  | .str _, _, h => h
  | .list ds, _, ⟨a, vs, e1, s, r⟩ => ⟨a, vs, e1, s, r.mono e⟩
  | .tuple _, _, h => Rp.mono e h
  | .dict _, _, h => Rp.mono e h

/-! as the deep == wants it -/
mutual
def flat : D → Bool
  | .dict _ => false
  | .list ds => flats ds
  | .tuple ds => flats ds
  | _ => true
def flats : List D → Bool
  | [] => true
  | d :: ds => flat d && flats ds
end
mutual
theorem Rp.dp : ∀ {d : D} {v : V}, Rp K G d v → flat d = true → Dp K G v d
  | .none, _, h, _ => by cases h; exact .non
  | .bool _, _, h, _ => by cases h; exact .bl _
  | .int _, _, h, _ => by cases h; exact .int _
  | .str _, _, ⟨h, _⟩, _ => by cases h; exact .str _
  | .list ds, _, ⟨a, vs, e1, s, r⟩, f => by subst e1; exact .lst (.inl (.inl s)) (RpL.dp r f)
  | .tuple ds, _, ⟨a, vs, e1, s, r⟩, f => by subst e1; exact .tup s (RpL.dp r f)
  | .dict _, _, _, f => by cases f
theorem RpL.dp : ∀ {ds : List D} {vs : List V}, RpL K G ds vs → flats ds = true → DpAll K G vs ds
  | [], _, h, _ => by cases h; exact .nil
  | d :: ds, _, ⟨v, r, e, h, t⟩, f => by
    subst e
    have f' : (flat d && flats ds) = true := f
    rw [Bool.and_eq_true] at f'
    exact .cons (Rp.dp h f'.1) (RpL.dp t f'.2)
end
end

/-! ### owned trees: lists (of lists ..) of one's own, that may be changed -/
inductive OT where
  | lf (x : D)
  | ls (l : List OT)
  deriving Inhabited
mutual
def OT.view : OT → D
  | .lf x => x
  | .ls l => .list (OT.views l)
def OT.views : List OT → List D
  | [] => []
  | t :: ts => t.view :: OT.views ts
end
theorem OT.views_eq : ∀ l : List OT, OT.views l = l.map OT.view
  | [] => rfl
  | t :: ts => by rw [OT.views, OT.views_eq ts]; rfl
mutual
/-- the tree t at v, over just the cells fp -/
def Own (K : PySem.W.Frag) (G H : Hp) : OT → V → List Addr → Prop
  | .lf x, v, fp => fp = [] ∧ Rp K G x v
  | .ls ts, v, fp => ∃ a vs fq, v = .ref a ∧ fp = a :: fq ∧ H a = some (.lst vs) ∧ G a = none ∧ Owns K G H ts vs fq
def Owns (K : PySem.W.Frag) (G H : Hp) : List OT → List V → List Addr → Prop
  | [], vs, fp => vs = [] ∧ fp = []
  | t :: ts, vs, fp => ∃ v r f1 f2, vs = v :: r ∧ fp = f1 ++ f2 ∧ Own K G H t v f1 ∧ Owns K G H ts r f2
end
section
variable {K : PySem.W.Frag} {G G' H H' : Hp}
mutual
theorem Own.frame (e : Ex G G') : ∀ {t : OT} {v : V} {fp : List Addr}, Own K G H t v fp → (∀ a ∈ fp, H' a = H a) → (∀ a ∈ fp, G' a = none) → Own K G' H' t v fp
  | .lf x, _, _, ⟨f, h⟩, _, _ => ⟨f, h.mono e⟩
  | .ls ts, _, _, ⟨a, vs, fq, e1, e2, e3, e4, r⟩, fr, gn => by
    subst e2
    exact ⟨a, vs, fq, e1, rfl, by rw [fr a (by simp)]; exact e3, gn a (by simp), Owns.frame e r (fun b hb => fr b (by simp [hb])) fun b hb => gn b (by simp [hb])⟩
theorem Owns.frame (e : Ex G G') : ∀ {ts : List OT} {vs : List V} {fp : List Addr}, Owns K G H ts vs fp → (∀ a ∈ fp, H' a = H a) → (∀ a ∈ fp, G' a = none) → Owns K G' H' ts vs fp
  | [], _, _, h, _, _ => h
  | t :: ts, _, _, ⟨v, r, f1, f2, e1, e2, h, g⟩, fr, gn => by
    subst e2
    exact ⟨v, r, f1, f2, e1, rfl, Own.frame e h (fun b hb => fr b (by simp [hb])) (fun b hb => gn b (by simp [hb])), Owns.frame e g (fun b hb => fr b (by simp [hb])) fun b hb => gn b (by simp [hb])⟩
end
mutual
theorem Own.there : ∀ {t : OT} {v : V} {fp : List Addr}, Own K G H t v fp → ∀ a ∈ fp, G a = none ∧ ∃ vs, H a = some (.lst vs)
  | .lf x, _, _, ⟨f, h⟩, a, ha => by rw [f] at ha; cases ha
  | .ls ts, _, _, ⟨b, vs, fq, e1, e2, e3, e4, r⟩, a, ha => by
    rw [e2] at ha
    rcases List.mem_cons.mp ha with z | z
    · subst z; exact ⟨e4, vs, e3⟩
    · exact Owns.there r a z
theorem Owns.there : ∀ {ts : List OT} {vs : List V} {fp : List Addr}, Owns K G H ts vs fp → ∀ a ∈ fp, G a = none ∧ ∃ vs, H a = some (.lst vs)
  | [], _, _, ⟨_, f⟩, a, ha => by rw [f] at ha; cases ha
  | t :: ts, _, _, ⟨v, r, f1, f2, e1, e2, h, g⟩, a, ha => by
    rw [e2] at ha
    rcases List.mem_append.mp ha with z | z
    · exact Own.there h a z
    · exact Owns.there g a z
end
/-- the ghost with some cells as they stand in the heap -/
def fzG (G H : Hp) (fp : List Addr) : Hp := fun a => if a ∈ fp then H a else G a
theorem fzG_ex {fp : List Addr} (hn : ∀ a ∈ fp, G a = none) : Ex G (fzG G H fp) := .all fun a o e => by
  unfold fzG
  by_cases h : a ∈ fp
  · rw [hn a h] at e; cases e
  · rw [if_neg h]; exact e
theorem fzG_in {fp : List Addr} {a : Addr} (h : a ∈ fp) : fzG G H fp a = H a := by unfold fzG; rw [if_pos h]
theorem fzG_out {fp : List Addr} {a : Addr} (h : a ∉ fp) : fzG G H fp a = G a := by unfold fzG; rw [if_neg h]
theorem fzG_gh {fp : List Addr} (e : Ex G H) : Ex (fzG G H fp) H := ⟨fun a o z k => by
  by_cases hf : a ∈ fp
  · rw [fzG_in hf] at z; exact z
  · rw [fzG_out hf] at z; exact e.at' a o z k, fun a ps z => by
  by_cases hf : a ∈ fp
  · rw [fzG_in hf] at z; exact ⟨ps, z, id⟩
  · rw [fzG_out hf] at z; exact e.tb a ps z⟩
/-- a cell that the ghost has not is written -/
theorem Ex.put {p : Addr} {o : HO} (e : Ex G H) (gp : G p = Option.none) : Ex G (upd H p o) := ⟨fun a u q k => by
  rw [upd_ne (fun z => by rw [z, gp] at q; cases q)]; exact e.at' a u q k, fun a ps q => by
  rw [upd_ne (fun z => by rw [z, gp] at q; cases q)]; exact e.tb a ps q⟩
/-- tables stand where another cell is written -/
theorem tbl_put {p : Addr} {o : HO} (n : ∀ ps, H p ≠ some (.tbl ps)) {a : Addr} {ps : Array Value} (h : H a = some (.tbl ps)) : ∃ qs, upd H p o a = some (.tbl qs) ∧ (TriplesOk ps.toList → TriplesOk qs.toList) :=
  ⟨ps, by rw [upd_ne (fun z : a = p => n ps (by rw [← z]; exact h))]; exact h, id⟩
theorem Tb.put [Tabs] {p : Addr} {o : HO} (n : ∀ ps, H p ≠ some (.tbl ps)) (t : Tb H) : Tb (upd H p o) := fun P hP => by
  obtain ⟨ps, h, k⟩ := t P hP
  obtain ⟨qs, h1, k1⟩ := tbl_put (o := o) n h
  exact ⟨qs, h1, k1 k⟩
mutual
theorem Own.freeze : ∀ {t : OT} {v : V} {fp : List Addr}, Own K G H t v fp → (Ex G G') → (∀ a ∈ fp, G' a = H a) → Rp K G' t.view v
  | .lf x, _, _, ⟨f, h⟩, e, _ => h.mono e
  | .ls ts, _, _, ⟨b, vs, fq, e1, e2, e3, e4, r⟩, e, g => by
    subst e2
    exact ⟨b, vs, e1, (g b (by simp)).trans e3, Owns.freeze r e fun a ha => g a (by simp [ha])⟩
theorem Owns.freeze : ∀ {ts : List OT} {vs : List V} {fp : List Addr}, Owns K G H ts vs fp → (Ex G G') → (∀ a ∈ fp, G' a = H a) → RpL K G' (OT.views ts) vs
  | [], _, _, ⟨e1, _⟩, _, _ => e1
  | t :: ts, _, _, ⟨v, r, f1, f2, e1, e2, h, q⟩, e, g => by
    subst e2
    exact ⟨v, r, e1, Own.freeze h e fun a ha => g a (by simp [ha]), Owns.freeze q e fun a ha => g a (by simp [ha])⟩
end
/-- read where it stands -/
theorem Own.read (e : Ex G H) {t : OT} {v : V} {fp : List Addr} (h : Own K G H t v fp) : Rp K H t.view v := h.freeze e fun _ _ => rfl
theorem Owns.length : ∀ {ts : List OT} {vs : List V} {fp : List Addr}, Owns K G H ts vs fp → vs.length = ts.length
  | [], _, _, ⟨e, _⟩ => by rw [e]; rfl
  | t :: ts, _, _, ⟨v, r, f1, f2, e1, e2, h, g⟩ => by rw [e1]; simp [Owns.length g]
theorem Owns.append : ∀ {ts us : List OT} {vs ws : List V} {fp fq : List Addr}, Owns K G H ts vs fp → Owns K G H us ws fq → Owns K G H (ts ++ us) (vs ++ ws) (fp ++ fq)
  | [], _, _, _, _, _, ⟨e1, e2⟩, g => by subst e1 e2; exact g
  | t :: ts, _, _, _, _, _, ⟨v, r, f1, f2, e1, e2, h, q⟩, g => by
    subst e1 e2
    exact ⟨v, _, f1, _, rfl, by simp, h, Owns.append q g⟩
theorem Owns.one {t : OT} {v : V} {fp : List Addr} (h : Own K G H t v fp) : Owns K G H [t] [v] fp := ⟨v, [], fp, [], rfl, by simp, h, rfl, rfl⟩
/-- the i-th of a row of trees, and the row with another in its place -/
theorem Owns.at : ∀ {ts : List OT} {vs : List V} {fp : List Addr} {i : Nat} {t : OT}, Owns K G H ts vs fp → ts[i]? = some t →
    ∃ v f0 f1 f2, vs[i]? = some v ∧ fp = f0 ++ f1 ++ f2 ∧ Own K G H t v f1 ∧
      ∀ {G' H' : Hp} {t' : OT} {v' : V} {f1' : List Addr}, Ex G G' → (∀ a ∈ f0 ++ f2, H' a = H a) → (∀ a ∈ f0 ++ f2, G' a = none) → Own K G' H' t' v' f1' → Owns K G' H' (ts.set i t') (vs.set i v') (f0 ++ f1' ++ f2)
  | [], _, _, i, _, _, h => by simp at h
  | x :: ts, _, _, 0, t, ⟨v, r, f1, f2, e1, e2, h, g⟩, q => by
    have : x = t := by simpa using q
    subst this e1 e2
    refine ⟨v, [], f1, f2, rfl, by simp, h, fun {G' H' t' v' f1'} e fr gn o => ⟨v', r, f1', f2, rfl, by simp, o, g.frame e (fun a ha => fr a (by simp [ha])) fun a ha => gn a (by simp [ha])⟩⟩
  | x :: ts, _, _, i + 1, t, ⟨v, r, f1, f2, e1, e2, h, g⟩, q => by
    subst e1 e2
    obtain ⟨w, g0, g1, g2, a1, a2, a3, a4⟩ := Owns.at (i := i) (t := t) g (by simpa using q)
    subst a2
    refine ⟨w, f1 ++ g0, g1, g2, by simpa using a1, by simp, a3, fun {G' H' t' v' f1'} e fr gn o => ?_⟩
    refine ⟨v, r.set i v', f1, g0 ++ f1' ++ g2, rfl, by simp, h.frame e (fun a ha => fr a (by simp [ha])) (fun a ha => gn a (by simp [ha])), a4 e (fun a ha => fr a ?_) (fun a ha => gn a ?_) o⟩
    · rcases List.mem_append.mp ha with z | z <;> simp [z]
    · rcases List.mem_append.mp ha with z | z <;> simp [z]
end

/-! ### the slots -/
inductive Slot where
  | un
  | v (t : OT)
  /-- a parameter that is handed in to be changed: never stored to -/
  | io (t : OT)
  /-- the script, as it is handed in -/
  | raw (ns : List Int)
  deriving Inhabited
abbrev Env := List Slot
def Slots (K : PySem.W.Frag) (G H : Hp) : Env → L2.St → List Addr → Prop
  | [], σ, fp => σ = [] ∧ fp = []
  | .un :: ρ, σ, fp => ∃ x r, σ = x :: r ∧ Slots K G H ρ r fp
  | .v t :: ρ, σ, fp => ∃ v r f1 f2, σ = some v :: r ∧ fp = f1 ++ f2 ∧ Own K G H t v f1 ∧ Slots K G H ρ r f2
  | .io t :: ρ, σ, fp => ∃ v r f1 f2, σ = some v :: r ∧ fp = f1 ++ f2 ∧ Own K G H t v f1 ∧ Slots K G H ρ r f2
  | .raw ns :: ρ, σ, fp => ∃ a r, σ = some (.ref a) :: r ∧ SqL K G a (ns.map V.int) ∧ Slots K G H ρ r fp
def Slot.ot : Slot → Option OT
  | .un => none
  | .raw _ => none
  | .v t => some t
  | .io t => some t
def Slot.to (s : Slot) (t : OT) : Slot := match s with
  | .io _ => .io t
  | _ => .v t
section
variable {K : PySem.W.Frag} {G G' H H' : Hp}
theorem Slots.frame (e : Ex G G') : ∀ {ρ : Env} {σ : L2.St} {fp : List Addr}, Slots K G H ρ σ fp → (∀ a ∈ fp, H' a = H a) → (∀ a ∈ fp, G' a = none) → Slots K G' H' ρ σ fp
  | [], _, _, h, _, _ => h
  | .un :: ρ, _, _, ⟨x, r, e1, h⟩, fr, gn => ⟨x, r, e1, Slots.frame e h fr gn⟩
  | .raw ns :: ρ, _, _, ⟨x, r, e1, q, h⟩, fr, gn => ⟨x, r, e1, e.l q, Slots.frame e h fr gn⟩
  | .v t :: ρ, _, _, ⟨v, r, f1, f2, e1, e2, h, g⟩, fr, gn => by
    subst e2
    exact ⟨v, r, f1, f2, e1, rfl, h.frame e (fun b hb => fr b (by simp [hb])) (fun b hb => gn b (by simp [hb])), Slots.frame e g (fun b hb => fr b (by simp [hb])) fun b hb => gn b (by simp [hb])⟩
  | .io t :: ρ, _, _, ⟨v, r, f1, f2, e1, e2, h, g⟩, fr, gn => by
    subst e2
    exact ⟨v, r, f1, f2, e1, rfl, h.frame e (fun b hb => fr b (by simp [hb])) (fun b hb => gn b (by simp [hb])), Slots.frame e g (fun b hb => fr b (by simp [hb])) fun b hb => gn b (by simp [hb])⟩
theorem Slots.there : ∀ {ρ : Env} {σ : L2.St} {fp : List Addr}, Slots K G H ρ σ fp → ∀ a ∈ fp, G a = none ∧ ∃ vs, H a = some (.lst vs)
  | [], _, _, ⟨_, f⟩, a, ha => by rw [f] at ha; cases ha
  | .un :: ρ, _, _, ⟨x, r, e1, h⟩, a, ha => Slots.there h a ha
  | .raw ns :: ρ, _, _, ⟨x, r, e1, q, h⟩, a, ha => Slots.there h a ha
  | .v t :: ρ, _, _, ⟨v, r, f1, f2, e1, e2, h, g⟩, a, ha => by
    rw [e2] at ha
    rcases List.mem_append.mp ha with z | z
    · exact h.there a z
    · exact Slots.there g a z
  | .io t :: ρ, _, _, ⟨v, r, f1, f2, e1, e2, h, g⟩, a, ha => by
    rw [e2] at ha
    rcases List.mem_append.mp ha with z | z
    · exact h.there a z
    · exact Slots.there g a z
theorem Slots.len : ∀ {ρ : Env} {σ : L2.St} {fp : List Addr}, Slots K G H ρ σ fp → σ.length = ρ.length
  | [], _, _, ⟨e, _⟩ => by rw [e]; rfl
  | .un :: ρ, _, _, ⟨x, r, e1, h⟩ => by rw [e1]; simp [Slots.len h]
  | .raw ns :: ρ, _, _, ⟨x, r, e1, q, h⟩ => by rw [e1]; simp [Slots.len h]
  | .v t :: ρ, _, _, ⟨v, r, f1, f2, e1, e2, h, g⟩ => by rw [e1]; simp [Slots.len g]
  | .io t :: ρ, _, _, ⟨v, r, f1, f2, e1, e2, h, g⟩ => by rw [e1]; simp [Slots.len g]
/-- a slot that holds a tree, and another tree put there -/
theorem Slots.at : ∀ {ρ : Env} {σ : L2.St} {fp : List Addr} {i : Nat} {s : Slot} {t : OT}, Slots K G H ρ σ fp → ρ[i]? = some s → s.ot = some t →
    ∃ v f0 f1 f2, σ[i]? = some (some v) ∧ fp = f0 ++ f1 ++ f2 ∧ Own K G H t v f1 ∧
      ∀ {G' H' : Hp} {t' : OT} {v' : V} {f1' : List Addr}, Ex G G' → (∀ a ∈ f0 ++ f2, H' a = H a) → (∀ a ∈ f0 ++ f2, G' a = none) → Own K G' H' t' v' f1' → Slots K G' H' (ρ.set i (s.to t')) (σ.set i (some v')) (f0 ++ f1' ++ f2)
  | [], _, _, i, _, _, _, h, _ => by simp at h
  | .un :: ρ, _, _, 0, s, t, _, h, q => by
    have : Slot.un = s := by simpa using h
    subst this; cases q
  | .raw ns :: ρ, _, _, 0, s, t, _, h, q => by
    have : Slot.raw ns = s := by simpa using h
    subst this; cases q
  | .raw ns :: ρ, _, _, i + 1, s, t, ⟨x, r, e1, q0, h⟩, g, q => by
    subst e1
    obtain ⟨w, g0, g1, g2, a1, a2, a3, a4⟩ := Slots.at (i := i) (s := s) (t := t) h (by simpa using g) q
    exact ⟨w, g0, g1, g2, by simpa using a1, a2, a3, fun {G' H' t' v' f1'} e fr gn o => ⟨x, r.set i (some v'), rfl, e.l q0, a4 e fr gn o⟩⟩
  | .un :: ρ, _, _, i + 1, s, t, ⟨x, r, e1, h⟩, g, q => by
    subst e1
    obtain ⟨w, g0, g1, g2, a1, a2, a3, a4⟩ := Slots.at (i := i) (s := s) (t := t) h (by simpa using g) q
    exact ⟨w, g0, g1, g2, by simpa using a1, a2, a3, fun {G' H' t' v' f1'} e fr gn o => ⟨x, r.set i (some v'), rfl, a4 e fr gn o⟩⟩
  | .v t0 :: ρ, _, _, 0, s, t, ⟨v, r, f1, f2, e1, e2, h, g⟩, k, q => by
    have : Slot.v t0 = s := by simpa using k
    subst this e1 e2
    have : t0 = t := by simpa [Slot.ot] using q
    subst this
    exact ⟨v, [], f1, f2, rfl, by simp, h, fun {G' H' t' v' f1'} e fr gn o => ⟨v', r, f1', f2, rfl, by simp, o, g.frame e (fun a ha => fr a (by simp [ha])) fun a ha => gn a (by simp [ha])⟩⟩
  | .io t0 :: ρ, _, _, 0, s, t, ⟨v, r, f1, f2, e1, e2, h, g⟩, k, q => by
    have : Slot.io t0 = s := by simpa using k
    subst this e1 e2
    have : t0 = t := by simpa [Slot.ot] using q
    subst this
    exact ⟨v, [], f1, f2, rfl, by simp, h, fun {G' H' t' v' f1'} e fr gn o => ⟨v', r, f1', f2, rfl, by simp, o, g.frame e (fun a ha => fr a (by simp [ha])) fun a ha => gn a (by simp [ha])⟩⟩
  | .v t0 :: ρ, _, _, i + 1, s, t, ⟨v, r, f1, f2, e1, e2, h, g⟩, k, q => by
    subst e1 e2
    obtain ⟨w, g0, g1, g2, a1, a2, a3, a4⟩ := Slots.at (i := i) (s := s) (t := t) g (by simpa using k) q
    subst a2
    refine ⟨w, f1 ++ g0, g1, g2, by simpa using a1, by simp, a3, fun {G' H' t' v' f1'} e fr gn o => ?_⟩
    refine ⟨v, r.set i (some v'), f1, g0 ++ f1' ++ g2, rfl, by simp, h.frame e (fun a ha => fr a (by simp [ha])) (fun a ha => gn a (by simp [ha])), a4 e (fun a ha => fr a ?_) (fun a ha => gn a ?_) o⟩
    · rcases List.mem_append.mp ha with z | z <;> simp [z]
    · rcases List.mem_append.mp ha with z | z <;> simp [z]
  | .io t0 :: ρ, _, _, i + 1, s, t, ⟨v, r, f1, f2, e1, e2, h, g⟩, k, q => by
    subst e1 e2
    obtain ⟨w, g0, g1, g2, a1, a2, a3, a4⟩ := Slots.at (i := i) (s := s) (t := t) g (by simpa using k) q
    subst a2
    refine ⟨w, f1 ++ g0, g1, g2, by simpa using a1, by simp, a3, fun {G' H' t' v' f1'} e fr gn o => ?_⟩
    refine ⟨v, r.set i (some v'), f1, g0 ++ f1' ++ g2, rfl, by simp, h.frame e (fun a ha => fr a (by simp [ha])) (fun a ha => gn a (by simp [ha])), a4 e (fun a ha => fr a ?_) (fun a ha => gn a ?_) o⟩
    · rcases List.mem_append.mp ha with z | z <;> simp [z]
    · rcases List.mem_append.mp ha with z | z <;> simp [z]
/-- a tree put where none stood, or where one stood that is dropped -/
theorem Slots.put : ∀ {ρ : Env} {σ : L2.St} {fp : List Addr} {i : Nat} {s : Slot}, Slots K G H ρ σ fp → ρ[i]? = some s → (∀ t, s ≠ .io t) →
    ∃ f0 f2, (∀ a ∈ f0 ++ f2, a ∈ fp) ∧ (fp.Nodup → (f0 ++ f2).Nodup) ∧
      ∀ {G' H' : Hp} {t' : OT} {v' : V} {f1' : List Addr}, Ex G G' → (∀ a ∈ f0 ++ f2, H' a = H a) → (∀ a ∈ f0 ++ f2, G' a = none) → Own K G' H' t' v' f1' → Slots K G' H' (ρ.set i (.v t')) (σ.set i (some v')) (f0 ++ f1' ++ f2)
  | [], _, _, i, _, _, h, _ => by simp at h
  | .un :: ρ, _, fp, 0, s, ⟨x, r, e1, h⟩, _, _ => by
    subst e1
    exact ⟨[], fp, by simp, by simp, fun {G' H' t' v' f1'} e fr gn o => ⟨v', r, f1', fp, rfl, by simp, o, h.frame e (fun a ha => fr a (by simp [ha])) fun a ha => gn a (by simp [ha])⟩⟩
  | .raw ns :: ρ, _, fp, 0, s, ⟨x, r, e1, q0, h⟩, _, _ => by
    subst e1
    exact ⟨[], fp, by simp, by simp, fun {G' H' t' v' f1'} e fr gn o => ⟨v', r, f1', fp, rfl, by simp, o, h.frame e (fun a ha => fr a (by simp [ha])) fun a ha => gn a (by simp [ha])⟩⟩
  | .raw ns :: ρ, _, _, i + 1, s, ⟨x, r, e1, q0, h⟩, g, q => by
    subst e1
    obtain ⟨g0, g2, a1, a2, a4⟩ := Slots.put (i := i) (s := s) h (by simpa using g) q
    exact ⟨g0, g2, a1, a2, fun {G' H' t' v' f1'} e fr gn o => ⟨x, r.set i (some v'), rfl, e.l q0, a4 e fr gn o⟩⟩
  | .un :: ρ, _, _, i + 1, s, ⟨x, r, e1, h⟩, g, q => by
    subst e1
    obtain ⟨g0, g2, a1, a2, a4⟩ := Slots.put (i := i) (s := s) h (by simpa using g) q
    exact ⟨g0, g2, a1, a2, fun {G' H' t' v' f1'} e fr gn o => ⟨x, r.set i (some v'), rfl, a4 e fr gn o⟩⟩
  | .v t0 :: ρ, _, _, 0, s, ⟨v, r, f1, f2, e1, e2, h, g⟩, k, q => by
    subst e1 e2
    exact ⟨[], f2, by simp +contextual, fun n => by simpa using (List.nodup_append.mp n).2.1, fun {G' H' t' v' f1'} e fr gn o => ⟨v', r, f1', f2, rfl, by simp, o, g.frame e (fun a ha => fr a (by simp [ha])) fun a ha => gn a (by simp [ha])⟩⟩
  | .io t0 :: ρ, _, _, 0, s, _, k, q => by
    have : Slot.io t0 = s := by simpa using k
    exact absurd this.symm (q t0)
  | .v t0 :: ρ, _, _, i + 1, s, ⟨v, r, f1, f2, e1, e2, h, g⟩, k, q => by
    subst e1 e2
    obtain ⟨g0, g2, a1, a2, a4⟩ := Slots.put (i := i) (s := s) g (by simpa using k) q
    refine ⟨f1 ++ g0, g2, fun a ha => ?_, fun n => ?_, fun {G' H' t' v' f1'} e fr gn o => ?_⟩
    · rw [List.append_assoc] at ha
      rcases List.mem_append.mp ha with z | z
      · simp [z]
      · simp [a1 a z]
    · rw [List.append_assoc]
      obtain ⟨n1, n2, n3⟩ := List.nodup_append.mp n
      exact List.nodup_append.mpr ⟨n1, a2 n2, fun a ha b hb => n3 a ha b (a1 b hb)⟩
    · refine ⟨v, r.set i (some v'), f1, g0 ++ f1' ++ g2, rfl, by simp, h.frame e (fun a ha => fr a (by simp [ha])) (fun a ha => gn a (by simp [ha])), a4 e (fun a ha => fr a ?_) (fun a ha => gn a ?_) o⟩
      · rcases List.mem_append.mp ha with z | z <;> simp [z]
      · rcases List.mem_append.mp ha with z | z <;> simp [z]
  | .io t0 :: ρ, _, _, i + 1, s, ⟨v, r, f1, f2, e1, e2, h, g⟩, k, q => by
    subst e1 e2
    obtain ⟨g0, g2, a1, a2, a4⟩ := Slots.put (i := i) (s := s) g (by simpa using k) q
    refine ⟨f1 ++ g0, g2, fun a ha => ?_, fun n => ?_, fun {G' H' t' v' f1'} e fr gn o => ?_⟩
    · rw [List.append_assoc] at ha
      rcases List.mem_append.mp ha with z | z
      · simp [z]
      · simp [a1 a z]
    · rw [List.append_assoc]
      obtain ⟨n1, n2, n3⟩ := List.nodup_append.mp n
      exact List.nodup_append.mpr ⟨n1, a2 n2, fun a ha b hb => n3 a ha b (a1 b hb)⟩
    · refine ⟨v, r.set i (some v'), f1, g0 ++ f1' ++ g2, rfl, by simp, h.frame e (fun a ha => fr a (by simp [ha])) (fun a ha => gn a (by simp [ha])), a4 e (fun a ha => fr a ?_) (fun a ha => gn a ?_) o⟩
      · rcases List.mem_append.mp ha with z | z <;> simp [z]
      · rcases List.mem_append.mp ha with z | z <;> simp [z]
end
end Mo

/-! Mo1: a state and its trees (Cor), a step forward (Fw), what an expression yields (tF), operators by data. -/
namespace Mo
variable [Tabs]
open PySem PySem.Spec PyProof.Rows L2

structure Cor (K : PySem.W.Frag) (pn : List (Nat × V)) (σ : L2.St) (H G : Hp) (ρ : Env) (fp : List Addr) : Prop where
  ex : Ex G H
  sl : Slots K G H ρ σ fp
  nd : fp.Nodup
  pn : ∀ p ∈ pn, σ[p.1]? = some (some p.2) ∧ ∃ t, ρ[p.1]? = some (.io t)
  tb : Tb H
structure Fw (G H : Hp) (fp : List Addr) (G' H' : Hp) (fp' : List Addr) : Prop where
  ex : Ex G G'
  fr : ∀ a o, H a = some o → a ∉ fp → (k : ∀ ps, o ≠ .tbl ps := by nofun) → H' a = some o
  nf : ∀ a ∈ fp', a ∈ fp ∨ H a = none
  ng : ∀ a o, G' a = some o → G a = some o ∨ H a = none ∨ a ∈ fp
  th : ∀ a o, H a = some o → ∃ o', H' a = some o'
  tb : ∀ a ps, H a = some (.tbl ps) → ∃ qs, H' a = some (.tbl qs) ∧ (TriplesOk ps.toList → TriplesOk qs.toList)
/-- new things alone -/
structure Gro (G H G' H' : Hp) : Prop where
  g : Ex G G'
  h : Ex H H'
  gh : Ex G' H'
  ng : ∀ a o, G' a = some o → G a = some o ∨ H a = none
section
variable {K : PySem.W.Frag} {pn : List (Nat × V)} {σ : L2.St} {H G H1 G1 H2 G2 H' G' : Hp} {ρ ρ' : Env} {fp fp1 fp2 fp' : List Addr}
theorem Fw.refl : Fw G H fp G H fp := ⟨.refl _, fun _ _ h _ _ => h, fun _ h => .inl h, fun _ _ h => .inl h, fun _ o h => ⟨o, h⟩, fun _ ps h => ⟨ps, h, id⟩⟩
theorem Fw.none (f : Fw G H fp G' H' fp') {a : Addr} (h : H' a = none) : H a = none := by
  cases q : H a with
  | none => rfl
  | some o =>
    obtain ⟨o', e⟩ := f.th a o q
    rw [e] at h; cases h
theorem Fw.trans (a : Fw G H fp G1 H1 fp1) (b : Fw G1 H1 fp1 G2 H2 fp2) : Fw G H fp G2 H2 fp2 where
  ex := a.ex.trans b.ex
  fr := fun x o h n k => b.fr x o (a.fr x o h n k) (k := k) fun z => (a.nf x z).elim n fun q => by rw [q] at h; cases h
  nf := fun x h => (b.nf x h).elim (fun z => a.nf x z) fun z => .inr (a.none z)
  ng := fun x o h => by
    rcases b.ng x o h with z | z | z
    · exact a.ng x o z
    · exact .inr (.inl (a.none z))
    · exact (a.nf x z).elim (fun q => .inr (.inr q)) fun q => .inr (.inl q)
  th := fun x o h => by
    obtain ⟨o', e⟩ := a.th x o h
    exact b.th x o' e
  tb := fun x ps h => by
    obtain ⟨qs, h1, k1⟩ := a.tb x ps h
    obtain ⟨rs, h2, k2⟩ := b.tb x qs h1
    exact ⟨rs, h2, fun t => k2 (k1 t)⟩
theorem Fw.tbs (f : Fw G H fp G' H' fp') (t : Tb H) : Tb H' := fun P hP => by
  obtain ⟨ps, h, k⟩ := t P hP
  obtain ⟨qs, h1, k1⟩ := f.tb P ps h
  exact ⟨qs, h1, k1 k⟩
theorem Fw.trans' {fq fq' : List Addr} {G3 G4 H3 : Hp} (a : Fw G H fp G1 H1 fp1) (b : Fw G3 H1 fq G4 H3 fq') : True ∧ ∀ x ps, H x = some (.tbl ps) → ∃ qs, H3 x = some (.tbl qs) ∧ (TriplesOk ps.toList → TriplesOk qs.toList) := ⟨trivial, fun x ps h => by
  obtain ⟨qs, h1, k1⟩ := a.tb x ps h
  obtain ⟨rs, h2, k2⟩ := b.tb x qs h1
  exact ⟨rs, h2, fun t => k2 (k1 t)⟩⟩
theorem Gro.refl (e : Ex G H) : Gro G H G H := ⟨.refl _, .refl _, e, fun _ _ h => .inl h⟩
theorem Gro.trans (a : Gro G H G1 H1) (b : Gro G1 H1 G2 H2) : Gro G H G2 H2 :=
  ⟨a.g.trans b.g, a.h.trans b.h, b.gh, fun x o h => (b.ng x o h).elim (fun z => a.ng x o z) fun z => .inr (a.h.none z)⟩
/-- one new thing, known -/
theorem Gro.new {p : Addr} {o : HO} (e : Ex G H) (hp : H p = none) : Gro G H (upd G p o) (upd H p o) where
  g := .new (e.none hp)
  h := .new hp
  gh := ⟨fun a u q k => by
    by_cases z : a = p
    · subst z; rw [upd_same] at q ⊢; exact q
    · rw [upd_ne z] at q ⊢; exact e.at' a u q k, fun a ps q => by
    by_cases z : a = p
    · subst z; rw [upd_same] at q ⊢; exact ⟨ps, q, id⟩
    · rw [upd_ne z] at q ⊢; exact e.tb a ps q⟩
  ng := fun a u q => by
    by_cases z : a = p
    · subst z; exact .inr hp
    · rw [upd_ne z] at q; exact .inl q
theorem Gro.fw (g : Gro G H G' H') : Fw G H fp G' H' fp := ⟨g.g, fun a o h _ k => g.h.at' a o h k, fun _ h => .inl h, fun a o h => (g.ng a o h).elim .inl fun z => .inr (.inl z), fun a o h => g.h.th h, g.h.tb⟩
theorem Cor.gro (c : Cor K pn σ H G ρ fp) (g : Gro G H G' H') : Cor K pn σ H' G' ρ fp := by
  refine ⟨g.gh, c.sl.frame g.g (fun a ha => ?_) (fun a ha => ?_), c.nd, c.pn, g.h.tbs c.tb⟩
  · obtain ⟨_, vs, h⟩ := c.sl.there a ha
    rw [h]; exact g.h.at' a _ h
  · obtain ⟨n, vs, h⟩ := c.sl.there a ha
    cases q : G' a with
    | none => rfl
    | some o =>
      rcases g.ng a o q with z | z
      · rw [n] at z; cases z
      · rw [h] at z; cases z
end

/-! ### results -/
inductive Res (α : Type) where
  | ok (a : α) (ρ : Env)
  | ex (C : Addr) (ρ : Env)
  | bad
def Res.bind {α β : Type} (r : Res α) (f : α → Env → Res β) : Res β := match r with
  | .ok a ρ => f a ρ
  | .ex C ρ => .ex C ρ
  | .bad => .bad
/-- a value: data; what stands in the slot i; what a list shows now -/
inductive Vl where
  | d (x : D)
  | r (i : Nat)
  | w (xs : List D)
  deriving Inhabited
def OT.leaf : OT → Option D
  | .lf x => some x
  | .ls _ => none
def leaves : List OT → Option (List D)
  | [] => some []
  | t :: ts => match t.leaf, leaves ts with
    | some x, some xs => some (x :: xs)
    | _, _ => none
def OT.show : OT → Option D
  | .lf x => some x
  | .ls ts => (leaves ts).map .list
/-- what is read of a value -/
def vw (ρ : Env) : Vl → Option D
  | .d x => some x
  | .w xs => some (.list xs)
  | .r i => match ρ[i]? with
    | some s => match s.ot with
      | some t => t.show
      | none => none
    | none => none
def VOk (K : PySem.W.Frag) (σ : L2.St) (H G : Hp) (v : V) : Vl → Prop
  | .d x => Rp K G x v
  | .w xs => Rv K H G (.list xs) v
  | .r i => σ[i]? = some (some v)
section
variable {K : PySem.W.Frag} {pn : List (Nat × V)} {σ : L2.St} {H G H' G' : Hp} {ρ ρ' : Env} {fp fp' : List Addr}
theorem Owns.leaves : ∀ {ts : List OT} {vs : List V} {fp : List Addr} {xs : List D}, Owns K G H ts vs fp → leaves ts = some xs → RpL K G xs vs ∧ fp = []
  | [], _, _, _, ⟨e1, e2⟩, h => by
    have : [] = _ := Option.some.inj h
    subst this e1 e2
    exact ⟨rfl, rfl⟩
  | .lf x :: ts, _, _, _, ⟨v, r, f1, f2, e1, e2, o, g⟩, h => by
    cases q : Mo.leaves ts with
    | none => simp [Mo.leaves, q, OT.leaf] at h
    | some ys =>
      simp [Mo.leaves, q, OT.leaf] at h
      subst h e1 e2
      obtain ⟨o1, o2⟩ := o
      obtain ⟨g1, g2⟩ := Owns.leaves g q
      subst o1 g2
      exact ⟨⟨v, r, rfl, o2, g1⟩, rfl⟩
  | .ls l :: ts, _, _, _, _, h => by simp [Mo.leaves, OT.leaf] at h
theorem Own.shown {t : OT} {v : V} {x : D} (e : Ex G H) (o : Own K G H t v fp) (h : t.show = some x) : Rv K H G x v := by
  cases t with
  | lf y =>
    have : y = x := Option.some.inj h
    subst this
    exact o.2.rv e
  | ls ts =>
    obtain ⟨a, vs, fq, e1, e2, e3, e4, q⟩ := o
    cases z : Mo.leaves ts with
    | none => simp [OT.show, z] at h
    | some xs =>
      simp [OT.show, z] at h
      subst h
      exact ⟨a, vs, e1, e3, (q.leaves z).1⟩
/-- what a value shows is there -/
theorem Cor.vw (c : Cor K pn σ H G ρ fp) {x : Vl} {v : V} {d : D} (h : VOk K σ H G v x) (e : vw ρ x = some d) : Rv K H G d v := by
  cases x with
  | d y =>
    have : y = d := Option.some.inj e
    subst this
    exact Rp.rv c.ex h
  | w y =>
    have : PyData.list y = d := Option.some.inj e
    subst this
    exact h
  | r i =>
    have e' : (match ρ[i]? with | some s => (match s.ot with | some t => t.show | none => none) | none => none) = some d := e
    cases q : ρ[i]? with
    | none => rw [q] at e'; cases e'
    | some s =>
      rw [q] at e'
      cases q2 : s.ot with
      | none => simp only [q2] at e'; cases e'
      | some t =>
        simp only [q2] at e'
        obtain ⟨w, f0, f1, f2, a1, a2, a3, _⟩ := c.sl.at q q2
        have : w = v := by
          have h' : σ[i]? = some (some v) := h
          rw [a1] at h'; exact Option.some.inj (Option.some.inj h')
        subst this
        exact a3.shown c.ex e'
theorem Rv.mono {d : D} {v : V} (e : Ex H H') (g : Ex G G') (h : Rv K H G d v) : Rv K H' G' d v := by
  cases d with
  | list ds =>
    obtain ⟨a, vs, e1, s, r⟩ := h
    exact ⟨a, vs, e1, e.at' _ _ s, r.mono g⟩
  | _ => exact Rp.mono g h
/-- a value stays what it is over a step; one that is seen only where nothing is changed -/
def stays (pu : Bool) : Vl → Bool
  | .w _ => pu
  | _ => true
theorem VOk.mono {x : Vl} {v : V} {pu : Bool} (g : Ex G G') (e : pu = true → Ex H H') (hs : stays pu x = true) (h : VOk K σ H G v x) : VOk K σ H' G' v x := by
  cases x with
  | d y => exact Rp.mono g h
  | w y => exact Rv.mono (d := .list y) (e hs) g h
  | r i => exact h
end

/-! ### judgements -/
def Res.sat {α : Type} (r : Res α) (g : α → Env → Prop) (e : Addr → Env → Prop) : Prop := match r with
  | .ok a ρ => g a ρ
  | .ex C ρ => e C ρ
  | .bad => False
theorem Res.sat_bind {α β : Type} {r : Res α} {k : α → Env → Res β} {g : β → Env → Prop} {e : Addr → Env → Prop} (h : (r.bind k).sat g e) : r.sat (fun a ρ => (k a ρ).sat g e) e := by
  cases r <;> exact h
theorem Res.sat.imp {α : Type} {r : Res α} {g g' : α → Env → Prop} {e e' : Addr → Env → Prop} (h : r.sat g e) (i : ∀ a ρ, g a ρ → g' a ρ) (j : ∀ C ρ, e C ρ → e' C ρ) : r.sat g' e' := by
  cases r with
  | ok a ρ => exact i a ρ h
  | ex C ρ => exact j C ρ h
  | bad => exact h
/-- what is wished of a raise -/
def ExF (K : PySem.W.Frag) (W : WX) (pn : List (Nat × V)) (σ : L2.St) (H G : Hp) (fp : List Addr) : Addr → Env → Prop := fun C ρ' => ∀ H' G' fp', Fw G H fp G' H' fp' → Cor K pn σ H' G' ρ' fp' → W (.ref C) none σ H'
theorem ExF.on {K : PySem.W.Frag} {W : WX} {pn : List (Nat × V)} {σ : L2.St} {H G H1 G1 : Hp} {fp fp1 : List Addr} (f : Fw G H fp G1 H1 fp1) {C : Addr} {ρ : Env} (h : ExF K W pn σ H G fp C ρ) : ExF K W pn σ H1 G1 fp1 C ρ :=
  fun H' G' fp' f' c => h H' G' fp' (f.trans f') c
def OkF (K : PySem.W.Frag) (pu : Bool) (pn : List (Nat × V)) (σ : L2.St) (H G : Hp) (fp : List Addr) (Q : VK) : Vl → Env → Prop := fun x ρ' => ∀ v H' G' fp', Fw G H fp G' H' fp' → (pu = true → Ex H H') → Cor K pn σ H' G' ρ' fp' → VOk K σ H' G' v x → Q v H'
def OkO (K : PySem.W.Frag) (pu : Bool) (pn : List (Nat × V)) (σ : L2.St) (H G : Hp) (fp : List Addr) (Q : VK) : OT → Env → Prop := fun t ρ' => ∀ v H' G' fp' fq, Fw G H fp G' H' fp' → (pu = true → Ex H H') → Cor K pn σ H' G' ρ' fp' → Own K G' H' t v fq → (fp' ++ fq).Nodup → (∀ a ∈ fq, H a = none) → Q v H'
def OkT (K : PySem.W.Frag) (pu : Bool) (pn : List (Nat × V)) (σ : L2.St) (H G : Hp) (fp : List Addr) (Q : Bool → Hp → Prop) : Bool → Env → Prop := fun b ρ' => ∀ H' G' fp', Fw G H fp G' H' fp' → (pu = true → Ex H H') → Cor K pn σ H' G' ρ' fp' → Q b H'
def OkA (K : PySem.W.Frag) (pu : Bool) (pn : List (Nat × V)) (σ : L2.St) (H G : Hp) (fp : List Addr) (Q : List V → Hp → Prop) : List D → Env → Prop := fun xs ρ' => ∀ vs H' G' fp', Fw G H fp G' H' fp' → (pu = true → Ex H H') → Cor K pn σ H' G' ρ' fp' → RpL K G' xs vs → Q vs H'
def tF (K : PySem.W.Frag) (pu : Bool) (W : WX) (f : Env → Res Vl) : TE := fun σ H Q => ∃ pn G ρ fp, Cor K pn σ H G ρ fp ∧ (f ρ).sat (OkF K pu pn σ H G fp Q) (ExF K W pn σ H G fp)
/-- a fresh tree of lists -/
def tO (K : PySem.W.Frag) (pu : Bool) (W : WX) (f : Env → Res OT) : TE := fun σ H Q => ∃ pn G ρ fp, Cor K pn σ H G ρ fp ∧ (f ρ).sat (OkO K pu pn σ H G fp Q) (ExF K W pn σ H G fp)
def tT (K : PySem.W.Frag) (pu : Bool) (W : WX) (f : Env → Res Bool) : TT := fun σ H Q => ∃ pn G ρ fp, Cor K pn σ H G ρ fp ∧ (f ρ).sat (OkT K pu pn σ H G fp Q) (ExF K W pn σ H G fp)
/-- a row of data -/
def tA (K : PySem.W.Frag) (pu : Bool) (W : WX) (f : Env → Res (List D)) : TA := fun σ H Q => ∃ pn G ρ fp, Cor K pn σ H G ρ fp ∧ (f ρ).sat (OkA K pu pn σ H G fp Q) (ExF K W pn σ H G fp)

section
variable {X : Cx}
theorem PE.imp {e : Expr} {t u : TE} (h : PE X e t) (i : ∀ σ H Q, u σ H Q → t σ H Q) : PE X e u := ⟨fun pins s σ H Q I q => h.run pins s σ H Q I (i σ H Q q)⟩
theorem PT.imp {e : Expr} {t u : TT} (h : PT X e t) (i : ∀ σ H Q, u σ H Q → t σ H Q) : PT X e u := ⟨fun pins s σ H Q I q => h.run pins s σ H Q I (i σ H Q q)⟩
theorem PA.imp {e : List Expr} {t u : TA} (h : PA X e t) (i : ∀ σ H Q, u σ H Q → t σ H Q) : PA X e u := ⟨fun pos pins s σ H Q I q => h.run pos pins s σ H Q I (i σ H Q q)⟩
theorem PS.imp {e : Stmt} {t u : TS} (h : PS X e t) (i : ∀ D σ H, u D σ H → t D σ H) : PS X e u := ⟨fun pins s σ H D I q => h.run pins s σ H D I (i D σ H q)⟩
theorem PSs.imp {e : List Stmt} {t u : TS} (h : PSs X e t) (i : ∀ D σ H, u D σ H → t D σ H) : PSs X e u := ⟨fun pins s σ H D I q => h.run pins s σ H D I (i D σ H q)⟩
end

/-! ### operators, by data -/
def rD2 (K : PySem.W.Frag) (op : D → D → Option D) : R2 := fun x y H Q => ∃ G a b c, Ex G H ∧ Rv K H G a x ∧ Rv K H G b y ∧ op a b = some c ∧ ∀ v H' G', Gro G H G' H' → Rp K G' c v → Q v H'
def rD1 (K : PySem.W.Frag) (op : D → Option D) : V → Hp → VK → Prop := fun x H Q => ∃ G a c, Ex G H ∧ Rv K H G a x ∧ op a = some c ∧ ∀ v H' G', Gro G H G' H' → Rp K G' c v → Q v H'
/-- a built-in's call, over data and views -/
def RvL (K : PySem.W.Frag) (H G : Hp) : List D → List V → Prop
  | [], vs => vs = []
  | d :: ds, vs => ∃ v r, vs = v :: r ∧ Rv K H G d v ∧ RvL K H G ds r
def rDA (K : PySem.W.Frag) (op : List D → Option D) : List V → Hp → VK → Prop := fun vs H Q => ∃ G as c, Ex G H ∧ RvL K H G as vs ∧ op as = some c ∧ ∀ v H' G', Gro G H G' H' → Rp K G' c v → Q v H'

def bin2 (pb : Bool) (op : D → D → Option D) (f g : Env → Res Vl) : Env → Res Vl := fun ρ => (f ρ).bind fun x ρ1 => (g ρ1).bind fun y ρ2 =>
  match stays pb x, vw ρ2 x, vw ρ2 y with
  | true, some a, some b => match op a b with
    | some c => .ok (.d c) ρ2
    | none => .bad
  | _, _, _ => .bad
def un1 (op : D → Option D) (f : Env → Res Vl) : Env → Res Vl := fun ρ => (f ρ).bind fun x ρ1 => match vw ρ1 x with
  | some a => match op a with
    | some c => .ok (.d c) ρ1
    | none => .bad
  | none => .bad
section
variable {K : PySem.W.Frag} {pa pb : Bool} {W : WX} {f g : Env → Res Vl} {σ : L2.St} {H : Hp} {Q : VK}
theorem tF.bin {op : D → D → Option D} (h : tF K (pa && pb) W (bin2 pb op f g) σ H Q) : tOp (rD2 K op) (tF K pa W f) (tF K pb W g) σ H Q := by
  obtain ⟨pn, G, ρ, fp, c, h⟩ := h
  refine ⟨pn, G, ρ, fp, c, (Res.sat_bind h).imp (fun x ρ1 h v H1 G1 fp1 fw1 p1 c1 vo => ?_) fun _ _ h => h⟩
  refine ⟨pn, G1, ρ1, fp1, c1, (Res.sat_bind h).imp (fun y ρ2 h u H2 G2 fp2 fw2 p2 c2 wo => ?_) fun _ _ h => h.on fw1⟩
  cases hs : stays pb x with
  | false => simp only [hs] at h; exact h.elim
  | true =>
    have vo2 := vo.mono fw2.ex p2 hs
    cases e1 : vw ρ2 x with
    | none => simp only [hs, e1] at h; exact h.elim
    | some a =>
      cases e2 : vw ρ2 y with
      | none => simp only [hs, e1, e2] at h; exact h.elim
      | some b =>
        cases e3 : op a b with
        | none => simp only [hs, e1, e2, e3] at h; exact h.elim
        | some d =>
          simp only [hs, e1, e2, e3] at h
          refine ⟨G2, a, b, d, c2.ex, c2.vw vo2 e1, c2.vw wo e2, e3, fun z H3 G3 gr r => h z H3 G3 fp2 ((fw1.trans fw2).trans gr.fw) (fun hp => ?_) (c2.gro gr) r⟩
          rw [Bool.and_eq_true] at hp
          exact ((p1 hp.1).trans (p2 hp.2)).trans gr.h
theorem tF.un {op : D → Option D} (h : tF K pa W (un1 op f) σ H Q) : tUn (rD1 K op) (tF K pa W f) σ H Q := by
  obtain ⟨pn, G, ρ, fp, c, h⟩ := h
  refine ⟨pn, G, ρ, fp, c, (Res.sat_bind h).imp (fun x ρ1 h v H1 G1 fp1 fw1 p1 c1 vo => ?_) fun _ _ h => h⟩
  cases e1 : vw ρ1 x with
  | none => simp only [e1] at h; exact h.elim
  | some a =>
    cases e3 : op a with
    | none => simp only [e1, e3] at h; exact h.elim
    | some d =>
      simp only [e1, e3] at h
      exact ⟨G1, a, d, c1.ex, c1.vw vo e1, e3, fun z H3 G3 gr r => h z H3 G3 fp1 (fw1.trans gr.fw) (fun hp => (p1 hp).trans gr.h) (c1.gro gr) r⟩
end
end Mo

/-! Mo2: operators by data. -/
namespace Mo
variable [Tabs]
open PySem PySem.Spec PyProof.Rows L2

def oAdd : D → D → Option D
  | .int a, .int b => some (.int (a + b))
  | .str a, .str b => if a.length + b.length ≤ sizeLine then some (.str (a ++ b)) else none
  | .list a, .list b => if a.length + b.length ≤ sizeLine then some (.list (a ++ b)) else none
  | .tuple a, .tuple b => if a.length + b.length ≤ sizeLine then some (.tuple (a ++ b)) else none
  | _, _ => none
def oSub : D → D → Option D
  | .int a, .int b => some (.int (a - b))
  | _, _ => none
def oMul : D → D → Option D
  | .int a, .int b => if a.natAbs.log2 + b.natAbs.log2 < 1000000 then some (.int (a * b)) else none
  | .list a, .int k => if -(2 ^ 63) ≤ k ∧ k < 2 ^ 63 ∧ a.length * k.toNat ≤ sizeLine then some (.list (List.replicate k.toNat a).flatten) else none
  | _, _ => none
def oFdiv : D → D → Option D
  | .int a, .int b => if 0 < b ∧ b.natAbs.log2 < 9000 then some (.int (a / b)) else none
  | _, _ => none
def oMod : D → D → Option D
  | .int a, .int b => if 0 < b then some (.int (a % b)) else none
  | _, _ => none
def oPow : D → D → Option D
  | .int a, .int b => if 0 ≤ b ∧ b ≤ 1000000 ∧ a.natAbs < 2 ^ 64 then some (.int (a ^ b.toNat)) else none
  | _, _ => none
def oNeg : D → Option D
  | .int a => some (.int (-a))
  | _ => none
def oEq : D → D → Option D := fun a b => if SeqAt.shaped a = true ∧ SeqAt.shaped b = true ∧ flat a = true ∧ flat b = true then some (.bool (PyData.eqv a b)) else none
def oNe : D → D → Option D := fun a b => if SeqAt.shaped a = true ∧ SeqAt.shaped b = true ∧ flat a = true ∧ flat b = true then some (.bool (!PyData.eqv a b)) else none
def oLt : D → D → Option D
  | .int a, .int b => some (.bool (decide (a < b)))
  | .str a, .str b => some (.bool (decide (a.cps.toList < b.cps.toList)))
  | _, _ => none
def oLe : D → D → Option D
  | .int a, .int b => some (.bool (decide (a ≤ b)))
  | .str a, .str b => some (.bool (!decide (b.cps.toList < a.cps.toList)))
  | _, _ => none
def oGt : D → D → Option D := fun a b => oLt b a
def oGe : D → D → Option D := fun a b => oLe b a
def isNone : D → Bool
  | .none => true
  | _ => false
def oIs : D → D → Option D
  | a, .none => some (.bool (isNone a))
  | _, _ => none
def oIsNot : D → D → Option D
  | a, .none => some (.bool (!isNone a))
  | _, _ => none
/-- a flat thing -/
def flatD : D → Bool
  | .none => true
  | .bool _ => true
  | .int _ => true
  | .str _ => true
  | _ => false
def inD (x : D) (xs : List D) : Bool := xs.any fun y => PyData.eqv y x
def oIn : D → D → Option D
  | x, .list ys => if flatD x = true ∧ ys.all flatD = true then some (.bool (inD x ys)) else none
  | x, .tuple ys => if flatD x = true ∧ ys.all flatD = true then some (.bool (inD x ys)) else none
  | .str a, .str b => match a.cps.toList with
    | [c] => some (.bool (decide (c ∈ b.cps.toList)))
    | _ => none
  | _, _ => none
def oNotIn : D → D → Option D := fun a b => match oIn a b with
  | some (.bool k) => some (.bool (!k))
  | _ => none
def oItem : D → D → Option D
  | .list xs, .int i => atI xs i
  | .tuple xs, .int i => atI xs i
  | .str z, .int i => (atI z.cps.toList i).map fun c => .str ⟨#[c]⟩
  | _, _ => none
def cutD {α : Type} (xs : List α) (lo hi : Option Int) : List α := (xs.drop (HT.sIx xs.length 0 lo)).take (HT.sIx xs.length xs.length hi - HT.sIx xs.length 0 lo)
def oSlice : D → Option Int → Option Int → Option D
  | .list xs, lo, hi => some (.list (cutD xs lo hi))
  | .tuple xs, lo, hi => some (.tuple (cutD xs lo hi))
  | .str z, lo, hi => some (.str (cutS z lo hi))
  | _, _, _ => none

section
variable {K : PySem.W.Frag} {H G H' G' : Hp}
theorem atI_rel {xs : List V} {ds : List D} {i : Int} {d : D} (r : RpL K G ds xs) (h : atI ds i = some d) : ∃ v, atI xs i = some v ∧ Rp K G d v := by
  unfold atI at h ⊢
  rw [r.length]
  cases e : ixN ds.length i with
  | none => rw [e] at h; cases h
  | some j =>
    rw [e] at h
    exact r.get h
theorem cut_rel {xs : List V} {ds : List D} {lo hi : Option Int} (r : RpL K G ds xs) : RpL K G (cutD ds lo hi) (cutV xs lo hi) := by
  unfold cutD cutV
  rw [r.length]
  exact (r.drop _).take _
theorem rep_rel {xs : List V} {ds : List D} (r : RpL K G ds xs) : ∀ k : Nat, RpL K G (List.replicate k ds).flatten (List.replicate k xs).flatten
  | 0 => rfl
  | k + 1 => by
    rw [List.replicate_succ, List.replicate_succ, List.flatten_cons, List.flatten_cons]
    exact r.append (rep_rel r k)
theorem Rp.flatV {d : D} {v : V} (h : Rp K G d v) (f : flatD d = true) : flatV v = true := by
  cases d with
  | none => cases h; rfl
  | bool b => cases h; rfl
  | int i => cases h; rfl
  | str s => cases h.1; rfl
  | _ => cases f
theorem eqV_rel {d e : D} {v u : V} (h : Rp K G d v) (g : Rp K G e u) (f : flatD d = true) (f' : flatD e = true) : eqV v u = PyData.eqv d e := by
  cases d with
  | none => cases h; cases e with
    | none => cases g; rfl
    | bool _ => cases g; rfl
    | int _ => cases g; rfl
    | str _ => cases g.1; rfl
    | _ => cases f'
  | bool b => cases h; cases e with
    | none => cases g; rfl
    | bool _ => cases g; rfl
    | int _ => cases g; rfl
    | str _ => cases g.1; rfl
    | _ => cases f'
  | int i => cases h; cases e with
    | none => cases g; rfl
    | bool _ => cases g; rfl
    | int _ => cases g; rfl
    | str _ => cases g.1; rfl
    | _ => cases f'
  | str s => cases h.1; cases e with
    | none => cases g; rfl
    | bool _ => cases g; rfl
    | int _ => cases g; rfl
    | str _ => cases g.1; rfl
    | _ => cases f'
  | _ => cases f
theorem flats_rel : ∀ {ds : List D} {xs : List V}, RpL K G ds xs → ds.all flatD = true → xs.all L2.flatV = true
  | [], _, h, _ => by cases h; rfl
  | d :: ds, _, ⟨v, r, e, h, t⟩, f => by
    subst e
    rw [List.all_cons, Bool.and_eq_true] at f ⊢
    exact ⟨h.flatV f.1, flats_rel t f.2⟩
theorem inV_rel {d : D} {v : V} (h : Rp K G d v) (f : flatD d = true) : ∀ {ds : List D} {xs : List V}, RpL K G ds xs → ds.all flatD = true → inV v xs = inD d ds
  | [], _, h, _ => by cases h; rfl
  | e :: ds, _, ⟨u, r, q, g, t⟩, k => by
    subst q
    rw [List.all_cons, Bool.and_eq_true] at k
    show (eqV u v || inV v r) = (PyData.eqv e d || inD d ds)
    rw [eqV_rel g h k.1 f, inV_rel h f t k.2]
end

section
variable {X : Cx}
/-- an operator by its rule on two kinds -/
theorem or_add : OpR X (binaryOp .Add) (rD2 X.K oAdd) := by
  intro pins s σ H x y v u Q I rx ry h
  obtain ⟨G, a, b, c, ge, ra, rb, e, q⟩ := h
  unfold oAdd at e
  split at e
  · cases e; cases ra; cases rb
    exact op_add pins s σ H _ _ v u Q I rx ry ⟨_, _, rfl, rfl, q _ _ G (.refl ge) rfl⟩
  · split at e
    · cases e; obtain ⟨e1, l1⟩ := ra; obtain ⟨e2, l2⟩ := rb; subst e1 e2
      rename_i hz
      refine op_add_str pins s σ H _ _ v u Q I rx ry ⟨_, _, rfl, rfl, hz, q _ _ G (.refl ge) ⟨rfl, ?_⟩⟩
      rename_i a b
      show (a ++ b).cps.size ≤ _
      have : (a ++ b).cps = a.cps ++ b.cps := rfl
      rw [this, Array.size_append]
      exact hz
    · cases e
  · split at e
    · cases e
      rename_i hz
      obtain ⟨p, vs, e1, hp, r1⟩ := ra
      obtain ⟨p2, us, e2, hp2, r2⟩ := rb
      subst e1 e2
      refine op_cat pins s σ H _ _ v u Q I rx ry ⟨p, p2, vs, us, rfl, rfl, hp, hp2, by rw [r1.length, r2.length]; exact hz, fun n hn => ?_⟩
      exact q _ _ _ (.new ge hn) ⟨n, _, rfl, upd_same, (r1.append r2).mono (.new (ge.none hn))⟩
    · cases e
  · split at e
    · cases e
      rename_i hz
      obtain ⟨p, vs, e1, hp, r1⟩ := ra
      obtain ⟨p2, us, e2, hp2, r2⟩ := rb
      subst e1 e2
      refine op_catA pins s σ H _ _ v u Q I rx ry ⟨p, p2, vs, us, rfl, rfl, ge.t hp, ge.t hp2, by rw [r1.length, r2.length]; exact hz, fun n => ?_, fun _ n => ?_, fun _ _ n hn => ?_⟩
      · subst n
        exact q _ _ G (.refl ge) ⟨p2, us, rfl, hp2, r1.append r2⟩
      · subst n
        refine q _ _ G (.refl ge) ⟨p, vs, rfl, hp, ?_⟩
        have z := r1.append r2
        rw [List.append_nil] at z
        exact z
      · exact q _ _ _ (.new ge hn) ⟨n, _, rfl, .inl (.inl upd_same), (r1.append r2).mono (.new (ge.none hn))⟩
    · cases e
  · cases e
theorem or_sub : OpR X (binaryOp .Sub) (rD2 X.K oSub) := by
  intro pins s σ H x y v u Q I rx ry h
  obtain ⟨G, a, b, c, ge, ra, rb, e, q⟩ := h
  unfold oSub at e
  split at e
  · cases e; cases ra; cases rb
    exact op_sub pins s σ H _ _ v u Q I rx ry ⟨_, _, rfl, rfl, q _ _ G (.refl ge) rfl⟩
  · cases e
theorem or_mul : OpR X (binaryOp .Mult) (rD2 X.K oMul) := by
  intro pins s σ H x y v u Q I rx ry h
  obtain ⟨G, a, b, c, ge, ra, rb, e, q⟩ := h
  unfold oMul at e
  split at e
  · split at e
    · rename_i hz
      cases e; cases ra; cases rb
      exact op_mulW pins s σ H _ _ v u Q I rx ry ⟨_, _, rfl, rfl, hz, q _ _ G (.refl ge) rfl⟩
    · cases e
  · split at e
    · rename_i hz
      obtain ⟨h1, h2, h3⟩ := hz
      cases e; cases rb
      obtain ⟨p, vs, e1, hp, r1⟩ := ra
      subst e1
      refine op_rep pins s σ H _ _ v u Q I rx ry ⟨p, _, vs, rfl, rfl, hp, h1, h2, by rw [r1.length]; exact h3, fun n hn => ?_⟩
      exact q _ _ _ (.new ge hn) ⟨n, _, rfl, upd_same, (rep_rel r1 _).mono (.new (ge.none hn))⟩
    · cases e
  · cases e
theorem or_fdiv : OpR X (binaryOp .FloorDiv) (rD2 X.K oFdiv) := by
  intro pins s σ H x y v u Q I rx ry h
  obtain ⟨G, a, b, c, ge, ra, rb, e, q⟩ := h
  unfold oFdiv at e
  split at e
  · split at e
    · rename_i hz
      cases e; cases ra; cases rb
      exact op_fdivW pins s σ H _ _ v u Q I rx ry ⟨_, _, rfl, rfl, hz, q _ _ G (.refl ge) rfl⟩
    · cases e
  · cases e
theorem or_mod : OpR X (binaryOp .Mod) (rD2 X.K oMod) := by
  intro pins s σ H x y v u Q I rx ry h
  obtain ⟨G, a, b, c, ge, ra, rb, e, q⟩ := h
  unfold oMod at e
  split at e
  · split at e
    · rename_i hz
      cases e; cases ra; cases rb
      exact op_mod pins s σ H _ _ v u Q I rx ry ⟨_, _, rfl, rfl, hz, q _ _ G (.refl ge) rfl⟩
    · cases e
  · cases e
theorem or_pow : OpR X (binaryOp .Pow) (rD2 X.K oPow) := by
  intro pins s σ H x y v u Q I rx ry h
  obtain ⟨G, a, b, c, ge, ra, rb, e, q⟩ := h
  unfold oPow at e
  split at e
  · split at e
    · rename_i hz
      cases e; cases ra; cases rb
      exact op_pow pins s σ H _ _ v u Q I rx ry ⟨_, _, rfl, rfl, hz, q _ _ G (.refl ge) rfl⟩
    · cases e
  · cases e
theorem ur_neg : UnR X (unaryOp .USub) (rD1 X.K oNeg) := by
  intro pins s σ H x v Q I rx h
  obtain ⟨G, a, c, ge, ra, e, q⟩ := h
  unfold oNeg at e
  split at e
  · cases e; cases ra
    exact un_neg pins s σ H _ v Q I rx ⟨_, rfl, q _ _ G (.refl ge) rfl⟩
  · cases e
theorem or_eq (hu : X.A.units + 64 < cLine) : OpR X (compareOp .Eq) (rD2 X.K oEq) := by
  intro pins s σ H x y v u Q I rx ry h
  obtain ⟨G, a, b, c, ge, ra, rb, e, q⟩ := h
  unfold oEq at e
  split at e
  · rename_i hz
    cases e
    obtain ⟨s1, s2, f1, f2⟩ := hz
    exact op_eqD hu pins s σ H _ _ v u Q I rx ry ⟨a, b, (ra.rp ge).dp f1, (rb.rp ge).dp f2, s1, s2, q _ _ G (.refl ge) rfl⟩
  · cases e
theorem or_ne (hu : X.A.units + 64 < cLine) : OpR X (compareOp .NotEq) (rD2 X.K oNe) := by
  intro pins s σ H x y v u Q I rx ry h
  obtain ⟨G, a, b, c, ge, ra, rb, e, q⟩ := h
  unfold oNe at e
  split at e
  · rename_i hz
    cases e
    obtain ⟨s1, s2, f1, f2⟩ := hz
    exact op_neD hu pins s σ H _ _ v u Q I rx ry ⟨a, b, (ra.rp ge).dp f1, (rb.rp ge).dp f2, s1, s2, q _ _ G (.refl ge) rfl⟩
  · cases e
theorem or_lt : OpR X (compareOp .Lt) (rD2 X.K oLt) := by
  intro pins s σ H x y v u Q I rx ry h
  obtain ⟨G, a, b, c, ge, ra, rb, e, q⟩ := h
  unfold oLt at e
  split at e
  · cases e; cases ra; cases rb
    exact op_lt pins s σ H _ _ v u Q I rx ry ⟨_, _, rfl, rfl, q _ _ G (.refl ge) rfl⟩
  · cases e; cases ra.1; cases rb.1
    exact op_lt_str pins s σ H _ _ v u Q I rx ry ⟨_, _, rfl, rfl, q _ _ G (.refl ge) rfl⟩
  · cases e
theorem or_le : OpR X (compareOp .LtE) (rD2 X.K oLe) := by
  intro pins s σ H x y v u Q I rx ry h
  obtain ⟨G, a, b, c, ge, ra, rb, e, q⟩ := h
  unfold oLe at e
  split at e
  · cases e; cases ra; cases rb
    exact op_le pins s σ H _ _ v u Q I rx ry ⟨_, _, rfl, rfl, q _ _ G (.refl ge) rfl⟩
  · cases e; cases ra.1; cases rb.1
    exact op_le_str pins s σ H _ _ v u Q I rx ry ⟨_, _, rfl, rfl, q _ _ G (.refl ge) rfl⟩
  · cases e
theorem or_gt : OpR X (compareOp .Gt) (rD2 X.K oGt) := by
  intro pins s σ H x y v u Q I rx ry h
  obtain ⟨G, a, b, c, ge, ra, rb, e, q⟩ := h
  unfold oGt oLt at e
  split at e
  · cases e; cases ra; cases rb
    exact op_gt pins s σ H _ _ v u Q I rx ry ⟨_, _, rfl, rfl, q _ _ G (.refl ge) rfl⟩
  · cases e; cases ra.1; cases rb.1
    exact op_gt_str pins s σ H _ _ v u Q I rx ry ⟨_, _, rfl, rfl, q _ _ G (.refl ge) rfl⟩
  · cases e
theorem or_ge : OpR X (compareOp .GtE) (rD2 X.K oGe) := by
  intro pins s σ H x y v u Q I rx ry h
  obtain ⟨G, a, b, c, ge, ra, rb, e, q⟩ := h
  unfold oGe oLe at e
  split at e
  · cases e; cases ra; cases rb
    exact op_ge pins s σ H _ _ v u Q I rx ry ⟨_, _, rfl, rfl, q _ _ G (.refl ge) rfl⟩
  · cases e; cases ra.1; cases rb.1
    exact op_ge_str pins s σ H _ _ v u Q I rx ry ⟨_, _, rfl, rfl, q _ _ G (.refl ge) rfl⟩
  · cases e
theorem isNone_rel {K : PySem.W.Frag} {H G : Hp} {a : D} {x : V} (ra : Rv K H G a x) : decide (x = V.non) = isNone a := by
  cases a with
  | none => cases ra; rfl
  | bool _ => cases ra; rfl
  | int _ => cases ra; rfl
  | str _ => cases ra.1; rfl
  | list _ => obtain ⟨_, _, e, _⟩ := ra; subst e; rfl
  | tuple _ => obtain ⟨_, _, e, _⟩ := ra; subst e; rfl
  | dict _ => obtain ⟨_, e, _⟩ := ra; subst e; rfl
theorem or_is : OpR X (compareOp .Is) (rD2 X.K oIs) := by
  intro pins s σ H x y v u Q I rx ry h
  obtain ⟨G, a, b, c, ge, ra, rb, e, q⟩ := h
  unfold oIs at e
  split at e
  · cases e; cases rb
    exact op_isN pins s σ H _ _ v u Q I rx ry ⟨rfl, q _ _ G (.refl ge) (by rw [isNone_rel ra]; rfl)⟩
  · cases e
theorem or_isnot : OpR X (compareOp .IsNot) (rD2 X.K oIsNot) := by
  intro pins s σ H x y v u Q I rx ry h
  obtain ⟨G, a, b, c, ge, ra, rb, e, q⟩ := h
  unfold oIsNot at e
  split at e
  · cases e; cases rb
    exact op_notN pins s σ H _ _ v u Q I rx ry ⟨rfl, q _ _ G (.refl ge) (by rw [isNone_rel ra]; rfl)⟩
  · cases e
theorem or_in : OpR X (compareOp .In) (rD2 X.K oIn) := by
  intro pins s σ H x y v u Q I rx ry h
  obtain ⟨G, a, b, c, ge, ra, rb, e, q⟩ := h
  unfold oIn at e
  split at e
  · split at e
    · rename_i hz
      cases e
      obtain ⟨p, vs, e1, hp, r1⟩ := rb
      subst e1
      have ra' := ra.rp ge
      refine op_in_seq pins s σ H _ _ v u Q I rx ry ⟨p, vs, rfl, .inl (.inl (.inl hp)), ra'.flatV hz.1, flats_rel r1 hz.2, q _ _ G (.refl ge) ?_⟩
      show V.bl (inV x vs) = _
      rw [inV_rel ra' hz.1 (r1.mono ge) hz.2]
    · cases e
  · split at e
    · rename_i hz
      cases e
      obtain ⟨p, vs, e1, hp, r1⟩ := rb
      subst e1
      have ra' := ra.rp ge
      refine op_in_seq pins s σ H _ _ v u Q I rx ry ⟨p, vs, rfl, .inr (ge.t hp), ra'.flatV hz.1, flats_rel r1 hz.2, q _ _ G (.refl ge) ?_⟩
      show V.bl (inV x vs) = _
      rw [inV_rel ra' hz.1 (r1.mono ge) hz.2]
    · cases e
  · split at e
    · rename_i a b _ d hd
      cases e; cases rb.1
      have : a = ⟨#[d]⟩ := by cases a; simp only at hd; congr; exact Array.toList_inj.mp hd
      subst this
      cases ra.1
      exact op_in_sign pins s σ H _ _ v u Q I rx ry ⟨d, b, rfl, rfl, q _ _ G (.refl ge) rfl⟩
    · cases e
  · cases e
theorem or_notin : OpR X (compareOp .NotIn) (rD2 X.K oNotIn) := by
  intro pins s σ H x y v u Q I rx ry h
  obtain ⟨G, a, b, c, ge, ra, rb, e, q⟩ := h
  unfold oNotIn oIn at e
  split at e
  · rename_i k hk
    cases e
    split at hk
    · split at hk
      · rename_i hz
        cases hk
        obtain ⟨p, vs, e1, hp, r1⟩ := rb
        subst e1
        have ra' := ra.rp ge
        refine op_notIn_seq pins s σ H _ _ v u Q I rx ry ⟨p, vs, rfl, .inl (.inl (.inl hp)), ra'.flatV hz.1, flats_rel r1 hz.2, q _ _ G (.refl ge) ?_⟩
        show V.bl (!inV x vs) = _
        rw [inV_rel ra' hz.1 (r1.mono ge) hz.2]
      · cases hk
    · split at hk
      · rename_i hz
        cases hk
        obtain ⟨p, vs, e1, hp, r1⟩ := rb
        subst e1
        have ra' := ra.rp ge
        refine op_notIn_seq pins s σ H _ _ v u Q I rx ry ⟨p, vs, rfl, .inr (ge.t hp), ra'.flatV hz.1, flats_rel r1 hz.2, q _ _ G (.refl ge) ?_⟩
        show V.bl (!inV x vs) = _
        rw [inV_rel ra' hz.1 (r1.mono ge) hz.2]
      · cases hk
    · split at hk
      · rename_i a b _ d hd
        cases hk; cases rb.1
        have : a = ⟨#[d]⟩ := by cases a; simp only at hd; congr; exact Array.toList_inj.mp hd
        subst this
        cases ra.1
        exact op_notIn_sign pins s σ H _ _ v u Q I rx ry ⟨d, b, rfl, rfl, q _ _ G (.refl ge) rfl⟩
      · cases hk
    · cases hk
  · cases e
theorem ir_item : IxR X (rD2 X.K oItem) := by
  intro value slice pins s σ H x y v u Q I rx ry h hs
  obtain ⟨G, a, b, c, ge, ra, rb, e, q⟩ := h
  unfold oItem at e
  split at e
  · obtain ⟨p, vs, e1, hp, r1⟩ := ra
    cases rb; subst e1
    obtain ⟨z, hz, rz⟩ := atI_rel r1 e
    exact ix_list value slice pins s σ H _ _ v u Q I rx ry ⟨p, vs, _, z, rfl, rfl, .inl (.inl hp), hz, q _ _ G (.refl ge) rz⟩ hs
  · obtain ⟨p, vs, e1, hp, r1⟩ := ra
    cases rb; subst e1
    obtain ⟨z, hz, rz⟩ := atI_rel r1 e
    exact ix_tup value slice pins s σ H _ _ v u Q I rx ry ⟨p, vs, _, z, rfl, rfl, ge.t hp, hz, q _ _ G (.refl ge) rz⟩ hs
  · obtain ⟨e1, hl⟩ := ra
    cases rb; subst e1
    rename_i z i
    cases hz : atI z.cps.toList i with
    | none => rw [hz] at e; cases e
    | some d =>
      rw [hz] at e
      cases e
      exact ix_str value slice pins s σ H _ _ v u Q I rx ry ⟨z, i, d, rfl, rfl, hl, hz, q _ _ G (.refl ge) ⟨rfl, by show 1 ≤ sizeLine; decide⟩⟩ hs
  · cases e
theorem cutS_len (z : Str) (lo hi : Option Int) : (cutS z lo hi).length ≤ z.length := by
  unfold cutS
  show (List.toArray _).size ≤ z.cps.size
  rw [List.size_toArray, List.length_take, List.length_drop, Array.length_toList]
  omega
def rDS (K : PySem.W.Frag) : V → Option Int → Option Int → Hp → VK → Prop := fun x lo hi H Q => ∃ G a c, Ex G H ∧ Rv K H G a x ∧ oSlice a lo hi = some c ∧ ∀ v H' G', Gro G H G' H' → Rp K G' c v → Q v H'
theorem sr_slice : SlR X (rDS X.K) := by
  intro pins s σ H x v vl vu lo hi sl Q I rx hs pl pu h
  obtain ⟨G, a, c, ge, ra, e, q⟩ := h
  unfold oSlice at e
  split at e
  · cases e
    obtain ⟨p, vs, e1, hp, r1⟩ := ra
    subst e1
    exact sl_list pins s σ H _ v vl vu lo hi sl Q I rx hs pl pu ⟨p, vs, rfl, .inl (.inl hp), fun n hn => q _ _ _ (.new ge hn) ⟨n, _, rfl, upd_same, (cut_rel r1).mono (.new (ge.none hn))⟩⟩
  · cases e
    obtain ⟨p, vs, e1, hp, r1⟩ := ra
    subst e1
    refine sl_tupA pins s σ H _ v vl vu lo hi sl Q I rx hs pl pu ⟨p, vs, rfl, ge.t hp, fun z => ?_, fun _ n hn => q _ _ _ (.new ge hn) ⟨n, _, rfl, .inl (.inl upd_same), (cut_rel r1).mono (.new (ge.none hn))⟩⟩
    refine q _ _ G (.refl ge) ⟨p, vs, rfl, hp, ?_⟩
    have z1 := cut_rel (lo := lo) (hi := hi) r1
    have z2 : cutV vs lo hi = vs := by
      unfold cutV
      rw [z.1, z.2]
      simp
    rw [z2] at z1
    exact z1
  · cases e
    obtain ⟨e1, hl⟩ := ra
    subst e1
    exact sl_str pins s σ H _ v vl vu lo hi sl Q I rx hs pl pu ⟨_, rfl, hl, q _ _ G (.refl ge) ⟨rfl, Nat.le_trans (cutS_len _ _ _) hl⟩⟩
  · cases e
end
end Mo

/-! Mo3: expressions. -/
namespace Mo
variable [Tabs]
open PySem PySem.Spec PyProof.Rows L2

/-! ### names, constants -/
def varF (i : Nat) : Env → Res Vl := fun ρ => match ρ[i]? with
  | some s => match s.ot with
    | some (.lf x) => .ok (.d x) ρ
    | some (.ls _) => .ok (.r i) ρ
    | none => .bad
  | none => .bad
def cF (x : D) : Env → Res Vl := fun ρ => .ok (.d x) ρ
section
variable {X : Cx} {W : WX}
theorem pb_pe {i : Nat} {e : Expr} (h : PE X e (tVar i)) : PE X e (tF X.K true W (varF i)) := by
  refine PE.imp h fun σ H Q h => ?_
  obtain ⟨pn, G, ρ, fp, c, h⟩ := h
  unfold varF at h
  cases q : ρ[i]? with
  | none => simp only [q] at h; exact h.elim
  | some s =>
    cases q2 : s.ot with
    | none => simp only [q, q2] at h; exact h.elim
    | some t =>
      obtain ⟨v, f0, f1, f2, a1, a2, a3, _⟩ := c.sl.at q q2
      refine ⟨v, a1, ?_⟩
      cases t with
      | lf x =>
        simp only [q, q2] at h
        exact h v H G fp .refl (fun _ => .refl _) c a3.2
      | ls ts =>
        simp only [q, q2] at h
        exact h v H G fp .refl (fun _ => .refl _) c a1
theorem pb_var (i : Nat) {x : Str} {pos : Pos} (hN : X.N[i]? = some x := by rfl) (hv : Vis X.env.scope x := by first | exact Or.inl rfl | exact Or.inr (Or.inl rfl) | exact Or.inr (Or.inr rfl)) (hd : (x == ("__debug__" : Str)) = false := by decide)
    (hcd : (x == ("__classdict__" : Str)) = false := by decide) : PE X (.Name x pos) (tF X.K true W (varF i)) := pb_pe (pe_var hN hv hd hcd)
theorem pb_c {e : Expr} {v : V} (x : D) (h : PE X e (tC v)) (r : ∀ G, Rp X.K G x v) : PE X e (tF X.K true W (cF x)) :=
  PE.imp h fun σ H Q ⟨pn, G, ρ, fp, c, h⟩ => h v H G fp .refl (fun _ => .refl _) c (r G)
theorem pb_int {i : Int} {j pos} : PE X (.Constant (.int i) j pos) (tF X.K true W (cF (.int i))) := pb_c (.int i) pe_int fun _ => rfl
theorem pb_bl {b : Bool} {j pos} : PE X (.Constant (.bool b) j pos) (tF X.K true W (cF (.bool b))) := pb_c (.bool b) pe_bl fun _ => rfl
theorem pb_non {j pos} : PE X (.Constant .none j pos) (tF X.K true W (cF .none)) := pb_c .none pe_non fun _ => rfl
theorem pb_str {s : Str} {j pos} (h : s.length ≤ sizeLine := by decide) : PE X (.Constant (.str s) j pos) (tF X.K true W (cF (.str s))) := pb_c (.str s) pe_str fun _ => ⟨rfl, h⟩
/-- a module's constant -/
theorem pb_glob {x : Str} {v : V} {u : Value} {pos : Pos} (d : D) (hg : Gl X x) (hm : X.mg x = some u) (r : RelV v u) (hr : ∀ G, Rp X.K G d v) (hd : (x == ("__debug__" : Str)) = false := by decide) : PE X (.Name x pos) (tF X.K true W (cF d)) :=
  pb_c d (pe_glob hg hm r hd) hr
end

/-! ### operators -/
section
variable {X : Cx} {W : WX} {a b : Expr} {pa pb : Bool} {f g : Env → Res Vl} {pos : Pos}
theorem pb_op {o : Operator} {op : D → D → Option D} (ho : OpR X (binaryOp o) (rD2 X.K op)) (ha : PE X a (tF X.K pa W f)) (hb : PE X b (tF X.K pb W g)) : PE X (.BinOp a o b pos) (tF X.K (pa && pb) W (bin2 pb op f g)) :=
  PE.imp (pe_op ho ha hb) fun _ _ _ h => h.bin
theorem pb_un {o : UnaryOp} {op : D → Option D} (ho : UnR X (unaryOp o) (rD1 X.K op)) (ha : PE X a (tF X.K pa W f)) : PE X (.UnaryOp o a pos) (tF X.K pa W (un1 op f)) :=
  PE.imp (pe_un ho ha) fun _ _ _ h => h.un
theorem pb_cmp {o : CmpOp} {op : D → D → Option D} (ho : OpR X (compareOp o) (rD2 X.K op)) (ha : PE X a (tF X.K pa W f)) (hb : PE X b (tF X.K pb W g)) (hm : behindInMarks o b = false) : PE X (.Compare a [o] [b] pos) (tF X.K (pa && pb) W (bin2 pb op f g)) :=
  PE.imp (pe_cmpR ho ha hb hm) fun _ _ _ h => h.bin
/-- a value as a test -/
def boolF (f : Env → Res Vl) : Env → Res Bool := fun ρ => (f ρ).bind fun x ρ1 => match x with
  | .d (.bool b) => .ok b ρ1
  | _ => .bad
theorem tF.test {K : PySem.W.Frag} {σ : L2.St} {H : Hp} {Q : Bool → Hp → Prop} (h : tT K pa W (boolF f) σ H Q) : tF K pa W f σ H (fun x H' => ∃ k, x = .bl k ∧ Q k H') := by
  obtain ⟨pn, G, ρ, fp, c, h⟩ := h
  refine ⟨pn, G, ρ, fp, c, (Res.sat_bind h).imp (fun x ρ1 h v H1 G1 fp1 fw1 p1 c1 vo => ?_) fun _ _ h => h⟩
  cases x with
  | d y => cases y with
    | bool b =>
      have : v = .bl b := vo
      exact ⟨b, this, h H1 G1 fp1 fw1 p1 c1⟩
    | _ => exact h.elim
  | _ => exact h.elim
theorem pb_tcmp {o : CmpOp} {op : D → D → Option D} (ho : OpR X (compareOp o) (rD2 X.K op)) (ha : PE X a (tF X.K pa W f)) (hb : PE X b (tF X.K pb W g)) (hm : behindInMarks o b = false) : PT X (.Compare a [o] [b] pos) (tT X.K (pa && pb) W (boolF (bin2 pb op f g))) := by
  refine PT.imp (pt_cmpR ho ha hb hm) fun σ H Q h => ?_
  have := tF.test h
  exact tF.bin this
/-- an expression that yields True or False, as a test -/
theorem pb_tval (ha : PE X a (tF X.K pa W f)) (he : ∀ whole, isTrue a X.env whole = (do let v ← whole; standAt a.pos; holding [v] (truthy v)) := by intro _; rfl) : PT X a (tT X.K pa W (boolF f)) :=
  PT.imp (pt_val ha he) fun _ _ _ h => tF.test h
/-- by truth -/
def truD : D → Option Bool
  | .none => some false
  | .bool b => some b
  | .int i => some (i != 0)
  | .str s => some ((s.length : Int) != 0)
  | .list xs => some (!xs.isEmpty)
  | .tuple xs => some (!xs.isEmpty)
  | _ => none
def truF (f : Env → Res Vl) : Env → Res Bool := fun ρ => (f ρ).bind fun x ρ1 => match vw ρ1 x with
  | some a => match truD a with
    | some b => .ok b ρ1
    | none => .bad
  | none => .bad
theorem RpL.empty {K : PySem.W.Frag} {G : Hp} {ds : List D} {vs : List V} (r : RpL K G ds vs) : ds.isEmpty = vs.isEmpty := by
  cases ds with
  | nil => cases r; rfl
  | cons d ds => obtain ⟨v, w, e, _⟩ := r; subst e; rfl
theorem truD_rel {K : PySem.W.Frag} {H G : Hp} {d : D} {v : V} {b : Bool} (ge : Ex G H) (r : Rv K H G d v) (h : truD d = some b) : TruV K v H b := by
  cases d with
  | none => cases r; cases h; rfl
  | bool _ => cases r; cases h; rfl
  | int _ => cases r; cases h; rfl
  | str s => obtain ⟨e, hl⟩ := r; subst e; cases h; exact ⟨hl, rfl⟩
  | list xs =>
    obtain ⟨a, vs, e, s, r⟩ := r
    subst e; cases h
    exact .inl ⟨vs, .inl (.inl s), by rw [r.empty]⟩
  | tuple xs =>
    obtain ⟨a, vs, e, s, r⟩ := r
    subst e; cases h
    exact .inr (.inl ⟨vs, ge.t s, by rw [r.empty]⟩)
  | dict _ => cases h
theorem pb_tru (ha : PE X a (tF X.K pa W f)) (he : ∀ whole, isTrue a X.env whole = (do let v ← whole; standAt a.pos; holding [v] (truthy v)) := by intro _; rfl) : PT X a (tT X.K pa W (truF f)) := by
  refine PT.imp (pt_truth ha he) fun σ H Q h => ?_
  obtain ⟨pn, G, ρ, fp, c, h⟩ := h
  refine ⟨pn, G, ρ, fp, c, (Res.sat_bind h).imp (fun x ρ1 h v H1 G1 fp1 fw1 p1 c1 vo => ?_) fun _ _ h => h⟩
  cases e1 : vw ρ1 x with
  | none => simp only [e1] at h; exact h.elim
  | some y =>
    cases e2 : truD y with
    | none => simp only [e1, e2] at h; exact h.elim
    | some b =>
      simp only [e1, e2] at h
      exact ⟨b, truD_rel c1.ex (c1.vw vo e1) e2, h H1 G1 fp1 fw1 p1 c1⟩

/-! ### and, or, not, if .. else -/
variable {tf tg : Env → Res Bool} {rest : List Expr} {c : Expr}
def andF (f g : Env → Res Bool) : Env → Res Bool := fun ρ => (f ρ).bind fun x ρ1 => if x = true then g ρ1 else .ok false ρ1
def orF (f g : Env → Res Bool) : Env → Res Bool := fun ρ => (f ρ).bind fun x ρ1 => if x = true then .ok true ρ1 else g ρ1
def notF (f : Env → Res Bool) : Env → Res Bool := fun ρ => (f ρ).bind fun x ρ1 => .ok (!x) ρ1
theorem PW.imp {e : Expr} {t u : TT} (h : PW X e t) (i : ∀ σ H Q, u σ H Q → t σ H Q) : PW X e u := ⟨fun w pins s σ H Q I q => h.run w pins s σ H Q I (i σ H Q q)⟩
theorem pb_wand (ha : PT X a (tT X.K pa W tf)) (hb : PW X (.BoolOp .And (b :: rest) pos) (tT X.K pb W tg)) : PW X (.BoolOp .And (a :: b :: rest) pos) (tT X.K (pa && pb) W (andF tf tg)) := by
  refine PW.imp (pw_and ha hb) fun σ H Q h => ?_
  obtain ⟨pn, G, ρ, fp, c, h⟩ := h
  refine ⟨pn, G, ρ, fp, c, (Res.sat_bind h).imp (fun x ρ1 h H1 G1 fp1 fw1 p1 c1 => ?_) fun _ _ h => h⟩
  cases x with
  | true =>
    rw [if_pos rfl] at h ⊢
    exact ⟨pn, G1, ρ1, fp1, c1, h.imp (fun y ρ2 h H2 G2 fp2 fw2 p2 c2 => h H2 G2 fp2 (fw1.trans fw2) (fun hp => by rw [Bool.and_eq_true] at hp; exact (p1 hp.1).trans (p2 hp.2)) c2) fun _ _ h => h.on fw1⟩
  | false =>
    rw [if_neg Bool.false_ne_true] at h ⊢
    exact h H1 G1 fp1 fw1 (fun hp => by rw [Bool.and_eq_true] at hp; exact p1 hp.1) c1
theorem pb_wor (ha : PT X a (tT X.K pa W tf)) (hb : PW X (.BoolOp .Or (b :: rest) pos) (tT X.K pb W tg)) : PW X (.BoolOp .Or (a :: b :: rest) pos) (tT X.K (pa && pb) W (orF tf tg)) := by
  refine PW.imp (pw_or ha hb) fun σ H Q h => ?_
  obtain ⟨pn, G, ρ, fp, c, h⟩ := h
  refine ⟨pn, G, ρ, fp, c, (Res.sat_bind h).imp (fun x ρ1 h H1 G1 fp1 fw1 p1 c1 => ?_) fun _ _ h => h⟩
  cases x with
  | true =>
    rw [if_pos rfl] at h ⊢
    exact h H1 G1 fp1 fw1 (fun hp => by rw [Bool.and_eq_true] at hp; exact p1 hp.1) c1
  | false =>
    rw [if_neg Bool.false_ne_true] at h ⊢
    exact ⟨pn, G1, ρ1, fp1, c1, h.imp (fun y ρ2 h H2 G2 fp2 fw2 p2 c2 => h H2 G2 fp2 (fw1.trans fw2) (fun hp => by rw [Bool.and_eq_true] at hp; exact (p1 hp.1).trans (p2 hp.2)) c2) fun _ _ h => h.on fw1⟩
theorem pb_not (ha : PT X a (tT X.K pa W tf)) : PT X (.UnaryOp .Not a pos) (tT X.K pa W (notF tf)) := by
  refine PT.imp (pt_not ha) fun σ H Q h => ?_
  obtain ⟨pn, G, ρ, fp, c, h⟩ := h
  exact ⟨pn, G, ρ, fp, c, (Res.sat_bind h).imp (fun x ρ1 h H1 G1 fp1 fw1 p1 c1 => h H1 G1 fp1 fw1 p1 c1) fun _ _ h => h⟩
/-- the same as values: True or False each -/
def blF (f : Env → Res Bool) : Env → Res Vl := fun ρ => (f ρ).bind fun x ρ1 => .ok (.d (.bool x)) ρ1
def andV (f g : Env → Res Vl) : Env → Res Vl := fun ρ => (f ρ).bind fun x ρ1 => match x with
  | .d (.bool true) => g ρ1
  | .d (.bool false) => .ok (.d (.bool false)) ρ1
  | _ => .bad
def orV (f g : Env → Res Vl) : Env → Res Vl := fun ρ => (f ρ).bind fun x ρ1 => match x with
  | .d (.bool false) => g ρ1
  | .d (.bool true) => .ok (.d (.bool true)) ρ1
  | _ => .bad
def notV (f : Env → Res Vl) : Env → Res Vl := fun ρ => (f ρ).bind fun x ρ1 => match x with
  | .d (.bool b) => .ok (.d (.bool (!b))) ρ1
  | _ => .bad
theorem pb_andv (ha : PE X a (tF X.K pa W f)) (hb : PE X (.BoolOp .And (b :: rest) pos) (tF X.K pb W g)) : PE X (.BoolOp .And (a :: b :: rest) pos) (tF X.K (pa && pb) W (andV f g)) := by
  refine PE.imp (pe_and ha hb) fun σ H Q h => ?_
  obtain ⟨pn, G, ρ, fp, c, h⟩ := h
  refine ⟨pn, G, ρ, fp, c, (Res.sat_bind h).imp (fun x ρ1 h v H1 G1 fp1 fw1 p1 c1 vo => ?_) fun _ _ h => h⟩
  cases x with
  | d y => cases y with
    | bool k =>
      have e : v = .bl k := vo
      refine ⟨k, e, ?_⟩
      cases k with
      | true =>
        rw [if_pos rfl]
        exact ⟨pn, G1, ρ1, fp1, c1, Res.sat.imp h (fun y ρ2 h v H2 G2 fp2 fw2 p2 c2 => h v H2 G2 fp2 (fw1.trans fw2) (fun hp => by rw [Bool.and_eq_true] at hp; exact (p1 hp.1).trans (p2 hp.2)) c2) fun _ _ h => h.on fw1⟩
      | false =>
        rw [if_neg Bool.false_ne_true]
        exact h _ H1 G1 fp1 fw1 (fun hp => by rw [Bool.and_eq_true] at hp; exact p1 hp.1) c1 rfl
    | _ => exact h.elim
  | _ => exact h.elim
theorem pb_orv (ha : PE X a (tF X.K pa W f)) (hb : PE X (.BoolOp .Or (b :: rest) pos) (tF X.K pb W g)) : PE X (.BoolOp .Or (a :: b :: rest) pos) (tF X.K (pa && pb) W (orV f g)) := by
  refine PE.imp (pe_or ha hb) fun σ H Q h => ?_
  obtain ⟨pn, G, ρ, fp, c, h⟩ := h
  refine ⟨pn, G, ρ, fp, c, (Res.sat_bind h).imp (fun x ρ1 h v H1 G1 fp1 fw1 p1 c1 vo => ?_) fun _ _ h => h⟩
  cases x with
  | d y => cases y with
    | bool k =>
      have e : v = .bl k := vo
      refine ⟨k, e, ?_⟩
      cases k with
      | true =>
        rw [if_pos rfl]
        exact h _ H1 G1 fp1 fw1 (fun hp => by rw [Bool.and_eq_true] at hp; exact p1 hp.1) c1 rfl
      | false =>
        rw [if_neg Bool.false_ne_true]
        exact ⟨pn, G1, ρ1, fp1, c1, Res.sat.imp h (fun y ρ2 h v H2 G2 fp2 fw2 p2 c2 => h v H2 G2 fp2 (fw1.trans fw2) (fun hp => by rw [Bool.and_eq_true] at hp; exact (p1 hp.1).trans (p2 hp.2)) c2) fun _ _ h => h.on fw1⟩
    | _ => exact h.elim
  | _ => exact h.elim
theorem pb_notv (ha : PE X a (tF X.K pa W f)) : PE X (.UnaryOp .Not a pos) (tF X.K pa W (notV f)) := by
  refine PE.imp (pe_not ha) fun σ H Q h => ?_
  obtain ⟨pn, G, ρ, fp, c, h⟩ := h
  refine ⟨pn, G, ρ, fp, c, (Res.sat_bind h).imp (fun x ρ1 h v H1 G1 fp1 fw1 p1 c1 vo => ?_) fun _ _ h => h⟩
  cases x with
  | d y => cases y with
    | bool k =>
      have e : v = .bl k := vo
      exact ⟨k, e, h _ H1 G1 fp1 fw1 p1 c1 rfl⟩
    | _ => exact h.elim
  | _ => exact h.elim
def ifF (t : Env → Res Bool) (f g : Env → Res Vl) : Env → Res Vl := fun ρ => (t ρ).bind fun x ρ1 => if x = true then f ρ1 else g ρ1
theorem pb_if {pc : Bool} (hc : PT X c (tT X.K pc W tf)) (ha : PE X a (tF X.K pa W f)) (hb : PE X b (tF X.K pb W g)) : PE X (.IfExp c a b pos) (tF X.K (pc && (pa && pb)) W (ifF tf f g)) := by
  refine PE.imp (pe_ifExp hc ha hb) fun σ H Q h => ?_
  obtain ⟨pn, G, ρ, fp, c, h⟩ := h
  refine ⟨pn, G, ρ, fp, c, (Res.sat_bind h).imp (fun x ρ1 h H1 G1 fp1 fw1 p1 c1 => ?_) fun _ _ h => h⟩
  cases x with
  | true =>
    rw [if_pos rfl] at h ⊢
    exact ⟨pn, G1, ρ1, fp1, c1, h.imp (fun y ρ2 h v H2 G2 fp2 fw2 p2 c2 => h v H2 G2 fp2 (fw1.trans fw2) (fun hp => by rw [Bool.and_eq_true, Bool.and_eq_true] at hp; exact (p1 hp.1).trans (p2 hp.2.1)) c2) fun _ _ h => h.on fw1⟩
  | false =>
    rw [if_neg Bool.false_ne_true] at h ⊢
    exact ⟨pn, G1, ρ1, fp1, c1, h.imp (fun y ρ2 h v H2 G2 fp2 fw2 p2 c2 => h v H2 G2 fp2 (fw1.trans fw2) (fun hp => by rw [Bool.and_eq_true, Bool.and_eq_true] at hp; exact (p1 hp.1).trans (p2 hp.2.2)) c2) fun _ _ h => h.on fw1⟩
/-- a < b < c, b asked once -/
def chainF (pb pc : Bool) (o1 o2 : D → D → Option D) (f g k : Env → Res Vl) : Env → Res Vl := fun ρ => (f ρ).bind fun x ρ1 => (g ρ1).bind fun y ρ2 =>
  match stays pb x, vw ρ2 x, vw ρ2 y with
  | true, some a, some b => match o1 a b with
    | some (.bool true) => (k ρ2).bind fun z ρ3 => match stays pc y, vw ρ3 y, vw ρ3 z with
      | true, some b, some c => match o2 b c with
        | some d => .ok (.d d) ρ3
        | none => .bad
      | _, _, _ => .bad
    | some (.bool false) => .ok (.d (.bool false)) ρ2
    | _ => .bad
  | _, _, _ => .bad
theorem tF.chain {K : PySem.W.Frag} {pc : Bool} {k : Env → Res Vl} {o1 o2 : D → D → Option D} {σ : L2.St} {H : Hp} {Q : VK} (h : tF K (pa && (pb && pc)) W (chainF pb pc o1 o2 f g k) σ H Q) :
    tChain (rD2 K o1) (rD2 K o2) (tF K pa W f) (tF K pb W g) (tF K pc W k) σ H Q := by
  obtain ⟨pn, G, ρ, fp, c, h⟩ := h
  refine ⟨pn, G, ρ, fp, c, (Res.sat_bind h).imp (fun x ρ1 h v H1 G1 fp1 fw1 p1 c1 vo => ?_) fun _ _ h => h⟩
  refine ⟨pn, G1, ρ1, fp1, c1, (Res.sat_bind h).imp (fun y ρ2 h u H2 G2 fp2 fw2 p2 c2 wo => ?_) fun _ _ h => h.on fw1⟩
  cases hs : stays pb x with
  | false => simp only [hs] at h; exact h.elim
  | true =>
    have vo2 := vo.mono fw2.ex p2 hs
    cases e1 : vw ρ2 x with
    | none => simp only [hs, e1] at h; exact h.elim
    | some a =>
      cases e2 : vw ρ2 y with
      | none => simp only [hs, e1, e2] at h; exact h.elim
      | some b =>
        cases e3 : o1 a b with
        | none => simp only [hs, e1, e2, e3] at h; exact h.elim
        | some d =>
          refine ⟨G2, a, b, d, c2.ex, c2.vw vo2 e1, c2.vw wo e2, e3, fun z H3 G3 gr r => ?_⟩
          cases d with
          | bool q =>
            have ez : z = .bl q := r
            refine ⟨q, ez, ?_⟩
            cases q with
            | true =>
              rw [if_pos rfl]
              simp only [hs, e1, e2, e3] at h
              have c3 := c2.gro gr
              have fw3 : Fw G H fp G3 H3 fp2 := (fw1.trans fw2).trans gr.fw
              refine ⟨pn, G3, ρ2, fp2, c3, (Res.sat_bind h).imp (fun w ρ4 h u4 H4 G4 fp4 fw4 p4 c4 wo4 => ?_) fun _ _ h => h.on fw3⟩
              cases hs2 : stays pc y with
              | false => simp only [hs2] at h; exact h.elim
              | true =>
                have yo4 := (wo.mono gr.g (pu := true) (fun _ => gr.h) (by cases y <;> rfl)).mono fw4.ex p4 hs2
                cases e5 : vw ρ4 y with
                | none => simp only [hs2, e5] at h; exact h.elim
                | some b' =>
                  cases e6 : vw ρ4 w with
                  | none => simp only [hs2, e5, e6] at h; exact h.elim
                  | some c' =>
                    cases e7 : o2 b' c' with
                    | none => simp only [hs2, e5, e6, e7] at h; exact h.elim
                    | some d' =>
                      simp only [hs2, e5, e6, e7] at h
                      refine ⟨G4, b', c', d', c4.ex, c4.vw yo4 e5, c4.vw wo4 e6, e7, fun z5 H5 G5 gr5 r5 => h z5 H5 G5 fp4 ((fw3.trans fw4).trans gr5.fw) (fun hp => ?_) (c4.gro gr5) r5⟩
                      rw [Bool.and_eq_true, Bool.and_eq_true] at hp
                      exact ((((p1 hp.1).trans (p2 hp.2.1)).trans gr.h).trans (p4 hp.2.2)).trans gr5.h
            | false =>
              rw [if_neg Bool.false_ne_true]
              simp only [hs, e1, e2, e3] at h
              refine h _ H3 G3 fp2 ((fw1.trans fw2).trans gr.fw) (fun hp => ?_) (c2.gro gr) rfl
              rw [Bool.and_eq_true, Bool.and_eq_true] at hp
              exact ((p1 hp.1).trans (p2 hp.2.1)).trans gr.h
          | _ => simp only [hs, e1, e2, e3] at h; exact h.elim
theorem pb_chain {o o' : CmpOp} {o1 o2 : D → D → Option D} {pc : Bool} {k : Env → Res Vl} (ho : OpR X (compareOp o) (rD2 X.K o1)) (ho' : OpR X (compareOp o') (rD2 X.K o2)) (ha : PE X a (tF X.K pa W f)) (hb : PE X b (tF X.K pb W g)) (hc : PE X c (tF X.K pc W k))
    (hm : lastMarks [o, o'] [b, c] = false := by with_unfolding_all rfl) : PE X (.Compare a [o, o'] [b, c] pos) (tF X.K (pa && (pb && pc)) W (chainF pb pc o1 o2 f g k)) :=
  PE.imp (pe_chain ho ho' ha hb hc hm) fun _ _ _ h => h.chain
theorem pb_tchain {o o' : CmpOp} {o1 o2 : D → D → Option D} {pc : Bool} {k : Env → Res Vl} (ho : OpR X (compareOp o) (rD2 X.K o1)) (ho' : OpR X (compareOp o') (rD2 X.K o2)) (ha : PE X a (tF X.K pa W f)) (hb : PE X b (tF X.K pb W g)) (hc : PE X c (tF X.K pc W k))
    (hm : lastMarks [o, o'] [b, c] = false := by with_unfolding_all rfl) : PT X (.Compare a [o, o'] [b, c] pos) (tT X.K (pa && (pb && pc)) W (boolF (chainF pb pc o1 o2 f g k))) :=
  PT.imp (pt_chain ho ho' ha hb hc hm) fun _ _ _ h => tF.chain (tF.test h)
end
end Mo

/-! Mo4: freezing, rows of arguments, displays, subscripts, calls. -/
namespace Mo
variable [Tabs]
open PySem PySem.Spec PyProof.Rows L2

/-! ### a list of one's own becomes data -/
def fzE (x : Vl) (ρ : Env) : Res D := match x with
  | .d x => .ok x ρ
  | .w _ => .bad
  | .r i => match ρ[i]? with
    | some (.v (.ls ts)) => .ok (.list (OT.views ts)) (ρ.set i (.v (.lf (.list (OT.views ts)))))
    | some (.v (.lf x)) => .ok x ρ
    | some (.io (.lf x)) => .ok x ρ
    | _ => .bad
theorem set_same {α : Type} {l : List α} {i : Nat} {x : α} (h : l[i]? = some x) : l.set i x = l := by
  apply List.ext_getElem?
  intro j
  by_cases e : i = j
  · subst e
    obtain ⟨hi, _⟩ := List.getElem?_eq_some_iff.mp h
    rw [List.getElem?_set_self hi, h]
  · rw [List.getElem?_set_ne e]
section
variable {K : PySem.W.Frag} {pn : List (Nat × V)} {σ : L2.St} {H G : Hp} {ρ : Env} {fp : List Addr}
theorem Cor.fz (c : Cor K pn σ H G ρ fp) {x : Vl} {v : V} (h : VOk K σ H G v x) {g : D → Env → Prop} {e : Addr → Env → Prop} (s : (fzE x ρ).sat g e) :
    ∃ d ρ' G' fp', g d ρ' ∧ Fw G H fp G' H fp' ∧ Cor K pn σ H G' ρ' fp' ∧ Rp K G' d v := by
  cases x with
  | d y => exact ⟨y, ρ, G, fp, s, .refl, c, h⟩
  | w y => exact s.elim
  | r i =>
    have h' : σ[i]? = some (some v) := h
    simp only [fzE] at s
    split at s
    · rename_i ts q
      obtain ⟨w, f0, f1, f2, a1, a2, a3, a4⟩ := Slots.at (t := .ls ts) c.sl q rfl
      have : w = v := by rw [a1] at h'; exact Option.some.inj (Option.some.inj h')
      subst this a2
      have nd := c.nd
      rw [List.append_assoc] at nd
      obtain ⟨n1, n2, n3⟩ := List.nodup_append.mp nd
      obtain ⟨n4, n5, n6⟩ := List.nodup_append.mp n2
      have gn : ∀ a ∈ f1, G a = none := fun a ha => (a3.there a ha).1
      have ge : Ex G (fzG G H f1) := fzG_ex gn
      have out : ∀ a ∈ f0 ++ f2, a ∉ f1 := fun a ha hb => by
        rcases List.mem_append.mp ha with z | z
        · exact n3 a z a (List.mem_append_left _ hb) rfl
        · exact n6 a hb a z rfl
      have gn2 : ∀ a ∈ f0 ++ f2, fzG G H f1 a = none := fun a ha => by
        rw [fzG_out (out a ha)]
        refine (c.sl.there a ?_).1
        rcases List.mem_append.mp ha with z | z <;> simp [z]
      have sl := a4 (G' := fzG G H f1) (H' := H) (t' := .lf (.list (OT.views ts))) (v' := w) (f1' := []) ge (fun _ _ => rfl) gn2 ⟨rfl, a3.freeze ge fun a ha => fzG_in ha⟩
      rw [set_same h', List.append_nil] at sl
      refine ⟨_, _, fzG G H f1, f0 ++ f2, s, ⟨ge, fun _ _ h _ _ => h, fun a ha => .inl ?_, fun a o z => ?_, fun a o h => ⟨o, h⟩, fun _ ps h => ⟨ps, h, id⟩⟩, ⟨fzG_gh c.ex, sl, ?_, fun p hp => ?_, c.tb⟩, a3.freeze ge fun a ha => fzG_in ha⟩
      · rcases List.mem_append.mp ha with z | z <;> simp [z]
      · by_cases hf : a ∈ f1
        · exact .inr (.inr (by simp [hf]))
        · rw [fzG_out hf] at z; exact .inl z
      · exact List.nodup_append.mpr ⟨n1, n5, fun a ha b hb => n3 a ha b (List.mem_append_right _ hb)⟩
      · obtain ⟨p1, t, p2⟩ := c.pn p hp
        refine ⟨p1, t, ?_⟩
        have ne : i ≠ p.1 := fun z => by rw [z, p2] at q; cases q
        rw [List.getElem?_set_ne ne]
        exact p2
    · rename_i y q
      obtain ⟨w, f0, f1, f2, a1, a2, a3, a4⟩ := Slots.at (t := .lf y) c.sl q rfl
      have : w = v := by rw [a1] at h'; exact Option.some.inj (Option.some.inj h')
      subst this
      exact ⟨y, ρ, G, fp, s, .refl, c, a3.2⟩
    · rename_i y q
      obtain ⟨w, f0, f1, f2, a1, a2, a3, a4⟩ := Slots.at (t := .lf y) c.sl q rfl
      have : w = v := by rw [a1] at h'; exact Option.some.inj (Option.some.inj h')
      subst this
      exact ⟨y, ρ, G, fp, s, .refl, c, a3.2⟩
    · exact s.elim
end

/-! ### rows of values: seen, known -/
def tV (K : PySem.W.Frag) (pu : Bool) (W : WX) (f : Env → Res (List Vl)) : TA := fun σ H Q => ∃ pn G ρ fp, Cor K pn σ H G ρ fp ∧
  (f ρ).sat (fun xs ρ' => ∀ vs H' G' fp', Fw G H fp G' H' fp' → (pu = true → Ex H H') → Cor K pn σ H' G' ρ' fp' → Paired (fun v x => VOk K σ H' G' v x) vs xs → Q vs H') (ExF K W pn σ H G fp)
def nilV : Env → Res (List Vl) := fun ρ => .ok [] ρ
def consV (pb : Bool) (f : Env → Res Vl) (g : Env → Res (List Vl)) : Env → Res (List Vl) := fun ρ => (f ρ).bind fun x ρ1 => (g ρ1).bind fun xs ρ2 => if stays pb x = true then .ok (x :: xs) ρ2 else .bad
def vws (ρ : Env) : List Vl → Option (List D)
  | [] => some []
  | x :: xs => match vw ρ x, vws ρ xs with
    | some d, some ds => some (d :: ds)
    | _, _ => none
def fzs : List Vl → Env → Res (List D)
  | [], ρ => .ok [] ρ
  | x :: xs, ρ => (fzE x ρ).bind fun d ρ1 => (fzs xs ρ1).bind fun ds ρ2 => .ok (d :: ds) ρ2
section
variable {X : Cx} {W : WX} {e o : Expr} {es : List Expr} {pa pb : Bool} {f g : Env → Res Vl} {fs : Env → Res (List Vl)} {pos : Pos}
theorem pb_nil : PA X [] (tV X.K true W nilV) := PA.imp pa_nil fun σ H Q ⟨pn, G, ρ, fp, c, h⟩ => h [] H G fp .refl (fun _ => .refl _) c .nil
theorem pb_cons (ha : PE X e (tF X.K pa W f)) (hr : PA X es (tV X.K pb W fs)) (hs : starEach (e :: es) X.env = (false, eval e X.env) :: starEach es X.env := by rfl) : PA X (e :: es) (tV X.K (pa && pb) W (consV pb f fs)) := by
  refine PA.imp (pa_cons ha hr hs) fun σ H Q h => ?_
  obtain ⟨pn, G, ρ, fp, c, h⟩ := h
  refine ⟨pn, G, ρ, fp, c, (Res.sat_bind h).imp (fun x ρ1 h v H1 G1 fp1 fw1 p1 c1 vo => ?_) fun _ _ h => h⟩
  refine ⟨pn, G1, ρ1, fp1, c1, (Res.sat_bind h).imp (fun xs ρ2 h us H2 G2 fp2 fw2 p2 c2 wo => ?_) fun _ _ h => h.on fw1⟩
  by_cases hs : stays pb x = true
  · rw [if_pos hs] at h
    exact h (v :: us) H2 G2 fp2 (fw1.trans fw2) (fun hp => by rw [Bool.and_eq_true] at hp; exact (p1 hp.1).trans (p2 hp.2)) c2 (.cons (vo.mono fw2.ex p2 hs) wo)
  · rw [if_neg hs] at h; exact h.elim
theorem vws_rel {K : PySem.W.Frag} {pn : List (Nat × V)} {σ : L2.St} {H G : Hp} {ρ : Env} {fp : List Addr} (c : Cor K pn σ H G ρ fp) : ∀ {vs : List V} {xs : List Vl} {ds : List D}, Paired (fun v x => VOk K σ H G v x) vs xs → vws ρ xs = some ds → RvL K H G ds vs
  | _, _, _, .nil, h => by cases h; rfl
  | _, x :: xs, _, .cons (a := v) (l₁ := vs) r t, h => by
    unfold vws at h
    cases e1 : vw ρ x with
    | none => simp only [e1] at h; cases h
    | some d =>
      cases e2 : vws ρ xs with
      | none => simp only [e1, e2] at h; cases h
      | some ds =>
        simp only [e1, e2] at h
        cases h
        exact ⟨v, vs, rfl, c.vw r e1, vws_rel c t e2⟩
/-- a row frozen, from the left -/
theorem Cor.fzs {K : PySem.W.Frag} {pn : List (Nat × V)} {σ : L2.St} {H : Hp} : ∀ {G : Hp} {ρ : Env} {fp : List Addr} (c : Cor K pn σ H G ρ fp) {vs : List V} {xs : List Vl}, Paired (fun v x => VOk K σ H G v x) vs xs →
    ∀ {g : List D → Env → Prop} {e : Addr → Env → Prop}, (fzs xs ρ).sat g e → ∃ ds ρ' G' fp', g ds ρ' ∧ Fw G H fp G' H fp' ∧ Cor K pn σ H G' ρ' fp' ∧ RpL K G' ds vs
  | G, ρ, fp, c, _, _, .nil, g, e, s => ⟨[], ρ, G, fp, s, .refl, c, rfl⟩
  | G, ρ, fp, c, _, _, .cons (a := v) (l₁ := vs) (b := x) (l₂ := xs) r t, g, e, s => by
    have s : ((fzE x ρ).bind fun d ρ1 => (Mo.fzs xs ρ1).bind fun ds ρ2 => .ok (d :: ds) ρ2).sat g e := s
    obtain ⟨d, ρ1, G1, fp1, s1, fw1, c1, r1⟩ := c.fz r (Res.sat_bind s)
    have t1 : Paired (fun v x => VOk K σ H G1 v x) vs xs := L2.Paired.mapP t fun v x h => by
      cases x with
      | d y => exact Rp.mono fw1.ex h
      | w y => exact Rv.mono (d := .list y) (.refl _) fw1.ex h
      | r i => exact h
    obtain ⟨ds, ρ2, G2, fp2, s2, fw2, c2, r2⟩ := Cor.fzs c1 t1 (Res.sat_bind s1)
    exact ⟨d :: ds, ρ2, G2, fp2, s2, fw1.trans fw2, c2, ⟨v, vs, rfl, r1.mono fw2.ex, r2⟩⟩

/-! ### a value made data -/
def fzF (f : Env → Res Vl) : Env → Res Vl := fun ρ => (f ρ).bind fun x ρ1 => (fzE x ρ1).bind fun d ρ2 => .ok (.d d) ρ2
theorem pb_fz (ha : PE X e (tF X.K pa W f)) : PE X e (tF X.K pa W (fzF f)) := by
  refine PE.imp ha fun σ H Q h => ?_
  obtain ⟨pn, G, ρ, fp, c, h⟩ := h
  refine ⟨pn, G, ρ, fp, c, (Res.sat_bind h).imp (fun x ρ1 h v H1 G1 fp1 fw1 p1 c1 vo => ?_) fun _ _ h => h⟩
  obtain ⟨d, ρ2, G2, fp2, s, fw2, c2, r⟩ := c1.fz vo (Res.sat_bind h)
  exact s v H1 G2 fp2 (fw1.trans fw2) p1 c2 r

/-! ### displays -/
def tupF (fs : Env → Res (List Vl)) : Env → Res Vl := fun ρ => (fs ρ).bind fun xs ρ1 => (fzs xs ρ1).bind fun ds ρ2 => if ds.length ≤ sizeLine then .ok (.d (.tuple ds)) ρ2 else .bad
theorem pb_tup {x1} (ha : PA X es (tV X.K pa W fs)) : PE X (.Tuple es x1 pos) (tF X.K pa W (tupF fs)) := by
  refine PE.imp (pe_tup ha) fun σ H Q h => ?_
  obtain ⟨pn, G, ρ, fp, c, h⟩ := h
  refine ⟨pn, G, ρ, fp, c, (Res.sat_bind h).imp (fun xs ρ1 h vs H1 G1 fp1 fw1 p1 c1 vo => ?_) fun _ _ h => h⟩
  obtain ⟨ds, ρ2, G2, fp2, s, fw2, c2, r⟩ := c1.fzs vo (Res.sat_bind h)
  by_cases hz : ds.length ≤ sizeLine
  · rw [if_pos hz] at s
    refine ⟨by rw [r.length]; exact hz, fun p hp => ?_⟩
    have gr := Gro.new (o := .tup vs) c2.ex hp
    exact s _ _ _ fp2 ((fw1.trans fw2).trans gr.fw) (fun q => (p1 q).trans gr.h) (c2.gro gr) ⟨p, vs, rfl, .inl (.inl upd_same), r.mono gr.g⟩
  · rw [if_neg hz] at s; exact s.elim
/-- a fresh list of data -/
def lstF (fs : Env → Res (List Vl)) : Env → Res OT := fun ρ => (fs ρ).bind fun xs ρ1 => (fzs xs ρ1).bind fun ds ρ2 => if ds.length ≤ sizeLine then .ok (.ls (ds.map .lf)) ρ2 else .bad
theorem Owns.lfs {K : PySem.W.Frag} {G H : Hp} : ∀ {ds : List D} {vs : List V}, RpL K G ds vs → Owns K G H (ds.map .lf) vs []
  | [], _, h => by cases h; exact ⟨rfl, rfl⟩
  | d :: ds, _, ⟨v, r, e, h, t⟩ => ⟨v, r, [], [], e, rfl, ⟨rfl, h⟩, Owns.lfs t⟩
/-- a new list that is one's own -/
theorem Cor.newList {K : PySem.W.Frag} {pn : List (Nat × V)} {σ : L2.St} {H G : Hp} {ρ : Env} {fp fq : List Addr} {p : Addr} {vs : List V} {ts : List OT} (c : Cor K pn σ H G ρ fp) (hp : H p = none)
    (ow : Owns K G H ts vs fq) (nd : (fp ++ fq).Nodup) : Fw G H fp G (upd H p (.lst vs)) fp ∧ Cor K pn σ (upd H p (.lst vs)) G ρ fp ∧ Own K G (upd H p (.lst vs)) (.ls ts) (.ref p) (p :: fq) ∧ (fp ++ (p :: fq)).Nodup := by
  have gp : G p = none := c.ex.none hp
  have n1 : ∀ a ∈ fp, a ≠ p := fun a ha z => by
    obtain ⟨_, us, h⟩ := c.sl.there a ha
    rw [z, hp] at h; cases h
  have n2 : ∀ a ∈ fq, a ≠ p := fun a ha z => by
    obtain ⟨_, us, h⟩ := ow.there a ha
    rw [z, hp] at h; cases h
  refine ⟨⟨.refl _, fun a o h _ _ => ?_, fun a h => .inl h, fun a o h => .inl h, fun a o h => ?_, fun a ps h => tbl_put (by rw [hp]; nofun) h⟩, ⟨c.ex.put gp, c.sl.frame (.refl _) (fun a ha => upd_ne (n1 a ha)) (fun a ha => (c.sl.there a ha).1), c.nd, c.pn, c.tb.put (by rw [hp]; nofun)⟩, ⟨p, vs, fq, rfl, rfl, upd_same, gp, ow.frame (.refl _) (fun a ha => upd_ne (n2 a ha)) fun a ha => (ow.there a ha).1⟩, ?_⟩
  · rw [upd_ne (ne_of_none h hp)]; exact h
  · exact ⟨o, by rw [upd_ne (ne_of_none h hp)]; exact h⟩
  · obtain ⟨m1, m2, m3⟩ := List.nodup_append.mp nd
    refine List.nodup_append.mpr ⟨m1, List.nodup_cons.mpr ⟨fun z => n2 p z rfl, m2⟩, fun a ha b hb z => ?_⟩
    rcases List.mem_cons.mp hb with q | q
    · exact n1 a ha (z.trans q)
    · exact m3 a ha b q z
theorem pb_lst (ha : PA X es (tV X.K pa W fs)) : PE X (.List es pos) (tO X.K pa W (lstF fs)) := by
  refine PE.imp (pe_lst ha) fun σ H Q h => ?_
  obtain ⟨pn, G, ρ, fp, c, h⟩ := h
  refine ⟨pn, G, ρ, fp, c, (Res.sat_bind h).imp (fun xs ρ1 h vs H1 G1 fp1 fw1 p1 c1 vo => ?_) fun _ _ h => h⟩
  obtain ⟨ds, ρ2, G2, fp2, s, fw2, c2, r⟩ := c1.fzs vo (Res.sat_bind h)
  by_cases hz : ds.length ≤ sizeLine
  · rw [if_pos hz] at s
    refine ⟨by rw [r.length]; exact hz, fun p hp => ?_⟩
    obtain ⟨b1, b2, b3, b4⟩ := c2.newList hp (Owns.lfs (H := H1) r) (by simpa using c2.nd)
    refine s _ _ G2 fp2 [p] ((fw1.trans fw2).trans b1) (fun q => (p1 q).trans (.new hp)) b2 b3 b4 fun a ha => ?_
    have : a = p := by simpa using ha
    subst this
    exact (fw1.trans fw2).none hp
  · rw [if_neg hz] at s; exact s.elim
end
end Mo

/-! Mo5: a fresh tree as data; targets; what is walked; list comprehensions. -/
namespace Mo
variable [Tabs]
open PySem PySem.Spec PyProof.Rows L2

/-! ### a fresh tree as data -/
def frzO (f : Env → Res OT) : Env → Res Vl := fun ρ => (f ρ).bind fun t ρ1 => .ok (.d t.view) ρ1
theorem Cor.fzO {K : PySem.W.Frag} {pn : List (Nat × V)} {σ : L2.St} {H0 H G G0 : Hp} {ρ : Env} {fp0 fp fq : List Addr} {t : OT} {v : V} (fw : Fw G0 H0 fp0 G H fp) (c : Cor K pn σ H G ρ fp) (o : Own K G H t v fq) (nd : (fp ++ fq).Nodup) (fr : ∀ a ∈ fq, H0 a = none) :
    ∃ G', Fw G0 H0 fp0 G' H fp ∧ Cor K pn σ H G' ρ fp ∧ Rp K G' t.view v := by
  have gn : ∀ a ∈ fq, G a = none := fun a ha => (o.there a ha).1
  have ge : Ex G (fzG G H fq) := fzG_ex gn
  obtain ⟨m1, m2, m3⟩ := List.nodup_append.mp nd
  refine ⟨fzG G H fq, ⟨fw.ex.trans ge, fun a o h n k => fw.fr a o h n k, fw.nf, fun a u h => ?_, fw.th, fw.tb⟩, ⟨fzG_gh c.ex, c.sl.frame ge (fun _ _ => rfl) (fun a ha => ?_), c.nd, c.pn, c.tb⟩, o.freeze ge fun a ha => fzG_in ha⟩
  · by_cases hf : a ∈ fq
    · exact .inr (.inl (fr a hf))
    · rw [fzG_out hf] at h; exact fw.ng a u h
  · rw [fzG_out fun z => m3 a ha a z rfl]
    exact (c.sl.there a ha).1
theorem pb_ofO {X : Cx} {W : WX} {e : Expr} {pu : Bool} {f : Env → Res OT} (h : PE X e (tO X.K pu W f)) : PE X e (tF X.K pu W (frzO f)) := by
  refine PE.imp h fun σ H Q h => ?_
  obtain ⟨pn, G, ρ, fp, c, h⟩ := h
  refine ⟨pn, G, ρ, fp, c, (Res.sat_bind h).imp (fun t ρ1 h v H1 G1 fp1 fq fw1 p1 c1 o nd fr => ?_) fun _ _ h => h⟩
  obtain ⟨G2, fw2, c2, r⟩ := Cor.fzO fw1 c1 o nd fr
  exact h v H1 G2 fp1 fw2 p1 c2 r
/-- data as a leaf -/
def lfF (f : Env → Res Vl) : Env → Res OT := fun ρ => (f ρ).bind fun x ρ1 => (fzE x ρ1).bind fun d ρ2 => .ok (.lf d) ρ2
theorem pb_lf {X : Cx} {W : WX} {e : Expr} {pu : Bool} {f : Env → Res Vl} (h : PE X e (tF X.K pu W f)) : PE X e (tO X.K pu W (lfF f)) := by
  refine PE.imp h fun σ H Q h => ?_
  obtain ⟨pn, G, ρ, fp, c, h⟩ := h
  refine ⟨pn, G, ρ, fp, c, (Res.sat_bind h).imp (fun x ρ1 h v H1 G1 fp1 fw1 p1 c1 vo => ?_) fun _ _ h => h⟩
  obtain ⟨d, ρ2, G2, fp2, s, fw2, c2, r⟩ := c1.fz vo (Res.sat_bind h)
  exact s v H1 G2 fp2 [] (fw1.trans fw2) p1 c2 ⟨rfl, r⟩ (by simpa using c2.nd) (fun _ h => nomatch h)

/-! ### targets -/
def asgE (i : Nat) (d : D) (ρ : Env) : Option Env := match ρ[i]? with
  | some (.io _) => none
  | some _ => some (ρ.set i (.v (.lf d)))
  | none => none
/-- what a target does: the slots that it may change, the data handed to it -/
def tG (K : PySem.W.Frag) (ix : List Nat) (f : D → Env → Option Env) : TG := fun v σ H Q => ∃ pn G ρ fp d ρ', Cor K pn σ H G ρ fp ∧ Rp K G d v ∧ f d ρ = some ρ' ∧
  ∀ σ' fp', (∀ a ∈ fp', a ∈ fp) → (∀ j, j ∉ ix → σ'[j]? = σ[j]?) → σ'.length = σ.length → Cor K pn σ' H G ρ' fp' → Q σ' H
def tGs (K : PySem.W.Frag) (ix : List Nat) (f : List D → Env → Option Env) : TGs := fun vs σ H Q => ∃ pn G ρ fp ds ρ', Cor K pn σ H G ρ fp ∧ RpL K G ds vs ∧ f ds ρ = some ρ' ∧
  ∀ σ' fp', (∀ a ∈ fp', a ∈ fp) → (∀ j, j ∉ ix → σ'[j]? = σ[j]?) → σ'.length = σ.length → Cor K pn σ' H G ρ' fp' → Q σ' H
def unpE (n : Nat) (f : List D → Env → Option Env) (d : D) (ρ : Env) : Option Env := match d with
  | .tuple ds => if ds.length = n then f ds ρ else none
  | _ => none
def gNilE : List D → Env → Option Env
  | [], ρ => some ρ
  | _, _ => none
def gConsE (f : D → Env → Option Env) (g : List D → Env → Option Env) : List D → Env → Option Env
  | d :: ds, ρ => match f d ρ with
    | some ρ1 => g ds ρ1
    | none => none
  | [], _ => none
theorem Cor.asg {K : PySem.W.Frag} {pn : List (Nat × V)} {σ : L2.St} {H G : Hp} {ρ ρ' : Env} {fp : List Addr} {i : Nat} {d : D} {v : V} (c : Cor K pn σ H G ρ fp) (r : Rp K G d v) (h : asgE i d ρ = some ρ') :
    ∃ fp', (∀ a ∈ fp', a ∈ fp) ∧ Cor K pn (σ.set i (some v)) H G ρ' fp' := by
  have key : ∀ s : Slot, ρ[i]? = some s → (∀ t, s ≠ .io t) → ∃ fp', (∀ a ∈ fp', a ∈ fp) ∧ Cor K pn (σ.set i (some v)) H G (ρ.set i (.v (.lf d))) fp' := fun s q ns => by
    obtain ⟨f0, f2, a1, a2, a4⟩ := c.sl.put q ns
    have sl := a4 (G' := G) (H' := H) (t' := .lf d) (v' := v) (f1' := []) (.refl _) (fun _ _ => rfl) (fun a ha => (c.sl.there a (a1 a ha)).1) ⟨rfl, r⟩
    rw [List.append_nil] at sl
    refine ⟨f0 ++ f2, a1, ⟨c.ex, sl, a2 c.nd, fun p hp => ?_, c.tb⟩⟩
    obtain ⟨p1, t, p2⟩ := c.pn p hp
    have ne : i ≠ p.1 := fun z => by
      rw [z, p2] at q
      exact ns t (Option.some.inj q).symm
    exact ⟨by rw [List.getElem?_set_ne ne]; exact p1, t, by rw [List.getElem?_set_ne ne]; exact p2⟩
  unfold asgE at h
  split at h
  · cases h
  · rename_i s ns q
    cases h
    exact key s q fun t z => ns t z
  · cases h
section
variable {X : Cx} {pos : Pos}
theorem pg_n (i : Nat) {x : Str} (hN : X.N.Nodup) (hi : X.N[i]? = some x := by rfl) (hx : Loc X.env.scope x := by first | exact Or.inl rfl | exact Or.inr rfl) (hf : X.fn x = true ∨ X.env.scope.names.lookup x = some .local := by first | exact .inl rfl | exact .inr rfl) : PG X (.Name x pos) (tG X.K [i] (asgE i)) := by
  have h := pg_name (pos := pos) hN hi hx hf
  refine ⟨fun pins s σ H v u Q I r hw => h.run pins s σ H v u Q I r ?_⟩
  obtain ⟨pn, G, ρ, fp, d, ρ', c, rp, e, q⟩ := hw
  obtain ⟨fp', a1, c'⟩ := c.asg rp e
  refine q _ fp' a1 (fun j hj => ?_) (List.length_set ..) c'
  rw [List.getElem?_set_ne (by simpa using fun z => hj (by simp [z]))]
theorem pgs_n : PGs X [] (tGs X.K [] gNilE) := by
  refine ⟨fun pins s σ H vs us Q I r hw => pgs_nil.run pins s σ H vs us Q I r ?_⟩
  obtain ⟨pn, G, ρ, fp, ds, ρ', c, rp, e, q⟩ := hw
  cases ds with
  | nil =>
    cases rp; cases e
    exact ⟨rfl, q σ fp (fun _ h => h) (fun _ _ => rfl) rfl c⟩
  | cons _ _ => cases e
theorem pgs_c {e : Expr} {es : List Expr} {ix iy : List Nat} {f : D → Env → Option Env} {g : List D → Env → Option Env} (h1 : PG X e (tG X.K ix f)) (h2 : PGs X es (tGs X.K iy g))
    (hs : (assignEach (e :: es) X.env).map (·.2) = assign e X.env :: (assignEach es X.env).map (·.2) := by rfl) : PGs X (e :: es) (tGs X.K (ix ++ iy) (gConsE f g)) := by
  have h := pgs_cons h1 h2 hs
  refine ⟨fun pins s σ H vs us Q I r hw => h.run pins s σ H vs us Q I r ?_⟩
  obtain ⟨pn, G, ρ, fp, ds, ρ', c, rp, e, q⟩ := hw
  cases ds with
  | nil => cases e
  | cons d ds =>
    obtain ⟨v, w, e1, r1, r2⟩ := rp
    subst e1
    unfold gConsE at e
    cases e2 : f d ρ with
    | none => simp only [e2] at e; cases e
    | some ρ1 =>
      simp only [e2] at e
      refine ⟨v, w, rfl, pn, G, ρ, fp, d, ρ1, c, r1, e2, fun σ1 fp1 a1 k1 l1 c1 => ?_⟩
      refine ⟨pn, G, ρ1, fp1, ds, ρ', c1, r2, e, fun σ2 fp2 a2 k2 l2 c2 => q σ2 fp2 (fun a ha => a1 a (a2 a ha)) (fun j hj => ?_) (l2.trans l1) c2⟩
      rw [k2 j fun z => hj (List.mem_append_right _ z), k1 j fun z => hj (List.mem_append_left _ z)]
theorem pg_t {es : List Expr} {k : Nat} {n : Nat} {ix : List Nat} {f : List D → Env → Option Env} (hc : X.calm = true) (h : PGs X es (tGs X.K ix f)) (hn : (assignEach es X.env).length = n := by rfl) (hst : (assignEach es X.env).findIdx? (·.1) = none := by rfl) :
    PG X (.Tuple es k pos) (tG X.K ix (unpE n f)) := by
  have h := pg_tup (pos := pos) (k := k) hc h hn hst
  refine ⟨fun pins s σ H v u Q I r hw => h.run pins s σ H v u Q I r ?_⟩
  obtain ⟨pn, G, ρ, fp, d, ρ', c, rp, e, q⟩ := hw
  cases d with
  | tuple ds =>
    obtain ⟨a, vs, e1, sq, rl⟩ := rp
    unfold unpE at e
    by_cases hz : ds.length = n
    · simp only [if_pos hz] at e
      exact ⟨a, vs, e1, c.ex.t sq, by rw [rl.length]; exact hz, pn, G, ρ, fp, ds, ρ', c, rl, e, q⟩
    · simp only [if_neg hz] at e; cases e
  | _ => cases e
end

/-! ### what is walked -/
def ItOk (K : PySem.W.Frag) (J : It) (items : List D) (G0 : Hp) : Prop := ∀ i H G, Ex G0 G → Ex G H → (i < items.length → J.go i H) ∧ (items.length ≤ i → J.stop i H) ∧
  ∀ d x H', items[i]? = some d → J.yld i H x H' → ∃ G', Gro G H G' H' ∧ Rp K G' d x
def tI (K : PySem.W.Frag) (W : WX) (f : Env → Res (List D)) : TI := fun σ H R => ∃ pn G ρ fp, Cor K pn σ H G ρ fp ∧
  (f ρ).sat (fun items ρ' => ∀ J H' G' fp', Fw G H fp G' H' fp' → Cor K pn σ H' G' ρ' fp' → ItOk K J items G' → R J H') (ExF K W pn σ H G fp)
theorem PI.imp {X : Cx} {tg e : Expr} {t u : TI} (h : PI X tg e t) (i : ∀ σ H R, u σ H R → t σ H R) : PI X tg e u := ⟨fun pins s σ H R I q => h.run pins s σ H R I (i σ H R q)⟩
theorem PI.or {X : Cx} {tg e : Expr} {t u : TI} (h : PI X tg e t) (g : PI X tg e u) : PI X tg e (fun σ H R => t σ H R ∨ u σ H R) := ⟨fun pins s σ H R I q => q.elim (h.run pins s σ H R I) (g.run pins s σ H R I)⟩
def rngD (lo : Int) (n : Nat) : List D := (List.range n).map fun i => .int (lo + (i : Nat))
theorem rng_ok {K : PySem.W.Frag} {lo : Int} {n : Nat} {G : Hp} : ItOk K (Itr lo n) (rngD lo n) G := fun i H G' _ ge => by
  have hl : (rngD lo n).length = n := by simp [rngD]
  refine ⟨fun h => by rw [hl] at h; exact h, fun h => by rw [hl] at h; exact h, fun d x H' e ⟨y1, y2⟩ => ?_⟩
  subst y1 y2
  refine ⟨G', .refl ge, ?_⟩
  unfold rngD at e
  rw [List.getElem?_map] at e
  cases q : (List.range n)[i]? with
  | none => rw [q] at e; cases e
  | some j =>
    rw [q] at e
    cases e
    obtain ⟨h1, h2⟩ := List.getElem?_eq_some_iff.mp q
    rw [List.getElem_range] at h2
    subst h2
    rfl
theorem lst_ok {K : PySem.W.Frag} {a : Addr} {vs : List V} {ds : List D} {G : Hp} (h : G a = some (.lst vs)) (r : RpL K G ds vs) : ItOk K (Itl K a) ds G := fun i H G' ge gh => by
  have hH : SqL K H a vs := .inl (.inl (gh.at' _ _ (ge.at' _ _ h)))
  refine ⟨fun hi => ?_, fun hi => ⟨vs, hH, by rw [r.length]; exact hi⟩, fun d x H' e ⟨y1, y2⟩ => ?_⟩
  · obtain ⟨v, e1, _⟩ := r.get (List.getElem?_eq_getElem hi)
    exact ⟨vs, v, hH, e1⟩
  · subst y1
    obtain ⟨v, e1, e2⟩ := r.get e
    have := (y2 vs hH).symm.trans e1
    cases this
    exact ⟨G', .refl gh, e2.mono ge⟩
theorem tup_ok {K : PySem.W.Frag} {a : Addr} {vs : List V} {ds : List D} {G : Hp} (h : SqT K G a vs) (r : RpL K G ds vs) : ItOk K (Itt K a) ds G := fun i H G' ge gh => by
  have hH : SqT K H a vs := gh.t (ge.t h)
  refine ⟨fun hi => ?_, fun hi => ⟨vs, hH, by rw [r.length]; exact hi⟩, fun d x H' e ⟨y1, y2⟩ => ?_⟩
  · obtain ⟨v, e1, _⟩ := r.get (List.getElem?_eq_getElem hi)
    exact ⟨vs, v, hH, e1⟩
  · subst y1
    obtain ⟨v, e1, e2⟩ := r.get e
    have := (y2 vs hH).symm.trans e1
    cases this
    exact ⟨G', .refl gh, e2.mono ge⟩
def signsD (s : Str) : List D := s.cps.toList.map fun c => .str ⟨#[c]⟩
theorem str_ok {K : PySem.W.Frag} {s : Str} {G : Hp} : ItOk K (Its s) (signsD s) G := fun i H G' ge gh => by
  have hl : (signsD s).length = s.cps.size := by simp [signsD]
  refine ⟨fun h => by rw [hl] at h; exact h, fun h => by rw [hl] at h; exact h, fun d x H' e ⟨y1, c, y2, y3⟩ => ?_⟩
  subst y1 y3
  refine ⟨G', .refl gh, ?_⟩
  unfold signsD at e
  rw [List.getElem?_map] at e
  cases q : s.cps.toList[i]? with
  | none => rw [q] at e; cases e
  | some j =>
    rw [q] at e
    cases e
    rw [Array.getElem?_toList, y2] at q
    cases q
    exact ⟨rfl, by show 1 ≤ sizeLine; decide⟩
/-- pairs, each a new tuple -/
def zipD (xs ys : List D) : List D := (xs.zip ys).map fun p => .tuple [p.1, p.2]
theorem zipD_get {xs ys : List D} {i : Nat} {d : D} (h : (zipD xs ys)[i]? = some d) : ∃ x y, xs[i]? = some x ∧ ys[i]? = some y ∧ d = .tuple [x, y] := by
  unfold zipD at h
  rw [List.getElem?_map] at h
  cases q : (xs.zip ys)[i]? with
  | none => rw [q] at h; cases h
  | some p =>
    rw [q] at h
    cases h
    obtain ⟨h1, h2⟩ := List.getElem?_zip_eq_some.mp q
    exact ⟨p.1, p.2, h1, h2, rfl⟩
theorem pair_new {K : PySem.W.Frag} {H G : Hp} {T : Addr} {x y : V} {d e : D} (gh : Ex G H) (hT : H T = none) (r1 : Rp K G d x) (r2 : Rp K G e y) : ∃ G', Gro G H G' (upd H T (.tup [x, y])) ∧ Rp K G' (.tuple [d, e]) (.ref T) := by
  have gr := Gro.new (o := .tup [x, y]) gh hT
  exact ⟨_, gr, T, [x, y], rfl, .inl (.inl upd_same), x, [y], rfl, r1.mono gr.g, y, [], rfl, r2.mono gr.g, rfl⟩
theorem zip_ok {K : PySem.W.Frag} {a b : Addr} {vs us : List V} {ds es : List D} {G : Hp} (h : G a = some (.lst vs)) (h' : G b = some (.lst us)) (r : RpL K G ds vs) (r' : RpL K G es us) : ItOk K (Itz K a b) (zipD ds es) G := fun i H G' ge gh => by
  have hH : SqL K H a vs := .inl (.inl (gh.at' _ _ (ge.at' _ _ h)))
  have hH' : SqL K H b us := .inl (.inl (gh.at' _ _ (ge.at' _ _ h')))
  have hl : (zipD ds es).length = min ds.length es.length := by simp [zipD]
  refine ⟨fun hi => ?_, fun hi => ⟨vs, us, hH, hH', by rw [r.length, r'.length]; omega⟩, fun d x H' e ⟨T, x1, y1, e1, e2, e3, f1, f2⟩ => ?_⟩
  · obtain ⟨v, e1, _⟩ := r.get (List.getElem?_eq_getElem (show i < ds.length by omega))
    obtain ⟨u, e2, _⟩ := r'.get (List.getElem?_eq_getElem (show i < es.length by omega))
    exact ⟨vs, us, v, u, hH, hH', e1, e2⟩
  · subst e1 e3
    obtain ⟨p, q, g1, g2, rfl⟩ := zipD_get e
    obtain ⟨v, k1, k2⟩ := r.get g1
    obtain ⟨u, k3, k4⟩ := r'.get g2
    have := (f1 vs hH).symm.trans k1
    cases this
    have := (f2 us hH').symm.trans k3
    cases this
    exact pair_new gh e2 (k2.mono ge) (k4.mono ge)
theorem zipT_ok {K : PySem.W.Frag} {a b : Addr} {vs us : List V} {ds es : List D} {G : Hp} (h : SqT K G a vs) (h' : SqT K G b us) (r : RpL K G ds vs) (r' : RpL K G es us) : ItOk K (RZ.ItzT K a b) (zipD ds es) G := fun i H G' ge gh => by
  have hH : SqT K H a vs := gh.t (ge.t h)
  have hH' : SqT K H b us := gh.t (ge.t h')
  have hl : (zipD ds es).length = min ds.length es.length := by simp [zipD]
  refine ⟨fun hi => ?_, fun hi => ⟨vs, us, hH, hH', by rw [r.length, r'.length]; omega⟩, fun d x H' e ⟨T, x1, y1, e1, e2, e3, f1, f2⟩ => ?_⟩
  · obtain ⟨v, e1, _⟩ := r.get (List.getElem?_eq_getElem (show i < ds.length by omega))
    obtain ⟨u, e2, _⟩ := r'.get (List.getElem?_eq_getElem (show i < es.length by omega))
    exact ⟨vs, us, v, u, hH, hH', e1, e2⟩
  · subst e1 e3
    obtain ⟨p, q, g1, g2, rfl⟩ := zipD_get e
    obtain ⟨v, k1, k2⟩ := r.get g1
    obtain ⟨u, k3, k4⟩ := r'.get g2
    have := (f1 vs hH).symm.trans k1
    cases this
    have := (f2 us hH').symm.trans k3
    cases this
    exact pair_new gh e2 (k2.mono ge) (k4.mono ge)
def enumD (xs : List D) : List D := zipD (rngD 0 xs.length) xs
theorem enum_ok {K : PySem.W.Frag} {a : Addr} {vs : List V} {ds : List D} {G : Hp} (h : G a = some (.lst vs)) (r : RpL K G ds vs) : ItOk K (Ite K a) (enumD ds) G := fun i H G' ge gh => by
  have hH : SqL K H a vs := .inl (.inl (gh.at' _ _ (ge.at' _ _ h)))
  have hl : (enumD ds).length = ds.length := by simp [enumD, zipD, rngD]
  refine ⟨fun hi => ?_, fun hi => ⟨vs, hH, by rw [r.length]; omega⟩, fun d x H' e ⟨T, x1, e1, e2, e3, f1⟩ => ?_⟩
  · obtain ⟨v, e1, _⟩ := r.get (List.getElem?_eq_getElem (show i < ds.length by omega))
    exact ⟨vs, v, hH, e1⟩
  · subst e1 e3
    obtain ⟨p, q, g1, g2, rfl⟩ := zipD_get e
    obtain ⟨v, k1, k2⟩ := r.get g2
    have := (f1 vs hH).symm.trans k1
    cases this
    have hp : p = .int (i : Nat) := by
      unfold rngD at g1
      rw [List.getElem?_map] at g1
      cases z : (List.range ds.length)[i]? with
      | none => rw [z] at g1; cases g1
      | some j =>
        rw [z] at g1
        cases g1
        obtain ⟨h1, h2⟩ := List.getElem?_eq_some_iff.mp z
        rw [List.getElem_range] at h2
        subst h2
        show PyData.int (0 + (i : Int)) = _
        rw [Int.zero_add]
    subst hp
    exact pair_new gh e2 rfl (k2.mono ge)

section
variable {X : Cx} {W : WX} {tg e a b : Expr} {pu pa : Bool} {f : Env → Res Vl} {fs : Env → Res (List Vl)} {p pos : Pos}
/-- the items of a list, a tuple, a text -/
def itemsD : D → Option (List D)
  | .list xs => some xs
  | .tuple xs => some xs
  | .str s => some (signsD s)
  | _ => none
def itF (f : Env → Res Vl) : Env → Res (List D) := fun ρ => (f ρ).bind fun x ρ1 => (fzE x ρ1).bind fun d ρ2 => match itemsD d with
  | some xs => .ok xs ρ2
  | none => .bad
theorem pi_l (h : PE X e (tF X.K pu W f)) : PI X tg e (tI X.K W (itF f)) := by
  refine PI.imp (PI.or (pi_list h) (PI.or (pi_tup h) (pi_str h))) fun σ H R h => ?_
  obtain ⟨pn, G, ρ, fp, c, h⟩ := h
  cases ef : f ρ with
  | bad => unfold itF at h; rw [ef] at h; exact h.elim
  | ex C ρ1 =>
    unfold itF at h
    rw [ef] at h
    exact .inl ⟨pn, G, ρ, fp, c, by rw [ef]; exact h⟩
  | ok x ρ1 =>
    unfold itF at h
    rw [ef] at h
    have h : ((fzE x ρ1).bind fun d ρ2 => match itemsD d with | some xs => Res.ok xs ρ2 | none => .bad).sat _ _ := h
    cases ez : fzE x ρ1 with
    | bad => rw [ez] at h; exact h.elim
    | ex C ρ2 =>
      exfalso
      unfold fzE at ez
      split at ez
      · cases ez
      · cases ez
      · split at ez <;> cases ez
    | ok d ρ2 =>
      rw [ez] at h
      have go : ∀ (P : V → Hp → Prop), (∀ v H' G' fp', Fw G H fp G' H' fp' → Cor X.K pn σ H' G' ρ2 fp' → Rp X.K G' d v → P v H') → tF X.K pu W f σ H P := fun P q => by
        refine ⟨pn, G, ρ, fp, c, ?_⟩
        rw [ef]
        intro v H1 G1 fp1 fw1 p1 c1 vo
        obtain ⟨d', ρ3, G2, fp2, s, fw2, c2, r⟩ := c1.fz vo (g := fun y ρ => y = d ∧ ρ = ρ2) (e := fun _ _ => False) (by rw [ez]; exact ⟨rfl, rfl⟩)
        obtain ⟨rfl, rfl⟩ := s
        exact q v H1 G2 fp2 (fw1.trans fw2) c2 r
      cases d with
      | list ds =>
        refine .inl (go _ fun v H' G' fp' fw' c' r => ?_)
        obtain ⟨a, vs, e1, e2, r⟩ := r
        exact ⟨a, e1, ⟨vs, .inl (.inl (c'.ex.at' _ _ e2))⟩, h _ H' G' fp' fw' c' (lst_ok e2 r)⟩
      | tuple ds =>
        refine .inr (.inl (go _ fun v H' G' fp' fw' c' r => ?_))
        obtain ⟨a, vs, e1, e2, r⟩ := r
        exact ⟨a, e1, ⟨vs, c'.ex.t e2⟩, h _ H' G' fp' fw' c' (tup_ok e2 r)⟩
      | str s =>
        refine .inr (.inr (go _ fun v H' G' fp' fw' c' r => ?_))
        exact ⟨s, r.1, h _ H' G' fp' fw' c' str_ok⟩
      | _ => exact h.elim
/-- range -/
def rgOk (i : Int) : Bool := decide (-(2 ^ 62) ≤ i ∧ i < 2 ^ 62)
def rg1 (ds : List D) : Option (List D) := match ds with
  | [.int j] => if rgOk j = true then some (rngD 0 j.toNat) else none
  | _ => none
def rg2 (ds : List D) : Option (List D) := match ds with
  | [.int i, .int j] => if rgOk i = true ∧ rgOk j = true then some (rngD i (j - i).toNat) else none
  | _ => none
def argF (k : List D → Option (List D)) (fs : Env → Res (List Vl)) : Env → Res (List D) := fun ρ => (fs ρ).bind fun xs ρ1 => (fzs xs ρ1).bind fun ds ρ2 => match k ds with
  | some is => .ok is ρ2
  | none => .bad
theorem tV.arg {K : PySem.W.Frag} {k : List D → Option (List D)} {σ : L2.St} {H : Hp} {R : It → Hp → Prop} {P : List V → Hp → Prop} (h : tI K W (argF k fs) σ H R)
    (q : ∀ (ds is : List D) (vs : List V) (H' G' : Hp), k ds = some is → RpL K G' ds vs → Ex G' H' → (∀ J, ItOk K J is G' → R J H') → P vs H') : tV K pa W fs σ H P := by
  obtain ⟨pn, G, ρ, fp, c, h⟩ := h
  refine ⟨pn, G, ρ, fp, c, (Res.sat_bind h).imp (fun xs ρ1 h vs H1 G1 fp1 fw1 p1 c1 vo => ?_) fun _ _ h => h⟩
  obtain ⟨ds, ρ2, G2, fp2, s, fw2, c2, r⟩ := c1.fzs vo (Res.sat_bind h)
  cases ek : k ds with
  | none => simp only [ek] at s; exact s.elim
  | some is =>
    simp only [ek] at s
    exact q ds is vs H1 G2 ek r c2.ex fun J hJ => s J H1 G2 fp2 (fw1.trans fw2) c2 hJ
theorem pi_r1 (hg : Gl X "range") (hm : X.mg "range" = none) (ha : PA X [a] (tV X.K pa W fs)) (hs : starEach [a] X.env = [(false, eval a X.env)] := by rfl) : PI X tg (.Call (.Name "range" p) [a] [] pos) (tI X.K W (argF rg1 fs)) := by
  refine PI.imp (pi_range1 hg hm ha hs) fun σ H R h => tV.arg h fun ds is vs H' G' e r gh q => ?_
  unfold rg1 at e
  split at e
  · rename_i j
    split at e
    · rename_i hj
      cases e
      obtain ⟨v, w, e1, e2, e3⟩ := r
      cases e2; cases e3; subst e1
      have := of_decide_eq_true hj
      exact ⟨j, rfl, this.1, this.2, q _ rng_ok⟩
    · cases e
  · cases e
theorem pi_r2 (hg : Gl X "range") (hm : X.mg "range" = none) (ha : PA X [a, b] (tV X.K pa W fs)) (hs : starEach [a, b] X.env = [(false, eval a X.env), (false, eval b X.env)] := by rfl) (hs2 : starEach [b] X.env = [(false, eval b X.env)] := by rfl) :
    PI X tg (.Call (.Name "range" p) [a, b] [] pos) (tI X.K W (argF rg2 fs)) := by
  refine PI.imp (pi_range2 hg hm ha hs hs2) fun σ H R h => tV.arg h fun ds is vs H' G' e r gh q => ?_
  unfold rg2 at e
  split at e
  · rename_i i j
    split at e
    · rename_i hj
      cases e
      obtain ⟨v, w, e1, e2, v2, w2, e3, e4, e5⟩ := r
      cases e2; cases e4; cases e5; subst e3 e1
      have h1 := of_decide_eq_true hj.1
      have h2 := of_decide_eq_true hj.2
      exact ⟨i, j, rfl, ⟨h1.1, h1.2, h2.1, h2.2⟩, q _ rng_ok⟩
    · cases e
  · cases e
/-- zip, enumerate -/
def zip2 (ds : List D) : Option (List D) := match ds with
  | [.list xs, .list ys] => some (zipD xs ys)
  | [.tuple xs, .tuple ys] => some (zipD xs ys)
  | _ => none
def enum1 (ds : List D) : Option (List D) := match ds with
  | [.list xs] => some (enumD xs)
  | _ => none
variable {elts : List Expr} {kk : Nat} {tpos : Pos}
theorem pi_z (hg : Gl X "zip") (hm : X.mg "zip" = none) (ha : PA X [a, b] (tV X.K pa W fs))
    (hs : starEach [a, b] X.env = (false, eval a X.env) :: starEach [b] X.env := by rfl) (hpl : (backTo pos (starEach [b] X.env)).any (·.1) = false := by rfl) : PI X (.Tuple elts kk tpos) (.Call (.Name "zip" p) [a, b] [] pos) (tI X.K W (argF zip2 fs)) := by
  refine PI.imp (RZ.pi_zipA hg hm ha hs hpl) fun σ H R h => tV.arg h fun ds is vs H' G' e r gh q => ?_
  unfold zip2 at e
  split at e
  · cases e
    obtain ⟨v, w, e1, ⟨p1, us, e2, e3, e4⟩, v2, w2, e5, ⟨p2, us2, e6, e7, e8⟩, e9⟩ := r
    cases e9; subst e6 e5 e2 e1
    exact ⟨p1, p2, us, us2, rfl, .inl ⟨.inl (.inl (gh.at' _ _ e3)), .inl (.inl (gh.at' _ _ e7)), q _ (zip_ok e3 e7 e4 e8)⟩⟩
  · cases e
    obtain ⟨v, w, e1, ⟨p1, us, e2, e3, e4⟩, v2, w2, e5, ⟨p2, us2, e6, e7, e8⟩, e9⟩ := r
    cases e9; subst e6 e5 e2 e1
    exact ⟨p1, p2, us, us2, rfl, .inr ⟨gh.t e3, gh.t e7, q _ (zipT_ok e3 e7 e4 e8)⟩⟩
  · cases e
theorem pi_e (hg : Gl X "enumerate") (hm : X.mg "enumerate" = none) (ha : PA X [a] (tV X.K pa W fs)) (hs : starEach [a] X.env = [(false, eval a X.env)] := by rfl) :
    PI X (.Tuple elts kk tpos) (.Call (.Name "enumerate" p) [a] [] pos) (tI X.K W (argF enum1 fs)) := by
  refine PI.imp (pi_enum hg hm ha hs) fun σ H R h => tV.arg h fun ds is vs H' G' e r gh q => ?_
  unfold enum1 at e
  split at e
  · cases e
    obtain ⟨v, w, e1, ⟨p1, us, e2, e3, e4⟩, e5⟩ := r
    cases e5; subst e2 e1
    exact ⟨p1, us, rfl, .inl (.inl (gh.at' _ _ e3)), q _ (enum_ok e3 e4)⟩
  · cases e
end
end Mo

/-! Mo6: list comprehensions. -/
namespace Mo
variable [Tabs]
open PySem PySem.Spec PyProof.Rows L2

/-! ### slots that own nothing, put aside and back -/
def Light (s : Slot) : Prop := s = .un ∨ ∃ x, s = .v (.lf x)
def Fits (K : PySem.W.Frag) (G : Hp) (s : Slot) (o : Option V) : Prop := s = .un ∨ ∃ x w, s = .v (.lf x) ∧ o = some w ∧ Rp K G x w
section
variable {K : PySem.W.Frag} {G H : Hp}
theorem Slots.cons_fit {ρ : Env} {r : L2.St} {fp : List Addr} {s : Slot} {o : Option V} (h : Slots K G H ρ r fp) (f : Fits K G s o) : Slots K G H (s :: ρ) (o :: r) fp := by
  rcases f with e | ⟨x, w, e1, e2, e3⟩
  · subst e; exact ⟨o, r, rfl, h⟩
  · subst e1 e2; exact ⟨w, r, [], fp, rfl, rfl, ⟨rfl, e3⟩, h⟩
theorem Slots.swap : ∀ {ρ : Env} {σ : L2.St} {fp : List Addr} {v : Nat} {s0 s : Slot} {o : Option V}, Slots K G H ρ σ fp → ρ[v]? = some s0 → Light s0 → Fits K G s o → Slots K G H (ρ.set v s) (σ.set v o) fp
  | [], _, _, v, _, _, _, _, h, _, _ => by simp at h
  | .un :: ρ, _, _, 0, _, _, _, ⟨x, r, e, h⟩, _, _, f => by subst e; exact h.cons_fit f
  | .un :: ρ, _, _, v + 1, _, _, _, ⟨x, r, e, h⟩, q, l, f => by subst e; exact ⟨x, _, rfl, Slots.swap h (by simpa using q) l f⟩
  | .raw ns :: ρ, _, _, 0, s0, _, _, _, q, l, _ => by
    have : Slot.raw ns = s0 := by simpa using q
    subst this
    rcases l with z | ⟨x, z⟩ <;> cases z
  | .raw ns :: ρ, _, _, v + 1, _, _, _, ⟨x, r, e, q0, h⟩, q, l, f => by subst e; exact ⟨x, _, rfl, q0, Slots.swap h (by simpa using q) l f⟩
  | .v t :: ρ, _, _, 0, s0, _, _, ⟨w, r, f1, f2, e1, e2, o, h⟩, q, l, f => by
    have : Slot.v t = s0 := by simpa using q
    subst this e1 e2
    rcases l with z | ⟨x, z⟩
    · cases z
    · cases z
      obtain ⟨o1, _⟩ := o
      subst o1
      exact h.cons_fit f
  | .v t :: ρ, _, _, v + 1, _, _, _, ⟨w, r, f1, f2, e1, e2, o, h⟩, q, l, f => by subst e1; exact ⟨w, _, f1, f2, rfl, e2, o, Slots.swap h (by simpa using q) l f⟩
  | .io t :: ρ, _, _, 0, s0, _, _, _, q, l, _ => by
    have : Slot.io t = s0 := by simpa using q
    subst this
    rcases l with z | ⟨x, z⟩ <;> cases z
  | .io t :: ρ, _, _, v + 1, _, _, _, ⟨w, r, f1, f2, e1, e2, o, h⟩, q, l, f => by subst e1; exact ⟨w, _, f1, f2, rfl, e2, o, Slots.swap h (by simpa using q) l f⟩
theorem Cor.swap {pn : List (Nat × V)} {σ : L2.St} {ρ : Env} {fp : List Addr} {v : Nat} {s0 s : Slot} {o : Option V} (c : Cor K pn σ H G ρ fp) (q : ρ[v]? = some s0) (l : Light s0) (f : Fits K G s o) : Cor K pn (σ.set v o) H G (ρ.set v s) fp := by
  refine ⟨c.ex, c.sl.swap q l f, c.nd, fun p hp => ?_, c.tb⟩
  obtain ⟨p1, t, p2⟩ := c.pn p hp
  have ne : v ≠ p.1 := fun z => by
    rw [z, p2] at q
    have := Option.some.inj q
    subst this
    rcases l with z | ⟨x, z⟩ <;> cases z
  exact ⟨by rw [List.getElem?_set_ne ne]; exact p1, t, by rw [List.getElem?_set_ne ne]; exact p2⟩
end
def drop1 (ρ : Env) (v : Nat) : Option Env := match ρ[v]? with
  | some .un => some ρ
  | some (.v (.lf _)) => some (ρ.set v .un)
  | _ => none
def dropE (ρ : Env) : List Nat → Option Env
  | [] => some ρ
  | v :: vs => match dropE ρ vs with
    | some ρ1 => drop1 ρ1 v
    | none => none
def restE (ρ0 : Env) : Env → List Nat → Env
  | ρ, [] => ρ
  | ρ, v :: vs => match ρ0[v]? with
    | some s => restE ρ0 (ρ.set v s) vs
    | none => ρ
section
variable {K : PySem.W.Frag} {G H G' H' : Hp} {pn : List (Nat × V)} {σ : L2.St} {ρ ρ1 : Env} {fp fp' : List Addr}
theorem drop1_un {ρ ρ1 : Env} {v : Nat} (h : drop1 ρ v = some ρ1) : ρ1 = ρ.set v .un ∧ ∃ s, ρ[v]? = some s ∧ Light s := by
  unfold drop1 at h
  split at h
  · rename_i q
    cases h
    exact ⟨(set_same q).symm, _, q, .inl rfl⟩
  · rename_i x q
    cases h
    exact ⟨rfl, _, q, .inr ⟨x, rfl⟩⟩
  · cases h
theorem Cor.drop (c : Cor K pn σ H G ρ fp) : ∀ {vs : List Nat} {ρb : Env}, dropE ρ vs = some ρb → Cor K pn (wipe σ vs) H G ρb fp ∧ ∀ v ∈ vs, ρb[v]? = some .un
  | [], _, h => by cases h; exact ⟨c, fun _ h => nomatch h⟩
  | v :: vs, ρb, h => by
    unfold dropE at h
    cases e : dropE ρ vs with
    | none => simp only [e] at h; cases h
    | some ρ1 =>
      simp only [e] at h
      obtain ⟨c1, u1⟩ := c.drop e
      obtain ⟨e2, s, q, l⟩ := drop1_un h
      subst e2
      refine ⟨c1.swap (o := none) q l (.inl rfl), fun w hw => ?_⟩
      have hv : v < ρ1.length := (List.getElem?_eq_some_iff.mp q).1
      by_cases z : v = w
      · subst z; rw [List.getElem?_set_self hv]
      · rw [List.getElem?_set_ne z]
        exact u1 w ((List.mem_cons.mp hw).elim (fun y => absurd y.symm z) id)
theorem dropE_light : ∀ {vs : List Nat} {ρb : Env}, dropE ρ vs = some ρb → ∀ v ∈ vs, vs.Nodup → ∃ s, ρ[v]? = some s ∧ Light s
  | [], _, _, v, hv, _ => by cases hv
  | w :: vs, ρb, h, v, hv, nd => by
    obtain ⟨n1, n2⟩ := List.nodup_cons.mp nd
    unfold dropE at h
    cases e : dropE ρ vs with
    | none => simp only [e] at h; cases h
    | some ρ1 =>
      simp only [e] at h
      rcases List.mem_cons.mp hv with z | z
      · subst z
        obtain ⟨e2, s, q, l⟩ := drop1_un h
        refine ⟨s, ?_, l⟩
        -- the places of the others were changed alone
        have keep : ∀ {vs : List Nat} {ρ1 : Env}, dropE ρ vs = some ρ1 → v ∉ vs → ρ1[v]? = ρ[v]? := by
          intro vs
          induction vs with
          | nil => intro ρ1 h _; cases h; rfl
          | cons u us ih =>
            intro ρ1 h hn
            unfold dropE at h
            cases e3 : dropE ρ us with
            | none => simp only [e3] at h; cases h
            | some ρ3 =>
              simp only [e3] at h
              obtain ⟨e4, _⟩ := drop1_un h
              subst e4
              rw [List.getElem?_set_ne (fun z => hn (by rw [z]; exact List.mem_cons_self))]
              exact ih e3 fun z => hn (List.mem_cons_of_mem _ z)
        rw [← keep e n1]; exact q
      · exact dropE_light e v z n2
theorem Slots.fit {ρ : Env} {σ : L2.St} {fp : List Addr} {v : Nat} {s : Slot} (h : Slots K G H ρ σ fp) (q : ρ[v]? = some s) (l : Light s) : ∃ o, σ[v]? = some o ∧ Fits K G s o := by
  rcases l with z | ⟨x, z⟩
  · subst z
    have hl : v < σ.length := by rw [h.len]; exact (List.getElem?_eq_some_iff.mp q).1
    exact ⟨_, List.getElem?_eq_getElem hl, .inl rfl⟩
  · subst z
    obtain ⟨w, f0, f1, f2, a1, a2, a3, _⟩ := Slots.at (t := .lf x) h q rfl
    exact ⟨some w, a1, .inr ⟨x, w, rfl, rfl, a3.2⟩⟩
theorem Fits.mono {s : Slot} {o : Option V} (e : Ex G G') (f : Fits K G s o) : Fits K G' s o := by
  rcases f with z | ⟨x, w, e1, e2, e3⟩
  · exact .inl z
  · exact .inr ⟨x, w, e1, e2, e3.mono e⟩
theorem Cor.rest (ge : Ex G G') (sl : Slots K G H ρ σ fp) : ∀ {vs : List Nat} {ρ2 : Env}, vs.Nodup → (∀ v ∈ vs, ∃ s, ρ[v]? = some s ∧ Light s) → Cor K pn (wipe σ vs) H' G' ρ2 fp' → (∀ v ∈ vs, ρ2[v]? = some .un) → Cor K pn σ H' G' (restE ρ ρ2 vs) fp'
  | [], _, _, _, c, _ => c
  | v :: vs, ρ2, nd, li, c, un => by
    obtain ⟨n1, n2⟩ := List.nodup_cons.mp nd
    obtain ⟨s, q, l⟩ := li v List.mem_cons_self
    obtain ⟨o, q2, f⟩ := sl.fit q l
    have c1 := c.swap (un v List.mem_cons_self) (.inl rfl) (f.mono ge)
    have e1 : (wipe σ (v :: vs)).set v o = wipe σ vs := by
      show ((wipe σ vs).set v none).set v o = _
      rw [List.set_set]
      exact set_same (by rw [wipe_out n1]; exact q2)
    rw [e1] at c1
    have e2 : restE ρ ρ2 (v :: vs) = restE ρ (ρ2.set v s) vs := by
      show (match ρ[v]? with | some s => restE ρ (ρ2.set v s) vs | none => ρ2) = _
      rw [q]
    rw [e2]
    refine Cor.rest ge sl n2 (fun w hw => li w (List.mem_cons_of_mem _ hw)) c1 fun w hw => ?_
    rw [List.getElem?_set_ne (fun z => n1 (by rw [z]; exact hw))]
    exact un w (List.mem_cons_of_mem _ hw)
theorem wipe_keep {σ σ2 : L2.St} {ix : List Nat} : ∀ {vs : List Nat}, σ2.length = σ.length → (∀ j, j ∉ ix → σ2[j]? = σ[j]?) → (∀ i ∈ ix, i ∈ vs) → wipe σ2 vs = wipe σ vs := by
  intro vs hl hk hv
  apply List.ext_getElem?
  intro j
  by_cases h : j ∈ vs
  · have key : ∀ (τ : L2.St) (vs : List Nat), j ∈ vs → (wipe τ vs)[j]? = if j < τ.length then some none else none := by
      intro τ vs
      induction vs with
      | nil => intro h; cases h
      | cons u us ih =>
        intro h
        show ((wipe τ us).set u none)[j]? = _
        by_cases z : u = j
        · subst z
          by_cases hj : u < τ.length
          · rw [if_pos hj, List.getElem?_set_self (by rw [wipe_length]; exact hj)]
          · rw [if_neg hj]
            exact List.getElem?_eq_none (by rw [List.length_set, wipe_length]; omega)
        · rw [List.getElem?_set_ne z]
          exact ih ((List.mem_cons.mp h).elim (fun y => absurd y.symm z) id)
    rw [key σ2 vs h, key σ vs h, hl]
  · rw [wipe_out h, wipe_out h]
    exact hk j fun z => h (hv j z)
/-- a tree that no one else owns stays over a step -/
theorem Fw.own {fq : List Addr} {t : OT} {v : V} (fw : Fw G H fp G' H' fp') (o : Own K G H t v fq) (nd : (fp ++ fq).Nodup) (nd' : fp'.Nodup) : Own K G' H' t v fq ∧ (fp' ++ fq).Nodup := by
  obtain ⟨m1, m2, m3⟩ := List.nodup_append.mp nd
  have out : ∀ a ∈ fq, a ∉ fp := fun a ha hb => m3 a hb a ha rfl
  refine ⟨o.frame fw.ex (fun a ha => ?_) (fun a ha => ?_), List.nodup_append.mpr ⟨nd', m2, fun a ha b hb z => ?_⟩⟩
  · obtain ⟨_, vs, h⟩ := o.there a ha
    rw [h]; exact fw.fr a _ h (out a ha)
  · obtain ⟨n, vs, h⟩ := o.there a ha
    cases q : G' a with
    | none => rfl
    | some u =>
      rcases fw.ng a u q with z | z | z
      · rw [n] at z; cases z
      · rw [h] at z; cases z
      · exact absurd z (out a ha)
  · subst z
    obtain ⟨_, vs, h⟩ := o.there a hb
    rcases fw.nf a ha with z | z
    · exact out a hb z
    · rw [h] at z; cases z
end

/-! ### the comprehension -/
def compGo (vs : List Nat) (tg : D → Env → Option Env) (tt : Env → Res Bool) (te : Env → Res OT) : List D → Env → List OT → Res (List OT)
  | [], ρ, acc => .ok acc ρ
  | d :: ds, ρ, acc => match tg d ρ with
    | none => .bad
    | some ρ1 => match tt ρ1 with
      | .ok true ρ2 => match te ρ2 with
        | .ok t ρ3 => match dropE ρ3 vs with
          | some ρ4 => if acc.length < sizeLine then compGo vs tg tt te ds ρ4 (acc ++ [t]) else .bad
          | none => .bad
        | _ => .bad
      | .ok false ρ2 => match dropE ρ2 vs with
        | some ρ4 => compGo vs tg tt te ds ρ4 acc
        | none => .bad
      | _ => .bad
def compF (vs : List Nat) (it : Env → Res (List D)) (tg : D → Env → Option Env) (tt : Env → Res Bool) (te : Env → Res OT) : Env → Res OT := fun ρ => (it ρ).bind fun items ρ1 => match dropE ρ1 vs with
  | some ρb => match compGo vs tg tt te items ρb [] with
    | .ok acc ρ2 => .ok (.ls acc) (restE ρ1 ρ2 vs)
    | _ => .bad
  | none => .bad
abbrev W0 : WX := fun _ _ _ _ => False
def yesF : Env → Res Bool := fun ρ => .ok true ρ
theorem PTs.imp {X : Cx} {e : List Expr} {t u : TT} (h : PTs X e t) (i : ∀ σ H Q, u σ H Q → t σ H Q) : PTs X e u := ⟨fun pins s σ H Q I q => h.run pins s σ H Q I (i σ H Q q)⟩
theorem pts_n {X : Cx} {W : WX} : PTs X [] (tT X.K true W yesF) := PTs.imp pts_nil fun σ H Q ⟨pn, G, ρ, fp, c, h⟩ => h H G fp .refl (fun _ => .refl _) c
section
variable {K : PySem.W.Frag} {W : WX} {it : Env → Res (List D)} {tgf : D → Env → Option Env} {tt : Env → Res Bool} {te : Env → Res OT} {ix vs : List Nat} {pt pe : Bool} {σ : L2.St} {H : Hp} {Q : VK}
theorem tO.comp (nd : vs.Nodup) (hix : ∀ i ∈ ix, i ∈ vs) (h : tO K false W (compF vs it tgf tt te) σ H Q) : tLc (tI K W it) (tG K ix tgf) (tT K pt W0 tt) (tO K pe W0 te) vs σ H Q := by
  obtain ⟨pn, G, ρ, fp, c, h⟩ := h
  refine ⟨pn, G, ρ, fp, c, (Res.sat_bind h).imp (fun items ρ1 h J H1 G1 fp1 fw1 c1 jo => ?_) fun _ _ h => h⟩
  intro D hD
  cases ed : dropE ρ1 vs with
  | none => simp only [ed] at h; exact h.elim
  | some ρb =>
    cases ec : compGo vs tgf tt te items ρb [] with
    | bad => simp only [ed, ec] at h; exact h.elim
    | ex C ρ2 => simp only [ed, ec] at h; exact h.elim
    | ok acc ρ2 =>
      simp only [ed, ec] at h
      have h : OkO K false pn σ H G fp Q (.ls acc) (restE ρ1 ρ2 vs) := h
      obtain ⟨cb, ub⟩ := c1.drop ed
      have gD : G1 D = none := c1.ex.none hD
      obtain ⟨s1, s2, s3, s4⟩ := cb.newList (ts := []) (vs := []) (fq := []) hD ⟨rfl, rfl⟩ (by simpa using cb.nd)
      refine ⟨fun i m Hc => m = items.length - i ∧ ∃ Gc ρc fpc accc fq, Cor K pn (wipe σ vs) Hc Gc ρc fpc ∧ (∀ v ∈ vs, ρc[v]? = some .un) ∧ Own K Gc Hc (.ls accc) (.ref D) (D :: fq) ∧ (fpc ++ (D :: fq)).Nodup ∧ (∀ a ∈ D :: fq, H1 a = none) ∧
        Fw G1 H1 fp1 Gc Hc fpc ∧ compGo vs tgf tt te (items.drop i) ρc accc = .ok acc ρ2, ⟨_, rfl, G1, ρb, fp1, [], [], s2, ub, s3, s4, fun a ha => ?_, s1, ec⟩, ?_⟩
      · have : a = D := by simpa using ha
        rw [this]; exact hD
      rintro i m Hc ⟨rfl, Gc, ρc, fpc, accc, fq, cc, uc, oc, nc, hc, fwc, ec2⟩
      obtain ⟨j1, j2, j3⟩ := jo i Hc Gc fwc.ex cc.ex
      by_cases hi : i < items.length
      · refine .inr ⟨j1 hi, _, fun H' p => ⟨items.length - (i + 1), by omega, rfl, p⟩, fun x H' y => ?_⟩
        obtain ⟨G', gr, rx⟩ := j3 _ x H' (List.getElem?_eq_getElem hi) y
        rw [List.drop_eq_getElem_cons hi] at ec2
        have c' := cc.gro gr
        have fw' : Fw Gc Hc fpc G' H' fpc := gr.fw
        obtain ⟨o', n'⟩ := fw'.own oc nc cc.nd
        unfold compGo at ec2
        cases e1 : tgf items[i] ρc with
        | none => simp only [e1] at ec2; cases ec2
        | some ρt =>
          simp only [e1] at ec2
          refine ⟨pn, G', ρc, fpc, items[i], ρt, c', rx, e1, fun σ2 fp2 sub keep len c2 => ⟨wipe_keep (by rw [len]) keep hix |>.trans ?_, ?_⟩⟩
          · -- wiped twice
            apply List.ext_getElem?
            intro j
            by_cases hj : j ∈ vs
            · have key : ∀ (τ : L2.St), wipe (wipe τ vs) vs = wipe τ vs := fun τ => by
                refine wipe_keep (ix := vs) (wipe_length _ _) (fun j hj => wipe_out hj) fun _ h => h
              rw [key]
            · rw [wipe_out hj]
          have wk : wipe σ2 vs = wipe σ vs := by
            refine (wipe_keep (by rw [len]) keep hix).trans ?_
            exact wipe_keep (ix := vs) (wipe_length _ _) (fun j hj => wipe_out hj) fun _ h => h
          have fws : Fw G' H' fpc G' H' fp2 := ⟨.refl _, fun _ _ h _ _ => h, fun a ha => .inl (sub a ha), fun _ _ h => .inl h, fun _ o h => ⟨o, h⟩, fun _ ps h => ⟨ps, h, id⟩⟩
          obtain ⟨o2, n2⟩ := fws.own o' n' c2.nd
          refine ⟨pn, G', ρt, fp2, c2, ?_⟩
          cases e2 : tt ρt with
          | bad => simp only [e2] at ec2; cases ec2
          | ex C ρ3 => simp only [e2] at ec2; cases ec2
          | ok b ρ3 =>
            intro H3 G3 fp3 fw3 p3 c3
            obtain ⟨o3, n3⟩ := fw3.own o2 n2 c3.nd
            have fwA := ((fwc.trans fw').trans fws).trans fw3
            cases b with
            | false =>
              rw [if_neg Bool.false_ne_true]
              simp only [e2] at ec2
              cases e3 : dropE ρ3 vs with
              | none => simp only [e3] at ec2; cases ec2
              | some ρ4 =>
                simp only [e3] at ec2
                obtain ⟨c4, u4⟩ := c3.drop e3
                rw [wk] at c4
                exact ⟨G3, ρ4, fp3, accc, fq, c4, u4, o3, n3, hc, fwA, ec2⟩
            | true =>
              rw [if_pos rfl]
              simp only [e2] at ec2
              refine ⟨pn, G3, ρ3, fp3, c3, ?_⟩
              cases e4 : te ρ3 with
              | bad => simp only [e4] at ec2; cases ec2
              | ex C ρ5 => simp only [e4] at ec2; cases ec2
              | ok t ρ5 =>
                simp only [e4] at ec2
                intro y H4 G4 fp4 fq4 fw4 p4 c4 o4 nd4 fr4
                cases e5 : dropE ρ5 vs with
                | none => simp only [e5] at ec2; cases ec2
                | some ρ6 =>
                  by_cases hz : accc.length < sizeLine
                  · simp only [e5, if_pos hz] at ec2
                    obtain ⟨o5, n5⟩ := fw4.own o3 n3 c4.nd
                    obtain ⟨D', us, fq', z1, z2, z3, z4, z5⟩ := o5
                    cases z1
                    cases z2
                    refine ⟨us, z3, by rw [z5.length]; exact hz, ?_⟩
                    have nD4 : D ∉ fp4 := fun q => (List.nodup_append.mp n5).2.2 D q D (by simp) rfl
                    have nDq : D ∉ fq := (List.nodup_cons.mp (List.nodup_append.mp n5).2.1).1
                    have hD3 : H3 D ≠ none := by
                      obtain ⟨_, us', z⟩ := o3.there D (by simp)
                      rw [z]; intro q; cases q
                    have nDf : D ∉ fq4 := fun q => hD3 (fr4 D q)
                    have gD4 : G4 D = none := z4
                    obtain ⟨c6, u6⟩ := c4.drop e5
                    rw [wk] at c6
                    refine ⟨G4, ρ6, fp4, accc ++ [t], fq ++ fq4, ⟨c4.ex.put gD4, c6.sl.frame (.refl _) (fun a ha => upd_ne (fun q => nD4 (q ▸ ha))) (fun a ha => (c6.sl.there a ha).1), c6.nd, c6.pn, c4.tb.put (by rw [z3]; nofun)⟩, u6, ?_, ?_, ?_, ?_, ec2⟩
                    · refine ⟨D, us ++ [y], fq ++ fq4, rfl, rfl, upd_same, gD4, Owns.append (z5.frame (.refl _) (fun a ha => upd_ne fun q => nDq (q ▸ ha)) fun a ha => (z5.there a ha).1) (Owns.one (o4.frame (.refl _) (fun a ha => upd_ne fun q => nDf (q ▸ ha)) fun a ha => (o4.there a ha).1))⟩
                    · -- no cell twice
                      obtain ⟨m1, m2, m3⟩ := List.nodup_append.mp n5
                      obtain ⟨k1, k2, k3⟩ := List.nodup_append.mp nd4
                      refine List.nodup_append.mpr ⟨m1, List.nodup_cons.mpr ⟨fun q => (List.mem_append.mp q).elim nDq nDf, List.nodup_append.mpr ⟨(List.nodup_cons.mp m2).2, k2, fun a ha b hb q => ?_⟩⟩, fun a ha b hb q => ?_⟩
                      · subst q
                        obtain ⟨_, us', z⟩ := o3.there a (by simp [ha])
                        rw [fr4 a hb] at z; cases z
                      · rcases List.mem_cons.mp hb with z | z
                        · exact m3 a ha b (by simp [z]) q
                        · rcases List.mem_append.mp z with z | z
                          · exact m3 a ha b (by simp [z]) q
                          · exact k3 a ha b z q
                    · intro a ha
                      rcases List.mem_cons.mp ha with q | q
                      · exact hc a (by simp [q])
                      · rcases List.mem_append.mp q with z | z
                        · exact hc a (by simp [z])
                        · exact fwA.none (fr4 a z)
                    · have fwB := fwA.trans fw4
                      refine ⟨fwB.ex, fun a o q n k => ?_, fwB.nf, fwB.ng, fun a o q => ?_, fun a ps q => ?_⟩
                      · rw [upd_ne (ne_of_none q (hc D (by simp)))]; exact fwB.fr a o q n k
                      · rw [upd_ne (ne_of_none q (hc D (by simp)))]; exact fwB.th a o q
                      · rw [upd_ne (ne_of_none q (hc D (by simp)))]; exact fwB.tb a ps q
                  · simp only [e5, if_neg hz] at ec2; cases ec2
      · refine .inl ⟨j2 (by omega), ?_⟩
        rw [List.drop_eq_nil_of_le (by omega)] at ec2
        have ec2 : Res.ok accc ρc = Res.ok acc ρ2 := ec2
        cases ec2
        have cr := Cor.rest (pn := pn) (σ := σ) (H' := Hc) (fp' := fpc) (vs := vs) fwc.ex c1.sl nd (fun v hv => dropE_light ed v hv nd) cc uc
        exact h _ Hc Gc fpc (D :: fq) (fw1.trans fwc) (fun z => by cases z) cr oc nc fun a ha => fw1.none (hc a ha)
end
section
variable {X : Cx} {W : WX} {elt tg iter : Expr} {ifs : List Expr} {scope : Scope} {own : List (Str × Nat)} {pos : Pos} {it : Env → Res (List D)} {tgf : D → Env → Option Env} {tt : Env → Res Bool} {te : Env → Res OT} {ix : List Nat} {pt pe : Bool}
/-- [elt for tg in iter if ..] -/
theorem pb_lc (own : List (Str × Nat)) (hc : X.calm = true) (hN : X.N.Nodup) (hi : PI X tg iter (tI X.K W it)) (ok : BlkOk X.N X.env.scope scope own) (hg : ∀ (s : Shared) (H : Hp) (C : Addr) (cl : List (Str × Addr)) (fp : List Addr), PG (X.blk s H scope (compEnvC scope cl C X.env) fp) tg (tG X.K ix tgf))
    (ht : ∀ (s : Shared) (H : Hp) (C : Addr) (cl : List (Str × Addr)) (fp : List Addr), PTs (X.blk s H scope (compEnvC scope cl C X.env) fp) ifs (tT X.K pt W0 tt))
    (he : ∀ (s : Shared) (H : Hp) (C : Addr) (cl : List (Str × Addr)) (fp : List Addr), PE (X.blk s H scope (compEnvC scope cl C X.env) fp) elt (tO X.K pe W0 te)) (nd : (own.map (·.2)).Nodup := by decide) (hix : ∀ i ∈ ix, i ∈ own.map (·.2) := by decide)
    (hs : ∀ x, foldedSetIterable iter X.env x = pure x := by intro _; rfl) :
    PE X (.ListComp elt [⟨tg, iter, ifs, 0⟩] scope pos) (tO X.K false W (compF (own.map (·.2)) it tgf tt te)) :=
  PE.imp (pe_lc hc hN hi ok hg ht he hs) fun _ _ _ h => tO.comp nd hix h
end
end Mo

/-! Mo7: subscripts, slices, built-in calls, methods of texts, calls of defs. -/
namespace Mo
variable [Tabs]
open PySem PySem.Spec PyProof.Rows L2

/-! ### subscripts -/
def slotT (ρ : Env) (i : Nat) : Option OT := match ρ[i]? with
  | some s => s.ot
  | none => none
def ixF (pb : Bool) (f g : Env → Res Vl) : Env → Res Vl := fun ρ => (f ρ).bind fun x ρ1 => (g ρ1).bind fun y ρ2 =>
  match stays pb x, vw ρ2 y with
  | true, some b => match vw ρ2 x with
    | some a => match oItem a b with
      | some c => .ok (.d c) ρ2
      | none => .bad
    | none => match x, b with
      | .r i, .int k => match slotT ρ2 i with
        | some (.ls ts) => match atI ts k with
          | some (.lf z) => .ok (.d z) ρ2
          | some (.ls us) => match leaves us with
            | some xs => .ok (.w xs) ρ2
            | none => .bad
          | none => .bad
        | _ => .bad
      | _, _ => .bad
  | _, _ => .bad
section
variable {K : PySem.W.Frag} {G H : Hp}
theorem Owns.atI {ts : List OT} {vs : List V} {fp : List Addr} {k : Int} {t : OT} (h : Owns K G H ts vs fp) (q : L2.atI ts k = some t) : ∃ v f1, L2.atI vs k = some v ∧ Own K G H t v f1 := by
  unfold L2.atI at q ⊢
  rw [h.length]
  cases e : ixN ts.length k with
  | none => rw [e] at q; cases q
  | some j =>
    rw [e] at q
    obtain ⟨v, f0, f1, f2, a1, a2, a3, _⟩ := h.at q
    exact ⟨v, f1, a1, a3⟩
end
section
variable {X : Cx} {W : WX} {a b e o : Expr} {es : List Expr} {pa pb : Bool} {f g : Env → Res Vl} {fs : Env → Res (List Vl)} {pos p : Pos}
theorem pb_ix (ha : PE X a (tF X.K pa W f)) (hb : PE X b (tF X.K pb W g)) (hs : PlainIx b := by exact fun _ _ => rfl) : PE X (.Subscript a b pos) (tF X.K (pa && pb) W (ixF pb f g)) := by
  refine PE.imp (pe_ix (ir_item.or ix_list) ha hb hs) fun σ H Q h => ?_
  obtain ⟨pn, G, ρ, fp, c, h⟩ := h
  refine ⟨pn, G, ρ, fp, c, (Res.sat_bind h).imp (fun x ρ1 h v H1 G1 fp1 fw1 p1 c1 vo => ?_) fun _ _ h => h⟩
  refine ⟨pn, G1, ρ1, fp1, c1, (Res.sat_bind h).imp (fun y ρ2 h u H2 G2 fp2 fw2 p2 c2 wo => ?_) fun _ _ h => h.on fw1⟩
  have pp : (pa && pb) = true → Ex H H2 := fun hp => by rw [Bool.and_eq_true] at hp; exact (p1 hp.1).trans (p2 hp.2)
  cases hs : stays pb x with
  | false => simp only [hs] at h; exact h.elim
  | true =>
    have vo2 := vo.mono fw2.ex p2 hs
    cases e2 : vw ρ2 y with
    | none => simp only [hs, e2] at h; exact h.elim
    | some b =>
      cases e1 : vw ρ2 x with
      | some a =>
        cases e3 : oItem a b with
        | none => simp only [hs, e1, e2, e3] at h; exact h.elim
        | some d =>
          simp only [hs, e1, e2, e3] at h
          exact .inl ⟨G2, a, b, d, c2.ex, c2.vw vo2 e1, c2.vw wo e2, e3, fun z H3 G3 gr r => h z H3 G3 fp2 ((fw1.trans fw2).trans gr.fw) (fun hp => (pp hp).trans gr.h) (c2.gro gr) r⟩
      | none =>
        simp only [hs, e1, e2] at h
        cases x with
        | d _ => exact h.elim
        | w _ => exact h.elim
        | r i =>
          cases b with
          | int k =>
            simp only at h
            cases e4 : slotT ρ2 i with
            | none => simp only [e4] at h; exact h.elim
            | some t =>
              cases t with
              | lf _ => simp only [e4] at h; exact h.elim
              | ls ts =>
                simp only [e4] at h
                unfold slotT at e4
                cases q : ρ2[i]? with
                | none => rw [q] at e4; cases e4
                | some s =>
                  rw [q] at e4
                  obtain ⟨w, f0, f1, f2, a1, a2, a3, _⟩ := c2.sl.at q e4
                  have hv : σ[i]? = some (some v) := vo2
                  have : w = v := by rw [a1] at hv; exact Option.some.inj (Option.some.inj hv)
                  subst this
                  obtain ⟨P, vs, fq, e5, e6, e7, e8, ow⟩ := a3
                  have hu : u = .int k := c2.vw wo e2
                  cases e9 : L2.atI ts k with
                  | none => simp only [e9] at h; exact h.elim
                  | some t1 =>
                    obtain ⟨z, f3, b1, b2⟩ := ow.atI e9
                    refine .inr ⟨P, vs, k, z, e5, hu, .inl (.inl e7), b1, ?_⟩
                    cases t1 with
                    | lf y1 =>
                      simp only [e9] at h
                      exact h z H2 G2 fp2 (fw1.trans fw2) pp c2 b2.2
                    | ls us =>
                      simp only [e9] at h
                      cases e10 : leaves us with
                      | none => simp only [e10] at h; exact h.elim
                      | some xs =>
                        simp only [e10] at h
                        refine h z H2 G2 fp2 (fw1.trans fw2) pp c2 ?_
                        exact b2.shown c2.ex (by show (leaves us).map PyData.list = _; rw [e10]; rfl)
          | _ => exact h.elim
/-- a[lo:hi] -/
def tPo (K : PySem.W.Frag) (pu : Bool) (W : WX) (f : Env → Res (Option Int)) : TO := fun σ H Q => ∃ pn G ρ fp, Cor K pn σ H G ρ fp ∧
  (f ρ).sat (fun o ρ' => ∀ H' G' fp', Fw G H fp G' H' fp' → (pu = true → Ex H H') → Cor K pn σ H' G' ρ' fp' → Q o H') (ExF K W pn σ H G fp)
theorem PO.imp {e : Option Expr} {t u : TO} (h : PO X e t) (i : ∀ σ H Q, u σ H Q → t σ H Q) : PO X e u := ⟨fun pins s σ H Q I q => h.run pins s σ H Q I (i σ H Q q)⟩
def noP : Env → Res (Option Int) := fun ρ => .ok none ρ
def someP (f : Env → Res Vl) : Env → Res (Option Int) := fun ρ => (f ρ).bind fun x ρ1 => match x with
  | .d (.int i) => .ok (some i) ρ1
  | _ => .bad
theorem po_n : PO X none (tPo X.K true W noP) := PO.imp po_none fun σ H Q ⟨pn, G, ρ, fp, c, h⟩ => h H G fp .refl (fun _ => .refl _) c
theorem po_s (h : PE X e (tF X.K pa W f)) : PO X (some e) (tPo X.K pa W (someP f)) := by
  refine PO.imp (po_some h) fun σ H Q h => ?_
  obtain ⟨pn, G, ρ, fp, c, h⟩ := h
  refine ⟨pn, G, ρ, fp, c, (Res.sat_bind h).imp (fun x ρ1 h v H1 G1 fp1 fw1 p1 c1 vo => ?_) fun _ _ h => h⟩
  cases x with
  | d y => cases y with
    | int i =>
      have e : v = .int i := vo
      exact ⟨i, e, h H1 G1 fp1 fw1 p1 c1⟩
    | _ => exact h.elim
  | _ => exact h.elim
def slF (p1 p2 : Bool) (f : Env → Res Vl) (lo hi : Env → Res (Option Int)) : Env → Res Vl := fun ρ => (f ρ).bind fun x ρ1 => (lo ρ1).bind fun i ρ2 => (hi ρ2).bind fun j ρ3 =>
  match stays (p1 && p2) x, vw ρ3 x with
  | true, some a => match oSlice a i j with
    | some c => .ok (.d c) ρ3
    | none => .bad
  | _, _ => .bad
theorem pb_sl {lo hi : Option Expr} {p2 : Pos} {q1 q2 : Bool} {fl fh : Env → Res (Option Int)} (ha : PE X a (tF X.K pa W f)) (hl : PO X lo (tPo X.K q1 W fl)) (hh : PO X hi (tPo X.K q2 W fh)) :
    PE X (.Subscript a (.Slice lo hi none p2) pos) (tF X.K (pa && (q1 && q2)) W (slF q1 q2 f fl fh)) := by
  refine PE.imp (pe_slice sr_slice ha hl hh) fun σ H Q h => ?_
  obtain ⟨pn, G, ρ, fp, c, h⟩ := h
  refine ⟨pn, G, ρ, fp, c, (Res.sat_bind h).imp (fun x ρ1 h v H1 G1 fp1 fw1 p1 c1 vo => ?_) fun _ _ h => h⟩
  refine ⟨pn, G1, ρ1, fp1, c1, (Res.sat_bind h).imp (fun i ρ2 h H2 G2 fp2 fw2 p2 c2 => ?_) fun _ _ h => h.on fw1⟩
  refine ⟨pn, G2, ρ2, fp2, c2, (Res.sat_bind h).imp (fun j ρ3 h H3 G3 fp3 fw3 p3 c3 => ?_) fun _ _ h => h.on (fw1.trans fw2)⟩
  cases hs : stays (q1 && q2) x with
  | false => simp only [hs] at h; exact h.elim
  | true =>
    have vo3 := vo.mono (fw2.trans fw3).ex (fun hp => by rw [Bool.and_eq_true] at hp; exact (p2 hp.1).trans (p3 hp.2)) hs
    cases e1 : vw ρ3 x with
    | none => simp only [hs, e1] at h; exact h.elim
    | some a =>
      cases e3 : oSlice a i j with
      | none => simp only [hs, e1, e3] at h; exact h.elim
      | some d =>
        simp only [hs, e1, e3] at h
        refine ⟨G3, a, d, c3.ex, c3.vw vo3 e1, e3, fun z H4 G4 gr r => h z H4 G4 fp3 (((fw1.trans fw2).trans fw3).trans gr.fw) (fun hp => ?_) (c3.gro gr) r⟩
        rw [Bool.and_eq_true, Bool.and_eq_true] at hp
        exact (((p1 hp.1).trans (p2 hp.2.1)).trans (p3 hp.2.2)).trans gr.h

/-! ### built-in calls -/
def callF (op : List D → Option D) (fs : Env → Res (List Vl)) : Env → Res Vl := fun ρ => (fs ρ).bind fun xs ρ1 => match vws ρ1 xs with
  | some ds => match op ds with
    | some c => .ok (.d c) ρ1
    | none => .bad
  | none => .bad
theorem tV.call {K : PySem.W.Frag} {op : List D → Option D} {σ : L2.St} {H : Hp} {Q : VK} (h : tF K pa W (callF op fs) σ H Q) : tCB (rDA K op) (tV K pa W fs) σ H Q := by
  obtain ⟨pn, G, ρ, fp, c, h⟩ := h
  refine ⟨pn, G, ρ, fp, c, (Res.sat_bind h).imp (fun xs ρ1 h vs H1 G1 fp1 fw1 p1 c1 vo => ?_) fun _ _ h => h⟩
  cases e1 : vws ρ1 xs with
  | none => simp only [e1] at h; exact h.elim
  | some ds =>
    cases e2 : op ds with
    | none => simp only [e1, e2] at h; exact h.elim
    | some d =>
      simp only [e1, e2] at h
      exact ⟨G1, ds, d, c1.ex, vws_rel c1 vo e1, e2, fun z H2 G2 gr r => h z H2 G2 fp1 (fw1.trans gr.fw) (fun hp => (p1 hp).trans gr.h) (c1.gro gr) r⟩
theorem pb_callB {x : Str} {id : String} {op : List D → Option D} (hc : CallR X (.builtin id) (rDA X.K op)) (hg : Gl X x) (hm : X.mg x = none) (hv : bootBuiltins x = some (.builtin id)) (ha : PA X (e :: es) (tV X.K pa W fs)) (hn : x ≠ "__name__" := by decide) (hdb : (x == ("__debug__" : Str)) = false := by decide)
    (he : starEach (e :: es) X.env = (false, eval e X.env) :: starEach es X.env := by rfl) (hpl : (backTo pos (starEach es X.env)).any (·.1) = false := by rfl) : PE X (.Call (.Name x p) (e :: es) [] pos) (tF X.K pa W (callF op fs)) :=
  PE.imp (pe_callB hc hg hm hv ha hn hdb he hpl) fun _ _ _ h => tV.call h
theorem pb_callT {x : Str} {T : String} {op : List D → Option D} (hc : CallR X (.type T) (rDA X.K op)) (hg : Gl X x) (hm : X.mg x = none) (hv : bootBuiltins x = some (.type T)) (ha : PA X (e :: es) (tV X.K pa W fs)) (hn : x ≠ "__name__" := by decide) (hdb : (x == ("__debug__" : Str)) = false := by decide)
    (he : starEach (e :: es) X.env = (false, eval e X.env) :: starEach es X.env := by rfl) (hpl : (backTo pos (starEach es X.env)).any (·.1) = false := by rfl) : PE X (.Call (.Name x p) (e :: es) [] pos) (tF X.K pa W (callF op fs)) :=
  PE.imp (pe_callTy hc hg hm hv ha hn hdb he hpl) fun _ _ _ h => tV.call h
def bLen : List D → Option D
  | [.str s] => some (.int s.length)
  | [.list xs] => some (.int xs.length)
  | [.tuple xs] => some (.int xs.length)
  | _ => none
theorem c_len : CallR X (.builtin "len") (rDA X.K bLen) := by
  intro pins s σ H xs us Q I r h
  obtain ⟨G, as, c, ge, ra, e, q⟩ := h
  unfold bLen at e
  split at e
  · cases e
    obtain ⟨v, w, e1, ⟨e2, hl⟩, e3⟩ := ra
    cases e3; subst e2 e1
    exact call_len pins s σ H _ us Q I r ⟨_, _, rfl, ⟨hl, rfl⟩, q _ _ G (.refl ge) rfl⟩
  · cases e
    obtain ⟨v, w, e1, ⟨p, vs, e2, hp, rl⟩, e3⟩ := ra
    cases e3; subst e2 e1
    exact call_len pins s σ H _ us Q I r ⟨_, _, rfl, .inl ⟨vs, .inl (.inl hp), rfl⟩, q _ _ G (.refl ge) (by show V.int _ = V.int _; rw [rl.length])⟩
  · cases e
    obtain ⟨v, w, e1, ⟨p, vs, e2, hp, rl⟩, e3⟩ := ra
    cases e3; subst e2 e1
    exact call_len pins s σ H _ us Q I r ⟨_, _, rfl, .inr ⟨vs, ge.t hp, rfl⟩, q _ _ G (.refl ge) (by show V.int _ = V.int _; rw [rl.length])⟩
  · cases e
def bAbs : List D → Option D
  | [.int i] => some (.int (if i < 0 then -i else i))
  | _ => none
theorem c_abs : CallR X (.builtin "abs") (rDA X.K bAbs) := by
  intro pins s σ H xs us Q I r h
  obtain ⟨G, as, c, ge, ra, e, q⟩ := h
  unfold bAbs at e
  split at e
  · cases e
    obtain ⟨v, w, e1, e2, e3⟩ := ra
    cases e3; cases e2; subst e1
    exact call_abs pins s σ H _ us Q I r ⟨_, rfl, q _ _ G (.refl ge) rfl⟩
  · cases e
/-- a row of ints -/
def intsD : List D → Option (List Int)
  | [] => some []
  | .int i :: ds => (intsD ds).map (i :: ·)
  | _ => none
theorem intsD_rel {K : PySem.W.Frag} {G : Hp} : ∀ {ds : List D} {vs : List V} {ns : List Int}, RpL K G ds vs → intsD ds = some ns → vs = ns.map V.int
  | [], _, _, h, e => by cases h; cases e; rfl
  | .int i :: ds, _, _, ⟨v, r, e1, h, t⟩, e => by
    cases q : intsD ds with
    | none => simp [intsD, q] at e
    | some ms =>
      simp [intsD, q] at e
      subst e e1
      cases h
      rw [intsD_rel t q]; rfl
  | .none :: _, _, _, _, e => by cases e
  | .bool _ :: _, _, _, _, e => by cases e
  | .str _ :: _, _, _, _, e => by cases e
  | .list _ :: _, _, _, _, e => by cases e
  | .tuple _ :: _, _, _, _, e => by cases e
  | .dict _ :: _, _, _, _, e => by cases e
def minI : List Int → Int
  | [] => 0
  | [a] => a
  | a :: b :: r => if a ≤ minI (b :: r) then a else minI (b :: r)
def maxI : List Int → Int
  | [] => 0
  | [a] => a
  | a :: b :: r => if maxI (b :: r) ≤ a then a else maxI (b :: r)
theorem minI_is : ∀ {ns : List Int} {m : Int}, m ∈ ns → (∀ y ∈ ns, m ≤ y) → m = minI ns
  | [], _, h, _ => by cases h
  | [a], m, h, _ => by simpa [minI] using h
  | a :: b :: r, m, h, k => by
    have mem : minI (b :: r) ∈ b :: r ∧ ∀ y ∈ b :: r, minI (b :: r) ≤ y := by
      have key : ∀ l : List Int, l ≠ [] → minI l ∈ l ∧ ∀ y ∈ l, minI l ≤ y := by
        intro l
        induction l with
        | nil => intro h; exact absurd rfl h
        | cons x t ih =>
          intro _
          cases t with
          | nil => exact ⟨by simp [minI], fun y hy => by simp at hy; simp [minI, hy]⟩
          | cons z t =>
            obtain ⟨i1, i2⟩ := ih (by simp)
            show (if x ≤ minI (z :: t) then x else minI (z :: t)) ∈ _ ∧ _
            by_cases hx : x ≤ minI (z :: t)
            · simp only [minI, if_pos hx]
              exact ⟨by simp, fun y hy => (List.mem_cons.mp hy).elim (fun q => by omega) fun q => Int.le_trans hx (i2 y q)⟩
            · simp only [minI, if_neg hx]
              exact ⟨List.mem_cons_of_mem _ i1, fun y hy => (List.mem_cons.mp hy).elim (fun q => by omega) fun q => i2 y q⟩
      exact key _ (by simp)
    show m = if a ≤ minI (b :: r) then a else minI (b :: r)
    have ka := k a (by simp)
    have kb := k _ (List.mem_cons_of_mem a mem.1)
    rcases List.mem_cons.mp h with q | q
    · subst q
      rw [if_pos kb]
    · have := mem.2 m q
      split <;> omega
theorem maxI_is : ∀ {ns : List Int} {m : Int}, m ∈ ns → (∀ y ∈ ns, y ≤ m) → m = maxI ns
  | [], _, h, _ => by cases h
  | [a], m, h, _ => by simpa [maxI] using h
  | a :: b :: r, m, h, k => by
    have mem : maxI (b :: r) ∈ b :: r ∧ ∀ y ∈ b :: r, y ≤ maxI (b :: r) := by
      have key : ∀ l : List Int, l ≠ [] → maxI l ∈ l ∧ ∀ y ∈ l, y ≤ maxI l := by
        intro l
        induction l with
        | nil => intro h; exact absurd rfl h
        | cons x t ih =>
          intro _
          cases t with
          | nil => exact ⟨by simp [maxI], fun y hy => by simp at hy; simp [maxI, hy]⟩
          | cons z t =>
            obtain ⟨i1, i2⟩ := ih (by simp)
            show (if maxI (z :: t) ≤ x then x else maxI (z :: t)) ∈ _ ∧ _
            by_cases hx : maxI (z :: t) ≤ x
            · simp only [maxI, if_pos hx]
              exact ⟨by simp, fun y hy => (List.mem_cons.mp hy).elim (fun q => by omega) fun q => Int.le_trans (i2 y q) hx⟩
            · simp only [maxI, if_neg hx]
              exact ⟨List.mem_cons_of_mem _ i1, fun y hy => (List.mem_cons.mp hy).elim (fun q => by omega) fun q => i2 y q⟩
      exact key _ (by simp)
    show m = if maxI (b :: r) ≤ a then a else maxI (b :: r)
    have ka := k a (by simp)
    have kb := k _ (List.mem_cons_of_mem a mem.1)
    rcases List.mem_cons.mp h with q | q
    · subst q
      rw [if_pos kb]
    · have := mem.2 m q
      split <;> omega
def bMin : List D → Option D
  | [.list ds] => match intsD ds with
    | some (n :: ns) => some (.int (minI (n :: ns)))
    | _ => none
  | [.int i, .int j] => some (.int (if j < i then j else i))
  | _ => none
def bMax : List D → Option D
  | [.list ds] => match intsD ds with
    | some (n :: ns) => some (.int (maxI (n :: ns)))
    | _ => none
  | [.int i, .int j] => some (.int (if j > i then j else i))
  | _ => none
theorem c_min (hc : X.calm = true) : CallR X (.builtin "min") (rDA X.K bMin) := by
  intro pins s σ H xs us Q I r h
  obtain ⟨G, as, c, ge, ra, e, q⟩ := h
  unfold bMin at e
  split at e
  · split at e
    · rename_i n ns hn
      cases e
      obtain ⟨v, w, e1, ⟨p, vs, e2, hp, rl⟩, e3⟩ := ra
      cases e3; subst e2 e1
      have hv := intsD_rel rl hn
      subst hv
      exact cr_min hc pins s σ H _ us Q I r ⟨p, n :: ns, rfl, .inl (.inl hp), by simp, fun m h1 h2 => q _ _ G (.refl ge) (by show V.int _ = V.int _; rw [minI_is h1 h2])⟩
    · cases e
  · cases e
    obtain ⟨v, w, e1, e2, v2, w2, e3, e4, e5⟩ := ra
    cases e5; cases e4; cases e2; subst e3 e1
    exact call_min2 hc pins s σ H _ us Q I r ⟨_, _, rfl, q _ _ G (.refl ge) rfl⟩
  · cases e
theorem c_max (hc : X.calm = true) : CallR X (.builtin "max") (rDA X.K bMax) := by
  intro pins s σ H xs us Q I r h
  obtain ⟨G, as, c, ge, ra, e, q⟩ := h
  unfold bMax at e
  split at e
  · split at e
    · rename_i n ns hn
      cases e
      obtain ⟨v, w, e1, ⟨p, vs, e2, hp, rl⟩, e3⟩ := ra
      cases e3; subst e2 e1
      have hv := intsD_rel rl hn
      subst hv
      exact cr_max hc pins s σ H _ us Q I r ⟨p, n :: ns, rfl, .inl (.inl hp), by simp, fun m h1 h2 => q _ _ G (.refl ge) (by show V.int _ = V.int _; rw [maxI_is h1 h2])⟩
    · cases e
  · cases e
    obtain ⟨v, w, e1, e2, v2, w2, e3, e4, e5⟩ := ra
    cases e5; cases e4; cases e2; subst e3 e1
    exact call_max2 hc pins s σ H _ us Q I r ⟨_, _, rfl, q _ _ G (.refl ge) rfl⟩
  · cases e
def bSum : List D → Option D
  | [.list ds] => match intsD ds with
    | some ns => some (.int ns.sum)
    | _ => none
  | _ => none
theorem c_sum (hc : X.calm = true) : CallR X (.builtin "sum") (rDA X.K bSum) := by
  intro pins s σ H xs us Q I r h
  obtain ⟨G, as, c, ge, ra, e, q⟩ := h
  unfold bSum at e
  split at e
  · split at e
    · rename_i ns hn
      cases e
      obtain ⟨v, w, e1, ⟨p, vs, e2, hp, rl⟩, e3⟩ := ra
      cases e3; subst e2 e1
      have hv := intsD_rel rl hn
      subst hv
      exact cr_sum hc pins s σ H _ us Q I r ⟨p, ns, rfl, .inl (.inl hp), q _ _ G (.refl ge) rfl⟩
    · cases e
  · cases e
def bInt : List D → Option D
  | [.int i] => some (.int i)
  | [.bool k] => some (.int (if k then 1 else 0))
  | [.str s] => if s.length ≤ 640 then match PySem.intText? s with
    | some n => some (.int n)
    | none => none
    else none
  | _ => none
theorem CallR.or {f : Value} {r r' : List V → Hp → VK → Prop} (h : CallR X f r) (g : CallR X f r') : CallR X f (fun xs H Q => r xs H Q ∨ r' xs H Q) := fun pins s σ H xs us Q I rs q => q.elim (h pins s σ H xs us Q I rs) (g pins s σ H xs us Q I rs)
theorem c_int : CallR X (.type "int") (rDA X.K bInt) := by
  intro pins s σ H xs us Q I r h
  obtain ⟨G, as, c, ge, ra, e, q⟩ := h
  unfold bInt at e
  split at e
  · cases e
    obtain ⟨v, w, e1, e2, e3⟩ := ra
    cases e3; cases e2; subst e1
    exact call_int1 pins s σ H _ us Q I r (.inl ⟨_, rfl, q _ _ G (.refl ge) rfl⟩)
  · cases e
    obtain ⟨v, w, e1, e2, e3⟩ := ra
    cases e3; cases e2; subst e1
    exact call_int1 pins s σ H _ us Q I r (.inr ⟨_, rfl, q _ _ G (.refl ge) rfl⟩)
  · split at e
    · split at e
      · rename_i hl _ n hn
        cases e
        obtain ⟨v, w, e1, ⟨e2, _⟩, e3⟩ := ra
        cases e3; subst e2 e1
        exact call_int_str pins s σ H _ us Q I r ⟨_, n, rfl, hn, hl, q _ _ G (.refl ge) rfl⟩
      · cases e
    · cases e
  · cases e
def bStr : List D → Option D
  | [.int i] => if i.natAbs.log2 < 1920 ∧ (toString i : Str).length ≤ sizeLine then some (.str (toString i : Str)) else none
  | _ => none
theorem c_str : CallR X (.type "str") (rDA X.K bStr) := by
  intro pins s σ H xs us Q I r h
  obtain ⟨G, as, c, ge, ra, e, q⟩ := h
  unfold bStr at e
  split at e
  · split at e
    · rename_i hz
      cases e
      obtain ⟨v, w, e1, e2, e3⟩ := ra
      cases e3; cases e2; subst e1
      exact call_str_int pins s σ H _ us Q I r ⟨_, rfl, hz.1, q _ _ G (.refl ge) ⟨rfl, hz.2⟩⟩
    · cases e
  · cases e
def bTuple : List D → Option D
  | [.list xs] => some (.tuple xs)
  | [.tuple xs] => some (.tuple xs)
  | _ => none
theorem c_tuple : CallR X (.type "tuple") (rDA X.K bTuple) := by
  intro pins s σ H xs us Q I r h
  obtain ⟨G, as, c, ge, ra, e, q⟩ := h
  unfold bTuple at e
  split at e
  · cases e
    obtain ⟨v, w, e1, ⟨p, vs, e2, hp, rl⟩, e3⟩ := ra
    cases e3; subst e2 e1
    refine call_tuple_of pins s σ H _ us Q I r ⟨p, vs, rfl, .inl ⟨.inl (.inl hp), fun l hl => ?_⟩⟩
    have gr := Gro.new (o := .tup vs) ge hl
    exact q _ _ _ gr ⟨l, vs, rfl, .inl (.inl upd_same), rl.mono gr.g⟩
  · cases e
    obtain ⟨v, w, e1, ⟨p, vs, e2, hp, rl⟩, e3⟩ := ra
    cases e3; subst e2 e1
    exact call_tuple_of pins s σ H _ us Q I r ⟨p, vs, rfl, .inr ⟨ge.t hp, q _ _ G (.refl ge) ⟨p, vs, rfl, hp, rl⟩⟩⟩
  · cases e
/-- list(..), a list of one's own -/
def listF (fs : Env → Res (List Vl)) : Env → Res OT := fun ρ => (fs ρ).bind fun xs ρ1 => match vws ρ1 xs with
  | some [.list ds] => .ok (.ls (ds.map .lf)) ρ1
  | some [.tuple ds] => .ok (.ls (ds.map .lf)) ρ1
  | _ => .bad
theorem pb_list (hg : Gl X "list") (hm : X.mg "list" = none) (ha : PA X (e :: es) (tV X.K pa W fs))
    (he : starEach (e :: es) X.env = (false, eval e X.env) :: starEach es X.env := by rfl) (hpl : (backTo pos (starEach es X.env)).any (·.1) = false := by rfl) : PE X (.Call (.Name "list" p) (e :: es) [] pos) (tO X.K pa W (listF fs)) := by
  refine PE.imp (pe_callTy call_list_of hg hm (by decide +kernel) ha (by decide) (by decide) he hpl) fun σ H Q h => ?_
  obtain ⟨pn, G, ρ, fp, c, h⟩ := h
  refine ⟨pn, G, ρ, fp, c, (Res.sat_bind h).imp (fun xs ρ1 h vs H1 G1 fp1 fw1 p1 c1 vo => ?_) fun _ _ h => h⟩
  have fin : ∀ (ds : List D) (us : List V) (l : Addr), RpL X.K G1 ds us → H1 l = none → OkO X.K pa pn σ H G fp Q (.ls (ds.map .lf)) ρ1 → Q (.ref l) (upd H1 l (.lst us)) := fun ds us l r hl h => by
    obtain ⟨b1, b2, b3, b4⟩ := c1.newList hl (Owns.lfs (H := H1) r) (by simpa using c1.nd)
    refine h _ _ G1 fp1 [l] (fw1.trans b1) (fun q => (p1 q).trans (.new hl)) b2 b3 b4 fun a ha => ?_
    have : a = l := by simpa using ha
    subst this
    exact fw1.none hl
  cases e1 : vws ρ1 xs with
  | none => simp only [e1] at h; exact h.elim
  | some ds =>
    have rv := vws_rel c1 vo e1
    simp only [e1] at h
    match ds, rv, h with
    | [.list ds], ⟨v, w, e2, ⟨p, us, e3, hp, rl⟩, e4⟩, h =>
      cases e4; subst e3 e2
      exact ⟨p, us, rfl, .inl (.inl (.inl hp)), fun l hl => fin ds us l rl hl h⟩
    | [.tuple ds], ⟨v, w, e2, ⟨p, us, e3, hp, rl⟩, e4⟩, h =>
      cases e4; subst e3 e2
      exact ⟨p, us, rfl, .inr (c1.ex.t hp), fun l hl => fin ds us l rl hl h⟩
    | [], _, h => exact h.elim
    | [.none], _, h => exact h.elim
    | [.bool _], _, h => exact h.elim
    | [.int _], _, h => exact h.elim
    | [.str _], _, h => exact h.elim
    | [.dict _], _, h => exact h.elim
    | _ :: _ :: _, _, h => exact (by revert h; split <;> (try exact fun h => h.elim) <;> simp_all)
/-- list(script) -/
def rawF (i : Nat) : Env → Res OT := fun ρ => match ρ[i]? with
  | some (.raw ns) => if ns.length ≤ sizeLine then .ok (.ls (ns.map fun n => .lf (.int n))) ρ else .bad
  | _ => .bad
theorem Slots.rawAt {K : PySem.W.Frag} {G H : Hp} : ∀ {ρ : Env} {σ : L2.St} {fp : List Addr} {i : Nat} {ns : List Int}, Slots K G H ρ σ fp → ρ[i]? = some (.raw ns) → ∃ a, σ[i]? = some (some (.ref a)) ∧ SqL K G a (ns.map V.int)
  | [], _, _, i, _, _, h => by simp at h
  | .un :: ρ, _, _, 0, _, _, h => by simp at h
  | .un :: ρ, _, _, i + 1, _, ⟨x, r, e, s⟩, h => by subst e; obtain ⟨a, b⟩ := Slots.rawAt (i := i) s (by simpa using h); exact ⟨a, by simpa using b⟩
  | .v t :: ρ, _, _, 0, _, _, h => by simp at h
  | .v t :: ρ, _, _, i + 1, _, ⟨x, r, f1, f2, e, _, _, s⟩, h => by subst e; obtain ⟨a, b⟩ := Slots.rawAt (i := i) s (by simpa using h); exact ⟨a, by simpa using b⟩
  | .io t :: ρ, _, _, 0, _, _, h => by simp at h
  | .io t :: ρ, _, _, i + 1, _, ⟨x, r, f1, f2, e, _, _, s⟩, h => by subst e; obtain ⟨a, b⟩ := Slots.rawAt (i := i) s (by simpa using h); exact ⟨a, by simpa using b⟩
  | .raw ms :: ρ, _, _, 0, ns, ⟨a, r, e, q, s⟩, h => by
    have : ms = ns := by simpa using h
    subst this e
    exact ⟨a, rfl, q⟩
  | .raw ms :: ρ, _, _, i + 1, ns, ⟨a0, r, e, q, s⟩, h => by subst e; obtain ⟨a, b⟩ := Slots.rawAt (i := i) s (by simpa using h); exact ⟨a, by simpa using b⟩
theorem pb_raw (i : Nat) {x : Str} {px : Pos} (hg : Gl X "list") (hm : X.mg "list" = none) (hx : PE X (.Name x px) (tVar i))
    (he : starEach [.Name x px] X.env = (false, eval (.Name x px) X.env) :: starEach [] X.env := by rfl) (hpl : (backTo pos (starEach [] X.env)).any (·.1) = false := by rfl) : PE X (.Call (.Name "list" p) [.Name x px] [] pos) (tO X.K true W (rawF i)) := by
  refine PE.imp (pe_callTy call_list_of hg hm (by decide +kernel) (pa_cons hx pa_nil) (by decide) (by decide) he hpl) fun σ H Q h => ?_
  obtain ⟨pn, G, ρ, fp, c, h⟩ := h
  unfold rawF at h
  split at h
  · rename_i ns q
    by_cases hz : ns.length ≤ sizeLine
    · rw [if_pos hz] at h
      obtain ⟨a, h1, h2⟩ := c.sl.rawAt q
      have rl : ∀ ns : List Int, RpL X.K G (ns.map fun n => (PyData.int n)) (ns.map V.int) := by
        intro ns
        induction ns with
        | nil => rfl
        | cons n ns ih => exact ⟨_, _, rfl, rfl, ih⟩
      refine ⟨_, h1, a, _, rfl, .inl (c.ex.l h2), fun l hl => ?_⟩
      have ol := Owns.lfs (H := H) (rl ns)
      rw [List.map_map] at ol
      obtain ⟨b1, b2, b3, b4⟩ := c.newList hl ol (by simpa using c.nd)
      exact h _ _ G fp [l] b1 (fun _ => .new hl) b2 b3 b4 fun b hb => by
        have : b = l := by simpa using hb
        rw [this]; exact hl
    · rw [if_neg hz] at h; exact h.elim
  · exact h.elim
end
end Mo

/-! Mo8: statements. -/
namespace Mo
variable [Tabs]
open PySem PySem.Spec PyProof.Rows L2

inductive SRes where
  | nx (ρ : Env)
  | rt (d : D) (ρ : Env)
  | bk (ρ : Env)
  | ct (ρ : Env)
  | ex (C : Addr) (ρ : Env)
  | bad
def OkS (K : PySem.W.Frag) (pn : List (Nat × V)) (H G : Hp) (fp : List Addr) (P : L2.St → Hp → Prop) (ρ' : Env) : Prop := ∀ σ' H' G' fp', Fw G H fp G' H' fp' → Cor K pn σ' H' G' ρ' fp' → P σ' H'
def OkR (K : PySem.W.Frag) (pn : List (Nat × V)) (H G : Hp) (fp : List Addr) (Q : VK) (d : D) (ρ' : Env) : Prop := ∀ v σ' H' G' fp', Fw G H fp G' H' fp' → Cor K pn σ' H' G' ρ' fp' → Rp K G' d v → Q v H'
def SRes.sat (K : PySem.W.Frag) (W : WX) (pn : List (Nat × V)) (H G : Hp) (fp : List Addr) (D : Ends) : SRes → Prop
  | .nx ρ => OkS K pn H G fp D.nx ρ
  | .rt d ρ => OkR K pn H G fp D.rt d ρ
  | .bk ρ => OkS K pn H G fp D.bk ρ
  | .ct ρ => OkS K pn H G fp D.ct ρ
  | .ex C ρ => OkS K pn H G fp (fun σ' H' => W (.ref C) none σ' H') ρ
  | .bad => False
def tS (K : PySem.W.Frag) (W : WX) (f : Env → SRes) : TS := fun D σ H => ∃ pn G ρ fp, Cor K pn σ H G ρ fp ∧ (f ρ).sat K W pn H G fp D
def Res.tos {α : Type} (r : Res α) (k : α → Env → SRes) : SRes := match r with
  | .ok a ρ => k a ρ
  | .ex C ρ => .ex C ρ
  | .bad => .bad
section
variable {K : PySem.W.Frag} {W : WX} {pn : List (Nat × V)} {σ : L2.St} {H G H1 G1 : Hp} {fp fp1 : List Addr} {D : Ends}
theorem SRes.sat.on (fw : Fw G H fp G1 H1 fp1) {r : SRes} (h : r.sat K W pn H G fp D) : r.sat K W pn H1 G1 fp1 D := by
  cases r with
  | nx ρ => exact fun σ' H' G' fp' f' c => h σ' H' G' fp' (fw.trans f') c
  | rt d ρ => exact fun v σ' H' G' fp' f' c => h v σ' H' G' fp' (fw.trans f') c
  | bk ρ => exact fun σ' H' G' fp' f' c => h σ' H' G' fp' (fw.trans f') c
  | ct ρ => exact fun σ' H' G' fp' f' c => h σ' H' G' fp' (fw.trans f') c
  | ex C ρ => exact fun σ' H' G' fp' f' c => h σ' H' G' fp' (fw.trans f') c
  | bad => exact h
theorem Res.tos_sat {α : Type} {r : Res α} {k : α → Env → SRes} (h : (r.tos k).sat K W pn H G fp D) : r.sat (fun a ρ' => (k a ρ').sat K W pn H G fp D) (ExF K W pn σ H G fp) := by
  cases r with
  | ok a ρ => exact h
  | ex C ρ => exact fun H' G' fp' f c => h σ H' G' fp' f c
  | bad => exact h
end

/-! ### blocks -/
def nxF : Env → SRes := fun ρ => .nx ρ
def seqF (f g : Env → SRes) : Env → SRes := fun ρ => match f ρ with
  | .nx ρ1 => g ρ1
  | r => r
section
variable {X : Cx} {W : WX} {st : Stmt} {sts rest : List Stmt} {f g : Env → SRes} {pos : Pos}
theorem tS.seq {K : PySem.W.Frag} {D : Ends} {σ : L2.St} {H : Hp} (h : tS K W (seqF f g) D σ H) : tSeq (tS K W f) (tS K W g) D σ H := by
  obtain ⟨pn, G, ρ, fp, c, h⟩ := h
  refine ⟨pn, G, ρ, fp, c, ?_⟩
  unfold seqF at h
  cases e : f ρ with
  | nx ρ1 =>
    simp only [e] at h
    exact fun σ' H' G' fp' f' c' => ⟨pn, G', ρ1, fp', c', h.on f'⟩
  | rt d ρ1 => simp only [e] at h; exact h
  | bk ρ1 => simp only [e] at h; exact h
  | ct ρ1 => simp only [e] at h; exact h
  | ex C ρ1 => simp only [e] at h; exact h
  | bad => simp only [e] at h; exact h
theorem pb_sn : PSs X [] (tS X.K W nxF) := PSs.imp pss_nil fun D σ H ⟨pn, G, ρ, fp, c, h⟩ => h σ H G fp .refl c
theorem pb_sc (h : PS X st (tS X.K W f)) (g' : PSs X rest (tS X.K W g)) : PSs X (st :: rest) (tS X.K W (seqF f g)) := PSs.imp (pss_cons h g') fun _ _ _ h => h.seq
theorem pb_s1 (h : PS X st (tS X.K W f)) : PSs X [st] (tS X.K W f) := pss_one h
theorem pb_pass : PS X (.Pass pos) (tS X.K W nxF) := PS.imp ps_pass fun D σ H ⟨pn, G, ρ, fp, c, h⟩ => h σ H G fp .refl c
def bkF : Env → SRes := fun ρ => .bk ρ
def ctF : Env → SRes := fun ρ => .ct ρ
theorem pb_break : PS X (.Break pos) (tS X.K W bkF) := PS.imp ps_break fun D σ H ⟨pn, G, ρ, fp, c, h⟩ => h σ H G fp .refl c
theorem pb_cont : PS X (.Continue pos) (tS X.K W ctF) := PS.imp ps_continue fun D σ H ⟨pn, G, ρ, fp, c, h⟩ => h σ H G fp .refl c
end

/-! ### one statement -/
def retF (f : Env → Res Vl) : Env → SRes := fun ρ => (f ρ).tos fun x ρ1 => (fzE x ρ1).tos fun d ρ2 => .rt d ρ2
def retNF : Env → SRes := fun ρ => .rt .none ρ
def exprF (f : Env → Res Vl) : Env → SRes := fun ρ => (f ρ).tos fun _ ρ1 => .nx ρ1
def asgF (tg : D → Env → Option Env) (f : Env → Res Vl) : Env → SRes := fun ρ => (f ρ).tos fun x ρ1 => (fzE x ρ1).tos fun d ρ2 => match tg d ρ2 with
  | some ρ3 => .nx ρ3
  | none => .bad
def setO (i : Nat) (f : Env → Res OT) : Env → SRes := fun ρ => (f ρ).tos fun t ρ1 => match ρ1[i]? with
  | some (.io _) => .bad
  | some _ => .nx (ρ1.set i (.v t))
  | none => .bad
def ifS (t : Env → Res Bool) (f g : Env → SRes) : Env → SRes := fun ρ => (t ρ).tos fun x ρ1 => if x = true then f ρ1 else g ρ1
section
variable {X : Cx} {W : WX} {e c tg : Expr} {pu : Bool} {f : Env → Res Vl} {fo : Env → Res OT} {pos pos' : Pos} {a b : List Stmt} {tf : Env → Res Bool} {g g' : Env → SRes}
theorem Cor.fzS {K : PySem.W.Frag} {D : Ends} {pn : List (Nat × V)} {σ : L2.St} {H H0 G0 G : Hp} {ρ : Env} {fp0 fp : List Addr} (c : Cor K pn σ H G ρ fp) (fw : Fw G0 H0 fp0 G H fp) {x : Vl} {v : V} (h : VOk K σ H G v x) {k : PyData → Env → SRes} (s : ((fzE x ρ).tos k).sat K W pn H0 G0 fp0 D) :
    ∃ d ρ' G' fp', (k d ρ').sat K W pn H0 G0 fp0 D ∧ Fw G0 H0 fp0 G' H fp' ∧ Cor K pn σ H G' ρ' fp' ∧ Rp K G' d v := by
  obtain ⟨d, ρ', G', fp', s', fw', c', r⟩ := c.fz h (g := fun d ρ' => (k d ρ').sat K W pn H0 G0 fp0 D) (e := fun _ _ => True) ((Res.tos_sat (σ := σ) s).imp (fun _ _ h => h) fun _ _ _ => trivial)
  exact ⟨d, ρ', G', fp', s', fw.trans fw', c', r⟩
theorem pb_ret (h : PE X e (tF X.K pu W f)) : PS X (.Return (some e) pos) (tS X.K W (retF f)) := by
  refine PS.imp (ps_ret h) fun D σ H h => ?_
  obtain ⟨pn, G, ρ, fp, c, h⟩ := h
  refine ⟨pn, G, ρ, fp, c, (Res.tos_sat h).imp (fun x ρ1 h v H1 G1 fp1 fw1 p1 c1 vo => ?_) fun _ _ h => h⟩
  obtain ⟨d, ρ2, G2, fp2, s, fw2, c2, r⟩ := c1.fzS fw1 vo h
  exact s v σ H1 G2 fp2 fw2 c2 r
theorem pb_retN : PS X (.Return none pos) (tS X.K W retNF) := PS.imp ps_retN fun D σ H ⟨pn, G, ρ, fp, c, h⟩ => h .non σ H G fp .refl c rfl
theorem pb_expr (h : PE X e (tF X.K pu W f)) (hs : swapsWith e none pos.line X.env = pure false := by rfl) : PS X (.Expr e pos) (tS X.K W (exprF f)) := by
  refine PS.imp (ps_expr h hs) fun D σ H h => ?_
  obtain ⟨pn, G, ρ, fp, c, h⟩ := h
  exact ⟨pn, G, ρ, fp, c, (Res.tos_sat h).imp (fun x ρ1 h v H1 G1 fp1 fw1 p1 c1 vo => h σ H1 G1 fp1 fw1 c1) fun _ _ h => h⟩
theorem tF.asg {K : PySem.W.Frag} {ix : List Nat} {tgf : D → Env → Option Env} {D : Ends} {σ : L2.St} {H : Hp} (h : tS K W (asgF tgf f) D σ H) : tAsg (tF K pu W f) (tG K ix tgf) D σ H := by
  obtain ⟨pn, G, ρ, fp, c, h⟩ := h
  refine ⟨pn, G, ρ, fp, c, (Res.tos_sat h).imp (fun x ρ1 h v H1 G1 fp1 fw1 p1 c1 vo => ?_) fun _ _ h => h⟩
  obtain ⟨d, ρ2, G2, fp2, s, fw2, c2, r⟩ := c1.fzS fw1 vo h
  cases e : tgf d ρ2 with
  | none => simp only [e] at s; exact s.elim
  | some ρ3 =>
    simp only [e] at s
    refine ⟨pn, G2, ρ2, fp2, d, ρ3, c2, r, e, fun σ' fp' sub _ _ c' => s σ' H1 G2 fp' (fw2.trans ⟨.refl _, fun _ _ h _ _ => h, fun a ha => .inl (sub a ha), fun _ _ h => .inl h, fun _ o h => ⟨o, h⟩, fun _ ps h => ⟨ps, h, id⟩⟩) c'⟩
theorem pb_asg {ix : List Nat} {tgf : D → Env → Option Env} (h : PE X e (tF X.K pu W f)) (hg : PG X tg (tG X.K ix tgf)) (h1 : swapsWithSole [tg] e pos.line X.env = pure false := by rfl) (h2 : swappedStores [tg] e X.env = pure none := by rfl)
    (h3 : (assignEach [tg] X.env).map (·.2) = [assign tg X.env] := by rfl) : PS X (.Assign [tg] e pos) (tS X.K W (asgF tgf f)) :=
  PS.imp (ps_asg h hg h1 h2 h3) fun _ _ _ h => tF.asg h
theorem Cor.setO {K : PySem.W.Frag} {D : Ends} {pn : List (Nat × V)} {σ : L2.St} {H H0 G0 G : Hp} {ρ : Env} {fp0 fp fq : List Addr} {i : Nat} {t : OT} {v : V} (c : Cor K pn σ H G ρ fp) (fw : Fw G0 H0 fp0 G H fp) (o : Own K G H t v fq) (nd : (fp ++ fq).Nodup) (nw : ∀ a ∈ fq, H0 a = none)
    (s : (match ρ[i]? with | some (.io _) => SRes.bad | some _ => .nx (ρ.set i (.v t)) | none => .bad).sat K W pn H0 G0 fp0 D) : D.nx (σ.set i (some v)) H := by
  have key : ∀ s : Slot, ρ[i]? = some s → (∀ t, s ≠ .io t) → OkS K pn H0 G0 fp0 D.nx (ρ.set i (.v t)) → D.nx (σ.set i (some v)) H := fun s q ns g => by
    obtain ⟨f0, f2, a1, a2, a4⟩ := c.sl.put q ns
    have gn : ∀ a ∈ f0 ++ f2, G a = none := fun a ha => (c.sl.there a (a1 a ha)).1
    have sl := a4 (G' := G) (H' := H) (t' := t) (v' := v) (f1' := fq) (.refl _) (fun _ _ => rfl) gn o
    obtain ⟨m1, m2, m3⟩ := List.nodup_append.mp nd
    have n0 := a2 m1
    obtain ⟨k1, k2, k3⟩ := List.nodup_append.mp n0
    have sub : ∀ a ∈ f0 ++ fq ++ f2, a ∈ fp ∨ a ∈ fq := fun a ha => by
      rcases List.mem_append.mp ha with z | z
      · rcases List.mem_append.mp z with z | z
        · exact .inl (a1 a (List.mem_append_left _ z))
        · exact .inr z
      · exact .inl (a1 a (List.mem_append_right _ z))
    have nd' : (f0 ++ fq ++ f2).Nodup := by
      refine List.nodup_append.mpr ⟨List.nodup_append.mpr ⟨k1, m2, fun a ha b hb => m3 a (a1 a (List.mem_append_left _ ha)) b hb⟩, k2, fun a ha b hb z => ?_⟩
      rcases List.mem_append.mp ha with q | q
      · exact k3 a q b hb z
      · exact m3 b (a1 b (List.mem_append_right _ hb)) a q z.symm
    refine g _ H G _ ⟨fw.ex, fun a o h n k => fw.fr a o h n k, fun a ha => ?_, fw.ng, fw.th, fw.tb⟩ ⟨c.ex, sl, nd', fun p hp => ?_, c.tb⟩
    · rcases sub a ha with z | z
      · exact fw.nf a z
      · exact .inr (nw a z)
    · obtain ⟨p1, t', p2⟩ := c.pn p hp
      have ne : i ≠ p.1 := fun z => by
        rw [z, p2] at q
        exact ns t' (Option.some.inj q).symm
      exact ⟨by rw [List.getElem?_set_ne ne]; exact p1, t', by rw [List.getElem?_set_ne ne]; exact p2⟩
  split at s
  · exact s.elim
  · rename_i s' ns q
    exact key s' q (fun t z => ns t z) s
  · exact s.elim
theorem tO.asg {K : PySem.W.Frag} {i : Nat} {D : Ends} {σ : L2.St} {H : Hp} (h : tS K W (setO i fo) D σ H) : tAsg (tO K pu W fo) (gName i) D σ H := by
  obtain ⟨pn, G, ρ, fp, c, h⟩ := h
  exact ⟨pn, G, ρ, fp, c, (Res.tos_sat h).imp (fun t ρ1 h v H1 G1 fp1 fq fw1 p1 c1 o nd nw => c1.setO fw1 o nd nw h) fun _ _ h => h⟩
theorem pb_setO (i : Nat) {x : Str} (hN : X.N.Nodup) (h : PE X e (tO X.K pu W fo)) (hi : X.N[i]? = some x := by rfl) (hx : Loc X.env.scope x := by first | exact Or.inl rfl | exact Or.inr rfl) (hs : swapsWith e (some (.Name x pos')) pos.line X.env = pure false := by rfl)
    (hf : X.fn x = true ∨ X.env.scope.names.lookup x = some .local := by first | exact .inl rfl | exact .inr rfl) : PS X (.Assign [.Name x pos'] e pos) (tS X.K W (setO i fo)) :=
  PS.imp (ps_set hN hi hx h hs hf) fun _ _ _ h => tO.asg h
theorem pb_if' (hc : PT X c (tT X.K pu W tf)) (ha : PSs X a (tS X.K W g)) (hb : PSs X b (tS X.K W g')) : PS X (.If c a b pos) (tS X.K W (ifS tf g g')) := by
  refine PS.imp (ps_if hc ha hb) fun D σ H h => ?_
  obtain ⟨pn, G, ρ, fp, c, h⟩ := h
  refine ⟨pn, G, ρ, fp, c, (Res.tos_sat h).imp (fun x ρ1 h H1 G1 fp1 fw1 p1 c1 => ?_) fun _ _ h => h⟩
  cases x with
  | true =>
    rw [if_pos rfl] at h ⊢
    exact ⟨pn, G1, ρ1, fp1, c1, h.on fw1⟩
  | false =>
    rw [if_neg Bool.false_ne_true] at h ⊢
    exact ⟨pn, G1, ρ1, fp1, c1, h.on fw1⟩
end

/-! ### loops -/
def forGo (tg : D → Env → Option Env) (b : Env → SRes) : List D → Env → SRes
  | [], ρ => .nx ρ
  | d :: ds, ρ => match tg d ρ with
    | none => .bad
    | some ρ1 => match b ρ1 with
      | .nx ρ2 => forGo tg b ds ρ2
      | .ct ρ2 => forGo tg b ds ρ2
      | .bk ρ2 => .nx ρ2
      | .rt d ρ2 => .rt d ρ2
      | .ex C ρ2 => .ex C ρ2
      | .bad => .bad
def forF (it : Env → Res (List D)) (tg : D → Env → Option Env) (b : Env → SRes) : Env → SRes := fun ρ => (it ρ).tos fun items ρ1 => forGo tg b items ρ1
def loopN (t : Env → Res Bool) (b : Env → SRes) : Nat → Env → SRes
  | 0, _ => .bad
  | n + 1, ρ => (t ρ).tos fun x ρ1 => if x = true then match b ρ1 with
      | .nx ρ2 => loopN t b n ρ2
      | .ct ρ2 => loopN t b n ρ2
      | .bk ρ2 => .nx ρ2
      | .rt d ρ2 => .rt d ρ2
      | .ex C ρ2 => .ex C ρ2
      | .bad => .bad
    else .nx ρ1
open Classical in
noncomputable def whileF (t : Env → Res Bool) (b : Env → SRes) : Env → SRes := fun ρ => if h : ∃ n, loopN t b n ρ ≠ .bad then loopN t b h.choose ρ else .bad
theorem loopN_more {t : Env → Res Bool} {b : Env → SRes} : ∀ {n m : Nat} {ρ : Env}, n ≤ m → loopN t b n ρ ≠ .bad → loopN t b m ρ = loopN t b n ρ
  | 0, _, _, _, h => absurd rfl h
  | n + 1, 0, _, hm, _ => absurd hm (by omega)
  | n + 1, m + 1, ρ, hm, h => by
    unfold loopN at h ⊢
    cases e : t ρ with
    | bad => rfl
    | ex C ρ1 => rfl
    | ok x ρ1 =>
      rw [e] at h
      show (if x = true then _ else _) = (if x = true then _ else _)
      have h : (if x = true then _ else _) ≠ SRes.bad := h
      cases x with
      | false => rfl
      | true =>
        rw [if_pos rfl] at h ⊢
        rw [if_pos rfl]
        cases e2 : b ρ1 with
        | nx ρ2 => simp only [e2] at h ⊢; exact loopN_more (by omega) h
        | ct ρ2 => simp only [e2] at h ⊢; exact loopN_more (by omega) h
        | bk ρ2 => rfl
        | rt d ρ2 => rfl
        | ex C ρ2 => rfl
        | bad => rfl
theorem whileF_of {t : Env → Res Bool} {b : Env → SRes} {n : Nat} {ρ : Env} (h : loopN t b n ρ ≠ .bad) : whileF t b ρ = loopN t b n ρ := by
  have hh : ∃ n, loopN t b n ρ ≠ .bad := ⟨n, h⟩
  unfold whileF
  rw [dif_pos hh]
  rcases Nat.le_total n hh.choose with q | q
  · exact loopN_more q h
  · exact (loopN_more q hh.choose_spec).symm
/-- one turn -/
theorem whileF_eq (t : Env → Res Bool) (b : Env → SRes) (ρ : Env) : whileF t b ρ = (t ρ).tos fun x ρ1 => if x = true then match b ρ1 with
      | .nx ρ2 => whileF t b ρ2
      | .ct ρ2 => whileF t b ρ2
      | .bk ρ2 => .nx ρ2
      | .rt d ρ2 => .rt d ρ2
      | .ex C ρ2 => .ex C ρ2
      | .bad => .bad
    else .nx ρ1 := by
  have one : ∀ n, loopN t b (n + 1) ρ = (t ρ).tos fun x ρ1 => if x = true then match b ρ1 with
      | .nx ρ2 => loopN t b n ρ2
      | .ct ρ2 => loopN t b n ρ2
      | .bk ρ2 => .nx ρ2
      | .rt d ρ2 => .rt d ρ2
      | .ex C ρ2 => .ex C ρ2
      | .bad => .bad
    else .nx ρ1 := fun n => rfl
  have step : ∀ ρ2, (∀ n, loopN t b (n + 1) ρ = loopN t b n ρ2) → whileF t b ρ = whileF t b ρ2 := fun ρ2 h => by
    by_cases q : ∃ n, loopN t b n ρ2 ≠ .bad
    · obtain ⟨n, hn⟩ := q
      rw [whileF_of hn, ← h n]
      exact whileF_of (by rw [h n]; exact hn)
    · have q' : ¬ ∃ n, loopN t b n ρ ≠ .bad := fun ⟨n, hn⟩ => by
        cases n with
        | zero => exact hn rfl
        | succ n => exact q ⟨n, by rw [← h n]; exact hn⟩
      unfold whileF
      rw [dif_neg q, dif_neg q']
  cases e : t ρ with
  | bad =>
    have q' : ¬ ∃ n, loopN t b n ρ ≠ .bad := fun ⟨n, hn⟩ => by
      cases n with
      | zero => exact hn rfl
      | succ n => rw [one, e] at hn; exact hn rfl
    unfold whileF
    rw [dif_neg q']; rfl
  | ex C ρ1 =>
    have h1 : loopN t b 1 ρ = .ex C ρ1 := by rw [one, e]; rfl
    rw [whileF_of (n := 1) (by rw [h1]; intro z; cases z), h1]; rfl
  | ok x ρ1 =>
    cases x with
    | false =>
      have h1 : loopN t b 1 ρ = .nx ρ1 := by rw [one, e]; rfl
      rw [whileF_of (n := 1) (by rw [h1]; intro z; cases z), h1]; rfl
    | true =>
      show _ = match b ρ1 with | .nx ρ2 => whileF t b ρ2 | .ct ρ2 => whileF t b ρ2 | .bk ρ2 => .nx ρ2 | .rt d ρ2 => .rt d ρ2 | .ex C ρ2 => .ex C ρ2 | .bad => .bad
      have one' : ∀ n, loopN t b (n + 1) ρ = match b ρ1 with | .nx ρ2 => loopN t b n ρ2 | .ct ρ2 => loopN t b n ρ2 | .bk ρ2 => .nx ρ2 | .rt d ρ2 => .rt d ρ2 | .ex C ρ2 => .ex C ρ2 | .bad => .bad := fun n => by rw [one, e]; rfl
      cases e2 : b ρ1 with
      | nx ρ2 => exact step ρ2 fun n => by rw [one', e2]
      | ct ρ2 => exact step ρ2 fun n => by rw [one', e2]
      | bk ρ2 =>
        have h1 : loopN t b 1 ρ = .nx ρ2 := by rw [one', e2]
        rw [whileF_of (n := 1) (by rw [h1]; intro z; cases z), h1]
      | rt d ρ2 =>
        have h1 : loopN t b 1 ρ = .rt d ρ2 := by rw [one', e2]
        rw [whileF_of (n := 1) (by rw [h1]; intro z; cases z), h1]
      | ex C ρ2 =>
        have h1 : loopN t b 1 ρ = .ex C ρ2 := by rw [one', e2]
        rw [whileF_of (n := 1) (by rw [h1]; intro z; cases z), h1]
      | bad =>
        have q' : ¬ ∃ n, loopN t b n ρ ≠ .bad := fun ⟨n, hn⟩ => by
          cases n with
          | zero => exact hn rfl
          | succ n => rw [one', e2] at hn; exact hn rfl
        unfold whileF
        rw [dif_neg q']
section
variable {X : Cx} {W : WX} {c tg iter : Expr} {pu : Bool} {pos : Pos} {body : List Stmt} {tf : Env → Res Bool} {g : Env → SRes} {it : Env → Res (List D)} {tgf : D → Env → Option Env} {ix : List Nat}
theorem pb_while (hp : PassesOwn (model X.prog X.w) X.A X.env X.xe) (hc : PT X c (tT X.K pu W tf)) (hb : PSs X body (tS X.K W g)) : PS X (.While c body [] pos) (tS X.K W (whileF tf g)) := by
  refine PS.imp (ps_while hp hc hb) fun D σ H h => ?_
  obtain ⟨pn, G, ρ, fp, c0, h⟩ := h
  have hn : ∃ n, loopN tf g n ρ ≠ .bad := by
    unfold whileF at h
    split at h
    · assumption
    · exact h.elim
  obtain ⟨n, hn⟩ := hn
  rw [whileF_of hn] at h
  refine ⟨fun n σ' H' => ∃ G' ρ' fp', Cor X.K pn σ' H' G' ρ' fp' ∧ (loopN tf g n ρ').sat X.K W pn H' G' fp' D, ⟨n, G, ρ, fp, c0, h⟩, ?_⟩
  rintro m σ1 H1 ⟨G1, ρ1, fp1, c1, s1⟩
  cases m with
  | zero => exact s1.elim
  | succ m =>
    refine ⟨pn, G1, ρ1, fp1, c1, (Res.tos_sat s1).imp (fun x ρ2 s H2 G2 fp2 fw2 p2 c2 => ?_) fun _ _ h => h⟩
    cases x with
    | false =>
      rw [if_neg Bool.false_ne_true] at s ⊢
      exact s σ1 H2 G2 fp2 fw2 c2
    | true =>
      rw [if_pos rfl] at s ⊢
      refine ⟨fun σ' H' => ∃ G' ρ' fp', Cor X.K pn σ' H' G' ρ' fp' ∧ (loopN tf g m ρ').sat X.K W pn H' G' fp' D, fun σ' H' q => ⟨m, by omega, q⟩, pn, G2, ρ2, fp2, c2, ?_⟩
      cases e : g ρ2 with
      | nx ρ3 => simp only [e] at s; exact fun σ' H' G' fp' fw c' => ⟨G', ρ3, fp', c', (s.on fw2).on fw⟩
      | ct ρ3 => simp only [e] at s; exact fun σ' H' G' fp' fw c' => ⟨G', ρ3, fp', c', (s.on fw2).on fw⟩
      | bk ρ3 => simp only [e] at s; exact SRes.sat.on (r := .nx ρ3) fw2 s
      | rt d ρ3 => simp only [e] at s; exact SRes.sat.on (r := .rt d ρ3) (D := D) fw2 s
      | ex C ρ3 => simp only [e] at s; exact SRes.sat.on (r := .ex C ρ3) (D := D) fw2 s
      | bad => simp only [e] at s; exact s.elim
theorem pb_for (hp : PassesOwn (model X.prog X.w) X.A X.env X.xe) (hc : X.calm = true) (hi : PI X tg iter (tI X.K W it)) (hg : PG X tg (tG X.K ix tgf)) (hb : PSs X body (tS X.K W g)) (hs : ∀ x, foldedSetIterable iter X.env x = pure x := by intro _; rfl) : PS X (.For tg iter body [] pos) (tS X.K W (forF it tgf g)) := by
  refine PS.imp (ps_for hp hc hi hg hb hs) fun D σ H h => ?_
  obtain ⟨pn, G, ρ, fp, c0, h⟩ := h
  refine ⟨pn, G, ρ, fp, c0, (Res.tos_sat h).imp (fun items ρ1 s J H1 G1 fp1 fw1 c1 jo => ?_) fun _ _ h => h⟩
  refine ⟨fun i m σ' H' => m = items.length - i ∧ ∃ G' ρ' fp', Cor X.K pn σ' H' G' ρ' fp' ∧ Ex G1 G' ∧ (forGo tgf g (items.drop i) ρ').sat X.K W pn H' G' fp' D, ⟨_, rfl, G1, ρ1, fp1, c1, .refl _, s.on fw1⟩, ?_⟩
  rintro i m σ2 H2 ⟨rfl, G2, ρ2, fp2, c2, e2, s2⟩
  obtain ⟨j1, j2, j3⟩ := jo i H2 G2 e2 c2.ex
  by_cases hi : i < items.length
  · refine .inr ⟨j1 hi, fun σ' H' => ∃ G' ρ' fp', Cor X.K pn σ' H' G' ρ' fp' ∧ Ex G1 G' ∧ (forGo tgf g (items.drop (i + 1)) ρ').sat X.K W pn H' G' fp' D, fun σ' H' q => ⟨items.length - (i + 1), by omega, rfl, q⟩, fun x H' y => ?_⟩
    obtain ⟨G', gr, rx⟩ := j3 _ x H' (List.getElem?_eq_getElem hi) y
    rw [List.drop_eq_getElem_cons hi] at s2
    have c' := c2.gro gr
    have fw' : Fw G2 H2 fp2 G' H' fp2 := gr.fw
    unfold forGo at s2
    cases e1 : tgf items[i] ρ2 with
    | none => simp only [e1] at s2; exact s2.elim
    | some ρt =>
      simp only [e1] at s2
      refine ⟨pn, G', ρ2, fp2, items[i], ρt, c', rx, e1, fun σ3 fp3 sub keep len c3 => ?_⟩
      have fws : Fw G' H' fp2 G' H' fp3 := ⟨.refl _, fun _ _ h _ _ => h, fun a ha => .inl (sub a ha), fun _ _ h => .inl h, fun _ o h => ⟨o, h⟩, fun _ ps h => ⟨ps, h, id⟩⟩
      have fwA := fw'.trans fws
      refine ⟨pn, G', ρt, fp3, c3, ?_⟩
      cases e : g ρt with
      | nx ρ3 => simp only [e] at s2; exact fun σ' H'' G'' fp' fw c' => ⟨G'', ρ3, fp', c', (e2.trans gr.g).trans fw.ex, (s2.on fwA).on fw⟩
      | ct ρ3 => simp only [e] at s2; exact fun σ' H'' G'' fp' fw c' => ⟨G'', ρ3, fp', c', (e2.trans gr.g).trans fw.ex, (s2.on fwA).on fw⟩
      | bk ρ3 => simp only [e] at s2; exact SRes.sat.on (r := .nx ρ3) fwA s2
      | rt d ρ3 => simp only [e] at s2; exact SRes.sat.on (r := .rt d ρ3) (D := D) fwA s2
      | ex C ρ3 => simp only [e] at s2; exact SRes.sat.on (r := .ex C ρ3) (D := D) fwA s2
      | bad => simp only [e] at s2; exact s2.elim
  · refine .inl ⟨j2 (by omega), ?_⟩
    rw [List.drop_eq_nil_of_le (by omega)] at s2
    exact s2 σ2 H2 G2 fp2 .refl c2
end
end Mo

/-! Mo9: lists of one's own changed; calls of defs; raise, try; a def. -/
namespace Mo
variable [Tabs]
open PySem PySem.Spec PyProof.Rows L2

/-! ### a list of one's own, changed -/
def lsAt (ρ : Env) (i : Nat) : Option (Slot × List OT) := match ρ[i]? with
  | some s => match s.ot with
    | some (.ls ts) => some (s, ts)
    | _ => none
  | none => none
section
variable {K : PySem.W.Frag} {pn : List (Nat × V)} {σ : L2.St} {H G H0 G0 : Hp} {ρ : Env} {fp fp0 : List Addr}
theorem lsAt_is {i : Nat} {s : Slot} {ts : List OT} (h : lsAt ρ i = some (s, ts)) : ρ[i]? = some s ∧ s.ot = some (.ls ts) := by
  unfold lsAt at h
  split at h
  · rename_i s' q
    split at h
    · rename_i us q2
      cases h
      exact ⟨q, q2⟩
    · cases h
  · cases h
theorem Cor.io_set (c : Cor K pn σ H G ρ fp) {i : Nat} {s : Slot} {t : OT} {ρ2 : Env} (hs : ρ[i]? = some s) (e : ρ2 = ρ.set i (s.to t)) : ∀ p ∈ pn, σ[p.1]? = some (some p.2) ∧ ∃ t, ρ2[p.1]? = some (.io t) := fun p hp => by
  obtain ⟨p1, t', p2⟩ := c.pn p hp
  refine ⟨p1, ?_⟩
  by_cases z : i = p.1
  · subst z
    rw [hs] at p2
    cases p2
    subst e
    obtain ⟨hi, _⟩ := List.getElem?_eq_some_iff.mp hs
    exact ⟨t, by rw [List.getElem?_set_self hi]; rfl⟩
  · subst e
    exact ⟨t', by rw [List.getElem?_set_ne z]; exact p2⟩
theorem Cor.store (fw : Fw G0 H0 fp0 G H fp) (c : Cor K pn σ H G ρ fp) {i : Nat} {s : Slot} {ts : List OT} (q : lsAt ρ i = some (s, ts)) :
    ∃ a vs fq, σ[i]? = some (some (.ref a)) ∧ H a = some (.lst vs) ∧ Owns K G H ts vs fq ∧ fq.Nodup ∧ (∀ b ∈ fq, b ∈ fp) ∧
      ∀ ts' vs' fq', Owns K G H ts' vs' fq' → fq'.Nodup → (∀ b ∈ fq', b ∈ fq ∨ (b ∉ fp ∧ H0 b = none)) →
        ∃ fp', Fw G0 H0 fp0 G (upd H a (.lst vs')) fp' ∧ Cor K pn σ (upd H a (.lst vs')) G (ρ.set i (s.to (.ls ts'))) fp' := by
  obtain ⟨q1, q2⟩ := lsAt_is q
  obtain ⟨v, f0, f1, f2, a1, a2, a3, a4⟩ := c.sl.at q1 q2
  obtain ⟨a, vs, fq, e1, e2, e3, e4, ow⟩ := a3
  subst e1 e2 a2
  have nd := c.nd
  obtain ⟨n1, n2, n3⟩ := List.nodup_append.mp nd
  obtain ⟨m1, m2, m3⟩ := List.nodup_append.mp n1
  obtain ⟨k1, k2⟩ := List.nodup_cons.mp m2
  have ina : a ∈ f0 ++ a :: fq ++ f2 := by simp
  refine ⟨a, vs, fq, a1, e3, ow, k2, fun b hb => by simp [hb], fun ts' vs' fq' ow' nd' sub => ?_⟩
  have na : a ∉ fq' := fun z => by
    rcases sub a z with y | ⟨y, _⟩
    · exact k1 y
    · exact y ina
  have nf : ∀ b ∈ f0 ++ f2, b ≠ a := fun b hb z => by
    subst z
    rcases List.mem_append.mp hb with y | y
    · exact m3 b y b (by simp) rfl
    · exact n3 b (by simp) b y rfl
  have o' : Own K G (upd H a (.lst vs')) (.ls ts') (.ref a) (a :: fq') := ⟨a, vs', fq', rfl, rfl, upd_same, e4, ow'.frame (.refl _) (fun b hb => upd_ne (fun z => na (z ▸ hb))) fun b hb => (ow'.there b hb).1⟩
  have gn : ∀ b ∈ f0 ++ f2, G b = none := fun b hb => (c.sl.there b (by rcases List.mem_append.mp hb with y | y <;> simp [y])).1
  have sl := a4 (G' := G) (H' := upd H a (.lst vs')) (t' := .ls ts') (v' := .ref a) (f1' := a :: fq') (.refl _) (fun b hb => upd_ne (nf b hb)) gn o'
  rw [set_same a1] at sl
  have hp : ∀ b ∈ fq', b ∉ f0 ++ f2 := fun b hb z => by
    rcases sub b hb with y | ⟨y, _⟩
    · rcases List.mem_append.mp z with x | x
      · exact m3 b x b (by simp [y]) rfl
      · exact n3 b (by simp [y]) b x rfl
    · exact y (by rcases List.mem_append.mp z with x | x <;> simp [x])
  refine ⟨f0 ++ (a :: fq') ++ f2, ⟨fw.ex, fun b o h n k => ?_, fun b hb => ?_, fw.ng, fun b o h => ?_, fun b ps h => ?_⟩, ⟨c.ex.put e4, sl, ?_, c.io_set q1 rfl, c.tb.put (by rw [e3]; nofun)⟩⟩
  · have : b ≠ a := fun z => by
      subst z
      rcases fw.nf b ina with y | y
      · exact n y
      · rw [h] at y; cases y
    rw [upd_ne this]
    exact fw.fr b o h n k
  · have : b ∈ f0 ++ a :: fq ++ f2 ∨ H0 b = none := by
      rcases List.mem_append.mp hb with y | y
      · rcases List.mem_append.mp y with y | y
        · exact .inl (by simp [y])
        · rcases List.mem_cons.mp y with y | y
          · exact .inl (by simp [y])
          · rcases sub b y with z | z
            · exact .inl (by simp [z])
            · exact .inr z.2
      · exact .inl (by simp [y])
    exact this.elim (fun y => fw.nf b y) .inr
  · by_cases z : b = a
    · subst z; exact ⟨_, upd_same⟩
    · rw [upd_ne z]; exact fw.th b o h
  · obtain ⟨qs, h1, k1⟩ := fw.tb b ps h
    obtain ⟨rs, h2, k2⟩ := tbl_put (o := .lst vs') (by rw [e3]; nofun) h1
    exact ⟨rs, h2, fun t => k2 (k1 t)⟩
  · refine List.nodup_append.mpr ⟨List.nodup_append.mpr ⟨m1, List.nodup_cons.mpr ⟨na, nd'⟩, fun x hx y hy z => ?_⟩, n2, fun x hx y hy z => ?_⟩
    · subst z
      rcases List.mem_cons.mp hy with w | w
      · exact nf x (List.mem_append_left _ hx) w
      · exact hp x w (List.mem_append_left _ hx)
    · subst z
      rcases List.mem_append.mp hx with w | w
      · exact n3 x (by simp [w]) x hy rfl
      · rcases List.mem_cons.mp w with w | w
        · exact nf x (List.mem_append_right _ hy) w
        · exact hp x w (List.mem_append_right _ hy)
end
theorem Owns.take {K : PySem.W.Frag} {G H : Hp} : ∀ {ts : List OT} {vs : List V} {fp : List Addr} (n : Nat), Owns K G H ts vs fp → ∃ f1 f2, fp = f1 ++ f2 ∧ Owns K G H (ts.take n) (vs.take n) f1 ∧ Owns K G H (ts.drop n) (vs.drop n) f2
  | ts, vs, fp, 0, h => ⟨[], fp, rfl, by simp [Owns], by simpa using h⟩
  | [], _, _, n + 1, ⟨e1, e2⟩ => by subst e1 e2; exact ⟨[], [], rfl, by simp [Owns], by simp [Owns]⟩
  | t :: ts, _, _, n + 1, ⟨v, r, f1, f2, e1, e2, h, g⟩ => by
    subst e1 e2
    obtain ⟨g1, g2, q1, q2, q3⟩ := g.take n
    subst q1
    exact ⟨f1 ++ g1, g2, by simp, ⟨v, _, f1, g1, rfl, rfl, h, q2⟩, q3⟩

def appF (i : Nat) (fo : Env → Res OT) : Env → Res Vl := fun ρ => match lsAt ρ i with
  | some _ => (fo ρ).bind fun t ρ1 => match lsAt ρ1 i with
    | some (s, ts) => if ts.length < sizeLine then .ok (.d .none) (ρ1.set i (s.to (.ls (ts ++ [t])))) else .bad
    | none => .bad
  | none => .bad
def insArg (xs : List Vl) : Option (Int × Vl) := match xs with
  | [.d (.int k), y] => some (k, y)
  | _ => none
theorem insArg_is {xs : List Vl} {k : Int} {y : Vl} (h : insArg xs = some (k, y)) : xs = [.d (.int k), y] := by
  unfold insArg at h
  split at h
  · cases h; rfl
  · cases h
def insF (i : Nat) (fs : Env → Res (List Vl)) : Env → Res Vl := fun ρ => match lsAt ρ i with
  | some _ => (fs ρ).bind fun xs ρ1 => match insArg xs with
    | some (k, y) => (fzE y ρ1).bind fun d ρ2 => match lsAt ρ2 i with
      | some (s, ts) => if ts.length < sizeLine ∧ 0 ≤ k ∧ k < 2 ^ 63 then .ok (.d .none) (ρ2.set i (s.to (.ls (ts.take k.toNat ++ [.lf d] ++ ts.drop k.toNat)))) else .bad
      | none => .bad
    | none => .bad
  | none => .bad
def extF (i : Nat) (f : Env → Res Vl) : Env → Res Vl := fun ρ => match lsAt ρ i with
  | some _ => (f ρ).bind fun x ρ1 => match x with
    | .d (.list ds) => match lsAt ρ1 i with
      | some (s, ts) => if ts.length + ds.length ≤ sizeLine then .ok (.d .none) (ρ1.set i (s.to (.ls (ts ++ ds.map .lf)))) else .bad
      | none => .bad
    | _ => .bad
  | none => .bad
def setIx (i : Nat) (fi : Env → Res Vl) (f : Env → Res Vl) : Env → SRes := fun ρ => (f ρ).tos fun x ρ1 => (fzE x ρ1).tos fun d ρ2 => match lsAt ρ2 i with
  | some _ => (fi ρ2).tos fun y ρ3 => match y with
    | .d (.int k) => match lsAt ρ3 i with
      | some (s, ts) => match ixN ts.length k with
        | some j => .nx (ρ3.set i (s.to (.ls (ts.set j (.lf d)))))
        | none => .bad
      | none => .bad
    | _ => .bad
  | none => .bad
section
variable {X : Cx} {W : WX} {e ei : Expr} {es : List Expr} {pu pi pa : Bool} {f fi : Env → Res Vl} {fo : Env → Res OT} {fs : Env → Res (List Vl)} {pos p apos cpos pos' : Pos} {x : Str}
theorem pb_append (i : Nat) (hx : PE X (.Name x p) (tVar i)) (he : PE X e (tO X.K pu W fo)) (hb : attributeBase (.Name x p) "append" X.env (eval (.Name x p) X.env) = eval (.Name x p) X.env := by rfl)
    (hk : (((backTo cpos (starEach [e] X.env)).all fun x => !x.1) && ((backToKw cpos (keywordEach [] X.env)).all fun x => x.1.isSome) && decide (([e].length + ([] : List (Option Str × Expr)).length + if ([] : List (Option Str × Expr)).isEmpty = true then 0 else 1) < 30)) = true := by rfl)
    (hl : (apos.endLine == cpos.line) = true := by rfl) (hs : starEach [e] X.env = (false, eval e X.env) :: starEach [] X.env := by rfl) (hpl : (backTo cpos (starEach [] X.env)).any (·.1) = false := by rfl) :
    PE X (.Call (.Attribute (.Name x p) "append" apos) [e] [] cpos) (tF X.K false W (appF i fo)) := by
  refine PE.imp (pe_bm PySem.F.plainAttrs_list PySem.F.slot_list_append PySem.F.type_list_append mt_append hx (pa_cons he pa_nil hs) hb hk hl hs hpl) fun σ H Q h => ?_
  obtain ⟨pn, G, ρ, fp, c, h⟩ := h
  unfold appF at h
  cases q0 : lsAt ρ i with
  | none => simp only [q0] at h; exact h.elim
  | some st0 =>
    simp only [q0] at h
    obtain ⟨a, vs, fq, b1, b2, _, _, _, _⟩ := c.store .refl (s := st0.1) (ts := st0.2) q0
    refine ⟨_, b1, .inl ⟨rfl, vs, .inl (.inl b2)⟩, pn, G, ρ, fp, c, (Res.sat_bind h).imp (fun t ρ1 h v H1 G1 fp1 fqe fw1 p1 c1 ow nd nw => ?_) fun _ _ h => h⟩
    cases q : lsAt ρ1 i with
    | none => simp only [q] at h; exact h.elim
    | some st =>
      obtain ⟨s, ts⟩ := st
      simp only [q] at h
      by_cases hz : ts.length < sizeLine
      · rw [if_pos hz] at h
        obtain ⟨a', vs', fq', g1, g2, g3, g4, g5, g6⟩ := c1.store fw1 q
        have : a' = a := by
          rw [b1] at g1
          cases g1; rfl
        subst this
        obtain ⟨n1, n2, n3⟩ := List.nodup_append.mp nd
        obtain ⟨fp', fw', c'⟩ := g6 (ts ++ [t]) (vs' ++ [v]) (fq' ++ fqe) (g3.append (Owns.one ow)) (List.nodup_append.mpr ⟨g4, n2, fun x hx y hy => n3 x (g5 x hx) y hy⟩) fun b hb => by
          rcases List.mem_append.mp hb with z | z
          · exact .inl z
          · exact .inr ⟨fun y => n3 b y b z rfl, nw b z⟩
        exact ⟨a', vs', v, rfl, rfl, g2, by rw [g3.length]; exact hz, h .non _ _ fp' fw' (fun z => by cases z) c' rfl⟩
      · rw [if_neg hz] at h; exact h.elim
theorem pb_insert (i : Nat) (hx : PE X (.Name x p) (tVar i)) (he : PA X (e :: es) (tV X.K pu W fs)) (hb : attributeBase (.Name x p) "insert" X.env (eval (.Name x p) X.env) = eval (.Name x p) X.env := by rfl)
    (hk : (((backTo cpos (starEach (e :: es) X.env)).all fun x => !x.1) && ((backToKw cpos (keywordEach [] X.env)).all fun x => x.1.isSome) && decide (((e :: es).length + ([] : List (Option Str × Expr)).length + if ([] : List (Option Str × Expr)).isEmpty = true then 0 else 1) < 30)) = true := by rfl)
    (hl : (apos.endLine == cpos.line) = true := by rfl) (hs : starEach (e :: es) X.env = (false, eval e X.env) :: starEach es X.env := by rfl) (hpl : (backTo cpos (starEach es X.env)).any (·.1) = false := by rfl) :
    PE X (.Call (.Attribute (.Name x p) "insert" apos) (e :: es) [] cpos) (tF X.K false W (insF i fs)) := by
  refine PE.imp (pe_bm PySem.F.plainAttrs_list PySem.F.slot_list_insert PySem.F.type_list_insert mt_insert hx he hb hk hl hs hpl) fun σ H Q h => ?_
  obtain ⟨pn, G, ρ, fp, c, h⟩ := h
  unfold insF at h
  cases q0 : lsAt ρ i with
  | none => simp only [q0] at h; exact h.elim
  | some st0 =>
    simp only [q0] at h
    obtain ⟨a, vs, fq, b1, b2, _, _, _, _⟩ := c.store .refl (s := st0.1) (ts := st0.2) q0
    refine ⟨_, b1, .inl ⟨rfl, vs, .inl (.inl b2)⟩, pn, G, ρ, fp, c, (Res.sat_bind h).imp (fun xs ρ1 h us H1 G1 fp1 fw1 p1 c1 vo => ?_) fun _ _ h => h⟩
    cases qa : insArg xs with
    | none => simp only [qa] at h; exact h.elim
    | some ky =>
      obtain ⟨k, y⟩ := ky
      simp only [qa] at h
      have ex := insArg_is qa
      subst ex
      cases vo with
      | cons vo1 vo2 =>
        cases vo2 with
        | cons vo2 vo3 =>
          cases vo3
          rename_i w u
          have ew : w = .int k := vo1
          subst ew
          obtain ⟨d, ρ2, G2, fp2, s2, fw2, c2, r2⟩ := c1.fz vo2 (Res.sat_bind h)
          cases q : lsAt ρ2 i with
          | none => simp only [q] at s2; exact s2.elim
          | some st =>
            obtain ⟨s, ts⟩ := st
            simp only [q] at s2
            by_cases hz : ts.length < sizeLine ∧ 0 ≤ k ∧ k < 2 ^ 63
            · rw [if_pos hz] at s2
              obtain ⟨a', vs', fq', g1, g2, g3, g4, g5, g6⟩ := c2.store (fw1.trans fw2) q
              have : a' = a := by
                rw [b1] at g1
                cases g1; rfl
              subst this
              obtain ⟨f1, f2, t1, t2, t3⟩ := g3.take k.toNat
              subst t1
              obtain ⟨fp', fw', c'⟩ := g6 (ts.take k.toNat ++ [.lf d] ++ ts.drop k.toNat) (vs'.take k.toNat ++ [u] ++ vs'.drop k.toNat) (f1 ++ [] ++ f2) ((t2.append (Owns.one (show Own X.K G2 H1 (.lf d) u [] from ⟨rfl, r2⟩))).append t3) (by simpa using g4) fun b hb => .inl (by simpa using hb)
              exact ⟨a', vs', k, u, rfl, rfl, g2, by rw [g3.length]; exact hz.1, hz.2.1, hz.2.2, s2 .non _ _ fp' fw' (fun z => by cases z) c' rfl⟩
            · rw [if_neg hz] at s2; exact s2.elim
theorem pb_extend (i : Nat) (hx : PE X (.Name x p) (tVar i)) (he : PE X e (tF X.K pu W f)) (hb : attributeBase (.Name x p) "extend" X.env (eval (.Name x p) X.env) = eval (.Name x p) X.env := by rfl)
    (hk : (((backTo cpos (starEach [e] X.env)).all fun x => !x.1) && ((backToKw cpos (keywordEach [] X.env)).all fun x => x.1.isSome) && decide (([e].length + ([] : List (Option Str × Expr)).length + if ([] : List (Option Str × Expr)).isEmpty = true then 0 else 1) < 30)) = true := by rfl)
    (hl : (apos.endLine == cpos.line) = true := by rfl) (hs : starEach [e] X.env = (false, eval e X.env) :: starEach [] X.env := by rfl) (hpl : (backTo cpos (starEach [] X.env)).any (·.1) = false := by rfl) :
    PE X (.Call (.Attribute (.Name x p) "extend" apos) [e] [] cpos) (tF X.K false W (extF i f)) := by
  refine PE.imp (pe_bm PySem.F.plainAttrs_list PySem.F.slot_list_extend PySem.F.type_list_extend mt_extend hx (pa_cons he pa_nil hs) hb hk hl hs hpl) fun σ H Q h => ?_
  obtain ⟨pn, G, ρ, fp, c, h⟩ := h
  unfold extF at h
  cases q0 : lsAt ρ i with
  | none => simp only [q0] at h; exact h.elim
  | some st0 =>
    simp only [q0] at h
    obtain ⟨a, vs, fq, b1, b2, _, _, _, _⟩ := c.store .refl (s := st0.1) (ts := st0.2) q0
    refine ⟨_, b1, .inl ⟨rfl, vs, .inl (.inl b2)⟩, pn, G, ρ, fp, c, (Res.sat_bind h).imp (fun y ρ1 h v H1 G1 fp1 fw1 p1 c1 vo => ?_) fun _ _ h => h⟩
    cases y with
    | d y => cases y with
      | list ds =>
        simp only at h
        obtain ⟨b, us, e1, e2, rl⟩ := vo
        subst e1
        cases q : lsAt ρ1 i with
        | none => simp only [q] at h; exact h.elim
        | some st =>
          obtain ⟨s, ts⟩ := st
          simp only [q] at h
          by_cases hz : ts.length + ds.length ≤ sizeLine
          · rw [if_pos hz] at h
            obtain ⟨a', vs', fq', g1, g2, g3, g4, g5, g6⟩ := c1.store fw1 q
            have : a' = a := by
              rw [b1] at g1
              cases g1; rfl
            subst this
            obtain ⟨fp', fw', c'⟩ := g6 (ts ++ ds.map .lf) (vs' ++ us) (fq' ++ []) (g3.append (Owns.lfs rl)) (by simpa using g4) fun b hb => .inl (by simpa using hb)
            exact ⟨a', b, vs', us, rfl, rfl, g2, c1.ex.at' _ _ e2, by rw [g3.length, rl.length]; exact hz, h .non _ _ fp' fw' (fun z => by cases z) c' rfl⟩
          · rw [if_neg hz] at h; exact h.elim
      | _ => exact h.elim
    | _ => exact h.elim
/-- x[i] = e, x a list of one's own -/
theorem pb_setIx (i : Nat) (hx : PE X (.Name x p) (tVar i)) (hi : PE X ei (tF X.K pi W fi)) (he : PE X e (tF X.K pu W f)) (h1 : swapsWithSole [.Subscript (.Name x p) ei pos'] e pos.line X.env = pure false := by rfl) (h2 : swappedStores [.Subscript (.Name x p) ei pos'] e X.env = pure none := by rfl)
    (h3 : (assignEach [.Subscript (.Name x p) ei pos'] X.env).map (·.2) = [assign (.Subscript (.Name x p) ei pos') X.env] := by rfl)
    (h4 : ∀ v : Value, assign (.Subscript (.Name x p) ei pos') X.env v = (do let ov ← holding [v] (eval (.Name x p) X.env); let iv ← holding [v, ov] (eval ei X.env); standAt pos'; holding [v, ov, iv] (setItem ov iv v); release [v, ov, iv] []) := by intro _; rfl) :
    PS X (.Assign [.Subscript (.Name x p) ei pos'] e pos) (tS X.K W (setIx i fi f)) := by
  refine PS.imp (ps_asg he (pg_sub hx hi set_list h4) h1 h2 h3) fun D σ H h => ?_
  obtain ⟨pn, G, ρ, fp, c, h⟩ := h
  refine ⟨pn, G, ρ, fp, c, (Res.tos_sat h).imp (fun x ρ1 h v H1 G1 fp1 fw1 p1 c1 vo => ?_) fun _ _ h => h⟩
  obtain ⟨d, ρ2, G2, fp2, s, fw2, c2, r⟩ := c1.fzS fw1 vo h
  cases q0 : lsAt ρ2 i with
  | none => simp only [q0] at s; exact s.elim
  | some st0 =>
    simp only [q0] at s
    obtain ⟨a, vs, fq, b1, b2, _, _, _, _⟩ := c2.store .refl (s := st0.1) (ts := st0.2) q0
    refine ⟨_, b1, pn, G2, ρ2, fp2, c2, (Res.tos_sat (σ := σ) s).imp (fun y ρ3 s u H3 G3 fp3 fw3 p3 c3 wo => ?_) fun _ _ h => h.on fw2⟩
    cases y with
    | d y => cases y with
      | int k =>
        simp only at s
        have eu : u = .int k := wo
        cases q : lsAt ρ3 i with
        | none => simp only [q] at s; exact s.elim
        | some st =>
          obtain ⟨s', ts⟩ := st
          simp only [q] at s
          cases q5 : ixN ts.length k with
          | none => simp only [q5] at s; exact s.elim
          | some j =>
            simp only [q5] at s
            obtain ⟨a', vs', fq', g1, g2, g3, g4, g5, g6⟩ := c3.store (fw2.trans fw3) q
            have : a' = a := by
              rw [b1] at g1
              cases g1; rfl
            subst this
            have hj : j < ts.length := by
              unfold ixN at q5
              split at q5
              · split at q5 <;> cases q5
                omega
              · split at q5 <;> cases q5
                omega
            obtain ⟨z, f0, f1, f2, k1, k2, k3, k4⟩ := g3.at (List.getElem?_eq_getElem hj)
            subst k2
            have gn : ∀ a ∈ f0 ++ f2, G3 a = none := fun b hb => (g3.there b (by rcases List.mem_append.mp hb with y | y <;> simp [y])).1
            obtain ⟨fp', fw', c'⟩ := g6 (ts.set j (.lf d)) (vs'.set j v) (f0 ++ [] ++ f2) (k4 (.refl _) (fun _ _ => rfl) gn ⟨rfl, r.mono fw3.ex⟩) (by
              rw [List.append_nil]
              rw [List.append_assoc] at g4
              obtain ⟨o1, o2, o3⟩ := List.nodup_append.mp g4
              obtain ⟨o4, o5, o6⟩ := List.nodup_append.mp o2
              exact List.nodup_append.mpr ⟨o1, o5, fun x hx y hy => o3 x hx y (List.mem_append_right _ hy)⟩) fun b hb => .inl (by
              rw [List.append_nil] at hb
              rcases List.mem_append.mp hb with y | y <;> simp [y])
            exact ⟨a', vs', k, j, rfl, eu, g2, by rw [g3.length]; exact q5, s _ _ _ fp' fw' c'⟩
      | _ => exact s.elim
    | _ => exact s.elim
end
end Mo

/-! Mo10: calls of defs; raise, try; rows of fresh trees; a def. -/
namespace Mo
variable [Tabs]
open PySem PySem.Spec PyProof.Rows L2

/-! ### what a def gives -/
inductive Out where
  | ret (d : D)
  | exc (C : Addr)
  | bad
inductive OutI where
  | ret (d : D) (t : OT)
  | bad
def spF (K : PySem.W.Frag) (F : List D → Out) : Sp := fun vs H Q E => ∃ G ds, (Ex G H ∧ Tb H) ∧ RpL K G ds vs ∧ match F ds with
  | .ret d => ∀ v H' G', Gro G H G' H' → Rp K G' d v → Q v H'
  | .exc C => ∀ H' G', Gro G H G' H' → E (.ref C) none H'
  | .bad => False
/-- a def whose first parameter is a list that it changes -/
def spI (K : PySem.W.Frag) (F : OT → List D → OutI) : Sp := fun vs H Q E => ∃ G t ds v0 vr fq, (Ex G H ∧ Tb H) ∧ vs = v0 :: vr ∧ Own K G H t v0 fq ∧ fq.Nodup ∧ RpL K G ds vr ∧ match F t ds with
  | .ret d t' => ∀ v H' G' fq', Fw G H fq G' H' fq' → Ex G' H' → Own K G' H' t' v0 fq' → fq'.Nodup → Rp K G' d v → Q v H'
  | .bad => False
def callD (F : List D → Out) (fs : Env → Res (List Vl)) : Env → Res Vl := fun ρ => (fs ρ).bind fun xs ρ1 => (fzs xs ρ1).bind fun ds ρ2 => match F ds with
  | .ret d => .ok (.d d) ρ2
  | .exc C => .ex C ρ2
  | .bad => .bad
def ioArg (xs : List Vl) : Option (Nat × List Vl) := match xs with
  | .r i :: ys => some (i, ys)
  | _ => none
theorem ioArg_is {xs : List Vl} {i : Nat} {ys : List Vl} (h : ioArg xs = some (i, ys)) : xs = .r i :: ys := by
  unfold ioArg at h
  split at h
  · cases h; rfl
  · cases h
def callI (F : OT → List D → OutI) (fs : Env → Res (List Vl)) : Env → Res Vl := fun ρ => (fs ρ).bind fun xs ρ1 => match ioArg xs with
  | some (i, ys) => (fzs ys ρ1).bind fun ds ρ2 => match lsAt ρ2 i with
    | some (s, ts) => match F (.ls ts) ds with
      | .ret d t' => .ok (.d d) (ρ2.set i (s.to t'))
      | .bad => .bad
    | none => .bad
  | none => .bad
section
variable {X : Cx} {W : WX} {e : Expr} {es : List Expr} {pu : Bool} {fs : Env → Res (List Vl)} {pos p : Pos} {x : Str} {k : Nat} {f : Addr} {fd : FuncData} {ps : List Str}
theorem pb_call {F : List D → Out} (Fk : FnOk X.prog X.w X.K X.mg X.base (L2.CX X.prog X.w) k f fd ps (spF X.K F)) (hr : Room k X.A) (hg : Gl X x) (hm : X.mg x = some (.ref f)) (hk : PySem.W.keepIn X.K (.ref f) = true) (hb : Binds X.K fd ps []) (tk : Takes X W)
    (ha : PA X (e :: es) (tV X.K pu W fs)) (hd : (x == ("__debug__" : Str)) = false := by decide) (hs : starEach (e :: es) X.env = (false, eval e X.env) :: starEach es X.env := by rfl) (hpl : (backTo pos (starEach es X.env)).any (·.1) = false := by rfl) :
    PE X (.Call (.Name x p) (e :: es) [] pos) (tF X.K pu W (callD F fs)) := by
  refine PE.imp (pe_callS Fk hr hg hm hk hb (fun σ => passAt tk σ) ha hd hs hpl) fun σ H Q h => ?_
  obtain ⟨pn, G, ρ, fp, c, h⟩ := h
  refine ⟨pn, G, ρ, fp, c, (Res.sat_bind h).imp (fun xs ρ1 h vs H1 G1 fp1 fw1 p1 c1 vo => ?_) fun _ _ h => h⟩
  obtain ⟨ds, ρ2, G2, fp2, s, fw2, c2, r⟩ := c1.fzs vo (Res.sat_bind h)
  refine ⟨G2, ds, ⟨c2.ex, c2.tb⟩, r, ?_⟩
  cases e : F ds with
  | bad => simp only [e] at s; exact s.elim
  | ret d => simp only [e] at s ⊢; exact fun v H' G' gr rv => s v H' G' fp2 ((fw1.trans fw2).trans gr.fw) (fun q => (p1 q).trans gr.h) (c2.gro gr) rv
  | exc C => simp only [e] at s ⊢; exact fun H' G' gr => s H' G' fp2 ((fw1.trans fw2).trans gr.fw) (c2.gro gr)
theorem pb_callI {F : OT → List D → OutI} (Fk : FnOk X.prog X.w X.K X.mg X.base (L2.CX X.prog X.w) k f fd ps (spI X.K F)) (hr : Room k X.A) (hg : Gl X x) (hm : X.mg x = some (.ref f)) (hk : PySem.W.keepIn X.K (.ref f) = true) (hb : Binds X.K fd ps []) (tk : Takes X W)
    (ha : PA X (e :: es) (tV X.K pu W fs)) (hd : (x == ("__debug__" : Str)) = false := by decide) (hs : starEach (e :: es) X.env = (false, eval e X.env) :: starEach es X.env := by rfl) (hpl : (backTo pos (starEach es X.env)).any (·.1) = false := by rfl) :
    PE X (.Call (.Name x p) (e :: es) [] pos) (tF X.K false W (callI F fs)) := by
  refine PE.imp (pe_callS Fk hr hg hm hk hb (fun σ => passAt tk σ) ha hd hs hpl) fun σ H Q h => ?_
  obtain ⟨pn, G, ρ, fp, c, h⟩ := h
  refine ⟨pn, G, ρ, fp, c, (Res.sat_bind h).imp (fun xs ρ1 h vs H1 G1 fp1 fw1 p1 c1 vo => ?_) fun _ _ h => h⟩
  cases qa : ioArg xs with
  | none => simp only [qa] at h; exact h.elim
  | some iy =>
    obtain ⟨i, ys⟩ := iy
    simp only [qa] at h
    have ex := ioArg_is qa
    subst ex
    cases vo with
    | cons vo1 vo2 =>
      rename_i v0 vr
      obtain ⟨ds, ρ2, G2, fp2, s, fw2, c2, r⟩ := c1.fzs vo2 (Res.sat_bind h)
      cases q : lsAt ρ2 i with
      | none => simp only [q] at s; exact s.elim
      | some st =>
        obtain ⟨sl, ts⟩ := st
        simp only [q] at s
        obtain ⟨q1, q2⟩ := lsAt_is q
        obtain ⟨w, f0, f1, f2, a1, a2, a3, a4⟩ := c2.sl.at q1 q2
        have hv : σ[i]? = some (some v0) := vo1
        have : w = v0 := by rw [a1] at hv; exact Option.some.inj (Option.some.inj hv)
        subst this a2
        have nd := c2.nd
        obtain ⟨n1, n2, n3⟩ := List.nodup_append.mp nd
        obtain ⟨m1, m2, m3⟩ := List.nodup_append.mp n1
        refine ⟨G2, .ls ts, ds, w, vr, f1, ⟨c2.ex, c2.tb⟩, rfl, a3, m2, r, ?_⟩
        cases e : F (.ls ts) ds with
        | bad => simp only [e] at s; exact s.elim
        | ret d t' =>
          simp only [e] at s ⊢
          intro v H' G' fq' fw' ge' ow nq rv
          have fwA := fw1.trans fw2
          have out : ∀ a ∈ f0 ++ f2, a ∉ f1 := fun a ha hb => by
            rcases List.mem_append.mp ha with z | z
            · exact m3 a z a hb rfl
            · exact n3 a (List.mem_append_right _ hb) a z rfl
          have inn : ∀ a ∈ f0 ++ f2, a ∈ f0 ++ f1 ++ f2 := fun a ha => by rcases List.mem_append.mp ha with z | z <;> simp [z]
          have fr : ∀ a ∈ f0 ++ f2, H' a = H1 a := fun a ha => by
            obtain ⟨_, us, z⟩ := c2.sl.there a (inn a ha)
            rw [z]; exact fw'.fr a _ z (out a ha)
          have gn : ∀ a ∈ f0 ++ f2, G' a = none := fun a ha => by
            obtain ⟨n, us, z⟩ := c2.sl.there a (inn a ha)
            cases y : G' a with
            | none => rfl
            | some o =>
              rcases fw'.ng a o y with w | w | w
              · rw [n] at w; cases w
              · rw [z] at w; cases w
              · exact absurd w (out a ha)
          have hsl := a4 (G' := G') (H' := H') (t' := t') (v' := w) (f1' := fq') fw'.ex fr gn ow
          rw [set_same a1] at hsl
          have dj : ∀ a ∈ fq', a ∉ f0 ++ f2 := fun a ha hb => by
            rcases fw'.nf a ha with z | z
            · exact out a hb z
            · obtain ⟨_, us, y⟩ := c2.sl.there a (inn a hb)
              rw [y] at z; cases z
          refine s v H' G' (f0 ++ fq' ++ f2) ⟨fwA.ex.trans fw'.ex, fun a o h n k => ?_, fun a ha => ?_, fun a o h => ?_, fun a o h => ?_, (fwA.trans' fw').2⟩ (fun z => by cases z) ⟨ge', hsl, ?_, c2.io_set q1 rfl, fw'.tbs c2.tb⟩ rv
          · refine fw'.fr a o (fwA.fr a o h n k) (k := k) fun z => ?_
            rcases fwA.nf a (by simp [z]) with y | y
            · exact n y
            · rw [h] at y; cases y
          · have : a ∈ f0 ++ f1 ++ f2 ∨ H1 a = none := by
              rcases List.mem_append.mp ha with z | z
              · rcases List.mem_append.mp z with z | z
                · exact .inl (by simp [z])
                · rcases fw'.nf a z with y | y
                  · exact .inl (by simp [y])
                  · exact .inr y
              · exact .inl (by simp [z])
            exact this.elim (fun z => fwA.nf a z) fun z => .inr (fwA.none z)
          · rcases fw'.ng a o h with z | z | z
            · exact fwA.ng a o z
            · exact .inr (.inl (fwA.none z))
            · rcases fwA.nf a (by simp [z]) with y | y
              · exact .inr (.inr y)
              · exact .inr (.inl y)
          · obtain ⟨o', z⟩ := fwA.th a o h
            exact fw'.th a o' z
          · refine List.nodup_append.mpr ⟨List.nodup_append.mpr ⟨m1, nq, fun a ha b hb z => ?_⟩, n2, fun a ha b hb z => ?_⟩
            · subst z; exact dj a hb (List.mem_append_left _ ha)
            · subst z
              rcases List.mem_append.mp ha with y | y
              · exact n3 a (by simp [y]) a hb rfl
              · exact dj a y (List.mem_append_right _ hb)
end

/-! ### raise, try -/
def raiseF (C : Addr) : Env → SRes := fun ρ => .ex C ρ
/-- try: body; except X: suite -/
def tryF (C : Addr) (b s : Env → SRes) : Env → SRes := fun ρ => match b ρ with
  | .ex C' ρ1 => if C' = C then s ρ1 else .bad
  | r => r
section
variable {X : Cx} {W : WX} {C : Addr} {x m : Str} {j : Nat} {p p2 pos pos' np : Pos} {b s : Env → SRes} {body suite : List Stmt} {b₀ : Stmt}
theorem pb_raise {bmB : List Value} {B newId initId : String} (hc : X.calm = true) (tk : Takes X W) (hB : ExcBaseFacts B newId initId bmB) (hx : PySem.W.excIn X.K C bmB newId = true) (hm : X.mg x = some (.ref C)) (hk : PySem.W.keepIn X.K (.ref C) = true) (hr : Raises X (.ref C)) (hg : Gl X x) (hd : (x == ("__debug__" : Str)) = false := by decide) :
    PS X (.Raise (some (.Call (.Name x p) [.Constant (.str m) j p2] [] pos)) none pos') (tS X.K W (raiseF C)) := by
  refine PS.imp (ps_raise hc tk (pmk_own hB hx hm hk hr hg hd)) fun D σ H h => ?_
  obtain ⟨pn, G, ρ, fp, c, h⟩ := h
  exact h σ H G fp .refl c
theorem pb_try {n : Str} (hs : X.stack = X.env :: X.outer) (hf : X.env.frame = some X.env.locals) (hc : Names X x (.ref C)) (tk : Takes X W) (eC : PySem.W.exmOne X.K (.ref C) (.ref C) = some true)
    (hb : ∀ (W' : WX) (pn : List (Addr × Obj)) (xe : Value → Shared → Prop), Takes (X.tr pn xe) W' → PassesOwn (model X.prog X.w) X.A X.env xe → PSs (X.tr pn xe) body (tS X.K W' b))
    (hsu : ∀ (a : Addr) (oe : Obj) (cls : Value) (d : Option Addr) (pn : List (Addr × Obj)), Zc cls d oe → (∃ vs, oe.data = .fields vs) → PSs (X.suite a ((a, oe) :: pn)) (b₀ :: suite) (tS X.K W s)) :
    PS X (.Try body [.ExceptHandler (some (.Name x np)) none (b₀ :: suite) pos'] [] [] pos) (tS X.K W (tryF C b s)) := by
  refine PS.imp (ps_try_only (tb := fun W' => tS X.K W' b) (ts := fun _ _ _ => tS X.K W s) hs hf hc tk hb hsu) fun D σ H h => ?_
  obtain ⟨pn, G, ρ, fp, c, h⟩ := h
  refine ⟨pn, G, ρ, fp, c, ?_⟩
  unfold tryF at h
  cases e : b ρ with
  | nx ρ1 => simp only [e] at h; exact h
  | rt d ρ1 => simp only [e] at h; exact h
  | bk ρ1 => simp only [e] at h; exact h
  | ct ρ1 => simp only [e] at h; exact h
  | bad => simp only [e] at h; exact h
  | ex C' ρ1 =>
    simp only [e] at h
    by_cases z : C' = C
    · rw [if_pos z] at h
      subst z
      exact fun σ' H' G' fp' fw c' => ⟨true, eC, fun _ a ha => ⟨pn, G', ρ1, fp', c', h.on fw⟩, fun z => by cases z⟩
    · rw [if_neg z] at h; exact h.elim
end

/-! ### x op= e -/
def oIadd : D → D → Option D
  | .int i, .int j => some (.int (i + j))
  | .str a, .str b => if a.length + b.length ≤ sizeLine then some (.str (a ++ b)) else none
  | _, _ => none
def oIsub : D → D → Option D
  | .int i, .int j => some (.int (i - j))
  | _, _ => none
def rIp (K : PySem.W.Frag) (op : D → D → Option D) : TIp := fun x y H Q => ∃ G a b c, Ex G H ∧ Rv K H G a x ∧ Rv K H G b y ∧ op a b = some c ∧ ∀ v H' G', Gro G H G' H' → Rp K G' c v → Q v H'
def augF (i : Nat) (op : D → D → Option D) (f : Env → Res Vl) : Env → SRes := fun ρ => match ρ[i]? with
  | some (.v (.lf a)) => (f ρ).tos fun x ρ1 => match vw ρ1 x with
    | some b => match op a b with
      | some c => match asgE i c ρ1 with
        | some ρ2 => .nx ρ2
        | none => .bad
      | none => .bad
    | none => .bad
  | _ => .bad
section
variable {X : Cx} {W : WX} {e : Expr} {pu : Bool} {f : Env → Res Vl} {pos pos' : Pos}
theorem str_app_len (a b : Str) : (a ++ b).length = a.length + b.length := by
  show (a.cps ++ b.cps).size = _
  rw [Array.size_append]; rfl
theorem ip_iadd : PIp X .Add (rIp X.K oIadd) := by
  intro pins s σ H x y v u Q I r1 r2 h
  obtain ⟨G, a, b, c, ge, ra, rb, e, q⟩ := h
  unfold oIadd at e
  split at e
  · cases e
    cases ra; cases rb
    exact ip_add pins s σ H _ _ v u Q I r1 r2 ⟨_, _, rfl, rfl, q _ _ G (.refl ge) rfl⟩
  · split at e
    · rename_i hz
      cases e
      obtain ⟨e1, _⟩ := ra
      obtain ⟨e2, _⟩ := rb
      subst e1 e2
      exact in_addS pins s σ H _ _ v u Q I r1 r2 ⟨_, _, rfl, rfl, hz, q _ _ G (.refl ge) ⟨rfl, by rw [str_app_len]; exact hz⟩⟩
    · cases e
  · cases e
theorem ip_isub : PIp X .Sub (rIp X.K oIsub) := by
  intro pins s σ H x y v u Q I r1 r2 h
  obtain ⟨G, a, b, c, ge, ra, rb, e, q⟩ := h
  unfold oIsub at e
  split at e
  · cases e
    cases ra; cases rb
    exact ip_sub pins s σ H _ _ v u Q I r1 r2 ⟨_, _, rfl, rfl, q _ _ G (.refl ge) rfl⟩
  · cases e
theorem pb_aug (i : Nat) {x : Str} {op : Operator} {od : D → D → Option D} (hN : X.N.Nodup) (ho : PIp X op (rIp X.K od)) (h : PE X e (tF X.K pu W f)) (hi : X.N[i]? = some x := by rfl) (hx : Loc X.env.scope x := by first | exact Or.inl rfl | exact Or.inr rfl)
    (hf : X.fn x = true ∨ X.env.scope.names.lookup x = some .local := by first | exact .inl rfl | exact .inr rfl) : PS X (.AugAssign (.Name x pos') op e pos) (tS X.K W (augF i od f)) := by
  refine PS.imp (ps_aug hN hi hx h ho hf) fun D σ H h => ?_
  obtain ⟨pn, G, ρ, fp, c, h⟩ := h
  unfold augF at h
  split at h
  · rename_i a q
    obtain ⟨w, f0, f1, f2, a1, a2, a3, _⟩ := Slots.at (t := .lf a) c.sl q rfl
    refine ⟨w, a1, pn, G, ρ, fp, c, (Res.tos_sat (σ := σ) h).imp (fun x ρ1 h v H1 G1 fp1 fw1 p1 c1 vo => ?_) fun _ _ h => h⟩
    cases e1 : vw ρ1 x with
    | none => simp only [e1] at h; exact h.elim
    | some b =>
      cases e2 : od a b with
      | none => simp only [e1, e2] at h; exact h.elim
      | some d =>
        cases e3 : asgE i d ρ1 with
        | none => simp only [e1, e2, e3] at h; exact h.elim
        | some ρ2 =>
          simp only [e1, e2, e3] at h
          refine ⟨G1, a, b, d, c1.ex, (a3.2.mono fw1.ex).rv c1.ex, c1.vw vo e1, e2, fun z H2 G2 gr r => ?_⟩
          obtain ⟨fp', sub, c2⟩ := (c1.gro gr).asg r e3
          exact h _ H2 G2 fp' ((fw1.trans gr.fw).trans ⟨.refl _, fun _ _ h _ _ => h, fun a ha => .inl (sub a ha), fun _ _ h => .inl h, fun _ o h => ⟨o, h⟩, fun _ ps h => ⟨ps, h, id⟩⟩) c2
  · exact h.elim
end

/-! ### a, b = e1, e2: fresh trees put side by side -/
def tW (K : PySem.W.Frag) (pu : Bool) (W : WX) (f : Env → Res (List OT)) : TA := fun σ H Q => ∃ pn G ρ fp, Cor K pn σ H G ρ fp ∧
  (f ρ).sat (fun ts ρ' => ∀ vs H' G' fp' fq, Fw G H fp G' H' fp' → (pu = true → Ex H H') → Cor K pn σ H' G' ρ' fp' → Owns K G' H' ts vs fq → (fp' ++ fq).Nodup → (∀ a ∈ fq, H a = none) → Q vs H') (ExF K W pn σ H G fp)
def nilW : Env → Res (List OT) := fun ρ => .ok [] ρ
def consW (f : Env → Res OT) (g : Env → Res (List OT)) : Env → Res (List OT) := fun ρ => (f ρ).bind fun t ρ1 => (g ρ1).bind fun ts ρ2 => .ok (t :: ts) ρ2
def parE : List Nat → List OT → Env → Option Env
  | [], [], ρ => some ρ
  | i :: is, t :: ts, ρ => match ρ[i]? with
    | some (.io _) => none
    | some _ => parE is ts (ρ.set i (.v t))
    | none => none
  | _, _, _ => none
def parF (is : List Nat) (f : Env → Res (List OT)) : Env → SRes := fun ρ => (f ρ).tos fun ts ρ1 => match parE is ts ρ1 with
  | some ρ2 => .nx ρ2
  | none => .bad
section
variable {X : Cx} {W : WX} {e : Expr} {es : List Expr} {pa pb : Bool} {fo : Env → Res OT} {fs : Env → Res (List OT)}
theorem pw_nil : PA X [] (tW X.K true W nilW) := PA.imp pa_nil fun σ H Q ⟨pn, G, ρ, fp, c, h⟩ => h [] H G fp [] .refl (fun _ => .refl _) c ⟨rfl, rfl⟩ (by simpa using c.nd) (fun _ h => nomatch h)
theorem pw_cons (ha : PE X e (tO X.K pa W fo)) (hr : PA X es (tW X.K pb W fs)) (hs : starEach (e :: es) X.env = (false, eval e X.env) :: starEach es X.env := by rfl) : PA X (e :: es) (tW X.K (pa && pb) W (consW fo fs)) := by
  refine PA.imp (pa_cons ha hr hs) fun σ H Q h => ?_
  obtain ⟨pn, G, ρ, fp, c, h⟩ := h
  refine ⟨pn, G, ρ, fp, c, (Res.sat_bind h).imp (fun t ρ1 h v H1 G1 fp1 fq1 fw1 p1 c1 o1 nd1 nw1 => ?_) fun _ _ h => h⟩
  refine ⟨pn, G1, ρ1, fp1, c1, (Res.sat_bind h).imp (fun ts ρ2 h vs H2 G2 fp2 fq2 fw2 p2 c2 o2 nd2 nw2 => ?_) fun _ _ h => h.on fw1⟩
  obtain ⟨o1', nd1'⟩ := fw2.own o1 nd1 c2.nd
  obtain ⟨a1, a2, a3⟩ := List.nodup_append.mp nd1'
  obtain ⟨b1, b2, b3⟩ := List.nodup_append.mp nd2
  refine h (v :: vs) H2 G2 fp2 (fq1 ++ fq2) (fw1.trans fw2) (fun hp => by rw [Bool.and_eq_true] at hp; exact (p1 hp.1).trans (p2 hp.2)) c2 ⟨v, vs, fq1, fq2, rfl, rfl, o1', o2⟩ ?_ fun a ha => ?_
  · refine List.nodup_append.mpr ⟨a1, List.nodup_append.mpr ⟨a2, b2, fun x hx y hy z => ?_⟩, fun x hx y hy z => ?_⟩
    · subst z
      obtain ⟨_, us, q⟩ := o1.there x hx
      rw [nw2 x hy] at q; cases q
    · rcases List.mem_append.mp hy with w | w
      · exact a3 x hx y w z
      · exact b3 x hx y w z
  · rcases List.mem_append.mp ha with w | w
    · exact nw1 a w
    · exact fw1.none (nw2 a w)
end
section
variable {K : PySem.W.Frag} {pn : List (Nat × V)} {σ : L2.St} {H G H0 G0 : Hp} {ρ ρ2 : Env} {fp fp0 fq : List Addr}
theorem Cor.putO (fw : Fw G0 H0 fp0 G H fp) (c : Cor K pn σ H G ρ fp) {i : Nat} {t : OT} {v : V} {s : Slot} (o : Own K G H t v fq) (nd : (fp ++ fq).Nodup) (nw : ∀ a ∈ fq, H0 a = none) (q : ρ[i]? = some s) (ns : ∀ t, s ≠ .io t) :
    ∃ fp', Fw G0 H0 fp0 G H fp' ∧ Cor K pn (σ.set i (some v)) H G (ρ.set i (.v t)) fp' ∧ ∀ b ∈ fp', b ∈ fp ∨ b ∈ fq := by
  obtain ⟨f0, f2, a1, a2, a4⟩ := c.sl.put q ns
  have gn : ∀ a ∈ f0 ++ f2, G a = none := fun a ha => (c.sl.there a (a1 a ha)).1
  have sl := a4 (G' := G) (H' := H) (t' := t) (v' := v) (f1' := fq) (.refl _) (fun _ _ => rfl) gn o
  obtain ⟨m1, m2, m3⟩ := List.nodup_append.mp nd
  have n0 := a2 m1
  obtain ⟨k1, k2, k3⟩ := List.nodup_append.mp n0
  have sub : ∀ a ∈ f0 ++ fq ++ f2, a ∈ fp ∨ a ∈ fq := fun a ha => by
    rcases List.mem_append.mp ha with z | z
    · rcases List.mem_append.mp z with z | z
      · exact .inl (a1 a (List.mem_append_left _ z))
      · exact .inr z
    · exact .inl (a1 a (List.mem_append_right _ z))
  refine ⟨f0 ++ fq ++ f2, ⟨fw.ex, fun a o h n k => fw.fr a o h n k, fun a ha => ?_, fw.ng, fw.th, fw.tb⟩, ⟨c.ex, sl, ?_, fun p hp => ?_, c.tb⟩, sub⟩
  · rcases sub a ha with z | z
    · exact fw.nf a z
    · exact .inr (nw a z)
  · refine List.nodup_append.mpr ⟨List.nodup_append.mpr ⟨k1, m2, fun a ha b hb => m3 a (a1 a (List.mem_append_left _ ha)) b hb⟩, k2, fun a ha b hb z => ?_⟩
    rcases List.mem_append.mp ha with q | q
    · exact k3 a q b hb z
    · exact m3 b (a1 b (List.mem_append_right _ hb)) a q z.symm
  · obtain ⟨p1, t', p2⟩ := c.pn p hp
    have ne : i ≠ p.1 := fun z => by
      rw [z, p2] at q
      exact ns t' (Option.some.inj q).symm
    exact ⟨by rw [List.getElem?_set_ne ne]; exact p1, t', by rw [List.getElem?_set_ne ne]; exact p2⟩
def parσ : List Nat → List V → L2.St → L2.St
  | i :: is, v :: vs, σ => parσ is vs (σ.set i (some v))
  | _, _, σ => σ
theorem Cor.par : ∀ {is : List Nat} {ts : List OT} {vs : List V} {σ : L2.St} {ρ : Env} {fp fq : List Addr}, Fw G0 H0 fp0 G H fp → Cor K pn σ H G ρ fp → Owns K G H ts vs fq → (fp ++ fq).Nodup → (∀ a ∈ fq, H0 a = none) → parE is ts ρ = some ρ2 →
    ∃ fp', Fw G0 H0 fp0 G H fp' ∧ Cor K pn (parσ is vs σ) H G ρ2 fp' ∧ vs.length = is.length
  | [], [], _, σ, ρ, fp, fq, fw, c, ⟨e1, _⟩, _, _, h => by
    cases h; subst e1
    exact ⟨fp, fw, c, rfl⟩
  | i :: is, t :: ts, _, σ, ρ, fp, fq, fw, c, ⟨v, vs, f1, f2, e1, e2, o, r⟩, nd, nw, h => by
    subst e1 e2
    obtain ⟨n1, n2, n3⟩ := List.nodup_append.mp nd
    obtain ⟨n4, n5, n6⟩ := List.nodup_append.mp n2
    have key : ∀ s : Slot, ρ[i]? = some s → (∀ t, s ≠ .io t) → parE is ts (ρ.set i (.v t)) = some ρ2 → ∃ fp', Fw G0 H0 fp0 G H fp' ∧ Cor K pn (parσ (i :: is) (v :: vs) σ) H G ρ2 fp' ∧ (v :: vs).length = (i :: is).length := fun s q ns h => by
      obtain ⟨fp', fw', c', sub⟩ := c.putO fw o (List.nodup_append.mpr ⟨n1, n4, fun a ha b hb => n3 a ha b (List.mem_append_left _ hb)⟩) (fun a ha => nw a (List.mem_append_left _ ha)) q ns
      obtain ⟨fp2, fw2, c2, hl⟩ := Cor.par fw' c' r (List.nodup_append.mpr ⟨c'.nd, n5, fun a ha b hb => (sub a ha).elim (fun z => n3 a z b (List.mem_append_right _ hb)) fun z => n6 a z b hb⟩) (fun a ha => nw a (List.mem_append_right _ ha)) h
      exact ⟨fp2, fw2, c2, by simp [hl]⟩
    unfold parE at h
    split at h
    · cases h
    · rename_i s ns q
      exact key s q (fun t z => ns t z) h
    · cases h
  | [], _ :: _, _, _, _, _, _, _, _, _, _, _, h => by cases h
  | _ :: _, [], _, _, _, _, _, _, _, _, _, _, h => by cases h
end
section
variable {X : Cx} {W : WX} {x y z : Str} {a b c : Expr} {px py pz pt pt2 pos : Pos} {kt k2 : Nat} {pu : Bool} {fs : Env → Res (List OT)}
theorem pb_par (i j : Nat) (hc : X.calm = true) (hN : X.N.Nodup) (ha : PA X [a, b] (tW X.K pu W fs)) (hw : swappedStores [.Tuple [.Name x px, .Name y py] kt pt] (.Tuple [a, b] k2 pt2) X.env = pure (some [x, y]) := by rfl) (hi : X.N[i]? = some x := by rfl) (hj : X.N[j]? = some y := by rfl) (hij : i ≠ j := by decide)
    (hx : X.env.scope.names.lookup x = some .local := by rfl) (hy : X.env.scope.names.lookup y = some .local := by rfl) (hs : swapsWithSole [.Tuple [.Name x px, .Name y py] kt pt] (.Tuple [a, b] k2 pt2) pos.line X.env = pure false := by rfl) :
    PS X (.Assign [.Tuple [.Name x px, .Name y py] kt pt] (.Tuple [a, b] k2 pt2) pos) (tS X.K W (parF [i, j] fs)) := by
  refine PS.imp (ps_par hc hN hi hj hij hx hy ha hw hs) fun D σ H h => ?_
  obtain ⟨pn, G, ρ, fp, c, h⟩ := h
  refine ⟨pn, G, ρ, fp, c, (Res.tos_sat h).imp (fun ts ρ1 h vs H1 G1 fp1 fq fw1 p1 c1 o nd nw => ?_) fun _ _ h => h⟩
  cases e : parE [i, j] ts ρ1 with
  | none => simp only [e] at h; exact h.elim
  | some ρ2 =>
    simp only [e] at h
    obtain ⟨fp', fw', c', hl⟩ := Cor.par fw1 c1 o nd nw e
    match vs, hl with
    | [v, w], _ => exact ⟨v, w, rfl, h _ H1 G1 fp' fw' c'⟩
theorem pb_par3 (i j l : Nat) (hc : X.calm = true) (hN : X.N.Nodup) (ha : PA X [a, b, c] (tW X.K pu W fs)) (hw : swappedStores [.Tuple [.Name x px, .Name y py, .Name z pz] kt pt] (.Tuple [a, b, c] k2 pt2) X.env = pure (some [x, y, z]) := by rfl) (hi : X.N[i]? = some x := by rfl) (hj : X.N[j]? = some y := by rfl) (hl : X.N[l]? = some z := by rfl)
    (hij : i ≠ j := by decide) (hil : i ≠ l := by decide) (hjl : j ≠ l := by decide) (hx : X.env.scope.names.lookup x = some .local := by rfl) (hy : X.env.scope.names.lookup y = some .local := by rfl) (hz : X.env.scope.names.lookup z = some .local := by rfl) (hs : swapsWithSole [.Tuple [.Name x px, .Name y py, .Name z pz] kt pt] (.Tuple [a, b, c] k2 pt2) pos.line X.env = pure false := by rfl) :
    PS X (.Assign [.Tuple [.Name x px, .Name y py, .Name z pz] kt pt] (.Tuple [a, b, c] k2 pt2) pos) (tS X.K W (parF [i, j, l] fs)) := by
  refine PS.imp (ps_par3 hc hN hi hj hl hij hil hjl hx hy hz ha hw hs) fun D σ H h => ?_
  obtain ⟨pn, G, ρ, fp, c, h⟩ := h
  refine ⟨pn, G, ρ, fp, c, (Res.tos_sat h).imp (fun ts ρ1 h vs H1 G1 fp1 fq fw1 p1 c1 o nd nw => ?_) fun _ _ h => h⟩
  cases e : parE [i, j, l] ts ρ1 with
  | none => simp only [e] at h; exact h.elim
  | some ρ2 =>
    simp only [e] at h
    obtain ⟨fp', fw', c', hl⟩ := Cor.par fw1 c1 o nd nw e
    match vs, hl with
    | [u, v, w], _ => exact ⟨u, v, w, rfl, h _ H1 G1 fp' fw' c'⟩
end

/-! ### a def -/
def funF (N n : Nat) (g : Env → SRes) : List D → Out := fun ds => if ds.length = n then match g (ds.map (fun d => .v (.lf d)) ++ List.replicate (N - n) .un) with
    | .nx _ => .ret .none
    | .rt d _ => .ret d
    | .ex C _ => .exc C
    | _ => .bad
  else .bad
def funI (N n : Nat) (g : Env → SRes) : OT → List D → OutI := fun t ds => if ds.length + 1 = n then match g (.io t :: ds.map (fun d => .v (.lf d)) ++ List.replicate (N - n) .un) with
    | .nx (.io t' :: _) => .ret .none t'
    | .rt d (.io t' :: _) => .ret d t'
    | _ => .bad
  else .bad
theorem Slots.uns {K : PySem.W.Frag} {G H : Hp} : ∀ m : Nat, Slots K G H (List.replicate m .un) (List.replicate m none) []
  | 0 => ⟨rfl, rfl⟩
  | m + 1 => ⟨none, List.replicate m none, rfl, Slots.uns m⟩
theorem Slots.args {K : PySem.W.Frag} {G H : Hp} : ∀ {ds : List D} {vs : List V} (m : Nat), RpL K G ds vs → Slots K G H (ds.map (fun d => .v (.lf d)) ++ List.replicate m .un) (vs.map some ++ List.replicate m none) []
  | [], _, m, h => by cases h; exact Slots.uns m
  | d :: ds, _, m, ⟨v, r, e, h, t⟩ => by subst e; exact ⟨v, _, [], [], rfl, rfl, ⟨rfl, h⟩, Slots.args m t⟩
section
variable {P : Program} {w : World} {K : PySem.W.Frag} {mg : Str → Option Value} {base : Heap} {x qual : Str} {st : Stmt} {f : Addr} {fd : FuncData} {N ps : List Str} {k : Nat}
theorem def_ok (F : Fun K x qual st f fd) (S : FnScope N ps (defScope st)) (g : Env → SRes)
    (hb : ∀ (cdv : Value) (A : Around) (outer : List PySem.Env) (s : Shared) (H : Hp) (E : XK), Room k (A.deeper (envOfC qual (defScope st) s.heap.objs.size f cdv)) →
      PSs (cxOf (L2.CX P w) P w K mg base N qual (defScope st) f cdv A outer s H E) (defBody st) (tS K (fun cls d _ H => E cls d H) g)) :
    FnOk P w K mg base (L2.CX P w) (k + 1) f fd ps (spF K (funF N.length ps.length g)) := by
  have hlen : ∀ vs H Q E, spF K (funF N.length ps.length g) vs H Q E → vs.length = ps.length := fun vs H Q E h => by
    obtain ⟨G, ds, ge, r, h⟩ := h
    unfold funF at h
    split at h
    · rename_i hl
      split at hl
      · rw [r.length]; assumption
      · cases hl
    · rename_i hl
      split at hl
      · rw [r.length]; assumption
      · cases hl
    · exact h.elim
  refine F.okX S hlen fun cdv A outer s H vs Q E hr h => ⟨_, hb cdv A outer s H E hr, ?_⟩
  have hl := hlen vs H Q E h
  obtain ⟨G, ds, ge, r, h⟩ := h
  have hd : ds.length = ps.length := by rw [← r.length]; exact hl
  refine ⟨[], G, ds.map (fun d => .v (.lf d)) ++ List.replicate (N.length - ps.length) .un, [], ⟨ge.1, ?_, List.nodup_nil, (fun _ h => nomatch h), ge.2⟩, ?_⟩
  · show Slots K G H _ (vs.map some ++ List.replicate (N.length - vs.length) none) []
    rw [hl]
    exact Slots.args _ r
  · unfold funF at h
    rw [if_pos hd] at h
    have gro : ∀ {σ' : L2.St} {H' G' : Hp} {ρ' : Env} {fp' : List Addr}, Fw G H [] G' H' fp' → Cor K [] σ' H' G' ρ' fp' → Gro G H G' H' := fun fw c => ⟨fw.ex, ⟨fun a o h k => fw.fr a o h (fun z => by cases z) k, fw.tb⟩, c.ex, fun a o h => (fw.ng a o h).elim .inl fun z => z.elim .inr fun z => nomatch z⟩
    cases e : g (ds.map (fun d => .v (.lf d)) ++ List.replicate (N.length - ps.length) .un) with
    | nx ρ => simp only [e] at h; exact fun σ' H' G' fp' fw c => h .non H' G' (gro fw c) rfl
    | rt d ρ => simp only [e] at h; exact fun v σ' H' G' fp' fw c rv => h v H' G' (gro fw c) rv
    | bk ρ => simp only [e] at h; try exact h.elim
    | ct ρ => simp only [e] at h; try exact h.elim
    | ex C ρ => simp only [e] at h; exact fun σ' H' G' fp' fw c => h H' G' (gro fw c)
    | bad => simp only [e] at h; try exact h.elim
theorem defI_ok (F : Fun K x qual st f fd) (S : FnScope N ps (defScope st)) (g : Env → SRes)
    (hb : ∀ (cdv : Value) (A : Around) (outer : List PySem.Env) (s : Shared) (H : Hp) (E : XK), Room k (A.deeper (envOfC qual (defScope st) s.heap.objs.size f cdv)) →
      PSs (cxOf (L2.CX P w) P w K mg base N qual (defScope st) f cdv A outer s H E) (defBody st) (tS K (fun cls d _ H => E cls d H) g)) :
    FnOk P w K mg base (L2.CX P w) (k + 1) f fd ps (spI K (funI N.length ps.length g)) := by
  have hlen : ∀ vs H Q E, spI K (funI N.length ps.length g) vs H Q E → vs.length = ps.length := fun vs H Q E h => by
    obtain ⟨G, t, ds, v0, vr, fq, ge, e, o, nd, r, h⟩ := h
    unfold funI at h
    split at h
    · rename_i hl
      split at hl
      · subst e
        rw [List.length_cons, r.length]; assumption
      · cases hl
    · exact h.elim
  refine F.okX S hlen fun cdv A outer s H vs Q E hr h => ⟨_, hb cdv A outer s H E hr, ?_⟩
  have hl := hlen vs H Q E h
  obtain ⟨G, t, ds, v0, vr, fq, ge, e, o, nd, r, h⟩ := h
  subst e
  have hd : ds.length + 1 = ps.length := by rw [← r.length]; exact hl
  refine ⟨[(0, v0)], G, .io t :: ds.map (fun d => .v (.lf d)) ++ List.replicate (N.length - ps.length) .un, fq, ⟨ge.1, ?_, nd, fun p hp => ?_, ge.2⟩, ?_⟩
  · show Slots K G H _ ((v0 :: vr).map some ++ List.replicate (N.length - (v0 :: vr).length) none) fq
    rw [hl]
    exact ⟨v0, _, fq, [], rfl, by simp, o, Slots.args _ r⟩
  · have : p = (0, v0) := by simpa using hp
    subst this
    exact ⟨rfl, t, rfl⟩
  · unfold funI at h
    rw [if_pos hd] at h
    have fin : ∀ {σ' : L2.St} {H' G' : Hp} {t' : OT} {ρ' : Env} {fp' : List Addr}, Fw G H fq G' H' fp' → Cor K [(0, v0)] σ' H' G' (.io t' :: ρ') fp' → ∃ fq', Fw G H fq G' H' fq' ∧ Ex G' H' ∧ Own K G' H' t' v0 fq' ∧ fq'.Nodup := fun {σ' H' G' t' ρ' fp'} fw c => by
      obtain ⟨p1, _⟩ := c.pn (0, v0) (by simp)
      obtain ⟨v, r', f1, f2, e1, e2, o', _⟩ := c.sl
      subst e1 e2
      have : v = v0 := by
        have p1' : some (some v) = some (some v0) := p1
        exact Option.some.inj (Option.some.inj p1')
      subst this
      exact ⟨f1, ⟨fw.ex, fun a o h n k => fw.fr a o h n k, fun a ha => fw.nf a (List.mem_append_left _ ha), fw.ng, fw.th, fw.tb⟩, c.ex, o', (List.nodup_append.mp c.nd).1⟩
    cases e : g (.io t :: ds.map (fun d => .v (.lf d)) ++ List.replicate (N.length - ps.length) .un) with
    | nx ρ =>
      simp only [e] at h
      match ρ, h with
      | .io t' :: ρ', h =>
        intro σ' H' G' fp' fw c
        obtain ⟨fq', b1, b2, b3, b4⟩ := fin fw c
        exact h .non H' G' fq' b1 b2 b3 b4 rfl
      | [], h => exact h.elim
      | .un :: _, h => exact h.elim
      | .v _ :: _, h => exact h.elim
      | .raw _ :: _, h => exact h.elim
    | rt d ρ =>
      simp only [e] at h
      match ρ, h with
      | .io t' :: ρ', h =>
        intro v σ' H' G' fp' fw c rv
        obtain ⟨fq', b1, b2, b3, b4⟩ := fin fw c
        exact h v H' G' fq' b1 b2 b3 b4 rv
      | [], h => exact h.elim
      | .un :: _, h => exact h.elim
      | .v _ :: _, h => exact h.elim
      | .raw _ :: _, h => exact h.elim
    | bk ρ => simp only [e] at h; try exact h.elim
    | ct ρ => simp only [e] at h; try exact h.elim
    | ex C ρ => simp only [e] at h; try exact h.elim
    | bad => simp only [e] at h; try exact h.elim
/-- a def of which nothing is promised -/
theorem def_bad {CX : CXT} : FnOk P w K mg base CX k f fd ps (spF K fun _ => .bad) := ⟨fun vs H Q E h => by obtain ⟨_, _, _, _, h⟩ := h; exact h.elim, fun A outer s H args us vs Q E _ _ _ _ h => by obtain ⟨_, _, _, _, h⟩ := h; exact h.elim⟩
end
end Mo

/-! Mo11: isinstance, join, [::-1], range by steps, stores into a list of lists, unpacked lists, displays of fresh lists. -/
namespace Mo
variable [Tabs]
open PySem PySem.Spec PyProof.Rows L2

/-! ### isinstance -/
def tyD : D → Option String
  | .none => some "NoneType"
  | .bool _ => some "bool"
  | .int _ => some "int"
  | .str _ => some "str"
  | .list _ => some "list"
  | .tuple _ => some "tuple"
  | .dict _ => none
def isiD (T : String) (d : D) : Option Bool := match tyD d with
  | some t => kitB t T
  | none => none
def isiF (T : String) (f : Env → Res Vl) : Env → Res Vl := fun ρ => (f ρ).bind fun x ρ1 => match vw ρ1 x with
  | some d => match isiD T d with
    | some b => .ok (.d (.bool b)) ρ1
    | none => .bad
  | none => .bad
section
variable {X : Cx} {W : WX} {e a b c : Expr} {es : List Expr} {pu pa pb : Bool} {f g : Env → Res Vl} {fs : Env → Res (List Vl)} {pos p p2 p3 : Pos}
theorem Rv.ty {K : PySem.W.Frag} {H G : Hp} {d : D} {v : V} {t : String} (ge : Ex G H) (r : Rv K H G d v) (h : tyD d = some t) : TyX K H v (.type t) := by
  cases d with
  | none => cases r; cases h; exact .base .non
  | bool b => cases r; cases h; exact .base (.bl b)
  | int i => cases r; cases h; exact .base (.int i)
  | str s => obtain ⟨e, _⟩ := r; subst e; cases h; exact .base (.str s)
  | list ds => obtain ⟨p, vs, e, h2, _⟩ := r; subst e; cases h; exact .base (.lst h2)
  | tuple ds =>
    obtain ⟨p, vs, e, h2, _⟩ := r
    subst e; cases h
    rcases ge.t h2 with h | ⟨o, its, n, h1, h3, _⟩
    · rcases h with h | ⟨o, h⟩
      · exact .base (.tup h)
      · exact .fTuple h
    · exact .kTuple h1 h3
  | dict kvs => cases h
theorem pb_isi (T : String) {x : Str} (ha : PE X e (tF X.K pu W f)) (hT : (x : Str) = (T : Str) := by rfl) (hg : Gl X "isinstance" := by rfl) (hm : X.mg "isinstance" = none) (hgT : Gl X x := by rfl) (hmT : X.mg x = none) (hv : bootBuiltins x = some (.type T) := by decide +kernel) (hn : x ≠ "__name__" := by decide) (hdb : (x == ("__debug__" : Str)) = false := by decide)
    (hs : starEach [e, .Name x p2] X.env = (false, eval e X.env) :: starEach [.Name x p2] X.env := by rfl) (hs2 : starEach [.Name x p2] X.env = (false, eval (.Name x p2) X.env) :: starEach [] X.env := by rfl) (hpl : (backTo pos (starEach [.Name x p2] X.env)).any (·.1) = false := by rfl) :
    PE X (.Call (.Name "isinstance" p) [e, .Name x p2] [] pos) (tF X.K pu W (isiF T f)) := by
  refine PE.imp (pe_callB call_isi hg hm (by decide +kernel) (pa_cons ha (pa_cons (pe_bltn hgT hmT hv (v := .ty T) rfl hn hdb) pa_nil hs2) hs) (by decide) (by decide) hs hpl) fun σ H Q h => ?_
  obtain ⟨pn, G, ρ, fp, c, h⟩ := h
  refine ⟨pn, G, ρ, fp, c, (Res.sat_bind h).imp (fun x ρ1 h v H1 G1 fp1 fw1 p1 c1 vo => ?_) fun _ _ h => h⟩
  cases e1 : vw ρ1 x with
  | none => simp only [e1] at h; exact h.elim
  | some d =>
    cases e2 : isiD T d with
    | none => simp only [e1, e2] at h; exact h.elim
    | some b =>
      simp only [e1, e2] at h
      unfold isiD at e2
      cases e3 : tyD d with
      | none => rw [e3] at e2; cases e2
      | some t =>
        rw [e3] at e2
        exact ⟨v, .ty T, .type t, .type T, b, rfl, .ty T, Rv.ty c1.ex (c1.vw vo e1) e3, kit_ty e2, h _ H1 G1 fp1 fw1 p1 c1 rfl⟩

/-! ### join -/
def strsD : List D → Option (List Str)
  | [] => some []
  | .str s :: ds => (strsD ds).map (s :: ·)
  | _ => none
theorem strsD_rel {K : PySem.W.Frag} {G : Hp} : ∀ {ds : List D} {vs : List V} {ss : List Str}, RpL K G ds vs → strsD ds = some ss → vs = ss.map V.str
  | [], _, _, h, e => by cases h; cases e; rfl
  | .str s :: ds, _, _, ⟨v, r, e1, h, t⟩, e => by
    cases q : strsD ds with
    | none => simp [strsD, q] at e
    | some ms =>
      simp [strsD, q] at e
      subst e e1
      obtain ⟨h, _⟩ := h
      subst h
      rw [strsD_rel t q]; rfl
  | .none :: _, _, _, _, e => by cases e
  | .bool _ :: _, _, _, _, e => by cases e
  | .int _ :: _, _, _, _, e => by cases e
  | .list _ :: _, _, _, _, e => by cases e
  | .tuple _ :: _, _, _, _, e => by cases e
  | .dict _ :: _, _, _, _, e => by cases e
def joinD (s : Str) (ds : List D) : Option D := match strsD ds with
  | some ss => if (ss.map (·.length)).sum + ss.length * s.length ≤ 16777216 ∧ (Txt.join s ss).length ≤ sizeLine then some (.str (Txt.join s ss)) else none
  | none => none
/-- 's'.join(e), s a written text -/
def joinF (s : Str) (f : Env → Res Vl) : Env → Res Vl := fun ρ => (f ρ).bind fun x ρ1 => match vw ρ1 x with
  | some (.list ds) => match joinD s ds with
    | some d => .ok (.d d) ρ1
    | none => .bad
  | some (.tuple ds) => match joinD s ds with
    | some d => .ok (.d d) ρ1
    | none => .bad
  | _ => .bad
theorem pb_join {s : Str} {j : Nat} {apos cpos : Pos} (he : PE X e (tF X.K pu W f)) (hb : attributeBase (.Constant (.str s) j p) "join" X.env (eval (.Constant (.str s) j p) X.env) = eval (.Constant (.str s) j p) X.env := by rfl)
    (hk : (((backTo cpos (starEach [e] X.env)).all fun x => !x.1) && ((backToKw cpos (keywordEach [] X.env)).all fun x => x.1.isSome) && decide (([e].length + ([] : List (Option Str × Expr)).length + if ([] : List (Option Str × Expr)).isEmpty = true then 0 else 1) < 30)) = true := by rfl)
    (hl : (apos.endLine == cpos.line) = true := by rfl) (hs : starEach [e] X.env = (false, eval e X.env) :: starEach [] X.env := by rfl) (hpl : (backTo cpos (starEach [] X.env)).any (·.1) = false := by rfl) :
    PE X (.Call (.Attribute (.Constant (.str s) j p) "join" apos) [e] [] cpos) (tF X.K pu W (joinF s f)) := by
  refine PE.imp (pe_bm PySem.F.plainAttrs_str PySem.F.slot_str_join PySem.F.type_str_join mt_join pe_str (pa_cons he pa_nil hs) hb hk hl hs hpl) fun σ H Q h => ?_
  obtain ⟨pn, G, ρ, fp, c, h⟩ := h
  refine ⟨rfl, pn, G, ρ, fp, c, (Res.sat_bind h).imp (fun x ρ1 h v H1 G1 fp1 fw1 p1 c1 vo => ?_) fun _ _ h => h⟩
  have fin : ∀ (ds : List D) (a : Addr) (vs : List V), RpL X.K G1 ds vs → (SqL X.K H1 a vs ∨ SqT X.K H1 a vs) → (match joinD s ds with | some d => Res.ok (Vl.d d) ρ1 | none => .bad).sat (OkF X.K pu pn σ H G fp Q) (ExF X.K W pn σ H G fp) →
      ∃ (a0 : Str) (p : Addr) (ys : List Str), V.str s = .str a0 ∧ [V.ref a] = [.ref p] ∧ (SqL X.K H1 p (ys.map V.str) ∨ SqT X.K H1 p (ys.map V.str)) ∧ (ys.map (·.length)).sum + ys.length * a0.length ≤ 16777216 ∧ Q (.str (Txt.join a0 ys)) H1 := fun ds a vs rl sq h => by
    unfold joinD at h
    cases e1 : strsD ds with
    | none => simp only [e1] at h; exact h.elim
    | some ss =>
      simp only [e1] at h
      have ev := strsD_rel rl e1
      subst ev
      by_cases hz : (ss.map (·.length)).sum + ss.length * s.length ≤ 16777216 ∧ (Txt.join s ss).length ≤ sizeLine
      · rw [if_pos hz] at h
        exact ⟨s, a, ss, rfl, rfl, sq, hz.1, h _ H1 G1 fp1 fw1 p1 c1 ⟨rfl, hz.2⟩⟩
      · rw [if_neg hz] at h; exact h.elim
  cases e1 : vw ρ1 x with
  | none => simp only [e1] at h; exact h.elim
  | some d =>
    simp only [e1] at h
    have rv := c1.vw vo e1
    cases d with
    | list ds =>
      obtain ⟨a, vs, e2, e3, rl⟩ := rv
      subst e2
      exact fin ds a vs rl (.inl (.inl (.inl e3))) h
    | tuple ds =>
      obtain ⟨a, vs, e2, e3, rl⟩ := rv
      subst e2
      exact fin ds a vs rl (.inr (c1.ex.t e3)) h
    | _ => exact h.elim

/-! ### range with a step -/
def rgsN (i j c : Int) : Nat := if c = -1 then (i - j).toNat else 0
def rngS (lo c : Int) (n : Nat) : List D := (List.range n).map fun i => .int (lo + (i : Nat) * c)
def rg3 (ds : List D) : Option (List D) := match ds with
  | [.int i, .int j, .int c] => if c = -1 ∧ rgOk i = true ∧ rgOk j = true then some (rngS i (-1) (i - j).toNat) else none
  | _ => none
theorem rngS_ok {K : PySem.W.Frag} {lo c : Int} {n : Nat} {G : Hp} : ItOk K (Itc lo c n) (rngS lo c n) G := fun i H G' _ ge => by
  have hl : (rngS lo c n).length = n := by simp [rngS]
  refine ⟨fun h => by rw [hl] at h; exact h, fun h => by rw [hl] at h; exact h, fun d x H' e ⟨y1, y2⟩ => ?_⟩
  subst y1 y2
  refine ⟨G', .refl ge, ?_⟩
  unfold rngS at e
  rw [List.getElem?_map] at e
  cases q : (List.range n)[i]? with
  | none => rw [q] at e; cases e
  | some j =>
    rw [q] at e
    cases e
    obtain ⟨h1, h2⟩ := List.getElem?_eq_some_iff.mp q
    rw [List.getElem_range] at h2
    subst h2
    rfl
theorem rgc_down {i j : Int} (hi : rgOk i = true) (hj : rgOk j = true) : RgC i j (-1) (i - j).toNat := by
  have h1 := of_decide_eq_true hi
  have h2 := of_decide_eq_true hj
  have hz : Builtin.Range.rangeSize i j (-1) = ((i - j).toNat : Int) := by
    unfold Builtin.Range.rangeSize
    rw [if_neg (by decide)]
    by_cases h : i > j
    · rw [if_pos h, show (- (-1) : Int) = 1 from rfl, Int.ediv_one]; omega
    · rw [if_neg h]; omega
  refine ⟨by decide, by decide, ?_, hz⟩
  unfold Builtin.Range.small
  rw [hz, if_neg (by decide)]
  have f : ∀ x : Int, -(2 ^ 63) ≤ x → x < 2 ^ 63 → Builtin.Range.rangeFitsLong x = true := fun x a b => by
    unfold Builtin.Range.rangeFitsLong
    simp only [Bool.and_eq_true, decide_eq_true_eq]
    omega
  rw [f i (by omega) (by omega), f j (by omega) (by omega), f (-1) (by decide) (by decide), f _ (by omega) (by omega), f (j + (-1 + 1)) (by omega) (by omega)]
  simp
theorem pi_r3 {tg : Expr} (hg : Gl X "range") (hm : X.mg "range" = none) (ha : PA X [a, b, c] (tV X.K pa W fs)) (hs : starEach [a, b, c] X.env = (false, eval a X.env) :: starEach [b, c] X.env := by rfl) (hpl : (backTo pos (starEach [b, c] X.env)).any (·.1) = false := by rfl) :
    PI X tg (.Call (.Name "range" p) [a, b, c] [] pos) (tI X.K W (argF rg3 fs)) := by
  refine PI.imp (pi_range3 hg hm ha hs hpl) fun σ H R h => tV.arg h fun ds is vs H' G' e r gh q => ?_
  unfold rg3 at e
  split at e
  · rename_i i j k
    split at e
    · rename_i hj
      obtain ⟨hc, hi, hj⟩ := hj
      cases e
      obtain ⟨v, w, e1, e2, v2, w2, e3, e4, v3, w3, e5, e6, e7⟩ := r
      cases e2; cases e4; cases e6; cases e7; subst e5 e3 e1
      subst hc
      exact ⟨i, j, -1, _, rfl, rgc_down hi hj, q _ rngS_ok⟩
    · cases e
  · cases e

/-! ### x[::-1] of a text or a list -/
def oRev : D → Option D
  | .str s => some (.str ⟨s.cps.toList.reverse.toArray⟩)
  | .list xs => some (.list xs.reverse)
  | _ => none
theorem idx_rev (n : Nat) : Builtin.Str.strSliceIndices none none (-1) n = (List.range n).reverse := by
  have := (PySem.W.krv_sliceRange n).trans (PySem.W.krv_range n)
  rw [← this]
  rfl
theorem pick_all {α : Type} (z : Array α) : (List.range z.size).filterMap (z[·]?) = z.toList := by
  have : ∀ (l : List α) (k : Nat), k ≤ l.length → (List.range k).filterMap (l[·]?) = l.take k := by
    intro l k
    induction k with
    | zero => intro _; simp
    | succ k ih =>
      intro h
      rw [List.range_succ, List.filterMap_append, ih (by omega), List.take_add_one]
      congr 1
  have h := this z.toList z.toList.length (Nat.le_refl _)
  rw [List.take_length] at h
  simpa using h
def tRevA (K : PySem.W.Frag) (te : TE) : TE := fun σ H Q => te σ H fun x H1 => ∃ z, x = .str z ∧ z.length ≤ sizeLine ∧ Q (.str ⟨z.cps.toList.reverse.toArray⟩) H1
theorem pe_revT {te : TE} {k : Nat} {q1 q2 q3 : Pos} (he : PE X e te) : PE X (.Subscript e (.Slice none none (some (.UnaryOp .USub (.Constant (.int 1) k q1) q2)) q3) pos) (tRevA X.K te) := by
  constructor
  intro pins s σ H Q I h
  refine Subscript_ (thn (he.run pins s σ H _ I h) ?_)
  rintro v s1 ⟨x, H1, I1, r1, z, ex, hz, q⟩
  subst ex
  obtain ⟨tz, er⟩ := r1
  subst er
  have stp : PO X (some (.UnaryOp .USub (.Constant (.int 1) k q1) q2)) (tPart (tUn (rU fun i => .int (-i)) (tC (.int 1)))) := by
    apply po_some
    exact pe_un un_neg pe_int
  have none1 := po_none (X := X).run pins s1 σ H1 (fun o H2 => o = none ∧ H2 = H1) I1 ⟨rfl, rfl⟩
  refine wpAny_Slice (thn none1 ?_)
  rintro vl s2 ⟨l, H2, I2, pl, rfl, rfl⟩
  have none2 := po_none (X := X).run pins s2 σ H2 (fun o H3 => o = none ∧ H3 = H2) I2 ⟨rfl, rfl⟩
  refine thn none2 ?_
  rintro vu s3 ⟨u, H3, I3, pu, rfl, rfl⟩
  have step3 := stp.run pins s3 σ H3 (fun o H4 => o = some (-1) ∧ H4 = H3) I3 ⟨1, rfl, -1, rfl, rfl, rfl⟩
  refine thn step3 ?_
  rintro vs s4 ⟨o, H4, I4, ps, rfl, rfl⟩
  cases pl
  cases pu
  cases ps with
  | int _ tk =>
    have I5 : Inv X pins σ H4 { s4 with heap := s4.heap.push { cls := .type "slice", data := .fields #[.none, .none, .int (-1) tk] } } := I4.kept (t' := s4.toks) fun b ob q => Heap.get?_push_of_some _ q
    refine tail_any (ops := [.ref s4.heap.objs.size, .str z tz]) (typeIs_str _ _ _) PySem.F.slot_str_getitem.lookup ?_ (by with_unfolding_all rfl)
    refine wpAny_getItem_str_slice (l := none) (u := none) (st := some (-1, tk)) ⟨_, Heap.get?_push_size _ rfl, rfl, rfl⟩ rfl ?_
    have e1 : slicePicked z none none (some (-1, tk)) = (List.range z.length).reverse := idx_rev _
    have e2 : ((List.range z.length).reverse.filterMap (z.cps[·]?)) = z.cps.toList.reverse := by
      rw [List.filterMap_reverse]
      exact congrArg List.reverse (pick_all z.cps)
    show Made.post (Made.str ⟨((slicePicked z none none (some (-1, tk))).filterMap (z.cps[·]?)).toArray⟩) _ _
    rw [e1, e2]
    exact ⟨by show (z.cps.toList.reverse.toArray).size ≤ sizeLine; rw [List.size_toArray, List.length_reverse, Array.length_toList]; exact hz, .str _, H4, I5.tok _, ⟨_, rfl⟩, q⟩
theorem pb_rev {k : Nat} {q1 q2 q3 : Pos} (ha : PE X e (tF X.K pu W f)) : PE X (.Subscript e (.Slice none none (some (.UnaryOp .USub (.Constant (.int 1) k q1) q2)) q3) pos) (tF X.K pu W (un1 oRev f)) := by
  have both : PE X (.Subscript e (.Slice none none (some (.UnaryOp .USub (.Constant (.int 1) k q1) q2)) q3) pos) (fun σ H Q => tRevA X.K (tF X.K pu W f) σ H Q ∨ tRevL X.K (tF X.K pu W f) σ H Q) := ⟨fun pins s σ H Q I q => q.elim ((pe_revT ha).run pins s σ H Q I) ((pe_revL ha).run pins s σ H Q I)⟩
  refine PE.imp both fun σ H Q h => ?_
  obtain ⟨pn, G, ρ, fp, c, h⟩ := h
  unfold un1 at h
  cases ef : f ρ with
  | bad => rw [ef] at h; exact h.elim
  | ex C ρ1 => rw [ef] at h; exact .inl ⟨pn, G, ρ, fp, c, by rw [ef]; exact h⟩
  | ok x ρ1 =>
    rw [ef] at h
    have h : (match vw ρ1 x with | some a => (match oRev a with | some c => Res.ok (Vl.d c) ρ1 | none => .bad) | none => .bad).sat (OkF X.K pu pn σ H G fp Q) (ExF X.K W pn σ H G fp) := h
    cases e1 : vw ρ1 x with
    | none => simp only [e1] at h; exact h.elim
    | some d =>
      simp only [e1] at h
      cases d with
      | str z =>
        have h : OkF X.K pu pn σ H G fp Q (.d (.str ⟨z.cps.toList.reverse.toArray⟩)) ρ1 := h
        refine .inl ⟨pn, G, ρ, fp, c, ?_⟩
        rw [ef]
        intro v H1 G1 fp1 fw1 p1 c1 vo
        obtain ⟨e2, hz⟩ := c1.vw vo e1
        subst e2
        exact ⟨z, rfl, hz, h _ H1 G1 fp1 fw1 p1 c1 ⟨rfl, by show (z.cps.toList.reverse.toArray).size ≤ sizeLine; rw [List.size_toArray, List.length_reverse, Array.length_toList]; exact hz⟩⟩
      | list xs =>
        have h : OkF X.K pu pn σ H G fp Q (.d (.list xs.reverse)) ρ1 := h
        refine .inr ⟨pn, G, ρ, fp, c, ?_⟩
        rw [ef]
        intro v H1 G1 fp1 fw1 p1 c1 vo
        obtain ⟨a, vs, e2, e3, rl⟩ := c1.vw vo e1
        subst e2
        refine ⟨a, vs, rfl, .inl (.inl e3), fun l hl => ?_⟩
        have gr := Gro.new (o := .lst vs.reverse) c1.ex hl
        refine h _ _ _ fp1 (fw1.trans gr.fw) (fun q => (p1 q).trans gr.h) (c1.gro gr) ⟨l, vs.reverse, rfl, upd_same, ?_⟩
        have : ∀ {ds : List D} {vs : List V}, RpL X.K G1 ds vs → RpL X.K G1 ds.reverse vs.reverse := by
          intro ds
          induction ds with
          | nil => intro vs h; cases h; rfl
          | cons d ds ih =>
            rintro _ ⟨v, r, e, h, t⟩
            subst e
            rw [List.reverse_cons, List.reverse_cons]
            exact (ih t).snoc h
        exact (this rl).mono gr.g
      | none => exact h.elim
      | bool _ => exact h.elim
      | int _ => exact h.elim
      | tuple _ => exact h.elim
      | dict _ => exact h.elim
end
end Mo

/-! Mo12: a list of lists of one's own, changed within; unpacked lists; displays of fresh trees. -/
namespace Mo
variable [Tabs]
open PySem PySem.Spec PyProof.Rows L2

section
variable {K : PySem.W.Frag} {pn : List (Nat × V)} {σ : L2.St} {H G H0 G0 : Hp} {ρ : Env} {fp fp0 : List Addr}
theorem perm_mid {α : Type} (A B C : List α) : (A ++ (B ++ C)).Perm (B ++ (A ++ C)) := by
  rw [← List.append_assoc A B C, ← List.append_assoc B A C]
  exact List.Perm.append_right _ List.perm_append_comm
theorem cells_perm (a b : Addr) (f0 f2 g0 g2 fq : List Addr) : (f0 ++ (a :: (g0 ++ b :: fq ++ g2)) ++ f2).Perm ((b :: fq) ++ (f0 ++ (a :: (g0 ++ g2)) ++ f2)) := by
  have e1 : f0 ++ (a :: (g0 ++ b :: fq ++ g2)) ++ f2 = (f0 ++ a :: g0) ++ ((b :: fq) ++ (g2 ++ f2)) := by simp
  have e2 : (b :: fq) ++ (f0 ++ (a :: (g0 ++ g2)) ++ f2) = (b :: fq) ++ ((f0 ++ a :: g0) ++ (g2 ++ f2)) := by simp
  rw [e1, e2]
  exact perm_mid _ _ _
theorem Cor.store2 (fw : Fw G0 H0 fp0 G H fp) (c : Cor K pn σ H G ρ fp) {i j : Nat} {s : Slot} {ts us : List OT} (q : lsAt ρ i = some (s, ts)) (qj : ts[j]? = some (.ls us)) :
    ∃ a vs b ws fq, σ[i]? = some (some (.ref a)) ∧ H a = some (.lst vs) ∧ vs.length = ts.length ∧ vs[j]? = some (.ref b) ∧ H b = some (.lst ws) ∧ Owns K G H us ws fq ∧ fq.Nodup ∧ (∀ x ∈ fq, x ∈ fp) ∧
      ∀ us' ws' fq', Owns K G H us' ws' fq' → fq'.Nodup → (∀ x ∈ fq', x ∈ fq ∨ (x ∉ fp ∧ H0 x = none)) →
        ∃ fp', Fw G0 H0 fp0 G (upd H b (.lst ws')) fp' ∧ Cor K pn σ (upd H b (.lst ws')) G (ρ.set i (s.to (.ls (ts.set j (.ls us'))))) fp' := by
  obtain ⟨q1, q2⟩ := lsAt_is q
  obtain ⟨v, f0, f1, f2, a1, a2, a3, a4⟩ := c.sl.at q1 q2
  obtain ⟨a, vs, fs, e1, e2, e3, e4, ow⟩ := a3
  obtain ⟨w, g0, g1, g2, b1, b2, b3, b4⟩ := ow.at qj
  obtain ⟨b, ws, fq, z1, z2, z3, z4, ob⟩ := b3
  subst e1 e2 a2 z1 z2 b2
  have nd : (f0 ++ (a :: (g0 ++ b :: fq ++ g2)) ++ f2).Nodup := c.nd
  -- the cell b apart from all others
  have perm := cells_perm a b f0 f2 g0 g2 fq
  have nd2 := perm.nodup_iff.mp nd
  obtain ⟨n1, n2, n3⟩ := List.nodup_append.mp nd2
  obtain ⟨k1, k2⟩ := List.nodup_cons.mp n1
  have inb : b ∈ f0 ++ (a :: (g0 ++ b :: fq ++ g2)) ++ f2 := perm.mem_iff.mpr (by simp)
  have inq : ∀ x ∈ fq, x ∈ f0 ++ (a :: (g0 ++ b :: fq ++ g2)) ++ f2 := fun x hx => perm.mem_iff.mpr (by simp [hx])
  have inr : ∀ x ∈ f0 ++ (a :: (g0 ++ g2)) ++ f2, x ∈ f0 ++ (a :: (g0 ++ b :: fq ++ g2)) ++ f2 := fun x hx => perm.mem_iff.mpr (List.mem_append_right _ hx)
  refine ⟨a, vs, b, ws, fq, a1, e3, ow.length, b1, z3, ob, k2, inq, fun us' ws' fq' ow' nd' sub => ?_⟩
  have nb : b ∉ fq' := fun z => by
    rcases sub b z with y | ⟨y, _⟩
    · exact k1 y
    · exact y inb
  have nr : ∀ x ∈ f0 ++ (a :: (g0 ++ g2)) ++ f2, x ≠ b := fun x hx z => n3 b (by simp) x hx z.symm
  have gn : ∀ x ∈ f0 ++ (a :: (g0 ++ g2)) ++ f2, G x = none := fun x hx => (c.sl.there x (inr x hx)).1
  have o' : Own K G (upd H b (.lst ws')) (.ls us') (.ref b) (b :: fq') := ⟨b, ws', fq', rfl, rfl, upd_same, z4, ow'.frame (.refl _) (fun x hx => upd_ne (fun z => nb (z ▸ hx))) fun x hx => (ow'.there x hx).1⟩
  have row := b4 (G' := G) (H' := upd H b (.lst ws')) (t' := .ls us') (v' := .ref b) (f1' := b :: fq') (.refl _) (fun x hx => upd_ne (nr x (by rcases List.mem_append.mp hx with y | y <;> simp [y]))) (fun x hx => gn x (by rcases List.mem_append.mp hx with y | y <;> simp [y])) o'
  rw [set_same b1] at row
  have na : a ≠ b := nr a (by simp)
  have whole : Own K G (upd H b (.lst ws')) (.ls (ts.set j (.ls us'))) (.ref a) (a :: (g0 ++ b :: fq' ++ g2)) := ⟨a, vs, _, rfl, rfl, by rw [upd_ne na]; exact e3, e4, row⟩
  have sl := a4 (G' := G) (H' := upd H b (.lst ws')) (t' := .ls (ts.set j (.ls us'))) (v' := .ref a) (f1' := a :: (g0 ++ b :: fq' ++ g2)) (.refl _) (fun x hx => upd_ne (nr x (by rcases List.mem_append.mp hx with y | y <;> simp [y]))) (fun x hx => gn x (by rcases List.mem_append.mp hx with y | y <;> simp [y])) whole
  rw [set_same a1] at sl
  have perm' := cells_perm a b f0 f2 g0 g2 fq'
  have ndq : ((b :: fq') ++ (f0 ++ (a :: (g0 ++ g2)) ++ f2)).Nodup := by
    refine List.nodup_append.mpr ⟨List.nodup_cons.mpr ⟨nb, nd'⟩, n2, fun x hx y hy z => ?_⟩
    subst z
    rcases List.mem_cons.mp hx with w | w
    · exact nr x hy w
    · rcases sub x w with u | ⟨u, _⟩
      · exact n3 x (by simp [u]) x hy rfl
      · exact u (inr x hy)
  refine ⟨_, ⟨fw.ex, fun x o h n k => ?_, fun x hx => ?_, fw.ng, fun x o h => ?_, fun x ps h => ?_⟩, ⟨c.ex.put z4, sl, perm'.nodup_iff.mpr ndq, c.io_set q1 rfl, c.tb.put (by rw [z3]; nofun)⟩⟩
  · have : x ≠ b := fun z => by
      subst z
      rcases fw.nf x inb with y | y
      · exact n y
      · rw [h] at y; cases y
    rw [upd_ne this]
    exact fw.fr x o h n k
  · have hx' := perm'.mem_iff.mp hx
    rcases List.mem_append.mp hx' with y | y
    · rcases List.mem_cons.mp y with y | y
      · exact fw.nf x (y ▸ inb)
      · rcases sub x y with z | z
        · exact fw.nf x (inq x z)
        · exact .inr z.2
    · exact fw.nf x (inr x y)
  · by_cases z : x = b
    · subst z; exact ⟨_, upd_same⟩
    · rw [upd_ne z]; exact fw.th x o h
  · obtain ⟨qs, h1, k1⟩ := fw.tb x ps h
    obtain ⟨rs, h2, k2⟩ := tbl_put (o := .lst ws') (by rw [z3]; nofun) h1
    exact ⟨rs, h2, fun t => k2 (k1 t)⟩
end
/-- x[i][j] = e: x a list of lists of one's own; the places are asked after e, changing nothing -/
def setIx2 (i : Nat) (fi fj f : Env → Res Vl) : Env → SRes := fun ρ => (f ρ).tos fun x ρ1 => (fzE x ρ1).tos fun d ρ2 => match lsAt ρ2 i with
  | some _ => (fi ρ2).tos fun y ρ3 => match y with
    | .d (.int k) => match lsAt ρ3 i with
      | some (_, ts3) => match ixN ts3.length k with
        | some j => (fj ρ3).tos fun z ρ4 => match z with
          | .d (.int m) => match lsAt ρ4 i with
            | some (s, ts) => match ts[j]? with
              | some (.ls us) => match ixN us.length m with
                | some n => .nx (ρ4.set i (s.to (.ls (ts.set j (.ls (us.set n (.lf d)))))))
                | none => .bad
              | _ => .bad
            | none => .bad
          | _ => .bad
        | none => .bad
      | none => .bad
    | _ => .bad
  | none => .bad
theorem ixN_lt {n : Nat} {k : Int} {j : Nat} (h : ixN n k = some j) : j < n := by
  unfold ixN at h
  split at h
  · split at h <;> cases h
    omega
  · split at h <;> cases h
    omega
theorem atI_ixN {α : Type} {xs : List α} {k : Int} {j : Nat} (h : ixN xs.length k = some j) : atI xs k = xs[j]? := by
  unfold L2.atI
  rw [h]; rfl
section
variable {X : Cx} {W : WX} {e ei ej : Expr} {es : List Expr} {pu pi pa : Bool} {f fi fj : Env → Res Vl} {fo : Env → Res OT} {fs : Env → Res (List OT)} {pos p apos cpos pos' pos2 : Pos} {x : Str}
theorem pb_setIx2 (i : Nat) (hx : PE X (.Name x p) (tVar i)) (hi : PE X ei (tF X.K pi W fi)) (hj : PE X ej (tF X.K true W fj)) (he : PE X e (tF X.K pu W f)) (hpi : PlainIx ei := by exact fun _ _ => rfl) (h1 : swapsWithSole [.Subscript (.Subscript (.Name x p) ei pos2) ej pos'] e pos.line X.env = pure false := by rfl)
    (h2 : swappedStores [.Subscript (.Subscript (.Name x p) ei pos2) ej pos'] e X.env = pure none := by rfl) (h3 : (assignEach [.Subscript (.Subscript (.Name x p) ei pos2) ej pos'] X.env).map (·.2) = [assign (.Subscript (.Subscript (.Name x p) ei pos2) ej pos') X.env] := by rfl)
    (h4 : ∀ v : Value, assign (.Subscript (.Subscript (.Name x p) ei pos2) ej pos') X.env v = (do let ov ← holding [v] (eval (.Subscript (.Name x p) ei pos2) X.env); let iv ← holding [v, ov] (eval ej X.env); standAt pos'; holding [v, ov, iv] (setItem ov iv v); release [v, ov, iv] []) := by intro _; rfl) :
    PS X (.Assign [.Subscript (.Subscript (.Name x p) ei pos2) ej pos'] e pos) (tS X.K W (setIx2 i fi fj f)) := by
  refine PS.imp (ps_asg he (pg_sub (pe_ix ix_list hx hi hpi) hj set_list h4) h1 h2 h3) fun D σ H h => ?_
  obtain ⟨pn, G, ρ, fp, c, h⟩ := h
  refine ⟨pn, G, ρ, fp, c, (Res.tos_sat h).imp (fun x ρ1 h v H1 G1 fp1 fw1 p1 c1 vo => ?_) fun _ _ h => h⟩
  obtain ⟨d, ρ2, G2, fp2, s, fw2, c2, r⟩ := c1.fzS fw1 vo h
  cases q0 : lsAt ρ2 i with
  | none => simp only [q0] at s; exact s.elim
  | some st0 =>
    simp only [q0] at s
    obtain ⟨a, vs, fq, b1, b2, _, _, _, _⟩ := c2.store .refl (s := st0.1) (ts := st0.2) q0
    refine ⟨_, b1, pn, G2, ρ2, fp2, c2, (Res.tos_sat (σ := σ) s).imp (fun y ρ3 s u H3 G3 fp3 fw3 p3 c3 wo => ?_) fun _ _ h => h.on fw2⟩
    cases y with
    | d y => cases y with
      | int k =>
        simp only at s
        have eu : u = .int k := wo
        cases q3 : lsAt ρ3 i with
        | none => simp only [q3] at s; exact s.elim
        | some st3 =>
          obtain ⟨s3, ts3⟩ := st3
          simp only [q3] at s
          cases q5 : ixN ts3.length k with
          | none => simp only [q5] at s; exact s.elim
          | some j =>
            simp only [q5] at s
            obtain ⟨a3, vs3, fq3, g1, g2, g3, _, _, _⟩ := c3.store .refl q3
            have : a3 = a := by
              rw [b1] at g1
              cases g1; rfl
            subst this
            have hl3 := g3.length
            have hj3 : j < vs3.length := by rw [hl3]; exact ixN_lt q5
            have fwB := fw2.trans fw3
            have at3 : atI vs3 k = some vs3[j] := by rw [atI_ixN (by rw [hl3]; exact q5)]; exact List.getElem?_eq_getElem hj3
            refine ⟨a3, vs3, k, vs3[j], rfl, eu, .inl (.inl g2), at3, pn, G3, ρ3, fp3, c3, (Res.tos_sat (σ := σ) s).imp (fun z ρ4 s w H4 G4 fp4 fw4 p4 c4 zo => ?_) fun _ _ h => h.on fwB⟩
            cases z with
            | d z => cases z with
              | int m =>
                simp only at s
                have ew : w = .int m := zo
                cases q6 : lsAt ρ4 i with
                | none => simp only [q6] at s; exact s.elim
                | some st =>
                  obtain ⟨s', ts⟩ := st
                  simp only [q6] at s
                  cases q7 : ts[j]? with
                  | none => simp only [q7] at s; exact s.elim
                  | some t =>
                    cases t with
                    | lf _ => simp only [q7] at s; exact s.elim
                    | ls us =>
                      simp only [q7] at s
                      cases q8 : ixN us.length m with
                      | none => simp only [q8] at s; exact s.elim
                      | some n =>
                        simp only [q8] at s
                        obtain ⟨a4, vs4, b, ws, fq4, m1, m2, m3, m4, m5, m6, m7, m8, m9⟩ := c4.store2 (fwB.trans fw4) q6 q7
                        have : a4 = a3 := by
                          rw [b1] at m1
                          cases m1; rfl
                        subst this
                        have ev : vs4 = vs3 := by
                          have := (p4 rfl).at' _ _ g2
                          rw [m2] at this
                          cases this; rfl
                        subst ev
                        have eb : vs4[j] = .ref b := by
                          rw [List.getElem?_eq_getElem hj3] at m4
                          exact Option.some.inj m4
                        rw [eb]
                        have hn := ixN_lt q8
                        obtain ⟨y, f0, f1, f2, k1, k2, k3, k4⟩ := m6.at (List.getElem?_eq_getElem hn)
                        subst k2
                        have gn : ∀ a ∈ f0 ++ f2, G4 a = none := fun b hb => (m6.there b (by rcases List.mem_append.mp hb with y | y <;> simp [y])).1
                        obtain ⟨fp', fw', c'⟩ := m9 (us.set n (.lf d)) (ws.set n v) (f0 ++ [] ++ f2) (k4 (.refl _) (fun _ _ => rfl) gn ⟨rfl, r.mono (fw3.trans fw4).ex⟩) (by
                          rw [List.append_nil]
                          rw [List.append_assoc] at m7
                          obtain ⟨o1, o2, o3⟩ := List.nodup_append.mp m7
                          obtain ⟨o4, o5, o6⟩ := List.nodup_append.mp o2
                          exact List.nodup_append.mpr ⟨o1, o5, fun x hx y hy => o3 x hx y (List.mem_append_right _ hy)⟩) fun b hb => .inl (by
                          rw [List.append_nil] at hb
                          rcases List.mem_append.mp hb with y | y <;> simp [y])
                        exact ⟨b, ws, m, n, rfl, ew, m5, by rw [m6.length]; exact q8, s _ _ _ fp' fw' c'⟩
              | _ => exact s.elim
            | _ => exact s.elim
      | _ => exact s.elim
    | _ => exact s.elim

/-! ### a, b = a list -/
def unlE (n : Nat) (f : List D → Env → Option Env) (d : D) (ρ : Env) : Option Env := match d with
  | .list ds => if ds.length = n then f ds ρ else none
  | _ => none
theorem pg_l {kt n : Nat} {ix : List Nat} {f : List D → Env → Option Env} (hc : X.calm = true) (h : PGs X es (tGs X.K ix f)) (hn : (assignEach es X.env).length = n := by rfl) (hst : (assignEach es X.env).findIdx? (·.1) = none := by rfl) :
    PG X (.Tuple es kt pos) (tG X.K ix (unlE n f)) := by
  have h := pg_lst (pos := pos) (k := kt) hc h hn hst
  refine ⟨fun pins s σ H v u Q I r hw => h.run pins s σ H v u Q I r ?_⟩
  obtain ⟨pn, G, ρ, fp, d, ρ', c, rp, e, q⟩ := hw
  cases d with
  | list ds =>
    obtain ⟨a, vs, e1, sq, rl⟩ := rp
    unfold unlE at e
    by_cases hz : ds.length = n
    · simp only [if_pos hz] at e
      exact ⟨a, vs, e1, .inl (.inl (c.ex.at' _ _ sq)), by rw [rl.length]; exact hz, pn, G, ρ, fp, ds, ρ', c, rl, e, q⟩
    · simp only [if_neg hz] at e; cases e
  | _ => cases e

/-! ### displays of fresh trees -/
def lstO (fs : Env → Res (List OT)) : Env → Res OT := fun ρ => (fs ρ).bind fun ts ρ1 => if ts.length ≤ sizeLine then .ok (.ls ts) ρ1 else .bad
theorem pb_lstO (ha : PA X es (tW X.K pu W fs)) : PE X (.List es pos) (tO X.K pu W (lstO fs)) := by
  refine PE.imp (pe_lst ha) fun σ H Q h => ?_
  obtain ⟨pn, G, ρ, fp, c, h⟩ := h
  refine ⟨pn, G, ρ, fp, c, (Res.sat_bind h).imp (fun ts ρ1 h vs H1 G1 fp1 fq fw1 p1 c1 o nd nw => ?_) fun _ _ h => h⟩
  by_cases hz : ts.length ≤ sizeLine
  · rw [if_pos hz] at h
    refine ⟨by rw [o.length]; exact hz, fun l hl => ?_⟩
    obtain ⟨b1, b2, b3, b4⟩ := c1.newList hl o nd
    refine h _ _ G1 fp1 (l :: fq) (fw1.trans b1) (fun q => (p1 q).trans (.new hl)) b2 b3 b4 fun a ha => ?_
    rcases List.mem_cons.mp ha with z | z
    · subst z; exact fw1.none hl
    · exact nw a z
  · rw [if_neg hz] at h; exact h.elim
/-- names, each to be set -/
def gNames : List Nat → TGs
  | [] => fun vs σ H Q => vs = [] ∧ Q σ H
  | i :: is => fun vs σ H Q => ∃ v r, vs = v :: r ∧ gNames is r (σ.set i (some v)) H Q
theorem pgw_n : PGs X [] (gNames []) := pgs_nil
theorem pgw_c {is : List Nat} (i : Nat) {pn : Pos} (hN : X.N.Nodup) (h : PGs X es (gNames is)) (hi : X.N[i]? = some x := by rfl) (hx : Loc X.env.scope x := by first | exact Or.inl rfl | exact Or.inr rfl) (hf : X.fn x = true ∨ X.env.scope.names.lookup x = some .local := by first | exact .inl rfl | exact .inr rfl)
    (hs : (assignEach (.Name x pn :: es) X.env).map (·.2) = assign (.Name x pn) X.env :: (assignEach es X.env).map (·.2) := by rfl) : PGs X (.Name x pn :: es) (gNames (i :: is)) := pgs_cons (pg_name hN hi hx hf) h hs
theorem gNames_par : ∀ {is : List Nat} {vs : List V} {σ : L2.St} {H : Hp} {Q : L2.St → Hp → Prop}, vs.length = is.length → Q (parσ is vs σ) H → gNames is vs σ H Q
  | [], [], _, _, _, _, q => ⟨rfl, q⟩
  | i :: is, v :: vs, σ, H, Q, h, q => ⟨v, vs, rfl, gNames_par (by simpa using h) q⟩
  | [], _ :: _, _, _, _, h, _ => by cases h
  | _ :: _, [], _, _, _, h, _ => by cases h
/-- a, b, c, d = e1, e2, e3, e4: through a tuple -/
theorem pb_parT {is : List Nat} {tes : List Expr} {kt k2 n : Nat} {pt pt2 : Pos} (hc : X.calm = true) (ha : PA X es (tW X.K pu W fs)) (hg : PGs X tes (gNames is)) (hw : swappedStores [.Tuple tes kt pt] (.Tuple es k2 pt2) X.env = pure none := by rfl) (hs : swapsWithSole [.Tuple tes kt pt] (.Tuple es k2 pt2) pos.line X.env = pure false := by rfl)
    (h3 : (assignEach [.Tuple tes kt pt] X.env).map (·.2) = [assign (.Tuple tes kt pt) X.env] := by rfl) (hn : (assignEach tes X.env).length = n := by rfl) (hst : (assignEach tes X.env).findIdx? (·.1) = none := by rfl) (hl : is.length = n := by rfl) (hz : n ≤ sizeLine := by decide) :
    PS X (.Assign [.Tuple tes kt pt] (.Tuple es k2 pt2) pos) (tS X.K W (parF is fs)) := by
  refine PS.imp (ps_asg (pe_tup ha) (pg_tup hc hg hn hst) hs hw h3) fun D σ H h => ?_
  obtain ⟨pn, G, ρ, fp, c, h⟩ := h
  refine ⟨pn, G, ρ, fp, c, (Res.tos_sat h).imp (fun ts ρ1 h vs H1 G1 fp1 fq fw1 p1 c1 o nd nw => ?_) fun _ _ h => h⟩
  cases e : parE is ts ρ1 with
  | none => simp only [e] at h; exact h.elim
  | some ρ2 =>
    simp only [e] at h
    obtain ⟨fp', fw', c', hl'⟩ := Cor.par fw1 c1 o nd nw e
    refine ⟨by rw [hl', hl]; exact hz, fun l hlf => ⟨l, vs, rfl, .inl (.inl upd_same), by rw [hl', hl], gNames_par hl' (h _ (upd H1 l (.tup vs)) G1 fp' ⟨fw'.ex, fun a o' q1 q2 k => ?_, fw'.nf, fw'.ng, fun a o' q => ?_, fun a ps q => ?_⟩ ⟨c'.ex.trans (.new hlf), c'.sl.frame (.refl _) (fun a ha => ?_) (fun a ha => (c'.sl.there a ha).1), c'.nd, c'.pn, c'.tb.put (by rw [hlf]; nofun)⟩)⟩⟩
    · rw [upd_ne (fun z => by have := fw'.none (z ▸ hlf); rw [this] at q1; cases q1)]
      exact fw'.fr a o' q1 q2 k
    · rw [upd_ne (fun z => by have := fw'.none (z ▸ hlf); rw [this] at q; cases q)]
      exact fw'.th a o' q
    · obtain ⟨qs, h1, k1⟩ := fw'.tb a ps q
      obtain ⟨rs, h2, k2⟩ := tbl_put (o := .tup vs) (by rw [hlf]; nofun) h1
      exact ⟨rs, h2, fun t => k2 (k1 t)⟩
    · obtain ⟨_, us, q⟩ := c'.sl.there a ha
      exact upd_ne (ne_of_none q hlf)
end
end Mo

/-! Mo13: y = [..] in one line; small helps for printed derivations. -/
namespace Mo
variable [Tabs]
open PySem PySem.Spec PyProof.Rows L2
theorem hu64 {A : Around} {k : Nat} (h : Room k A) : A.units + 64 < cLine := by
  have := h.un
  omega
section
variable {X : Cx} {W : WX} {e elt tg iter : Expr} {ifs : List Expr} {scope : Scope} {pos spos py p : Pos} {it : Env → Res (List D)} {tgf : D → Env → Option Env} {tt : Env → Res Bool} {te : Env → Res OT} {ix : List Nat} {pt pe pu : Bool} {f : Env → Res Vl} {tf : Env → Res Bool} {y : Str}
theorem pb_setLcO (i : Nat) (own : List (Str × Nat)) (hc : X.calm = true) (hN : X.N.Nodup) (hi : PI X tg iter (tI X.K W it)) (ok : BlkOk X.N X.env.scope scope own) (hg : ∀ (s : Shared) (H : Hp) (C : Addr) (cl : List (Str × Addr)) (fp : List Addr), PG (X.blk s H scope (compEnvC scope cl C X.env) fp) tg (tG X.K ix tgf))
    (ht : ∀ (s : Shared) (H : Hp) (C : Addr) (cl : List (Str × Addr)) (fp : List Addr), PTs (X.blk s H scope (compEnvC scope cl C X.env) fp) ifs (tT X.K pt W0 tt))
    (he : ∀ (s : Shared) (H : Hp) (C : Addr) (cl : List (Str × Addr)) (fp : List Addr), PE (X.blk s H scope (compEnvC scope cl C X.env) fp) elt (tO X.K pe W0 te)) (hy : X.N[i]? = some y := by rfl) (hyl : X.env.scope.names.lookup y = some .local := by rfl)
    (hsw : swapsWith (.ListComp elt [⟨tg, iter, ifs, 0⟩] scope pos) (some (.Name y py)) spos.line X.env = pure true := by rfl) (nd : (own.map (·.2)).Nodup := by decide) (hix : ∀ i ∈ ix, i ∈ own.map (·.2) := by decide) (hs : ∀ x, foldedSetIterable iter X.env x = pure x := by intro _; rfl) :
    PS X (.Assign [.Name y py] (.ListComp elt [⟨tg, iter, ifs, 0⟩] scope pos) spos) (tS X.K W (setO i (compF (own.map (·.2)) it tgf tt te))) := by
  refine PS.imp (ps_setLc hc hN hy hyl hsw hi ok hg ht he hs) fun D σ H h => ?_
  have h := tO.asg (pu := false) h
  exact tO.comp nd hix h
theorem pb_setLc (i : Nat) (own : List (Str × Nat)) (hc : X.calm = true) (hN : X.N.Nodup) (hi : PI X tg iter (tI X.K W it)) (ok : BlkOk X.N X.env.scope scope own) (hg : ∀ (s : Shared) (H : Hp) (C : Addr) (cl : List (Str × Addr)) (fp : List Addr), PG (X.blk s H scope (compEnvC scope cl C X.env) fp) tg (tG X.K ix tgf))
    (ht : ∀ (s : Shared) (H : Hp) (C : Addr) (cl : List (Str × Addr)) (fp : List Addr), PTs (X.blk s H scope (compEnvC scope cl C X.env) fp) ifs (tT X.K pt W0 tt))
    (he : ∀ (s : Shared) (H : Hp) (C : Addr) (cl : List (Str × Addr)) (fp : List Addr), PE (X.blk s H scope (compEnvC scope cl C X.env) fp) elt (tO X.K pe W0 te)) (hy : X.N[i]? = some y := by rfl) (hyl : X.env.scope.names.lookup y = some .local := by rfl)
    (hsw : swapsWith (.ListComp elt [⟨tg, iter, ifs, 0⟩] scope pos) (some (.Name y py)) spos.line X.env = pure true := by rfl) (nd : (own.map (·.2)).Nodup := by decide) (hix : ∀ i ∈ ix, i ∈ own.map (·.2) := by decide) (hs : ∀ x, foldedSetIterable iter X.env x = pure x := by intro _; rfl) :
    PS X (.Assign [.Name y py] (.ListComp elt [⟨tg, iter, ifs, 0⟩] scope pos) spos) (tS X.K W (asgF (asgE i) (frzO (compF (own.map (·.2)) it tgf tt te)))) := by
  refine PS.imp (ps_setLc hc hN hy hyl hsw hi ok hg ht he hs) fun D σ H h => ?_
  suffices tAsg (tO X.K false W (compF (own.map (·.2)) it tgf tt te)) (gName i) D σ H from tO.comp nd hix this
  obtain ⟨pn, G, ρ, fp, c, h⟩ := h
  refine ⟨pn, G, ρ, fp, c, ?_⟩
  unfold asgF frzO at h
  cases ec : compF (own.map (·.2)) it tgf tt te ρ with
  | bad => rw [ec] at h; exact h.elim
  | ex C ρ1 => rw [ec] at h; exact fun H' G' fp' fw c' => h σ H' G' fp' fw c'
  | ok t ρ1 =>
    rw [ec] at h
    have h : (match asgE i t.view ρ1 with | some ρ3 => SRes.nx ρ3 | none => .bad).sat X.K W pn H G fp D := h
    intro v H1 G1 fp1 fq fw1 p1 c1 o nd' nw
    obtain ⟨G2, fw2, c2, r⟩ := Cor.fzO fw1 c1 o nd' nw
    cases e : asgE i t.view ρ1 with
    | none => simp only [e] at h; exact h.elim
    | some ρ3 =>
      simp only [e] at h
      obtain ⟨fp', sub, c3⟩ := c2.asg r e
      exact h _ H1 G2 fp' (fw2.trans ⟨.refl _, fun _ _ h _ _ => h, fun a ha => .inl (sub a ha), fun _ _ h => .inl h, fun _ o h => ⟨o, h⟩, fun _ ps h => ⟨ps, h, id⟩⟩) c3
theorem pb_pts1 (h : PT X e (tT X.K pu W tf)) : PTs X [e] (tT X.K pu W tf) := pts_one h
theorem pb_pw1 {a : Expr} (h : PT X a (tT X.K pu W tf)) : PW X (.BoolOp .And [a] pos) (tT X.K pu W tf) := pw_and1 h
theorem pb_pwo1 {a : Expr} (h : PT X a (tT X.K pu W tf)) : PW X (.BoolOp .Or [a] pos) (tT X.K pu W tf) := pw_or1 h
/-- [..] * k, a list of one's own -/
def repO (pb : Bool) (f g : Env → Res Vl) : Env → Res OT := fun ρ => (f ρ).bind fun x ρ1 => (g ρ1).bind fun y ρ2 => match stays pb x, vw ρ2 x, y with
  | true, some (.list ds), .d (.int k) => if -(2 ^ 63) ≤ k ∧ k < 2 ^ 63 ∧ ds.length * k.toNat ≤ sizeLine then .ok (.ls ((List.replicate k.toNat ds).flatten.map .lf)) ρ2 else .bad
  | _, _, _ => .bad
theorem pb_repO {a b : Expr} {pa pb : Bool} {f g : Env → Res Vl} (ha : PE X a (tF X.K pa W f)) (hb : PE X b (tF X.K pb W g)) : PE X (.BinOp a .Mult b pos) (tO X.K (pa && pb) W (repO pb f g)) := by
  refine PE.imp (pe_op op_rep ha hb) fun σ H Q h => ?_
  obtain ⟨pn, G, ρ, fp, c, h⟩ := h
  refine ⟨pn, G, ρ, fp, c, (Res.sat_bind h).imp (fun x ρ1 h v H1 G1 fp1 fw1 p1 c1 vo => ?_) fun _ _ h => h⟩
  refine ⟨pn, G1, ρ1, fp1, c1, (Res.sat_bind h).imp (fun y ρ2 h u H2 G2 fp2 fw2 p2 c2 wo => ?_) fun _ _ h => h.on fw1⟩
  cases hs : stays pb x with
  | false => simp only [hs] at h; exact h.elim
  | true =>
    have vo2 := vo.mono fw2.ex p2 hs
    cases e1 : vw ρ2 x with
    | none => simp only [hs, e1] at h; exact h.elim
    | some d =>
      have rv := c2.vw vo2 e1
      cases d with
      | list ds =>
        cases y with
        | d y =>
          cases y with
          | int k =>
            simp only [hs, e1] at h
            obtain ⟨l, vs, e2, e3, rl⟩ := rv
            subst e2
            have eu : u = .int k := wo
            by_cases hz : -(2 ^ 63) ≤ k ∧ k < 2 ^ 63 ∧ ds.length * k.toNat ≤ sizeLine
            · rw [if_pos hz] at h
              refine ⟨l, k, vs, rfl, eu, e3, hz.1, hz.2.1, by rw [rl.length]; exact hz.2.2, fun n hn => ?_⟩
              have rl2 : RpL X.K G2 (List.replicate k.toNat ds).flatten (List.replicate k.toNat vs).flatten := rep_rel rl _
              obtain ⟨b1, b2, b3, b4⟩ := c2.newList hn (Owns.lfs (H := H2) rl2) (by simpa using c2.nd)
              refine h _ _ G2 fp2 [n] ((fw1.trans fw2).trans b1) (fun q => ?_) b2 b3 b4 fun x hx => ?_
              · rw [Bool.and_eq_true] at q
                exact ((p1 q.1).trans (p2 q.2)).trans (.new hn)
              · have : x = n := by simpa using hx
                subst this
                exact (fw1.trans fw2).none hn
            · rw [if_neg hz] at h; exact h.elim
          | _ => simp only [hs, e1] at h; exact h.elim
        | _ => simp only [hs, e1] at h; exact h.elim
      | _ => simp only [hs, e1] at h; exact h.elim
end
end Mo

/-! Mo14: the law's own def; facts of errors. -/
namespace Mo
variable [Tabs]
open PySem PySem.Spec PyProof.Rows L2
def spLaw (K : PySem.W.Frag) : Sp := fun vs H Q _ => ∃ (a : Addr) (ns : List Int), vs = [.ref a] ∧ SqL K H a (ns.map V.int) ∧ ns.length ≤ 63 ∧ Tb H ∧ ∀ H', Q (.bl true) H'
section
variable {P : Program} {w : World} {K : PySem.W.Frag} {mg : Str → Option Value} {base : Heap} {x qual : Str} {st : Stmt} {f : Addr} {fd : FuncData} {N : List Str} {k : Nat}
theorem law_def (F : Fun K x qual st f fd) (S : FnScope N ["script"] (defScope st)) (g : Env → SRes)
    (hb : ∀ (cdv : Value) (A : Around) (outer : List PySem.Env) (s : Shared) (H : Hp) (E : XK), Room k (A.deeper (envOfC qual (defScope st) s.heap.objs.size f cdv)) → PSs (cxOf CX0 P w K mg base N qual (defScope st) f cdv A outer s H E).nox (defBody st) (tS K W0 g))
    (pure : ∀ ns : List Int, ns.length ≤ 63 → ∃ ρ', g (.raw ns :: List.replicate (N.length - 1) .un) = .rt (.bool true) ρ') :
    FnOk P w K mg base CX0 (k + 1) f fd ["script"] (spLaw K) := by
  refine F.ok S (fun vs H Q E h => by obtain ⟨a, ns, rfl, _⟩ := h; rfl) fun cdv A outer s H vs Q E hr h => ⟨_, hb cdv A outer s H E hr, ?_⟩
  obtain ⟨a, ns, rfl, hS, hl, tb, q⟩ := h
  obtain ⟨ρ', e⟩ := pure ns hl
  refine ⟨[], H, .raw ns :: List.replicate (N.length - 1) .un, [], ⟨.refl _, ⟨a, _, rfl, hS, Slots.uns _⟩, List.nodup_nil, (fun _ h => nomatch h), tb⟩, ?_⟩
  rw [e]
  intro v σ' H' G' fp' fw c rv
  have ev : v = .bl true := rv
  subst ev
  exact q H'
end
/-- an error of the class at S is what «except S» names -/
theorem exm_own {K : PySem.W.Frag} {S : Addr} (h1 : PySem.W.subIn K (.ref S) (.type "BaseException") = some true) (h2 : PySem.W.isClsIn K S = true) (h3 : PySem.W.typeIn K (.ref S) = some (.type "type")) (h4 : PySem.W.subIn K (.ref S) (.ref S) = some true) : PySem.W.exmOne K (.ref S) (.ref S) = some true := by
  have h2' : (PySem.W.clsIn K S).isSome = true := h2
  unfold PySem.W.exmOne
  simp [PySem.W.kitCls, h1, h2', h3, h4]
end Mo

/-! Pl: plain facts of the combinators at known slots. -/
namespace Mo
/-- no tables, where none are spoken of -/
instance (priority := low) noTabs : Tabs := ⟨[]⟩
open PySem PySem.Spec PyProof.Rows L2

/-- a text by its signs -/
abbrev S (l : List Nat) : D := .str ⟨l.toArray⟩
abbrev I (i : Nat) : D := .int (i : Int)
def okS (l : List Nat) : Prop := ∀ c ∈ l, c < 1114112
section
variable (a b : List Nat) (i j : Nat) (x y : Int)
theorem oAdd_i : oAdd (.int x) (.int y) = some (.int (x + y)) := rfl
theorem oSub_i : oSub (.int x) (.int y) = some (.int (x - y)) := rfl
theorem oLt_i : oLt (.int x) (.int y) = some (.bool (decide (x < y))) := rfl
theorem oLe_i : oLe (.int x) (.int y) = some (.bool (decide (x ≤ y))) := rfl
theorem oGt_i : oGt (.int x) (.int y) = some (.bool (decide (y < x))) := rfl
theorem oGe_i : oGe (.int x) (.int y) = some (.bool (decide (y ≤ x))) := rfl
theorem oEq_i : oEq (.int x) (.int y) = some (.bool (decide (x = y))) := rfl
theorem oNe_i : oNe (.int x) (.int y) = some (.bool (!decide (x = y))) := rfl
theorem len_S : bLen [S a] = some (.int a.length) := by simp [bLen, S, Str.length]
theorem strEq_S : decide ((⟨a.toArray⟩ : Str) = ⟨b.toArray⟩) = decide (a = b) := by
  congr 1
  simp
theorem shaped_S (h : okS a) : SeqAt.shaped (S a) = true := by
  have : PyData.strOk ⟨a.toArray⟩ = true := by
    unfold PyData.strOk
    simp only [List.all_toArray, List.all_eq_true, decide_eq_true_eq]
    exact h
  show (PyData.strOk ⟨a.toArray⟩ && decide (PyData.depth (S a) ≤ 64)) = true
  rw [this]; rfl
theorem oEq_S (ha : okS a) (hb : okS b) : oEq (S a) (S b) = some (.bool (decide (a = b))) := by
  unfold oEq
  rw [if_pos ⟨shaped_S a ha, shaped_S b hb, rfl, rfl⟩, ← strEq_S]
  rfl
theorem oNe_S (ha : okS a) (hb : okS b) : oNe (S a) (S b) = some (.bool (!decide (a = b))) := by
  unfold oNe
  rw [if_pos ⟨shaped_S a ha, shaped_S b hb, rfl, rfl⟩, ← strEq_S]
  rfl
theorem oAdd_S (h : a.length + b.length ≤ 1000000) : oAdd (S a) (S b) = some (S (a ++ b)) := by
  have : ((⟨a.toArray⟩ : Str).length + (⟨b.toArray⟩ : Str).length ≤ sizeLine) := by
    show a.length + b.length ≤ 2 ^ 24
    omega
  show (if _ then _ else _) = _
  rw [if_pos this]
  congr 2
  show (⟨a.toArray ++ b.toArray⟩ : Str) = _
  simp
theorem atI_n {α : Type} (l : List α) (i : Nat) : atI l (i : Int) = l[i]? := by
  unfold atI ixN
  rw [if_pos (by omega)]
  by_cases h : i < l.length
  · rw [if_pos (by omega)]; simp
  · rw [if_neg (by omega)]; simp; omega
theorem oItem_S (h : i < a.length) : oItem (S a) (.int (i : Int)) = some (S [a[i]]) := by
  show (atI a (i : Int)).map _ = _
  rw [atI_n, List.getElem?_eq_getElem h]; rfl
theorem sIx_n (n d k : Nat) : HT.sIx n d (some (k : Int)) = min k n := by
  show (if (k : Int) < 0 then ((k : Int) + n).toNat else min (k : Int).toNat n) = min k n
  rw [if_neg (by omega)]; simp
theorem cut_S (lo hi : Nat) : oSlice (S a) (some (lo : Int)) (some (hi : Int)) = some (S ((a.drop lo).take (hi - lo))) := by
  show some (PyData.str (cutS _ _ _)) = _
  unfold cutS
  rw [sIx_n, sIx_n]
  congr 3
  show ((a.drop (min lo a.length)).take (min hi a.length - min lo a.length)).toArray = _
  congr 1
  by_cases h : lo ≤ a.length
  · rw [Nat.min_eq_left h]
    by_cases h2 : hi ≤ a.length
    · rw [Nat.min_eq_left h2]
    · rw [Nat.min_eq_right (by omega), List.take_of_length_le (by simp), List.take_of_length_le (by simp; omega)]
  · rw [List.drop_of_length_le (by omega), List.drop_of_length_le (by omega)]; simp
theorem cutF_S (lo : Nat) : oSlice (S a) (some (lo : Int)) none = some (S (a.drop lo)) := by
  show some (PyData.str (cutS _ _ _)) = _
  unfold cutS
  rw [sIx_n]
  congr 3
  show ((a.drop (min lo a.length)).take (a.length - min lo a.length)).toArray = _
  congr 1
  by_cases h : lo ≤ a.length
  · rw [Nat.min_eq_left h, List.take_of_length_le (by simp)]
  · rw [List.drop_of_length_le (by omega), List.drop_of_length_le (by omega)]; simp
theorem cutT_S (hi : Nat) : oSlice (S a) none (some (hi : Int)) = some (S (a.take hi)) := by
  show some (PyData.str (cutS _ _ _)) = _
  unfold cutS
  rw [sIx_n]
  congr 3
  show ((a.drop 0).take (min hi a.length - 0)).toArray = _
  rw [List.drop_zero, Nat.sub_zero]
  congr 1
  by_cases h : hi ≤ a.length
  · rw [Nat.min_eq_left h]
  · rw [Nat.min_eq_right (by omega), List.take_of_length_le (by omega), List.take_of_length_le (by omega)]
theorem rev_S : oRev (S a) = some (S a.reverse) := rfl
end
end Mo
namespace Mo
open PySem PySem.Spec PyProof.Rows L2
section
variable {a b : List Nat} {i j : Nat}
theorem okS_get (h : okS a) (hi : i < a.length) : a[i] < 1114112 := h _ (List.getElem_mem hi)
theorem oItem_S1 (h : i + 1 < a.length) : oItem (S a) (.int ((i : Int) + 1)) = some (S [a[i + 1]]) := oItem_S a (i + 1) h
theorem oItem_Sn (h : i < a.length) : oItem (S a) (.int (i : Int)) = some (S [a[i]]) := oItem_S a i h
theorem okS_1 {x : Nat} (h : x < 1114112) : okS [x] := fun c hc => by
  have : c = x := by simpa using hc
  rw [this]; exact h
theorem okS_2 {x y : Nat} (h : x < 1114112) (g : y < 1114112) : okS [x, y] := fun c hc => by
  rcases List.mem_cons.mp hc with e | e
  · rw [e]; exact h
  · exact okS_1 g c e
theorem oNe_1 {x y : Nat} (h : x < 1114112) (g : y < 1114112) : oNe (S [x]) (S [y]) = some (.bool (!decide (x = y))) := by
  rw [oNe_S _ _ (okS_1 h) (okS_1 g)]
  simp
theorem oEq_2 {x y z w : Nat} (h1 : x < 1114112) (h2 : y < 1114112) (h3 : z < 1114112) (h4 : w < 1114112) : oEq (S [x, y]) (S [z, w]) = some (.bool (decide (x = z ∧ y = w))) := by
  rw [oEq_S _ _ (okS_2 h1 h2) (okS_2 h3 h4)]
  simp
theorem oAdd_11 {x y : Nat} : oAdd (S [x]) (S [y]) = some (S [x, y]) := oAdd_S [x] [y] (by simp)
theorem cut_2 (h : i + 1 < a.length) : oSlice (S a) (some (i : Int)) (some ((i : Int) + 2)) = some (S [a[i], a[i + 1]]) := by
  have := cut_S a i (i + 2)
  rw [show ((i : Int) + 2) = ((i + 2 : Nat) : Int) by omega, this]
  congr 2
  rw [show i + 2 - i = 2 by omega, List.drop_eq_getElem_cons (show i < a.length by omega), List.drop_eq_getElem_cons h]
  rfl
end
end Mo

/-! Ev: the combinators at work: each asked of its first part alone. -/
namespace Mo
open PySem PySem.Spec PyProof.Rows L2

/-- a flat list of one's own -/
def LS (ds : List D) : OT := .ls (ds.map .lf)
theorem leaves_lf : ∀ ds : List D, leaves (ds.map .lf) = some ds
  | [] => rfl
  | d :: ds => by
    simp only [List.map_cons, leaves, OT.leaf, leaves_lf ds]
theorem show_LS (ds : List D) : (LS ds).show = some (.list ds) := by
  show (leaves (ds.map .lf)).map PyData.list = _
  rw [leaves_lf]; rfl
theorem views_lf : ∀ ds : List D, OT.views (ds.map .lf) = ds
  | [] => rfl
  | d :: ds => by
    show d :: OT.views (ds.map .lf) = _
    rw [views_lf ds]
theorem view_LS (ds : List D) : (LS ds).view = .list ds := by
  show PyData.list (OT.views (ds.map .lf)) = _
  rw [views_lf]

/-! ### the glue -/
def sthen (r : SRes) (g : Env → SRes) : SRes := match r with
  | .nx ρ1 => g ρ1
  | r => r
theorem bind_ext {α β : Type} {r : Res α} {k k' : α → Env → Res β} (h : ∀ a ρ, k a ρ = k' a ρ) : r.bind k = r.bind k' := by
  cases r <;> (try rfl)
  exact h _ _
theorem tos_ext {α : Type} {r : Res α} {k k' : α → Env → SRes} (h : ∀ a ρ, k a ρ = k' a ρ) : r.tos k = r.tos k' := by
  cases r <;> (try rfl)
  exact h _ _
def sel {α : Type} (b : Bool) (f g : Env → α) (ρ : Env) : α := match b with
  | true => f ρ
  | false => g ρ
/-! as simp is to see them: what goes on stands still (Tg hangs on it) till the first part is known -/
theorem nr {α : Type u} {a b : α} (h : a = b) : a = b := h
def Tg {α : Type} (_k : α) : Type := Unit
def tg0 {α : Type} (k : α) : Tg k := ()
def bn {α β : Type} (k : α → Env → Res β) (_u : Tg k) (r : Res α) : Res β := r.bind k
def tn {α : Type} (k : α → Env → SRes) (_u : Tg k) (r : Res α) : SRes := r.tos k
def sn (g : Env → SRes) (_u : Tg g) (r : SRes) : SRes := sthen r g
def sl {α : Type} (f g : Env → α) (_u : Tg f) (_v : Tg g) (ρ : Env) (_w : Tg ρ) (b : Bool) : α := sel b f g ρ
section
variable {α β : Type} {f g : Env → Res Vl} {tf tg : Env → Res Bool} {sf sg : Env → SRes} {fo : Env → Res OT} {fs : Env → Res (List Vl)} {ρ ρ1 : Env} {a : α} {x y : Vl} {d e : D} {i n : Nat}
theorem bind_bn {r : Res α} {k : α → Env → Res β} : r.bind k = bn k (tg0 k) r := nr rfl
theorem tos_tn {r : Res α} {k : α → Env → SRes} : r.tos k = tn k (tg0 k) r := nr rfl
theorem sthen_sn {r : SRes} : sthen r sg = sn sg (tg0 sg) r := nr rfl
theorem sel_sl {f g : Env → α} {b : Bool} : sel b f g ρ = sl f g (tg0 f) (tg0 g) ρ (tg0 ρ) b := nr rfl
theorem bn_ok {k : α → Env → Res β} {u : Tg k} : bn k u (.ok a ρ) = k a ρ := nr rfl
theorem bn_ex {C : Addr} {k : α → Env → Res β} {u : Tg k} : bn k u (.ex C ρ) = .ex C ρ := nr rfl
theorem tn_ok {k : α → Env → SRes} {u : Tg k} : tn k u (.ok a ρ) = k a ρ := nr rfl
theorem tn_ex {C : Addr} {k : α → Env → SRes} {u : Tg k} : tn k u (.ex C ρ) = .ex C ρ := nr rfl
theorem sn_nx {u : Tg sg} : sn sg u (.nx ρ) = sg ρ := nr rfl
theorem sn_rt {u : Tg sg} : sn sg u (.rt d ρ) = .rt d ρ := nr rfl
theorem sn_bk {u : Tg sg} : sn sg u (.bk ρ) = .bk ρ := nr rfl
theorem sn_ct {u : Tg sg} : sn sg u (.ct ρ) = .ct ρ := nr rfl
theorem sn_ex {C : Addr} {u : Tg sg} : sn sg u (.ex C ρ) = .ex C ρ := nr rfl
theorem sl_t {f g : Env → α} {u : Tg f} {v : Tg g} {w : Tg ρ} : sl f g u v ρ w true = f ρ := nr rfl
theorem sl_f {f g : Env → α} {u : Tg f} {v : Tg g} {w : Tg ρ} : sl f g u v ρ w false = g ρ := nr rfl
theorem sthen_nx : sthen (.nx ρ) sg = sg ρ := nr rfl
theorem sthen_rt : sthen (.rt d ρ) sg = .rt d ρ := nr rfl
theorem sthen_bk : sthen (.bk ρ) sg = .bk ρ := nr rfl
theorem sthen_ct : sthen (.ct ρ) sg = .ct ρ := nr rfl
theorem sthen_ex {C : Addr} : sthen (.ex C ρ) sg = .ex C ρ := nr rfl
theorem bind_ok {k : α → Env → Res β} : (Res.ok a ρ).bind k = k a ρ := nr rfl
theorem bind_ex {C : Addr} {k : α → Env → Res β} : (Res.ex C ρ).bind k = .ex C ρ := nr rfl
theorem tos_ok {k : α → Env → SRes} : (Res.ok a ρ).tos k = k a ρ := nr rfl
theorem tos_ex {C : Addr} {k : α → Env → SRes} : (Res.ex C ρ : Res α).tos k = .ex C ρ := nr rfl
theorem sel_t {f g : Env → α} : sel true f g ρ = f ρ := nr rfl
theorem sel_f {f g : Env → α} : sel false f g ρ = g ρ := nr rfl
theorem ite_sel {f g : Env → α} {b : Bool} : (if b = true then f ρ else g ρ) = sel b f g ρ := by cases b <;> rfl

/-! ### values -/
def vwR : Option Slot → Option D
  | some (.v t) => t.show
  | some (.io t) => t.show
  | _ => none
theorem vw_d : vw ρ (.d d) = some d := nr rfl
theorem vw_w {xs : List D} : vw ρ (.w xs) = some (.list xs) := nr rfl
theorem vw_r : vw ρ (.r i) = vwR ρ[i]? := by
  show (match ρ[i]? with | some s => (match s.ot with | some t => t.show | none => none) | none => none) = vwR ρ[i]?
  cases ρ[i]? with
  | none => rfl
  | some s => cases s <;> rfl
theorem vwR_LS {ds : List D} : vwR (some (.v (LS ds))) = some (.list ds) := show_LS ds
theorem vwR_io {ds : List D} : vwR (some (.io (LS ds))) = some (.list ds) := show_LS ds
theorem vwR_lf : vwR (some (.v (.lf d))) = some d := nr rfl
theorem stays_d {b : Bool} : stays b (.d d) = true := nr rfl
theorem stays_r {b : Bool} : stays b (.r i) = true := nr rfl
theorem stays_t : stays true x = true := by cases x <;> rfl
def varR (i : Nat) (ρ : Env) : Option Slot → Res Vl
  | some (.v (.lf x)) => .ok (.d x) ρ
  | some (.io (.lf x)) => .ok (.d x) ρ
  | some (.v (.ls _)) => .ok (.r i) ρ
  | some (.io (.ls _)) => .ok (.r i) ρ
  | _ => .bad
theorem varF_ap : varF i ρ = varR i ρ ρ[i]? := by
  unfold varF varR
  cases ρ[i]? with
  | none => rfl
  | some s => cases s <;> (try rfl) <;> (rename_i t; cases t <;> rfl)
theorem varR_lf : varR i ρ (some (.v (.lf d))) = .ok (.d d) ρ := nr rfl
theorem varR_LS {ds : List D} : varR i ρ (some (.v (LS ds))) = .ok (.r i) ρ := nr rfl
theorem varR_io {ts : List OT} : varR i ρ (some (.io (.ls ts))) = .ok (.r i) ρ := nr rfl
theorem varR_ls {ts : List OT} : varR i ρ (some (.v (.ls ts))) = .ok (.r i) ρ := nr rfl
theorem cF_ap : cF d ρ = .ok (.d d) ρ := nr rfl
def ofO (ρ : Env) : Option D → Res Vl
  | some c => .ok (.d c) ρ
  | none => .bad
theorem ofO_s : ofO ρ (some d) = .ok (.d d) ρ := nr rfl
def binV (op : D → D → Option D) (ρ : Env) : Bool → Option D → Option D → Res Vl
  | true, some a, some b => ofO ρ (op a b)
  | _, _, _ => .bad
theorem binV_s {op : D → D → Option D} : binV op ρ true (some d) (some e) = ofO ρ (op d e) := nr rfl
theorem bin2_ap {pb : Bool} {op : D → D → Option D} : bin2 pb op f g ρ = (f ρ).bind fun x ρ1 => (g ρ1).bind fun y ρ2 => binV op ρ2 (stays pb x) (vw ρ2 x) (vw ρ2 y) := by
  unfold bin2
  refine bind_ext fun x ρ1 => ?_
  refine bind_ext fun y ρ2 => ?_
  cases stays pb x <;> cases vw ρ2 x <;> cases vw ρ2 y <;> (try rfl)
def unV (op : D → Option D) (ρ : Env) : Option D → Res Vl
  | some a => ofO ρ (op a)
  | none => .bad
theorem unV_s {op : D → Option D} : unV op ρ (some d) = ofO ρ (op d) := nr rfl
theorem un1_ap {op : D → Option D} : un1 op f ρ = (f ρ).bind fun x ρ1 => unV op ρ1 (vw ρ1 x) := by
  unfold un1
  refine bind_ext fun x ρ1 => ?_
  cases vw ρ1 x <;> rfl
/-! freezing -/
def fzR (i : Nat) (ρ : Env) : Option Slot → Res D
  | some (.v (.ls ts)) => .ok (.list (OT.views ts)) (ρ.set i (.v (.lf (.list (OT.views ts)))))
  | some (.v (.lf x)) => .ok x ρ
  | some (.io (.lf x)) => .ok x ρ
  | _ => .bad
theorem fzE_d : fzE (.d d) ρ = .ok d ρ := nr rfl
theorem fzE_r : fzE (.r i) ρ = fzR i ρ ρ[i]? := nr rfl
theorem fzR_LS {ds : List D} : fzR i ρ (some (.v (LS ds))) = .ok (.list ds) (ρ.set i (.v (.lf (.list ds)))) := by
  show Res.ok (PyData.list (OT.views (ds.map .lf))) (ρ.set i (.v (.lf (.list (OT.views (ds.map .lf)))))) = _
  rw [views_lf]
theorem fzR_ls {ts : List OT} : fzR i ρ (some (.v (.ls ts))) = .ok (.list (OT.views ts)) (ρ.set i (.v (.lf (.list (OT.views ts))))) := nr rfl
theorem fzs_n : fzs [] ρ = .ok [] ρ := nr rfl
theorem fzs_c {xs : List Vl} : fzs (x :: xs) ρ = (fzE x ρ).bind fun d ρ1 => (fzs xs ρ1).bind fun ds ρ2 => .ok (d :: ds) ρ2 := nr rfl
theorem vws_n : vws ρ [] = some [] := nr rfl
def vwsC : Option D → Option (List D) → Option (List D)
  | some d, some ds => some (d :: ds)
  | _, _ => none
theorem vws_c {xs : List Vl} : vws ρ (x :: xs) = vwsC (vw ρ x) (vws ρ xs) := by
  show (match vw ρ x, vws ρ xs with | some d, some ds => some (d :: ds) | _, _ => none) = _
  cases vw ρ x <;> cases vws ρ xs <;> rfl
theorem vwsC_s {ds : List D} : vwsC (some d) (some ds) = some (d :: ds) := nr rfl
theorem nilV_ap : nilV ρ = .ok [] ρ := nr rfl
def stay1 (b : Bool) (r : Res (List Vl)) : Res (List Vl) := match b with
  | true => r
  | false => .bad
theorem stay1_t {r : Res (List Vl)} : stay1 true r = r := nr rfl
theorem consV_ap {pb : Bool} : consV pb f fs ρ = (f ρ).bind fun x ρ1 => (fs ρ1).bind fun xs ρ2 => stay1 (stays pb x) (.ok (x :: xs) ρ2) := by
  unfold consV
  refine bind_ext fun x ρ1 => ?_
  refine bind_ext fun xs ρ2 => ?_
  cases stays pb x <;> rfl
def okIf {α : Type} (p : Prop) [Decidable p] (r : Res α) : Res α := if p then r else .bad
theorem okIf_t {p : Prop} [Decidable p] {r : Res α} (h : p) : okIf p r = r := if_pos h
theorem okIf_T {r : Res α} [Decidable True] : okIf True r = r := if_pos trivial
theorem tupF_ap : tupF fs ρ = (fs ρ).bind fun xs ρ1 => (fzs xs ρ1).bind fun ds ρ2 => okIf (ds.length ≤ sizeLine) (.ok (.d (.tuple ds)) ρ2) := nr rfl
theorem lstF_ap : lstF fs ρ = (fs ρ).bind fun xs ρ1 => (fzs xs ρ1).bind fun ds ρ2 => okIf (ds.length ≤ sizeLine) (.ok (LS ds) ρ2) := nr rfl
theorem frzO_ap : frzO fo ρ = (fo ρ).bind fun t ρ1 => .ok (.d t.view) ρ1 := nr rfl
theorem lfF_ap : lfF f ρ = (f ρ).bind fun x ρ1 => (fzE x ρ1).bind fun d ρ2 => .ok (.lf d) ρ2 := nr rfl
def callV (op : List D → Option D) (ρ : Env) : Option (List D) → Res Vl
  | some ds => ofO ρ (op ds)
  | none => .bad
theorem callV_s {op : List D → Option D} {ds : List D} : callV op ρ (some ds) = ofO ρ (op ds) := nr rfl
theorem callF_ap {op : List D → Option D} : callF op fs ρ = (fs ρ).bind fun xs ρ1 => callV op ρ1 (vws ρ1 xs) := by
  unfold callF
  refine bind_ext fun xs ρ1 => ?_
  cases vws ρ1 xs <;> rfl
def outV (ρ : Env) : Out → Res Vl
  | .ret d => .ok (.d d) ρ
  | .exc C => .ex C ρ
  | .bad => .bad
theorem outV_r : outV ρ (.ret d) = .ok (.d d) ρ := nr rfl
theorem outV_x {C : Addr} : outV ρ (.exc C) = .ex C ρ := nr rfl
theorem callD_ap {F : List D → Out} : callD F fs ρ = (fs ρ).bind fun xs ρ1 => (fzs xs ρ1).bind fun ds ρ2 => outV ρ2 (F ds) := by
  unfold callD
  refine bind_ext fun xs ρ1 => ?_
  refine bind_ext fun ds ρ2 => ?_
  cases F ds <;> rfl
/-! subscripts -/
def ixN1 (ρ : Env) (x : Vl) (b : D) : Res Vl := match x, b with
  | .r i, .int k => match slotT ρ i with
    | some (.ls ts) => match atI ts k with
      | some (.lf z) => .ok (.d z) ρ
      | some (.ls us) => match leaves us with
        | some xs => .ok (.w xs) ρ
        | none => .bad
      | none => .bad
    | _ => .bad
  | _, _ => .bad
def ixV (x : Vl) (ρ : Env) : Bool → Option D → Option D → Res Vl
  | true, some a, some b => ofO ρ (oItem a b)
  | true, none, some b => ixN1 ρ x b
  | _, _, _ => .bad
theorem ixV_s : ixV x ρ true (some d) (some e) = ofO ρ (oItem d e) := nr rfl
theorem ixV_n : ixV x ρ true none (some e) = ixN1 ρ x e := nr rfl
theorem ixF_ap {pb : Bool} : ixF pb f g ρ = (f ρ).bind fun x ρ1 => (g ρ1).bind fun y ρ2 => ixV x ρ2 (stays pb x) (vw ρ2 x) (vw ρ2 y) := by
  unfold ixF
  refine bind_ext fun x ρ1 => ?_
  refine bind_ext fun y ρ2 => ?_
  cases stays pb x <;> cases vw ρ2 y <;> cases vw ρ2 x <;> (try rfl)
theorem noP_ap : noP ρ = .ok none ρ := nr rfl
def intV (ρ : Env) : Vl → Res (Option Int)
  | .d (.int i) => .ok (some i) ρ
  | _ => .bad
theorem intV_i {k : Int} : intV ρ (.d (.int k)) = .ok (some k) ρ := nr rfl
theorem someP_ap : someP f ρ = (f ρ).bind fun x ρ1 => intV ρ1 x := by
  unfold someP
  refine bind_ext fun x ρ1 => ?_
  rcases x with y | y | y
  · cases y <;> rfl
  · rfl
  · rfl
def slV (ρ : Env) (i j : Option Int) : Bool → Option D → Res Vl
  | true, some a => ofO ρ (oSlice a i j)
  | _, _ => .bad
theorem slV_s {i j : Option Int} : slV ρ i j true (some d) = ofO ρ (oSlice d i j) := nr rfl
theorem slF_ap {p1 p2 : Bool} {lo hi : Env → Res (Option Int)} : slF p1 p2 f lo hi ρ = (f ρ).bind fun x ρ1 => (lo ρ1).bind fun i ρ2 => (hi ρ2).bind fun j ρ3 => slV ρ3 i j (stays (p1 && p2) x) (vw ρ3 x) := by
  unfold slF
  refine bind_ext fun x ρ1 => ?_
  refine bind_ext fun i ρ2 => ?_
  refine bind_ext fun j ρ3 => ?_
  cases stays (p1 && p2) x <;> cases vw ρ3 x <;> (try rfl)
/-! tests -/
def boolV (ρ : Env) : Vl → Res Bool
  | .d (.bool b) => .ok b ρ
  | _ => .bad
theorem boolV_b {b : Bool} : boolV ρ (.d (.bool b)) = .ok b ρ := nr rfl
theorem boolF_ap : boolF f ρ = (f ρ).bind fun x ρ1 => boolV ρ1 x := by
  unfold boolF
  refine bind_ext fun x ρ1 => ?_
  rcases x with y | y | y
  · cases y <;> rfl
  · rfl
  · rfl
def truW (ρ : Env) : Option Bool → Res Bool
  | some b => .ok b ρ
  | none => .bad
theorem truW_s {b : Bool} : truW ρ (some b) = .ok b ρ := nr rfl
def truV (ρ : Env) : Option D → Res Bool
  | some a => truW ρ (truD a)
  | none => .bad
theorem truV_s : truV ρ (some d) = truW ρ (truD d) := nr rfl
theorem truF_ap : truF f ρ = (f ρ).bind fun x ρ1 => truV ρ1 (vw ρ1 x) := by
  unfold truF
  refine bind_ext fun x ρ1 => ?_
  cases vw ρ1 x with
  | none => rfl
  | some a => show (match truD a with | some b => Res.ok b ρ1 | none => .bad) = truW ρ1 (truD a); cases truD a <;> rfl
theorem truD_b {b : Bool} : truD (.bool b) = some b := nr rfl
theorem truD_i {k : Int} : truD (.int k) = some (k != 0) := nr rfl
def okB (b : Bool) : Env → Res Bool := fun ρ => .ok b ρ
theorem okB_ap {b : Bool} : okB b ρ = .ok b ρ := nr rfl
theorem andF_ap : andF tf tg ρ = (tf ρ).bind fun x ρ1 => sel x tg (okB false) ρ1 := by
  unfold andF
  refine bind_ext fun x ρ1 => ?_
  cases x <;> rfl
theorem orF_ap : orF tf tg ρ = (tf ρ).bind fun x ρ1 => sel x (okB true) tg ρ1 := by
  unfold orF
  refine bind_ext fun x ρ1 => ?_
  cases x <;> rfl
theorem notF_ap : notF tf ρ = (tf ρ).bind fun x ρ1 => .ok (!x) ρ1 := nr rfl
def okV (d : D) : Env → Res Vl := fun ρ => .ok (.d d) ρ
theorem okV_ap : okV d ρ = .ok (.d d) ρ := nr rfl
def selV (f g : Env → Res Vl) (ρ : Env) : Vl → Res Vl
  | .d (.bool true) => f ρ
  | .d (.bool false) => g ρ
  | _ => .bad
theorem selV_b {b : Bool} : selV f g ρ (.d (.bool b)) = sel b f g ρ := by cases b <;> rfl
theorem andV_ap : andV f g ρ = (f ρ).bind fun x ρ1 => selV g (okV (.bool false)) ρ1 x := by
  unfold andV
  refine bind_ext fun x ρ1 => ?_
  rcases x with y | y | y
  · cases y <;> (try rfl) <;> (rename_i b; cases b <;> rfl)
  · rfl
  · rfl
theorem orV_ap : orV f g ρ = (f ρ).bind fun x ρ1 => selV (okV (.bool true)) g ρ1 x := by
  unfold orV
  refine bind_ext fun x ρ1 => ?_
  rcases x with y | y | y
  · cases y <;> (try rfl) <;> (rename_i b; cases b <;> rfl)
  · rfl
  · rfl
theorem ifF_ap : ifF tf f g ρ = (tf ρ).bind fun x ρ1 => sel x f g ρ1 := by
  unfold ifF
  refine bind_ext fun x ρ1 => ?_
  cases x <;> rfl
/-! statements -/
theorem seqF_ap : seqF sf sg ρ = sthen (sf ρ) sg := nr rfl
theorem nxF_ap : nxF ρ = .nx ρ := nr rfl
theorem bkF_ap : bkF ρ = .bk ρ := nr rfl
theorem retF_ap : retF f ρ = (f ρ).tos fun x ρ1 => (fzE x ρ1).tos fun d ρ2 => .rt d ρ2 := nr rfl
theorem exprF_ap : exprF f ρ = (f ρ).tos fun _ ρ1 => .nx ρ1 := nr rfl
def ofE : Option Env → SRes
  | some ρ => .nx ρ
  | none => .bad
theorem ofE_s : ofE (some ρ) = .nx ρ := nr rfl
theorem asgF_ap {tg : D → Env → Option Env} : asgF tg f ρ = (f ρ).tos fun x ρ1 => (fzE x ρ1).tos fun d ρ2 => ofE (tg d ρ2) := by
  unfold asgF
  refine tos_ext fun x ρ1 => ?_
  refine tos_ext fun d ρ2 => ?_
  cases tg d ρ2 <;> rfl
def asgR (i : Nat) (t : OT) (ρ : Env) : Option Slot → Option Env
  | some (.io _) => none
  | some _ => some (ρ.set i (.v t))
  | none => none
theorem asgE_ap : asgE i d ρ = asgR i (.lf d) ρ ρ[i]? := by
  unfold asgE asgR
  cases ρ[i]? with
  | none => rfl
  | some s => cases s <;> rfl
theorem asgR_un {t : OT} : asgR i t ρ (some .un) = some (ρ.set i (.v t)) := nr rfl
theorem asgR_v {t u : OT} : asgR i t ρ (some (.v u)) = some (ρ.set i (.v t)) := nr rfl
theorem asgR_raw {t : OT} {ns : List Int} : asgR i t ρ (some (.raw ns)) = some (ρ.set i (.v t)) := nr rfl
theorem setO_ap : setO i fo ρ = (fo ρ).tos fun t ρ1 => ofE (asgR i t ρ1 ρ1[i]?) := by
  unfold setO
  refine tos_ext fun t ρ1 => ?_
  cases ρ1[i]? with
  | none => rfl
  | some s => cases s <;> rfl
theorem ifS_ap : ifS tf sf sg ρ = (tf ρ).tos fun x ρ1 => sel x sf sg ρ1 := by
  unfold ifS
  refine tos_ext fun x ρ1 => ?_
  cases x <;> rfl
/-! targets of more -/
theorem gNil_ap : gNilE [] ρ = some ρ := nr rfl
def nextE (g : List D → Env → Option Env) (ds : List D) : Option Env → Option Env
  | some ρ1 => g ds ρ1
  | none => none
theorem nextE_s {g : List D → Env → Option Env} {ds : List D} : nextE g ds (some ρ) = g ds ρ := nr rfl
theorem gCons_ap {t : D → Env → Option Env} {g : List D → Env → Option Env} {ds : List D} : gConsE t g (d :: ds) ρ = nextE g ds (t d ρ) := by
  show (match t d ρ with | some ρ1 => g ds ρ1 | none => none) = _
  cases t d ρ <;> rfl
/-! lists of one's own -/
def lsR : Option Slot → Option (Slot × List OT)
  | some (.v (.ls ts)) => some (.v (.ls ts), ts)
  | some (.io (.ls ts)) => some (.io (.ls ts), ts)
  | _ => none
theorem lsAt_ap : lsAt ρ i = lsR ρ[i]? := by
  unfold lsAt lsR
  cases ρ[i]? with
  | none => rfl
  | some s => cases s <;> (try rfl) <;> (rename_i t; cases t <;> rfl)
def mapLf (ds : List D) : List OT := ds.map .lf
theorem lsR_LS {ds : List D} : lsR (some (.v (LS ds))) = some (.v (LS ds), mapLf ds) := nr rfl
theorem lsR_io {ts : List OT} : lsR (some (.io (.ls ts))) = some (.io (.ls ts), ts) := nr rfl
theorem lsR_ls {ts : List OT} : lsR (some (.v (.ls ts))) = some (.v (.ls ts), ts) := nr rfl
def appK (i : Nat) (t : OT) (ρ : Env) : Option (Slot × List OT) → Res Vl
  | some (s, ts) => okIf (ts.length < sizeLine) (.ok (.d .none) (ρ.set i (s.to (.ls (ts ++ [t])))))
  | none => .bad
def appG (i : Nat) (fo : Env → Res OT) (ρ : Env) : Option (Slot × List OT) → Res Vl
  | some _ => (fo ρ).bind fun t ρ1 => appK i t ρ1 (lsAt ρ1 i)
  | none => .bad
theorem appF_ap : appF i fo ρ = appG i fo ρ (lsAt ρ i) := by
  unfold appF appG
  cases lsAt ρ i with
  | none => rfl
  | some st =>
    show (fo ρ).bind _ = (fo ρ).bind _
    refine bind_ext fun t ρ1 => ?_
    cases lsAt ρ1 i <;> rfl
theorem appG_s {st : Slot × List OT} : appG i fo ρ (some st) = (fo ρ).bind fun t ρ1 => appK i t ρ1 (lsAt ρ1 i) := nr rfl
theorem appK_LS {ds : List D} {u : OT} : appK i (.lf d) ρ (some (.v u, mapLf ds)) = okIf (ds.length < sizeLine) (.ok (.d .none) (ρ.set i (.v (LS (ds ++ [d]))))) := by
  unfold appK LS mapLf
  simp [Slot.to]
theorem okIf_le {r : Res α} {k : Nat} (h : k ≤ 1000000) : okIf (k ≤ sizeLine) r = r := if_pos (Nat.le_trans h (by decide))
theorem okIf_lt {r : Res α} {k : Nat} (h : k ≤ 1000000) : okIf (k < sizeLine) r = r := if_pos (Nat.lt_of_le_of_lt h (by decide))
end
/-! a def -/
def outS : SRes → Out
  | .nx _ => .ret .none
  | .rt d _ => .ret d
  | .ex C _ => .exc C
  | _ => .bad
theorem outS_nx {ρ : Env} : outS (.nx ρ) = .ret .none := nr rfl
theorem outS_rt {d : D} {ρ : Env} : outS (.rt d ρ) = .ret d := nr rfl
theorem outS_ex {C : Addr} {ρ : Env} : outS (.ex C ρ) = .exc C := nr rfl
theorem funF_ap {N n : Nat} {g : Env → SRes} {ds : List D} (h : ds.length = n) : funF N n g ds = outS (g (ds.map (fun d => .v (.lf d)) ++ List.replicate (N - n) .un)) := by
  unfold funF
  rw [if_pos h]
  cases g (ds.map (fun d => .v (.lf d)) ++ List.replicate (N - n) .un) <;> rfl
def outI : SRes → OutI
  | .nx (.io t' :: _) => .ret .none t'
  | .rt d (.io t' :: _) => .ret d t'
  | _ => .bad
theorem outI_rt {d : D} {t : OT} {ρ : Env} : outI (.rt d (.io t :: ρ)) = .ret d t := nr rfl
theorem outI_nx {t : OT} {ρ : Env} : outI (.nx (.io t :: ρ)) = .ret .none t := nr rfl
theorem funI_ap {N n : Nat} {g : Env → SRes} {t : OT} {ds : List D} (h : ds.length + 1 = n) : funI N n g t ds = outI (g (.io t :: ds.map (fun d => .v (.lf d)) ++ List.replicate (N - n) .un)) := by
  unfold funI
  rw [if_pos h]
  rfl
theorem bTup_l {ds : List D} : bTuple [.list ds] = some (.tuple ds) := nr rfl
theorem bTup_t {ds : List D} : bTuple [.tuple ds] = some (.tuple ds) := nr rfl
theorem bInt_b {k : Bool} : bInt [.bool k] = some (.int (if k then 1 else 0)) := nr rfl
theorem bInt_i {k : Int} : bInt [.int k] = some (.int k) := nr rfl
end Mo

/-! Lo: loops and comprehensions at known slots. -/
namespace Mo
open PySem PySem.Spec PyProof.Rows L2
section
variable {ρ ρ1 : Env} {v i : Nat} {d : D}
def drop1R (v : Nat) (ρ : Env) : Option Slot → Option Env
  | some .un => some ρ
  | some (.v (.lf _)) => some (ρ.set v .un)
  | _ => none
def dropN (v : Nat) : Option Env → Option Env
  | some ρ => drop1R v ρ ρ[v]?
  | none => none
theorem dropE_n : dropE ρ [] = some ρ := nr rfl
theorem dropE_c {vs : List Nat} : dropE ρ (v :: vs) = dropN v (dropE ρ vs) := by
  show (match dropE ρ vs with | some ρ1 => drop1 ρ1 v | none => none) = _
  cases dropE ρ vs with
  | none => rfl
  | some ρ1 =>
    show drop1 ρ1 v = drop1R v ρ1 ρ1[v]?
    unfold drop1 drop1R
    cases ρ1[v]? with
    | none => rfl
    | some s => cases s <;> (try rfl) <;> (rename_i t; cases t <;> rfl)
theorem dropN_s : dropN v (some ρ) = drop1R v ρ ρ[v]? := nr rfl
theorem drop1R_un : drop1R v ρ (some .un) = some ρ := nr rfl
theorem drop1R_lf : drop1R v ρ (some (.v (.lf d))) = some (ρ.set v .un) := nr rfl
def restR (ρ0 ρ : Env) (v : Nat) (vs : List Nat) : Option Slot → Env
  | some s => restE ρ0 (ρ.set v s) vs
  | none => ρ
theorem restE_n {ρ0 : Env} : restE ρ0 ρ [] = ρ := nr rfl
theorem restE_c {ρ0 : Env} {vs : List Nat} : restE ρ0 ρ (v :: vs) = restR ρ0 ρ v vs ρ0[v]? := by
  show (match ρ0[v]? with | some s => restE ρ0 (ρ.set v s) vs | none => ρ) = _
  cases ρ0[v]? <;> rfl
theorem restR_s {ρ0 : Env} {vs : List Nat} {s : Slot} : restR ρ0 ρ v vs (some s) = restE ρ0 (ρ.set v s) vs := nr rfl
theorem unp_ap {n : Nat} {f : List D → Env → Option Env} {ds : List D} (h : ds.length = n) : unpE n f (.tuple ds) ρ = f ds ρ := by
  show (if ds.length = n then f ds ρ else none) = _
  rw [if_pos h]
theorem unl_ap {n : Nat} {f : List D → Env → Option Env} {ds : List D} (h : ds.length = n) : unlE n f (.list ds) ρ = f ds ρ := by
  show (if ds.length = n then f ds ρ else none) = _
  rw [if_pos h]
/-- a comprehension that makes one item of each -/
theorem compGo_map {vs : List Nat} {tg : D → Env → Option Env} {tt : Env → Res Bool} {te : Env → Res OT} (h : D → OT) : ∀ {items : List D} {acc : List OT},
    (∀ d ∈ items, ∃ ρ1 ρ2 ρ3, tg d ρ = some ρ1 ∧ tt ρ1 = .ok true ρ2 ∧ te ρ2 = .ok (h d) ρ3 ∧ dropE ρ3 vs = some ρ) → acc.length + items.length ≤ sizeLine → compGo vs tg tt te items ρ acc = .ok (acc ++ items.map h) ρ
  | [], acc, _, _ => by simp [compGo]
  | d :: ds, acc, q, hl => by
    obtain ⟨ρ1, ρ2, ρ3, e1, e2, e3, e4⟩ := q d List.mem_cons_self
    unfold compGo
    simp only [e1, e2, e3, e4]
    rw [if_pos (by simp at hl; omega), compGo_map h (fun x hx => q x (List.mem_cons_of_mem _ hx)) (by simp at hl ⊢; omega)]
    simp
/-- a comprehension that keeps some -/
theorem compGo_filter {vs : List Nat} {tg : D → Env → Option Env} {tt : Env → Res Bool} {te : Env → Res OT} (h : D → OT) (p : D → Bool) : ∀ {items : List D} {acc : List OT},
    (∀ d ∈ items, ∃ ρ1 ρ2, tg d ρ = some ρ1 ∧ tt ρ1 = .ok (p d) ρ2 ∧ if p d = true then ∃ ρ3, te ρ2 = .ok (h d) ρ3 ∧ dropE ρ3 vs = some ρ else dropE ρ2 vs = some ρ) → acc.length + items.length ≤ sizeLine → compGo vs tg tt te items ρ acc = .ok (acc ++ (items.filter p).map h) ρ
  | [], acc, _, _ => by simp [compGo]
  | d :: ds, acc, q, hl => by
    obtain ⟨ρ1, ρ2, e1, e2, e3⟩ := q d List.mem_cons_self
    have rest := fun x hx => q x (List.mem_cons_of_mem d hx)
    unfold compGo
    cases hp : p d with
    | true =>
      rw [hp] at e2 e3
      rw [if_pos rfl] at e3
      obtain ⟨ρ3, e3, e4⟩ := e3
      simp only [e1, e2, e3, e4]
      rw [if_pos (by simp at hl; omega), compGo_filter h p rest (by simp at hl ⊢; omega)]
      simp [List.filter_cons, hp]
    | false =>
      rw [hp] at e2 e3
      rw [if_neg Bool.false_ne_true] at e3
      simp only [e1, e2, e3]
      rw [compGo_filter h p rest (by simp at hl ⊢; omega)]
      simp [List.filter_cons, hp]
theorem compF_is {vs : List Nat} {it : Env → Res (List D)} {tg : D → Env → Option Env} {tt : Env → Res Bool} {te : Env → Res OT} {items : List D} {ρb ρ2 : Env} {acc : List OT} (h1 : it ρ = .ok items ρ1) (h2 : dropE ρ1 vs = some ρb) (h3 : compGo vs tg tt te items ρb [] = .ok acc ρ2) : compF vs it tg tt te ρ = .ok (.ls acc) (restE ρ1 ρ2 vs) := by
  unfold compF
  rw [h1]
  show (match dropE ρ1 vs with | some ρb => (match compGo vs tg tt te items ρb [] with | .ok acc ρ2 => Res.ok (OT.ls acc) (restE ρ1 ρ2 vs) | _ => .bad) | none => .bad) = _
  rw [h2]
  show (match compGo vs tg tt te items ρb [] with | .ok acc ρ2 => Res.ok (OT.ls acc) (restE ρ1 ρ2 vs) | _ => .bad) = _
  rw [h3]
/-- a for whose turns all go on -/
theorem forGo_inv {tg : D → Env → Option Env} {b : Env → SRes} {items : List D} (P : Nat → Env → Prop) (h0 : P 0 ρ) (hs : ∀ (k : Nat) (hk : k < items.length) (ρ : Env), P k ρ → ∃ ρ1 ρ2, tg items[k] ρ = some ρ1 ∧ (b ρ1 = .nx ρ2 ∨ b ρ1 = .ct ρ2) ∧ P (k + 1) ρ2) :
    ∃ ρ', forGo tg b items ρ = .nx ρ' ∧ P items.length ρ' := by
  have key : ∀ (m k : Nat) (ρ : Env), k + m = items.length → P k ρ → ∃ ρ', forGo tg b (items.drop k) ρ = .nx ρ' ∧ P items.length ρ' := by
    intro m
    induction m with
    | zero =>
      intro k ρ hk hp
      rw [List.drop_of_length_le (by omega)]
      exact ⟨ρ, rfl, by rw [← hk]; exact hp⟩
    | succ m ih =>
      intro k ρ hk hp
      have hlt : k < items.length := by omega
      rw [List.drop_eq_getElem_cons hlt]
      obtain ⟨ρ1, ρ2, e1, e2, e3⟩ := hs k hlt ρ hp
      unfold forGo
      rcases e2 with e2 | e2 <;> simp only [e1, e2] <;> exact ih (k + 1) ρ2 (by omega) e3
  have := key items.length 0 ρ (by omega) h0
  rwa [List.drop_zero] at this
theorem forF_ap {it : Env → Res (List D)} {tg : D → Env → Option Env} {b : Env → SRes} : forF it tg b ρ = (it ρ).tos fun items ρ1 => forGo tg b items ρ1 := nr rfl
/-- one that may end the def -/
theorem forGo_or {tg : D → Env → Option Env} {b : Env → SRes} {items : List D} (P : Nat → Env → Prop) (R : SRes → Prop) (h0 : P 0 ρ) (hs : ∀ (k : Nat) (hk : k < items.length) (ρ : Env), P k ρ → ∃ ρ1, tg items[k] ρ = some ρ1 ∧ ((∃ ρ2, (b ρ1 = .nx ρ2 ∨ b ρ1 = .ct ρ2) ∧ P (k + 1) ρ2) ∨ (∃ ρ2, b ρ1 = .bk ρ2 ∧ R (.nx ρ2)) ∨ ∃ d ρ2, b ρ1 = .rt d ρ2 ∧ R (.rt d ρ2)))
    (he : ∀ ρ, P items.length ρ → R (.nx ρ)) : R (forGo tg b items ρ) := by
  have key : ∀ (m k : Nat) (ρ : Env), k + m = items.length → P k ρ → R (forGo tg b (items.drop k) ρ) := by
    intro m
    induction m with
    | zero =>
      intro k ρ hk hp
      rw [List.drop_of_length_le (by omega)]
      exact he ρ (by rw [← hk]; exact hp)
    | succ m ih =>
      intro k ρ hk hp
      have hlt : k < items.length := by omega
      rw [List.drop_eq_getElem_cons hlt]
      obtain ⟨ρ1, e1, e2⟩ := hs k hlt ρ hp
      unfold forGo
      rcases e2 with ⟨ρ2, e2, e3⟩ | ⟨ρ2, e2, e3⟩ | ⟨d, ρ2, e2, e3⟩
      · rcases e2 with e2 | e2 <;> simp only [e1, e2] <;> exact ih (k + 1) ρ2 (by omega) e3
      · simp only [e1, e2]; exact e3
      · simp only [e1, e2]; exact e3
  have := key items.length 0 ρ (by omega) h0
  rwa [List.drop_zero] at this
/-! what is walked -/
def itV (ρ : Env) : Option (List D) → Res (List D)
  | some xs => .ok xs ρ
  | none => .bad
theorem itV_s {xs : List D} : itV ρ (some xs) = .ok xs ρ := nr rfl
theorem itF_ap {f : Env → Res Vl} : itF f ρ = (f ρ).bind fun x ρ1 => (fzE x ρ1).bind fun d ρ2 => itV ρ2 (itemsD d) := by
  unfold itF
  refine bind_ext fun x ρ1 => ?_
  refine bind_ext fun d ρ2 => ?_
  cases itemsD d <;> rfl
theorem argF_ap {k : List D → Option (List D)} {fs : Env → Res (List Vl)} : argF k fs ρ = (fs ρ).bind fun xs ρ1 => (fzs xs ρ1).bind fun ds ρ2 => itV ρ2 (k ds) := by
  unfold argF
  refine bind_ext fun x ρ1 => ?_
  refine bind_ext fun ds ρ2 => ?_
  cases k ds <;> rfl
theorem items_l {xs : List D} : itemsD (.list xs) = some xs := nr rfl
theorem items_t {xs : List D} : itemsD (.tuple xs) = some xs := nr rfl
theorem yesF_ap : yesF ρ = .ok true ρ := nr rfl
theorem rg1_n {n : Nat} (h : n ≤ 1000000) : rg1 [.int (n : Int)] = some (rngD 0 n) := by
  have hr : rgOk (n : Int) = true := decide_eq_true ⟨by omega, by omega⟩
  show (if rgOk (n : Int) = true then some (rngD 0 (n : Int).toNat) else none) = _
  rw [if_pos hr]; rfl
theorem rg1_n1 {n : Nat} (h : n ≤ 1000000) : rg1 [.int ((n : Int) + 1)] = some (rngD 0 (n + 1)) := by
  have hr : rgOk ((n : Int) + 1) = true := decide_eq_true ⟨by omega, by omega⟩
  show (if rgOk ((n : Int) + 1) = true then some (rngD 0 ((n : Int) + 1).toNat) else none) = _
  rw [if_pos hr]; rfl
theorem rngD_get {n k : Nat} (h : k < (rngD 0 n).length) : (rngD 0 n)[k] = .int (k : Int) := by
  unfold rngD
  simp
theorem rngD_len {n : Nat} {lo : Int} : (rngD lo n).length = n := by simp [rngD]
theorem rngD_mem {n : Nat} {d : D} (h : d ∈ rngD 0 n) : ∃ k : Nat, k < n ∧ d = .int (k : Int) := by
  unfold rngD at h
  obtain ⟨k, h1, h2⟩ := List.mem_map.mp h
  exact ⟨k, List.mem_range.mp h1, by rw [← h2]; simp⟩
theorem rngD_map {n : Nat} {α : Type} {f : D → α} {g : Nat → α} (h : ∀ k : Nat, k < n → f (.int (k : Int)) = g k) : (rngD 0 n).map f = (List.range n).map g := by
  unfold rngD
  rw [List.map_map]
  refine List.map_congr_left fun k hk => ?_
  have := h k (List.mem_range.mp hk)
  simpa using this
theorem rg3_down {n : Nat} (h : n ≤ 1000000) : rg3 [.int (n : Int), .int (-1), .int (-1)] = some (rngS n (-1) (n + 1)) := by
  have hr : rgOk (n : Int) = true := decide_eq_true ⟨by omega, by omega⟩
  show (if (-1 : Int) = -1 ∧ rgOk (n : Int) = true ∧ rgOk (-1) = true then some (rngS (n : Int) (-1) ((n : Int) - -1).toNat) else none) = _
  rw [if_pos ⟨rfl, hr, by decide⟩, show ((n : Int) - -1).toNat = n + 1 by omega]
theorem rngS_get {n k m : Nat} (h : k < (rngS (n : Int) (-1) m).length) : (rngS (n : Int) (-1) m)[k] = .int ((n : Int) - k) := by
  unfold rngS
  simp
  omega
theorem rngS_len {n : Int} {m : Nat} {c : Int} : (rngS n c m).length = m := by simp [rngS]
def repV (ρ : Env) : Bool → Option D → Vl → Res OT
  | true, some (.list ds), .d (.int k) => okIf (-(2 ^ 63) ≤ k ∧ k < 2 ^ 63 ∧ ds.length * k.toNat ≤ sizeLine) (.ok (.ls ((List.replicate k.toNat ds).flatten.map .lf)) ρ)
  | _, _, _ => .bad
theorem repO_ap {pb : Bool} {f g : Env → Res Vl} : repO pb f g ρ = (f ρ).bind fun x ρ1 => (g ρ1).bind fun y ρ2 => repV ρ2 (stays pb x) (vw ρ2 x) y := by
  unfold repO
  refine bind_ext fun x ρ1 => ?_
  refine bind_ext fun y ρ2 => ?_
  cases stays pb x <;> cases vw ρ2 x <;> (try rfl)
theorem rep_is {k : Nat} {ds : List D} (h : ds.length * k ≤ 1000000) (hk : k ≤ 1000000) : repV ρ true (some (.list ds)) (.d (.int (k : Int))) = .ok (.ls ((List.replicate k ds).flatten.map .lf)) ρ := by
  show okIf (-(2 ^ 63) ≤ (k : Int) ∧ (k : Int) < 2 ^ 63 ∧ ds.length * (k : Int).toNat ≤ sizeLine) (Res.ok (OT.ls ((List.replicate (k : Int).toNat ds).flatten.map .lf)) ρ) = _
  rw [Int.toNat_natCast]
  exact okIf_t ⟨by omega, by omega, Nat.le_trans h (by decide)⟩
theorem rep_one {k : Nat} {d : D} : (List.replicate k [d]).flatten = (List.range k).map fun _ => d := by
  induction k with
  | zero => rfl
  | succ k ih =>
    rw [List.replicate_succ, List.flatten_cons, ih, List.range_succ_eq_map, List.map_cons, List.map_map]
    rfl
end
/-- a while with a measure -/
theorem while_ind {t : Env → Res Bool} {b : Env → SRes} (P : Nat → Env → Prop) (R : Env → Prop) (h : ∀ m ρ, P m ρ → ∃ x ρ1, t ρ = .ok x ρ1 ∧ (x = true → ∃ ρ2 m', m' < m ∧ (b ρ1 = .nx ρ2 ∨ b ρ1 = .ct ρ2) ∧ P m' ρ2) ∧ (x = false → R ρ1)) :
    ∀ m ρ, P m ρ → ∃ ρ', whileF t b ρ = .nx ρ' ∧ R ρ' := by
  intro m
  induction m using Nat.strongRecOn with
  | _ m ih =>
    intro ρ hp
    obtain ⟨x, ρ1, e1, h1, h2⟩ := h m ρ hp
    rw [whileF_eq, e1]
    cases x with
    | false => exact ⟨ρ1, rfl, h2 rfl⟩
    | true =>
      obtain ⟨ρ2, m', hm, e2, hp2⟩ := h1 rfl
      obtain ⟨ρ', q1, q2⟩ := ih m' hm ρ2 hp2
      refine ⟨ρ', ?_, q2⟩
      show (match b ρ1 with | .nx ρ2 => whileF t b ρ2 | .ct ρ2 => whileF t b ρ2 | .bk ρ2 => .nx ρ2 | .rt d ρ2 => .rt d ρ2 | .ex C ρ2 => .ex C ρ2 | .bad => .bad) = _
      rcases e2 with e2 | e2 <;> rw [e2] <;> exact q1
section
variable {ρ : Env}
theorem nilW_ap : nilW ρ = .ok [] ρ := nr rfl
theorem consW_ap {f : Env → Res OT} {g : Env → Res (List OT)} : consW f g ρ = (f ρ).bind fun t ρ1 => (g ρ1).bind fun ts ρ2 => .ok (t :: ts) ρ2 := nr rfl
theorem parF_ap {is : List Nat} {f : Env → Res (List OT)} : parF is f ρ = (f ρ).tos fun ts ρ1 => ofE (parE is ts ρ1) := by
  unfold parF
  refine tos_ext fun ts ρ1 => ?_
  cases parE is ts ρ1 <;> rfl
def parN (is : List Nat) (ts : List OT) : Option Env → Option Env
  | some ρ => parE is ts ρ
  | none => none
theorem parN_s {is : List Nat} {ts : List OT} : parN is ts (some ρ) = parE is ts ρ := nr rfl
theorem parE_n : parE [] [] ρ = some ρ := nr rfl
theorem parE_c {i : Nat} {is : List Nat} {t : OT} {ts : List OT} : parE (i :: is) (t :: ts) ρ = parN is ts (asgR i t ρ ρ[i]?) := by
  show (match ρ[i]? with | some (.io _) => none | some _ => parE is ts (ρ.set i (.v t)) | none => none) = _
  cases ρ[i]? with
  | none => rfl
  | some s => cases s <;> rfl
end
section
variable {ρ : Env}
/-- a comprehension whose turns change the slots -/
theorem compGo_inv {vs : List Nat} {tg : D → Env → Option Env} {tt : Env → Res Bool} {te : Env → Res OT} {items : List D} (P : Nat → Env → List OT → Prop) (h0 : P 0 ρ [])
    (hs : ∀ (k : Nat) (hk : k < items.length) (ρ : Env) (acc : List OT), P k ρ acc → acc.length < sizeLine ∧ ∃ ρ1 ρ2 ρ3 ρ4 t, tg items[k] ρ = some ρ1 ∧ tt ρ1 = .ok true ρ2 ∧ te ρ2 = .ok t ρ3 ∧ dropE ρ3 vs = some ρ4 ∧ P (k + 1) ρ4 (acc ++ [t])) :
    ∃ acc ρ', compGo vs tg tt te items ρ [] = .ok acc ρ' ∧ P items.length ρ' acc := by
  have key : ∀ (m k : Nat) (ρ : Env) (acc : List OT), k + m = items.length → P k ρ acc → ∃ acc' ρ', compGo vs tg tt te (items.drop k) ρ acc = .ok acc' ρ' ∧ P items.length ρ' acc' := by
    intro m
    induction m with
    | zero =>
      intro k ρ acc hk hp
      rw [List.drop_of_length_le (by omega)]
      exact ⟨acc, ρ, rfl, by rw [← hk]; exact hp⟩
    | succ m ih =>
      intro k ρ acc hk hp
      have hlt : k < items.length := by omega
      rw [List.drop_eq_getElem_cons hlt]
      obtain ⟨hz, ρ1, ρ2, ρ3, ρ4, t, e1, e2, e3, e4, e5⟩ := hs k hlt ρ acc hp
      unfold compGo
      simp only [e1, e2, e3, e4]
      rw [if_pos hz]
      exact ih (k + 1) ρ4 _ (by omega) e5
  have := key items.length 0 ρ [] (by omega) h0
  rwa [List.drop_zero] at this
/-! calls that change a list -/
def ioK (i : Nat) (s : Slot) (ρ : Env) : OutI → Res Vl
  | .ret d t' => .ok (.d d) (ρ.set i (s.to t'))
  | .bad => .bad
theorem ioK_v {i : Nat} {t t' : OT} {d : D} : ioK i (.v t) ρ (.ret d t') = .ok (.d d) (ρ.set i (.v t')) := nr rfl
theorem ioK_io {i : Nat} {t t' : OT} {d : D} : ioK i (.io t) ρ (.ret d t') = .ok (.d d) (ρ.set i (.io t')) := nr rfl
def ioH (F : OT → List D → OutI) (ds : List D) (i : Nat) (ρ : Env) : Option (Slot × List OT) → Res Vl
  | some (s, ts) => ioK i s ρ (F (.ls ts) ds)
  | none => .bad
theorem ioH_s {F : OT → List D → OutI} {ds : List D} {i : Nat} {s : Slot} {ts : List OT} : ioH F ds i ρ (some (s, ts)) = ioK i s ρ (F (.ls ts) ds) := nr rfl
def ioG (F : OT → List D → OutI) (ρ : Env) : Option (Nat × List Vl) → Res Vl
  | some (i, ys) => (fzs ys ρ).bind fun ds ρ2 => ioH F ds i ρ2 (lsAt ρ2 i)
  | none => .bad
theorem ioG_s {F : OT → List D → OutI} {i : Nat} {ys : List Vl} : ioG F ρ (some (i, ys)) = (fzs ys ρ).bind fun ds ρ2 => ioH F ds i ρ2 (lsAt ρ2 i) := nr rfl
theorem ioArg_r {i : Nat} {ys : List Vl} : ioArg (.r i :: ys) = some (i, ys) := nr rfl
theorem callI_ap {F : OT → List D → OutI} {fs : Env → Res (List Vl)} : callI F fs ρ = (fs ρ).bind fun xs ρ1 => ioG F ρ1 (ioArg xs) := by
  unfold callI
  refine bind_ext fun xs ρ1 => ?_
  cases ioArg xs with
  | none => rfl
  | some iy =>
    obtain ⟨i, ys⟩ := iy
    show (fzs ys ρ1).bind _ = (fzs ys ρ1).bind _
    refine bind_ext fun ds ρ2 => ?_
    cases lsAt ρ2 i with
    | none => rfl
    | some st =>
      obtain ⟨s, ts⟩ := st
      show (match F (.ls ts) ds with | .ret d t' => Res.ok (Vl.d d) (ρ2.set i (s.to t')) | .bad => .bad) = ioK i s ρ2 (F (.ls ts) ds)
      cases F (.ls ts) ds <;> rfl
/-! join -/
def joinV (s : Str) (ρ : Env) : Option D → Res Vl
  | some (.list ds) => match joinD s ds with
    | some d => .ok (.d d) ρ
    | none => .bad
  | some (.tuple ds) => match joinD s ds with
    | some d => .ok (.d d) ρ
    | none => .bad
  | _ => .bad
theorem joinF_ap {s : Str} {f : Env → Res Vl} : joinF s f ρ = (f ρ).bind fun x ρ1 => joinV s ρ1 (vw ρ1 x) := by
  unfold joinF
  refine bind_ext fun x ρ1 => ?_
  cases vw ρ1 x with
  | none => rfl
  | some d => cases d <;> rfl
theorem joinV_l {s : Str} {ds : List D} {d : D} (h : joinD s ds = some d) : joinV s ρ (some (.list ds)) = .ok (.d d) ρ := by
  show (match joinD s ds with | some d => Res.ok (Vl.d d) ρ | none => .bad) = _
  rw [h]
theorem strs_map : ∀ l : List Nat, strsD (l.map fun c => S [c]) = some (l.map fun c => (⟨#[c]⟩ : Str))
  | [] => rfl
  | c :: l => by
    show (strsD (l.map fun c => S [c])).map _ = _
    rw [strs_map l]; rfl
theorem glue_one : ∀ (l : List Nat) (acc : Array Nat), List.foldl (fun (acc : Array Nat) (p : Str) => acc ++ (Str.ofString "").cps ++ p.cps) acc (l.map fun c => (⟨#[c]⟩ : Str)) = acc ++ l.toArray
  | [], acc => by simp
  | c :: l, acc => by
    have e : (Str.ofString "").cps = #[] := by decide
    rw [List.map_cons, List.foldl_cons, glue_one l, e]
    simp
theorem join_one {l : List Nat} (h : l.length ≤ 1000) : joinD "" (l.map fun c => S [c]) = some (S l) := by
  unfold joinD
  rw [strs_map]
  have e : Txt.join (Str.ofString "") (l.map fun c => (⟨#[c]⟩ : Str)) = ⟨l.toArray⟩ := by
    show (⟨List.foldl (fun (acc : Array Nat) (p : Str) => acc ++ (Str.ofString "").cps ++ p.cps) ((l.map fun c => (⟨#[c]⟩ : Str)).headD Str.empty).cps ((l.map fun c => (⟨#[c]⟩ : Str)).drop 1)⟩ : Str) = _
    cases l with
    | nil => rfl
    | cons c l =>
      show (⟨List.foldl (fun (acc : Array Nat) (p : Str) => acc ++ (Str.ofString "").cps ++ p.cps) #[c] (l.map fun c => (⟨#[c]⟩ : Str))⟩ : Str) = _
      rw [glue_one]
      simp
  have l1 : ∀ l : List Nat, ((l.map fun c => (⟨#[c]⟩ : Str)).map (·.length)).sum = l.length := by
    intro l
    induction l with
    | nil => rfl
    | cons c l ih =>
      rw [List.map_cons, List.map_cons, List.sum_cons, ih]
      show 1 + l.length = l.length + 1
      omega
  show (if ((l.map fun c => (⟨#[c]⟩ : Str)).map (·.length)).sum + (l.map fun c => (⟨#[c]⟩ : Str)).length * (Str.ofString "").length ≤ 16777216 ∧ (Txt.join (Str.ofString "") (l.map fun c => (⟨#[c]⟩ : Str))).length ≤ sizeLine then some (PyData.str (Txt.join (Str.ofString "") (l.map fun c => (⟨#[c]⟩ : Str)))) else none) = _
  have e0 : (Str.ofString "").length = 0 := by decide
  rw [e, l1, e0, if_pos ⟨by omega, show l.length ≤ 2 ^ 24 by omega⟩]
end
end Mo

/-! Mo15: set(..) of a list of ints. -/
namespace Mo
variable [Tabs]
open PySem PySem.Spec PyProof.Rows L2

/-! ### set(l), ints -/
section
variable {P : Program} {w : World} {A : Around} {E : Value → Shared → Prop} {s : Shared}
/-- a set without members -/
def set0 (w : World) : Obj := { cls := .type "set", dict := none, data := .set #[] 0 (.fresh 0 0 (!w.params.followText "set-order")) }
/-- what the call leaves -/
def SetGot (w : World) (s : Shared) (ns : List Int) (s2 : Shared) : Prop := ∃ h' tk c, s2 = { s with heap := h', toks := tk } ∧ SetR w h' s.heap.objs.size (fun j => decide (j ∈ ns)) c ∧ c ≤ ns.length ∧ ∀ b o, s.heap.get? b = some o → h'.get? b = some o
set_option maxHeartbeats 16000000 in
theorem set_list {l : Addr} {xs : Array Value} {ns : List Int} {Q : Value → Shared → Prop} (nh : A.handled = none) (il : s.heap.IsList l xs) (iv : IntsAre xs.toList ns) (hb : ns.length + 1 < scanBound)
    (q : ∀ s2, SetGot w s ns s2 → Q (.ref s.heap.objs.size) s2) : wpAny (model P w) A (call (.type "set") [.ref l]) Q E s := by
  have len : xs.size = ns.length := (Array.length_toList (xs := xs)).symm.trans iv.length
  obtain ⟨_, _, m1⟩ := F.called_set.mro
  have m2 := F.called_set.made
  have m3 := F.called_set.sub
  refine wpAny_call (codeAny_of_tree ?_)
  show wpAny _ _ (callAny (.type "set") _) _ _ _
  refine wpAny_pure ⟨Code.quiet_builtin _ (by decide +kernel), codeAny_builtin F.entry_type_call ?_⟩
  rw [Around.under_plain (weight_type_call_type "set" [.ref l] []) rfl]
  have m4 := F.called_set.notType
  have m5 := F.called_set.canCreate
  have m6 := F.typeCall_set_1 (.ref l)
  repeat (any_goals first | assumption | wp_step)
  refine codeAny_mono (code_set_led1 (.ref l) (E := E) (Q₁ := fun r t => r = .ref s.heap.objs.size ∧ t = { s with heap := s.heap.push (set0 w) }) ⟨rfl, rfl⟩) fun r t hr => ?_
  match r, hr with
  | .error e, hr => exact hr
  | .ok (.ret ob), hr =>
    obtain ⟨rfl, rfl⟩ := hr
    have at0 : (s.heap.push (set0 w)).get? s.heap.objs.size = some (set0 w) := Heap.get?_push_size _ rfl
    have ty : Shared.TypeIs { s with heap := s.heap.push (set0 w) } (.ref s.heap.objs.size) "set" := ⟨_, at0, rfl⟩
    have m7 := F.called_set.init.lookup
    have m8 := F.called_set.init.bind (.ref s.heap.objs.size)
    repeat (any_goals first | assumption | wp_step)
    refine codeAny_mono (codeAny_call_builtin (R := wants (fun v t => v = .none ∧ SetGot w s ns t) E) F.called_set.init.plain F.entry_set_init (check_set_init_1 ty ?_)) fun r2 t2 hr2 => ?_
    · obtain ⟨⟨oc, od, ox, os⟩, g0, gc, k0, gd⟩ := il
      dsimp only at gc gd
      subst gc gd
      have g1 := Heap.get?_push_of_some (set0 w) g0
      have il1 : (s.heap.push (set0 w)).IsList l xs := ⟨_, g1, rfl, k0, rfl⟩
      have n1 := F.sub_list_set
      have n2 := F.sub_list_frozenset
      have n3 : (Value.type "list" == Value.type "dict") = false := by decide
      have lt : l < s.heap.objs.size := Heap.lt_size g0
      have sz : (s.heap.push (set0 w)).objs.size = s.heap.objs.size + 1 := Heap.size_push ..
      unfold Builtin.«set.__init__» noKeywords Builtin.Frozenset.updateFrom
      generalize hpi : pyIter = pi
      wp_walk
      subst hpi
      refine wpAny_pyIter_list il1 (wpAny_bind (wpAny_runValue ?_))
      have nh3 : A.in1.in1.in1.handled = none := by simp [nh]
      have ne : l ≠ (s.heap.push (set0 w)).objs.size := Nat.ne_of_lt (by rw [sz]; exact Nat.lt_succ_of_lt lt)
      have out : s.heap.objs.size ∉ [(s.heap.push (set0 w)).objs.size, l] := by
        simp only [List.mem_cons, List.not_mem_nil, or_false, not_or]
        exact ⟨Nat.ne_of_lt (by rw [sz]; exact Nat.lt_succ_self _), Nat.ne_of_gt lt⟩
      refine set_update_ints (Walks.list nh3 _ l ne xs).toS s.heap.objs.size out ns len hb (fun i v hv => ?_) (xs.size - 0) 0 _ (by omega) (Nat.zero_le _) ⟨⟨_, Heap.get?_push_size _ rfl, rfl, rfl⟩, il1.push _⟩ ⟨0, Nat.le_refl 0, setR_new_at (Heap.get?_push_of_some _ at0)⟩ fun s3 c mv hc R => ?_
      · have hi : i < ns.length := by rw [← len]; exact (Array.getElem?_eq_some_iff.mp hv).1
        obtain ⟨t, e⟩ := IntsAre.int_at iv i v (by rw [Array.getElem?_toList]; exact hv)
        refine ⟨ns[i], t, List.getElem?_eq_getElem hi, e.trans ?_⟩
        rw [List.getD_eq_getElem?_getD, List.getElem?_eq_getElem hi] <;> rfl
      · obtain ⟨h3, g3, d3, t3, o3⟩ := s3
        obtain rfl : g3 = s.gens := mv.gens
        obtain rfl : d3 = s.drawn := mv.drawn
        obtain rfl : o3 = s.os := mv.os
        show wpAny _ _ _ _ _ _
        refine wpAny_pure ?_
        show wpAny _ _ (ret Value.none) _ _ _
        refine wpAny_pure ⟨rfl, h3, t3, c, rfl, R, len ▸ hc, fun b o e => ?_⟩
        have lb := Heap.lt_size e
        refine mv.heap b o ?_ (Heap.get?_push_of_some _ (Heap.get?_push_of_some _ e))
        simp only [List.mem_cons, List.not_mem_nil, or_false, not_or]
        exact ⟨Nat.ne_of_lt lb, Nat.ne_of_lt (by rw [sz]; exact Nat.lt_succ_of_lt lb)⟩
    · match r2, hr2 with
      | .error e, hr2 => exact hr2
      | .ok (.ret v), hr2 =>
        obtain ⟨rfl, got⟩ := hr2
        obtain ⟨h3, t3, c, rfl, R, hc, kp⟩ := id got
        repeat (any_goals first | assumption | wp_step)
        exact q _ got
end
end Mo

/-! Mo16: sorted(..) of data, sorted(set(..)) of ints. -/
namespace Mo
variable [Tabs]
open PySem PySem.Spec PyProof.Rows L2
/-! ### sorted(..) of data -/
open PySem.W in
theorem each_of {K : PySem.W.Frag} {G : Hp} : ∀ {ds : List D} {vs : List V} {us : List Value}, RpL K G ds vs → Vals vs us → EachIs (fun u d => ∃ v, RelV v u ∧ Rp K G d v) us ds
  | [], _, _, h, r => by cases h; cases r; exact .nil
  | d :: ds, _, _, ⟨v, t, e, h, g⟩, r => by
    subst e
    cases r with
    | cons a b => exact .cons ⟨v, a, h⟩ (each_of g b)
open PySem.W in
theorem of_each {K : PySem.W.Frag} {G : Hp} : ∀ {us : List Value} {ds : List D}, EachIs (fun u d => ∃ v, RelV v u ∧ Rp K G d v) us ds → ∃ vs, Vals vs us ∧ RpL K G ds vs
  | _, _, .nil => ⟨[], .nil, rfl⟩
  | _, _, .cons ⟨v, a, h⟩ t => by
    obtain ⟨vs, b, g⟩ := of_each t
    exact ⟨v :: vs, .cons a b, v, vs, rfl, h, g⟩
/-- what may be sorted -/
structure okSort (ds : List D) : Prop where
  al : PySem.W.AllAlike ds
  so : PySem.W.Sortable ds
  dp : ∀ d ∈ ds, d.depth ≤ 60
  fl : flats ds = true
  le : ds.length ≤ sizeLine
noncomputable def sortD (ds : List D) : List D := ds.mergeSort (PySem.W.dataLe false id)
open Classical in
noncomputable def bSorted : List D → Option D
  | [.list ds] => if okSort ds then some (.list (sortD ds)) else none
  | [.tuple ds] => if okSort ds then some (.list (sortD ds)) else none
  | _ => none
theorem flats_mem : ∀ {ds : List D}, flats ds = true → ∀ d ∈ ds, flat d = true
  | x :: ds, h, d, m => by
    have h' : (flat x && flats ds) = true := h
    rw [Bool.and_eq_true] at h'
    rcases List.mem_cons.mp m with e | e
    · rw [e]; exact h'.1
    · exact flats_mem h'.2 d e
section
variable {P : Program} {w : World} {A : Around} {E : Value → Shared → Prop} {s : Shared}
theorem collect_tup {l : Addr} {o : Obj} {vs : List Value} {n : Nat} {Q : List Value → Shared → Prop} (e : s.heap.get? l = some o) (ec : o.cls = .type "tuple") (ed : o.data = .seq vs.toArray n) (le : vs.length ≤ sizeLine)
    (q : Q vs { s with heap := (s.heap.push (seqObj "list" #[] 0)).update s.heap.objs.size (Obj.mapSeq (· ++ vs.toArray)) }) : wpAny (model P w) A (collect (.ref l)) Q E s := by
  have at0 : (s.heap.push (seqObj "list" #[] 0)).get? s.heap.objs.size = some (seqObj "list" #[] 0) := Heap.get?_push_size _ rfl
  unfold collect
  refine wpAny_bind (wpAny_runValue (codeAny_builtin F.entry_proto_collect ?_))
  rw [Around.under_plainId F.plain_proto_collect _]
  show wpAny _ A.in1 (newList [] >>= fun r => again (.builtin "list.__iadd__" ⟨[r, .ref l], []⟩)) _ _ s
  refine wpAny_bind (wpAny_newObj_type (wpAny_pure ⟨plainId_quiet F.plain_list_iadd _, codeAny_builtin F.entry_list_iadd ?_⟩))
  rw [Around.under_plainId F.plain_list_iadd _]
  refine wpAny_mono (wpAny_extend_seq (A := A) (s := { s with heap := s.heap.push (seqObj "list" #[] 0) }) (R := fun r t => r = .ok (.ret (.ref s.heap.objs.size)) ∧ t = { s with heap := (s.heap.push (seqObj "list" #[] 0)).update s.heap.objs.size (Obj.mapSeq (· ++ vs.toArray)) }) s.heap.objs.size l (.ref s.heap.objs.size) 0 (.inr rfl) at0 (Heap.get?_push_of_some _ e) ec ed ⟨rfl, rfl⟩ (by rw [List.size_toArray]; exact le)) (fun f t h => ?_) fun x t h => absurd h.1 (by simp)
  have fin : wpAny (model P w) A (do
      let ob ← load s.heap.objs.size
      match ob.data with
      | .seq xs _ => pure xs.toList
      | _ => unsupported "internal:collect") Q E { s with heap := (s.heap.push (seqObj "list" #[] 0)).update s.heap.objs.size (Obj.mapSeq (· ++ vs.toArray)) } := by
    refine wpAny_bind (wpAny_load (get?_update_seq at0 _) ?_)
    show wpAny _ _ (pure ((#[] : Array Value) ++ vs.toArray).toList) Q E _
    have z : ((#[] : Array Value) ++ vs.toArray).toList = vs := by simp
    rw [z]
    exact wpAny_pure q
  cases f with
  | done f =>
    obtain ⟨h1, rfl⟩ := h
    cases h1
    exact fin
  | again c => exact ⟨h.1, codeAny_mono h.2 fun r t hr => by obtain ⟨rfl, rfl⟩ := hr; exact fin⟩
end

section
variable {P : Program} {w : World} {A : Around} {E : Value → Shared → Prop} {s : Shared}
/-- sorted(t) of a tuple's data -/
theorem sorted_tup {l : Addr} {o : Obj} {vs : List Value} {n : Nat} {bs : List D} {R : Value → D → Prop} {Q : Value → Shared → Prop} (e : s.heap.get? l = some o) (ec : o.cls = .type "tuple") (ed : o.data = .seq vs.toArray n)
    (er : PySem.W.EachIs R vs bs) (rd : PySem.W.EachIs (fun v b => ∃ as, Reads s.heap v b as) vs bs) (al : PySem.W.AllAlike bs) (so : PySem.W.Sortable bs) (le : bs.length ≤ sizeLine) (hu : ∀ b ∈ bs, A.units + 2 + b.depth < cLine)
    (q : ∀ out, out.length = bs.length → PySem.W.EachIs R out (sortD bs) → Q (.ref (s.heap.objs.size + 1)) { s with heap := sortedAll s.heap vs (List.toArray out) }) : wpAny (model P w) A (call (.builtin "sorted") [.ref l]) Q E s := by
  have lv : vs.length ≤ sizeLine := by rw [er.length]; exact le
  have rd' : PySem.W.EachIs (fun v b => ∃ as, Reads (PySem.W.sortingHeap (PySem.W.copyHeap s.heap vs) (s.heap.objs.size + 1) vs) v b as) vs bs := rd.mono fun _ _ ⟨as, r⟩ => ⟨as, PyProof.Rows.Reads.keeps (fun _ _ => PySem.W.sorting_copy_old) r⟩
  have S := PySem.W.SortsAt.data (prog := P) (w := w) (A := A.in1.in1) (s := { s with heap := PySem.W.sortingHeap (PySem.W.copyHeap s.heap vs) (s.heap.objs.size + 1) vs }) rd' al so hu
  refine Calls.call_function_entry kind_sorted plain_sorted entry_sorted (args_sorted1 _) ?_
  unfold Builtin.«sorted»
  refine wpAny_bind (m := checkCount "sorted" 1 1 _) (wpAny_pure (wpAny_bind (collect_tup e ec ed lv (wpAny_bind (wpAny_newList ?_ lv)))))
  have sz : ((s.heap.push (seqObj "list" #[] 0)).update s.heap.objs.size (Obj.mapSeq (· ++ vs.toArray))).objs.size = s.heap.objs.size + 1 := (Heap.size_update ..).trans (size_push' ..)
  show wpAny _ _ _ _ _ { s with heap := PySem.W.copyHeap s.heap vs }
  rw [sz]
  refine wpAny_bind (wpAny_holding (wpAny_call_entry slot_list_sort ⟨_, PySem.W.copyHeap_at s.heap vs, rfl⟩ entry_list_sort (PySem.W.list_sort_vals (s := { s with heap := PySem.W.copyHeap s.heap vs }) (PySem.W.copyHeap_at s.heap vs) S lv ⟨_, rfl, ?_⟩) (args_list_sort _)))
  have en := PySem.W.sortVals_data (R := R) (enc := id) false er rd' (by rw [List.map_id]; exact al)
  rw [List.map_id] at en
  exact wpAny_pure ⟨_, rfl, q _ (by rw [PySem.W.sortVals_length false rfl]; exact er.length) en⟩
end
theorem okSort.reads {X : Cx} {pins : List (Addr × Obj)} {σ : L2.St} {H G : Hp} {s : Shared} {ds : List D} {vs : List V} {us : List Value} (I : Inv X pins σ H s) (ge : Ex G H) (k : okSort ds) (h : RpL X.K G ds vs) (r : Vals vs us) : PySem.W.EachIs (fun v b => ∃ as, Reads s.heap v b as) us ds := by
  have key : ∀ {ds : List D} {vs : List V} {us : List Value}, flats ds = true → RpL X.K G ds vs → Vals vs us → PySem.W.EachIs (fun v b => ∃ as, Reads s.heap v b as) us ds := by
    intro ds
    induction ds with
    | nil => intro vs us _ h r; cases h; cases r; exact .nil
    | cons d ds ih =>
      intro vs us f h r
      obtain ⟨v, t, e, h, g⟩ := h
      subst e
      have f' : (flat d && flats ds) = true := f
      rw [Bool.and_eq_true] at f'
      cases r with
      | cons a b => exact .cons (Dp.reads I d v _ ((h.mono ge).dp f'.1) a) (ih f'.2 g b)
  exact key k.fl h r
section
variable {X : Cx}
theorem c_sorted (hu : X.A.units + 64 < cLine) : CallR X (.builtin "sorted") (rDA X.K bSorted) := by
  intro pins s σ H xs us Q I r h
  obtain ⟨G, as, c, ge, ra, e, q⟩ := h
  have fin : ∀ (ds : List D) (vs : List V) (its : List Value), okSort ds → RpL X.K G ds vs → Vals vs its → c = .list (sortD ds) → ∀ out : List Value, out.length = ds.length → PySem.W.EachIs (fun u d => ∃ v, RelV v u ∧ Rp X.K G d v) out (sortD ds) →
      EP X pins σ Q (.ref (s.heap.objs.size + 1)) { s with heap := sortedAll s.heap its (List.toArray out) } := by
    intro ds vs its k rl rv ec out lo eo
    obtain ⟨ws, rw', rl'⟩ := of_each eo
    have lw : ws.length ≤ sizeLine := by rw [rw'.length, lo]; exact k.le
    obtain ⟨ep, at'⟩ := PyProof.Rows.sortedAll_at s.heap its (List.toArray out)
    have hn : H (s.heap.objs.size + 1) = none := I.hok.fresh (Nat.le_succ _)
    have gr := Gro.new (o := .lst ws) ge hn
    refine ⟨.ref _, upd H (s.heap.objs.size + 1) (.lst ws), I.laid (t' := s.toks) (fun _ _ => PyProof.Rows.sortedAll_old) (Nat.le_succ _) ⟨lw, out, ep, rw', at'⟩, rfl, q _ _ _ gr ?_⟩
    rw [ec]
    exact ⟨_, ws, rfl, upd_same, rl'.mono gr.g⟩
  have dep : ∀ ds : List D, okSort ds → ∀ b ∈ ds, X.A.units + 2 + b.depth < cLine := fun ds k b hb => by have := k.dp b hb; omega
  unfold bSorted at e
  split at e
  · rename_i ds
    by_cases k : okSort ds
    · rw [if_pos k] at e
      cases e
      obtain ⟨v, w, e1, ⟨p, vs, e2, hp, rl⟩, e3⟩ := ra
      cases e3; subst e2 e1
      obtain ⟨its, rv, hl, hz⟩ := I.list (.inl (.inl hp))
      rw [Vals.ref1 r]
      exact PySem.W.sorted_data (enc := id) hl.isList (each_of rl rv) (k.reads I ge rl rv) (by rw [List.map_id]; exact k.al) (by rw [List.map_id]; exact k.so) k.le (dep ds k) fun out lo eo => fin ds vs its k rl rv rfl out lo eo
    · rw [if_neg k] at e; cases e
  · rename_i ds
    by_cases k : okSort ds
    · rw [if_pos k] at e
      cases e
      obtain ⟨v, w, e1, ⟨p, vs, e2, hp, rl⟩, e3⟩ := ra
      cases e3; subst e2 e1
      obtain ⟨its, rv, ⟨o, ho, hc, n, hd⟩, hz⟩ := I.tuple (ge.t hp)
      rw [Vals.ref1 r]
      exact sorted_tup ho hc hd (each_of rl rv) (k.reads I ge rl rv) k.al k.so k.le (dep ds k) fun out lo eo => fin ds vs its k rl rv rfl out lo eo
    · rw [if_neg k] at e; cases e
  · cases e
end
end Mo

/-! Mo17: sorted(set(l)) of ints; tests that are negated as values; list(range(..)). -/
namespace Mo
variable [Tabs]
open PySem PySem.Spec PyProof.Rows L2
/-! ### ascending, each once -/
def insU (x : Int) : List Int → List Int
  | [] => [x]
  | y :: ys => if x < y then x :: y :: ys else if x = y then y :: ys else y :: insU x ys
def usort : List Int → List Int
  | [] => []
  | x :: xs => insU x (usort xs)
theorem insU_mem {x k : Int} : ∀ {ys : List Int}, k ∈ insU x ys ↔ k = x ∨ k ∈ ys
  | [] => by simp [insU]
  | y :: ys => by
    unfold insU
    by_cases h : x < y
    · rw [if_pos h, List.mem_cons]
    · rw [if_neg h]
      by_cases e : x = y
      · rw [if_pos e, List.mem_cons, e]; simp
      · rw [if_neg e, List.mem_cons, List.mem_cons, insU_mem]
        constructor
        · rintro (a | a | a)
          · exact .inr (.inl a)
          · exact .inl a
          · exact .inr (.inr a)
        · rintro (a | a | a)
          · exact .inr (.inl a)
          · exact .inl a
          · exact .inr (.inr a)
theorem usort_mem {k : Int} : ∀ {xs : List Int}, k ∈ usort xs ↔ k ∈ xs
  | [] => Iff.rfl
  | x :: xs => by
    show k ∈ insU x (usort xs) ↔ _
    rw [insU_mem, usort_mem, List.mem_cons]
theorem insU_asc {x : Int} : ∀ {ys : List Int}, ys.Pairwise (· < ·) → (insU x ys).Pairwise (· < ·)
  | [], _ => List.pairwise_singleton _ _
  | y :: ys, h => by
    obtain ⟨h1, h2⟩ := List.pairwise_cons.mp h
    unfold insU
    by_cases a : x < y
    · rw [if_pos a]
      refine List.pairwise_cons.mpr ⟨fun z hz => ?_, h⟩
      rcases List.mem_cons.mp hz with e | e
      · omega
      · have := h1 z e; omega
    · rw [if_neg a]
      by_cases e : x = y
      · rw [if_pos e]; exact h
      · rw [if_neg e]
        refine List.pairwise_cons.mpr ⟨fun z hz => ?_, insU_asc h2⟩
        rcases insU_mem.mp hz with q | q
        · omega
        · exact h1 z q
theorem usort_asc : ∀ xs : List Int, (usort xs).Pairwise (· < ·)
  | [] => List.Pairwise.nil
  | x :: xs => insU_asc (usort_asc xs)
theorem asc_one : ∀ {xs ys : List Int}, xs.Pairwise (· < ·) → ys.Pairwise (· < ·) → (∀ k, k ∈ xs ↔ k ∈ ys) → xs = ys
  | [], [], _, _, _ => rfl
  | [], y :: ys, _, _, h => absurd ((h y).mpr (by simp)) (by simp)
  | x :: xs, [], _, _, h => absurd ((h x).mp (by simp)) (by simp)
  | x :: xs, y :: ys, hx, hy, h => by
    obtain ⟨x1, x2⟩ := List.pairwise_cons.mp hx
    obtain ⟨y1, y2⟩ := List.pairwise_cons.mp hy
    have e : x = y := by
      have a := (h x).mp (by simp)
      have b := (h y).mpr (by simp)
      rcases List.mem_cons.mp a with a | a
      · exact a
      · rcases List.mem_cons.mp b with b | b
        · exact b.symm
        · have := y1 x a; have := x1 y b; omega
    subst e
    rw [asc_one x2 y2 fun k => ?_]
    constructor
    · intro m
      rcases List.mem_cons.mp ((h k).mp (List.mem_cons_of_mem _ m)) with q | q
      · have := x1 k m; omega
      · exact q
    · intro m
      rcases List.mem_cons.mp ((h k).mpr (List.mem_cons_of_mem _ m)) with q | q
      · have := y1 k m; omega
      · exact q
def bUsort : List D → Option D
  | [.list ds] => match intsD ds with
    | some ns => if ns.length < 64 then some (.list ((usort ns).map .int)) else none
    | none => none
  | _ => none
def rSetL (K : PySem.W.Frag) (w : World) : List V → Hp → VK → Prop := fun vs H Q => ∃ (a : Addr) (ns : List Int), vs = [.ref a] ∧ SqL K H a (ns.map V.int) ∧ ns.length < 64 ∧ ∀ p c, H p = none → c ≤ ns.length → Q (.ref p) (upd H p (SetO w p (fun j => decide (j ∈ ns)) c))
theorem rpl_ints {K : PySem.W.Frag} {G : Hp} : ∀ ns : List Int, RpL K G (ns.map .int) (ns.map V.int)
  | [] => rfl
  | n :: ns => ⟨_, _, rfl, rfl, rpl_ints ns⟩
section
variable {X : Cx} {W : WX} {a b e o : Expr} {es : List Expr} {pa pb : Bool} {f g : Env → Res Vl} {fs : Env → Res (List Vl)} {pos p pos2 p2 : Pos}
theorem cr_setL (hc : X.calm = true) : CallR X (.type "set") (rSetL X.K X.w) := by
  intro pins s σ H vs us Q I r h
  obtain ⟨a, ns, rfl, ha, hl, q⟩ := h
  obtain ⟨its, rv, il, _⟩ := I.list ha
  rw [Vals.ref1 r]
  refine set_list (I.ok.hd hc) il.isList (ints_of_vals rv) (by unfold scanBound; omega) fun s2 ⟨h', tk, c, e2, R, hc2, kp⟩ => ?_
  subst e2
  exact ⟨.ref _, upd H s.heap.objs.size (SetO X.w s.heap.objs.size (fun j => decide (j ∈ ns)) c), I.laid kp (Nat.le_refl _) (setO_new R), rfl, q _ c (I.hok.fresh (Nat.le_refl _)) hc2⟩
theorem pb_usort (hc : X.calm = true) (hg : Gl X "sorted") (hm : X.mg "sorted" = none) (hv : bootBuiltins "sorted" = some (.builtin "sorted")) (hg2 : Gl X "set") (hm2 : X.mg "set" = none) (ha : PA X [e] (tV X.K pa W fs))
    (he2 : starEach [e] X.env = (false, eval e X.env) :: starEach [] X.env := by rfl) (he : starEach [.Call (.Name "set" p2) [e] [] pos2] X.env = (false, eval (.Call (.Name "set" p2) [e] [] pos2) X.env) :: starEach [] X.env := by rfl) :
    PE X (.Call (.Name "sorted" p) [.Call (.Name "set" p2) [e] [] pos2] [] pos) (tF X.K pa W (callF bUsort fs)) := by
  refine PE.imp (pe_callB (cr_sortedSet hc) hg hm hv (pa_cons (pe_callTy (cr_setL hc) hg2 hm2 (by decide +kernel) ha (by decide) (by decide) he2 rfl) pa_nil) (by decide) (by decide) he rfl) fun σ H Q h => ?_
  obtain ⟨pn, G, ρ, fp, c, h⟩ := h
  refine ⟨pn, G, ρ, fp, c, (Res.sat_bind h).imp (fun xs ρ1 h vs H1 G1 fp1 fw1 p1 c1 vo => ?_) fun _ _ h => h⟩
  cases e1 : vws ρ1 xs with
  | none => simp only [e1] at h; exact h.elim
  | some ds =>
    cases e2 : bUsort ds with
    | none => simp only [e1, e2] at h; exact h.elim
    | some d =>
      simp only [e1, e2] at h
      have ra := vws_rel c1 vo e1
      unfold bUsort at e2
      split at e2
      · rename_i l
        cases e3 : intsD l with
        | none => rw [e3] at e2; cases e2
        | some ns =>
          rw [e3] at e2
          by_cases h64 : ns.length < 64
          · have e2 : (if ns.length < 64 then some (PyData.list ((usort ns).map .int)) else none) = some d := e2
            rw [if_pos h64] at e2
            cases e2
            obtain ⟨v, w, e4, ⟨q, ws, e5, hq, rl⟩, e6⟩ := ra
            cases e6; subst e5 e4
            have ev := intsD_rel rl e3
            subst ev
            refine ⟨q, ns, rfl, .inl (.inl hq), h64, fun r c hr hcn => ?_⟩
            refine ⟨r, _, c, rfl, upd_same, by omega, fun ms t asc mem len ht => ?_⟩
            have em : ms = usort ns := asc_one asc (usort_asc ns) fun k => by rw [mem, usort_mem, decide_eq_true_eq]
            subst em
            have htr : t ≠ r := fun z => by subst z; rw [upd_same] at ht; cases ht
            have ht1 : H1 t = none := by rw [upd_ne htr] at ht; exact ht
            have gr : Gro G1 H1 (upd G1 t (.lst ((usort ns).map V.int))) (upd (upd H1 r (SetO X.w r (fun j => decide (j ∈ ns)) c)) t (.lst ((usort ns).map V.int))) := by
              have g1 : Gro G1 H1 G1 (upd H1 r (SetO X.w r (fun j => decide (j ∈ ns)) c)) := ⟨.refl _, .new hr, c1.ex.trans (.new hr), fun a o z => .inl z⟩
              exact g1.trans (Gro.new g1.gh ht)
            exact h _ _ _ fp1 (fw1.trans gr.fw) (fun hp => (p1 hp).trans gr.h) (c1.gro gr) ⟨t, _, rfl, upd_same, rpl_ints _⟩
          · have e2 : (if ns.length < 64 then some (PyData.list ((usort ns).map .int)) else none) = some d := e2
            rw [if_neg h64] at e2; cases e2
      · cases e2
end
end Mo

set_option maxHeartbeats 400000
/-! Mo18: list(range(..)). -/
namespace Mo
variable [Tabs]
open PySem PySem.Spec PyProof.Rows L2
/-! ### list(range(..)) -/
def okI {α : Type} (b : Bool) (r : Res α) : Res α := match b with
  | true => r
  | false => .bad
open Classical in
noncomputable def rgS (i j : Int) : Bool := decide (RgOk i j)
noncomputable def lrP (x y : Vl) (ρ : Env) : Res OT := match x, y with
  | .d (.int i), .d (.int j) => okI (rgS i j) (.ok (.ls ((rngD i (j - i).toNat).map .lf)) ρ)
  | _, _ => .bad
noncomputable def lr2F (f g : Env → Res Vl) : Env → Res OT := fun ρ => (f ρ).bind fun x ρ1 => (g ρ1).bind fun y ρ2 => lrP x y ρ2
noncomputable def lr1F (f : Env → Res Vl) : Env → Res OT := fun ρ => (f ρ).bind fun x ρ1 => lrP (.d (.int 0)) x ρ1
theorem lrP_i {i j : Int} {ρ : Env} : lrP (.d (.int i)) (.d (.int j)) ρ = okI (rgS i j) (.ok (.ls ((rngD i (j - i).toNat).map .lf)) ρ) := rfl
open Classical in
theorem rgS_t {i j : Int} (h : RgOk i j) : rgS i j = true := by unfold rgS; exact decide_eq_true h
open Classical in
theorem rgS_of {i j : Int} (h : rgS i j = true) : RgOk i j := by unfold rgS at h; exact of_decide_eq_true h
theorem rpl_rng {K : PySem.W.Frag} {G : Hp} (a b : Int) : RpL K G (rngD a (b - a).toNat) (rgV a b) := by
  have e : rngD a (b - a).toNat = ((List.range (b - a).toNat).map fun i : Nat => a + (i : Int)).map .int := by
    unfold rngD
    rw [List.map_map]; rfl
  have e2 : rgV a b = ((List.range (b - a).toNat).map fun i : Nat => a + (i : Int)).map V.int := by
    unfold rgV
    simp
  rw [e, e2]
  exact rpl_ints _
section
variable {X : Cx} {W : WX} {a b e o : Expr} {pa pb : Bool} {f g : Env → Res Vl} {pos p pos2 p2 : Pos}
theorem lr_fin {K : PySem.W.Frag} {pn : List (Nat × V)} {σ : L2.St} {H G H1 G1 : Hp} {ρ1 : Env} {fp fp1 : List Addr} {pu : Bool} {i j : Int} {Q : VK} (fw1 : Fw G H fp G1 H1 fp1) (p1 : pu = true → Ex H H1) (c1 : Cor K pn σ H1 G1 ρ1 fp1)
    (h : OkO K pu pn σ H G fp Q (.ls ((rngD i (j - i).toNat).map .lf)) ρ1) : ∀ l, H1 l = none → Q (.ref l) (upd H1 l (.lst (rgV i j))) := fun l hl => by
  obtain ⟨b1, b2, b3, b4⟩ := c1.newList hl (Owns.lfs (H := H1) (rpl_rng i j)) (by simpa using c1.nd)
  refine h _ _ G1 fp1 [l] (fw1.trans b1) (fun q => (p1 q).trans (.new hl)) b2 b3 b4 fun a ha => ?_
  have : a = l := by simpa using ha
  subst this
  exact fw1.none hl
theorem pb_lr2 (hc : X.calm = true) (hg : Gl X "list") (hm : X.mg "list" = none) (hg2 : Gl X "range") (hm2 : X.mg "range" = none) (ha : PE X a (tF X.K pa W f)) (hb : PE X b (tF X.K pb W g))
    (na : starEach [a, b] X.env = (false, eval a X.env) :: starEach [b] X.env := by rfl) (nb : starEach [b] X.env = (false, eval b X.env) :: starEach [] X.env := by rfl) (hp : (backTo pos2 (starEach [b] X.env)).any (·.1) = false := by rfl)
    (ne : starEach [.Call (.Name "range" p2) [a, b] [] pos2] X.env = (false, eval (.Call (.Name "range" p2) [a, b] [] pos2) X.env) :: starEach [] X.env := by rfl) :
    PE X (.Call (.Name "list" p) [.Call (.Name "range" p2) [a, b] [] pos2] [] pos) (tO X.K (pa && pb) W (lr2F f g)) := by
  refine PE.imp (pe_listRg hc hg hm (prg_2 hg2 hm2 ha hb na nb hp) ne) fun σ H Q h => ?_
  obtain ⟨pn, G, ρ, fp, c, h⟩ := h
  refine ⟨pn, G, ρ, fp, c, (Res.sat_bind h).imp (fun x ρ1 h v H1 G1 fp1 fw1 p1 c1 vo => ?_) fun _ _ h => h⟩
  refine ⟨pn, G1, ρ1, fp1, c1, (Res.sat_bind h).imp (fun y ρ2 h u H2 G2 fp2 fw2 p2 c2 wo => ?_) fun _ _ h => h.on fw1⟩
  have pp : (pa && pb) = true → Ex H H2 := fun hp => by rw [Bool.and_eq_true] at hp; exact (p1 hp.1).trans (p2 hp.2)
  cases x with
  | d x => cases x with
    | int i => cases y with
      | d y => cases y with
        | int j =>
          rw [lrP_i] at h
          cases k : rgS i j with
          | true =>
            rw [k] at h
            exact ⟨i, j, vo, wo, rgS_of k, lr_fin (fw1.trans fw2) pp c2 h⟩
          | false => rw [k] at h; exact h.elim
        | _ => exact h.elim
      | _ => exact h.elim
    | _ => exact h.elim
  | _ => exact h.elim
theorem pb_lr1 (hc : X.calm = true) (hg : Gl X "list") (hm : X.mg "list" = none) (hg2 : Gl X "range") (hm2 : X.mg "range" = none) (ha : PE X a (tF X.K pa W f))
    (na : starEach [a] X.env = (false, eval a X.env) :: starEach [] X.env := by rfl)
    (ne : starEach [.Call (.Name "range" p2) [a] [] pos2] X.env = (false, eval (.Call (.Name "range" p2) [a] [] pos2) X.env) :: starEach [] X.env := by rfl) :
    PE X (.Call (.Name "list" p) [.Call (.Name "range" p2) [a] [] pos2] [] pos) (tO X.K pa W (lr1F f)) := by
  refine PE.imp (pe_listRg hc hg hm (prg_1 hg2 hm2 ha na) ne) fun σ H Q h => ?_
  obtain ⟨pn, G, ρ, fp, c, h⟩ := h
  refine ⟨pn, G, ρ, fp, c, (Res.sat_bind h).imp (fun x ρ1 h v H1 G1 fp1 fw1 p1 c1 vo => ?_) fun _ _ h => h⟩
  cases x with
  | d x => cases x with
    | int j =>
      rw [lrP_i] at h
      cases k : rgS 0 j with
      | true =>
        rw [k] at h
        exact ⟨j, vo, rgS_of k, lr_fin fw1 p1 c1 h⟩
      | false => rw [k] at h; exact h.elim
    | _ => exact h.elim
  | _ => exact h.elim
end
end Mo

/-! Cl: what many laws have: the draws, likeness, rows shuffled. -/
namespace Mo
open PySem PySem.Spec PyProof.Rows L2
noncomputable def cg_draw : Mo.Env → SRes :=
  (seqF (ifS (boolF (bin2 true oLt (ixF true (varF 0) (cF (.int 0))) (varF 1))) (seqF (asgF (asgE 3) (ixF true (varF 0) (cF (.int 1))))
    (seqF (setIx 0 (cF (.int 1)) (bin2 true oAdd (varF 3) (cF (.int 1))))
    (seqF (asgF (asgE 4) (cF (.int 0)))
    (seqF (ifS (boolF (bin2 true oLt (varF 3) (callF bLen (consV true (ixF true (varF 0) (cF (.int 2))) nilV)))) (asgF (asgE 4) (ixF true (ixF true (varF 0) (cF (.int 2))) (varF 3))) nxF)
    (ifS (boolF (bin2 true oGe (varF 4) (bin2 true oPow (cF (.int 10)) (cF (.int 18))))) (setIx 0 (cF (.int 0)) (varF 4)) (seqF (setIx 0 (cF (.int 3)) (bin2 true oMod (callF bInt (consV true (bin2 true oMul (bin2 true oAdd (bin2 true oAdd (bin2 true oAdd (ixF true (varF 0) (cF (.int 3))) (bin2 true oMod (callF bInt (consV true (varF 4) nilV)) (cF (.int 2147483629)))) (varF 3)) (cF (.int 1))) (cF (.int 48271))) nilV)) (cF (.int 2147483647))))
    (seqF (asgF (asgE 5) (bin2 true oMod (callF bInt (consV true (bin2 true oAdd (bin2 true oMul (ixF true (varF 0) (cF (.int 3))) (cF (.int 69621))) (cF (.int 11))) nilV)) (cF (.int 2147483629))))
    (setIx 0 (cF (.int 0)) (bin2 true oAdd (bin2 true oMul (varF 5) (cF (.int 2147483647))) (bin2 true oMod (callF bInt (consV true (bin2 true oAdd (bin2 true oMul (varF 5) (cF (.int 30011))) (ixF true (varF 0) (cF (.int 3)))) nilV)) (cF (.int 2147483587)))))))))))) nxF)
    (seqF (asgF (asgE 2) (bin2 true oMod (callF bInt (consV true (ixF true (varF 0) (cF (.int 0))) nilV)) (varF 1)))
    (seqF (setIx 0 (cF (.int 0)) (bin2 true oFdiv (ixF true (varF 0) (cF (.int 0))) (varF 1)))
    (retF (varF 2)))))
noncomputable def cf_draw : OT → List PyData → OutI := funI 6 2 cg_draw
noncomputable def cg_same (rec : List PyData → Out) : Mo.Env → SRes :=
  (seqF (ifS (orF (andF (truF (isiF "tuple" (varF 0))) (truF (isiF "tuple" (varF 1)))) (andF (truF (isiF "list" (varF 0))) (truF (isiF "list" (varF 1))))) (retF (andV (bin2 true oEq (callF bLen (consV true (varF 0) nilV)) (callF bLen (consV true (varF 1) nilV))) (bin2 true oEq (frzO (compF [2, 3] (argF zip2 (consV true (varF 0) (consV true (varF 1) nilV))) (unpE 2 (gConsE (asgE 2) (gConsE (asgE 3) gNilE))) (notF (truF (callD rec (consV true (varF 2) (consV true (varF 3) nilV))))) (lfF (cF (.int 1))))) (frzO (lstF nilV))))) nxF)
    (seqF (ifS (orF (boolF (bin2 true oNe (isiF "bool" (varF 0)) (isiF "bool" (varF 1)))) (boolF (bin2 true oNe (isiF "int" (varF 0)) (isiF "int" (varF 1))))) (retF (cF (.bool false))) nxF)
    (retF (bin2 true oEq (varF 0) (varF 1)))))
noncomputable def cf_same_at : Nat → List PyData → Out
  | 0 => fun _ => .bad
  | n + 1 => funF 4 2 (cg_same (cf_same_at n))
noncomputable def cg_shuf : Mo.Env → SRes :=
  (seqF (setO 2 (lstF nilV))
    (seqF (forF (itF (varF 1)) (asgE 3) (exprF (insF 2 (consV true (callI cf_draw (consV true (varF 0) (consV true (bin2 true oAdd (callF bLen (consV true (varF 2) nilV)) (cF (.int 1))) nilV))) (consV true (varF 3) nilV)))))
    (retF (varF 2))))
noncomputable def cf_shuf : OT → List PyData → OutI := funI 4 2 cg_shuf
/-- the law's state: what is left, the place, the cells, the seed -/
def T (q : Int) (p : Nat) (cs : List Int) (s : Int) : OT := .ls [.lf (.int q), .lf (.int (p : Int)), LS (cs.map .int), .lf (.int s)]
def TL (q : Int) (p : Nat) (cs : List Int) (s : Int) : List OT := [.lf (.int q), .lf (.int (p : Int)), LS (cs.map .int), .lf (.int s)]
def St (n : Nat) (t : OT) : Prop := ∃ (q : Int) (p : Nat) (cs : List Int) (s : Int), t = T q p cs s ∧ 0 ≤ q ∧ p ≤ n ∧ 0 ≤ s ∧ s < 2147483647
section
variable {q s : Int} {p : Nat} {cs : List Int} {ρ : Mo.Env} {i : Nat} {d : PyData} {x : Int}
theorem vwR_T : vwR (some (.io (T q p cs s))) = none := rfl
theorem varR_T : varR i ρ (some (.io (T q p cs s))) = .ok (.r i) ρ := rfl
def ixM' (ρ : Mo.Env) (b : PyData) : Option OT → Res Vl
  | some (.ls ts) => match b with
    | .int k => match atI ts k with
      | some (.lf z) => .ok (.d z) ρ
      | some (.ls us) => match leaves us with
        | some xs => .ok (.w xs) ρ
        | none => .bad
      | none => .bad
    | _ => .bad
  | _ => .bad
def slotR' : Option Slot → Option OT
  | some (.v t) => some t
  | some (.io t) => some t
  | _ => none
theorem slotT_ap' : slotT ρ i = slotR' ρ[i]? := by
  unfold slotT slotR'
  cases ρ[i]? with
  | none => rfl
  | some s => cases s <;> rfl
theorem slotR_io' {t : OT} : slotR' (some (.io t)) = some t := rfl
theorem slotR_v' {t : OT} : slotR' (some (.v t)) = some t := rfl
theorem ixN1_ap' {k : Int} : ixN1 ρ (.r i) (.int k) = ixM' ρ (.int k) (slotT ρ i) := by
  show (match slotT ρ i with | some (.ls ts) => (match atI ts k with | some (.lf z) => Res.ok (Vl.d z) ρ | some (.ls us) => (match leaves us with | some xs => Res.ok (Vl.w xs) ρ | none => .bad) | none => .bad) | _ => .bad) = ixM' ρ (.int k) (slotT ρ i)
  cases slotT ρ i with
  | none => rfl
  | some t => cases t <;> rfl
theorem ix_T0 : ixM' ρ (.int 0) (some (T q p cs s)) = .ok (.d (.int q)) ρ := rfl
theorem ix_T1 : ixM' ρ (.int 1) (some (T q p cs s)) = .ok (.d (.int (p : Int))) ρ := rfl
theorem ix_T2 : ixM' ρ (.int 2) (some (T q p cs s)) = .ok (.w (cs.map .int)) ρ := by
  show (match leaves ((cs.map PyData.int).map .lf) with | some xs => Res.ok (Vl.w xs) ρ | none => .bad) = _
  rw [leaves_lf]
theorem ix_T3 : ixM' ρ (.int 3) (some (T q p cs s)) = .ok (.d (.int s)) ρ := rfl
def setK (i : Nat) (d : PyData) (ρ : Mo.Env) : Vl → Option (Slot × List OT) → SRes
  | .d (.int k), some (s, ts) => match ixN ts.length k with
    | some j => .nx (ρ.set i (s.to (.ls (ts.set j (.lf d)))))
    | none => .bad
  | _, _ => .bad
def setG (i : Nat) (fi : Mo.Env → Res Vl) (d : PyData) (ρ : Mo.Env) : Option (Slot × List OT) → SRes
  | some _ => (fi ρ).tos fun y ρ3 => setK i d ρ3 y (lsAt ρ3 i)
  | none => .bad
theorem setG_s {fi : Mo.Env → Res Vl} {st : Slot × List OT} : setG i fi d ρ (some st) = (fi ρ).tos fun y ρ3 => setK i d ρ3 y (lsAt ρ3 i) := rfl
theorem setIx_ap {fi f : Mo.Env → Res Vl} : setIx i fi f ρ = (f ρ).tos fun x ρ1 => (fzE x ρ1).tos fun d ρ2 => setG i fi d ρ2 (lsAt ρ2 i) := by
  unfold setIx
  refine tos_ext fun x ρ1 => ?_
  refine tos_ext fun d ρ2 => ?_
  cases lsAt ρ2 i with
  | none => rfl
  | some st =>
    show (fi ρ2).tos _ = (fi ρ2).tos _
    refine tos_ext fun y ρ3 => ?_
    rcases y with z | z | z
    · cases z with
      | int k => cases lsAt ρ3 i <;> rfl
      | _ => cases lsAt ρ3 i <;> rfl
    · cases lsAt ρ3 i <;> rfl
    · cases lsAt ρ3 i <;> rfl
theorem lsR_T : lsR (some (.io (T q p cs s))) = some (.io (T q p cs s), TL q p cs s) := rfl
theorem set_T0 : setK i (.int x) ρ (.d (.int 0)) (some (.io (T q p cs s), TL q p cs s)) = .nx (ρ.set i (.io (T x p cs s))) := rfl
theorem set_T1 : setK i (.int ((p : Int) + 1)) ρ (.d (.int 1)) (some (.io (T q p cs s), TL q p cs s)) = .nx (ρ.set i (.io (T q (p + 1) cs s))) := rfl
theorem set_T3 : setK i (.int x) ρ (.d (.int 3)) (some (.io (T q p cs s), TL q p cs s)) = .nx (ρ.set i (.io (T q p cs x))) := rfl
theorem log_small {x : Int} (h : x.natAbs < 2 ^ 100) : x.natAbs.log2 ≤ 100 := by
  by_cases z : x.natAbs = 0
  · rw [z]; decide
  · have := (Nat.log2_lt z).mpr h
    omega
theorem oMul_b {x y : Int} (hx : x.natAbs < 2 ^ 100) (hy : y.natAbs < 2 ^ 100) : oMul (.int x) (.int y) = some (.int (x * y)) := by
  have h1 := log_small hx
  have h2 := log_small hy
  exact if_pos (by omega)
theorem oMod_b {x y : Int} (h : 0 < y) : oMod (.int x) (.int y) = some (.int (x % y)) := if_pos h
theorem oFdiv_b {x y : Int} (h : 0 < y) (hy : y.natAbs < 2 ^ 100) : oFdiv (.int x) (.int y) = some (.int (x / y)) := by
  have h2 := log_small hy
  exact if_pos ⟨h, by omega⟩
theorem ten18 : oPow (.int 10) (.int 18) = some (.int 1000000000000000000) := by
  refine (if_pos (by decide) : (if (0 : Int) ≤ 18 ∧ (18 : Int) ≤ 1000000 ∧ (10 : Int).natAbs < 2 ^ 64 then some (PyData.int ((10 : Int) ^ (18 : Int).toNat)) else none) = _).trans ?_
  congr 2
theorem len_cs : bLen [.list (cs.map PyData.int)] = some (.int (cs.length : Int)) := by
  show some (PyData.int ((cs.map PyData.int).length : Int)) = _
  rw [List.length_map]
theorem bInt_i' {k : Int} : bInt [.int k] = some (.int k) := rfl
theorem cs_at {p : Nat} (h : p < cs.length) : oItem (.list (cs.map PyData.int)) (.int (p : Int)) = some (.int cs[p]) := by
  show atI (cs.map PyData.int) (p : Int) = _
  rw [atI_n, List.getElem?_map, List.getElem?_eq_getElem h]
  rfl
end
/-- the first half: a number to take digits of -/
theorem draw_fill {n : Nat} {q s k : Int} {p : Nat} {cs : List Int} (h0 : 0 ≤ q) (hp : p ≤ n) (hn : n ≤ 1000000) (s0 : 0 ≤ s) (s1 : s < 2147483647) :
    ∃ (q' s' : Int) (p' : Nat) (s3 s4 s5 : Slot), 0 ≤ q' ∧ p' ≤ n + 1 ∧ 0 ≤ s' ∧ s' < 2147483647 ∧
      ifS (boolF (bin2 true oLt (ixF true (varF 0) (cF (.int 0))) (varF 1))) (seqF (asgF (asgE 3) (ixF true (varF 0) (cF (.int 1))))
    (seqF (setIx 0 (cF (.int 1)) (bin2 true oAdd (varF 3) (cF (.int 1))))
    (seqF (asgF (asgE 4) (cF (.int 0)))
    (seqF (ifS (boolF (bin2 true oLt (varF 3) (callF bLen (consV true (ixF true (varF 0) (cF (.int 2))) nilV)))) (asgF (asgE 4) (ixF true (ixF true (varF 0) (cF (.int 2))) (varF 3))) nxF)
    (ifS (boolF (bin2 true oGe (varF 4) (bin2 true oPow (cF (.int 10)) (cF (.int 18))))) (setIx 0 (cF (.int 0)) (varF 4)) (seqF (setIx 0 (cF (.int 3)) (bin2 true oMod (callF bInt (consV true (bin2 true oMul (bin2 true oAdd (bin2 true oAdd (bin2 true oAdd (ixF true (varF 0) (cF (.int 3))) (bin2 true oMod (callF bInt (consV true (varF 4) nilV)) (cF (.int 2147483629)))) (varF 3)) (cF (.int 1))) (cF (.int 48271))) nilV)) (cF (.int 2147483647))))
    (seqF (asgF (asgE 5) (bin2 true oMod (callF bInt (consV true (bin2 true oAdd (bin2 true oMul (ixF true (varF 0) (cF (.int 3))) (cF (.int 69621))) (cF (.int 11))) nilV)) (cF (.int 2147483629))))
    (setIx 0 (cF (.int 0)) (bin2 true oAdd (bin2 true oMul (varF 5) (cF (.int 2147483647))) (bin2 true oMod (callF bInt (consV true (bin2 true oAdd (bin2 true oMul (varF 5) (cF (.int 30011))) (ixF true (varF 0) (cF (.int 3)))) nilV)) (cF (.int 2147483587)))))))))))) nxF [.io (T q p cs s), .v (.lf (.int k)), .un, .un, .un, .un] = .nx [.io (T q' p' cs s'), .v (.lf (.int k)), .un, s3, s4, s5] := by
  by_cases hq : q < k
  · -- the cell
    obtain ⟨c, hc⟩ : ∃ c : Int, (if h : p < cs.length then cs[p] else 0) = c := ⟨_, rfl⟩
    have hcmp : ((p : Int) < (cs.length : Int)) ↔ p < cs.length := by omega
    by_cases big : c ≥ 1000000000000000000
    · refine ⟨c, s, p + 1, .v (.lf (.int (p : Int))), .v (.lf (.int c)), .un, by omega, by omega, s0, s1, ?_⟩
      by_cases hl : p < cs.length
      · rw [dif_pos hl] at hc
        have at1 := cs_at (cs := cs) hl
        rw [hc] at at1
        simp -implicitDefEqProofs only [Mo.show_LS, Mo.view_LS, ↓Mo.bind_bn, ↓Mo.tos_tn, ↓Mo.sthen_sn, ↓Mo.sel_sl, Mo.bn_ok, Mo.bn_ex, Mo.tn_ok, Mo.tn_ex, Mo.sn_nx, Mo.sn_rt, Mo.sn_bk, Mo.sn_ct, Mo.sn_ex, Mo.sl_t, Mo.sl_f, Mo.vw_d, Mo.vw_w, Mo.vw_r, Mo.vwR_LS, Mo.vwR_io, Mo.vwR_lf, Mo.stays_d, Mo.stays_r, Mo.stays_t, Mo.varF_ap, Mo.varR_lf, Mo.varR_LS, Mo.varR_io, Mo.varR_ls, Mo.cF_ap, Mo.ofO_s, Mo.binV_s, Mo.bin2_ap, Mo.unV_s, Mo.un1_ap, Mo.fzE_d, Mo.fzE_r, Mo.fzR_LS, Mo.fzR_ls, Mo.fzs_n, Mo.fzs_c, Mo.vws_n, Mo.vws_c, Mo.vwsC_s, Mo.nilV_ap, Mo.stay1_t, Mo.consV_ap, Mo.okIf_T, Mo.tupF_ap, Mo.lstF_ap, Mo.frzO_ap, Mo.lfF_ap, Mo.callV_s, Mo.callF_ap, Mo.outV_r, Mo.outV_x, Mo.callD_ap, Mo.ixV_s, Mo.ixV_n, Mo.ixF_ap, Mo.noP_ap, Mo.intV_i, Mo.someP_ap, Mo.slV_s, Mo.slF_ap, Mo.boolV_b, Mo.boolF_ap, Mo.truW_s, Mo.truV_s, Mo.truF_ap, Mo.truD_b, Mo.truD_i, Mo.okB_ap, Mo.andF_ap, Mo.orF_ap, Mo.notF_ap, Mo.okV_ap, Mo.selV_b, Mo.andV_ap, Mo.orV_ap, Mo.ifF_ap, Mo.seqF_ap, Mo.nxF_ap, Mo.bkF_ap, Mo.retF_ap, Mo.exprF_ap, Mo.ofE_s, Mo.asgF_ap, Mo.asgE_ap, Mo.asgR_un, Mo.asgR_v, Mo.asgR_raw, Mo.setO_ap, Mo.ifS_ap, Mo.gNil_ap, Mo.nextE_s, Mo.gCons_ap, Mo.lsAt_ap, Mo.lsR_LS, Mo.lsR_io, Mo.lsR_ls, Mo.appF_ap, Mo.appG_s, Mo.appK_LS, Mo.okIf_le, Mo.okIf_lt, Mo.outS_nx, Mo.outS_rt, Mo.outS_ex, Mo.outI_rt, Mo.outI_nx, Mo.bTup_l, Mo.bTup_t, Mo.bInt_b, Mo.bInt_i, Mo.dropE_n, Mo.dropE_c, Mo.dropN_s, Mo.drop1R_un, Mo.drop1R_lf, Mo.restE_n, Mo.restE_c, Mo.restR_s, Mo.forF_ap, Mo.itV_s, Mo.itF_ap, Mo.argF_ap, Mo.items_l, Mo.items_t, Mo.yesF_ap, Mo.repO_ap, Mo.nilW_ap, Mo.consW_ap, Mo.parF_ap, Mo.parN_s, Mo.parE_n, Mo.parE_c, Mo.ioK_v, Mo.ioK_io, Mo.ioH_s, Mo.ioG_s, Mo.ioArg_r, Mo.joinF_ap, oAdd_i, oSub_i, oLt_i, oLe_i, oGt_i, oGe_i, oEq_i, oNe_i, len_S, List.getElem?_cons_zero, List.getElem?_cons_succ, List.set_cons_zero, List.set_cons_succ, List.map_cons, List.map_nil, List.replicate_succ, List.replicate_zero, List.cons_append, List.nil_append, List.length_cons, List.length_nil, Nat.reduceLeDiff, Nat.reduceAdd, Nat.reduceSub, Nat.zero_le, Nat.add_one_sub_one, Nat.sub_self, Nat.zero_add, decide_true, decide_false, Bool.not_true, Bool.not_false, Bool.and_self, Bool.true_and, Bool.and_true, vwR_T, varR_T, ixN1_ap', slotT_ap', slotR_io', ix_T0, ix_T1, ix_T2, ix_T3, setIx_ap, setG_s, lsR_T, set_T0, set_T1, set_T3, ten18, len_cs, hq, hcmp, hl, at1, big]
      · rw [dif_neg hl] at hc
        omega
    · have mb : ∀ x y : Int, 0 < y → 0 ≤ x % y ∧ x % y < y := fun x y h => ⟨Int.emod_nonneg x (by omega), Int.emod_lt_of_pos x h⟩
      obtain ⟨r0, r1⟩ := mb c 2147483629 (by decide)
      obtain ⟨r, hr⟩ : ∃ r, r = c % 2147483629 := ⟨_, rfl⟩
      rw [← hr] at r0 r1
      have m1 := oMul_b (x := s + r + (p : Int) + 1) (y := 48271) (by omega) (by decide)
      obtain ⟨t, ht⟩ : ∃ t, t = ((s + r + (p : Int) + 1) * 48271) % 2147483647 := ⟨_, rfl⟩
      obtain ⟨t0, t1⟩ := mb ((s + r + (p : Int) + 1) * 48271) 2147483647 (by decide)
      rw [← ht] at t0 t1
      have m2 := oMul_b (x := t) (y := 69621) (by omega) (by decide)
      obtain ⟨u, hu⟩ : ∃ u, u = (t * 69621 + 11) % 2147483629 := ⟨_, rfl⟩
      obtain ⟨u0, u1⟩ := mb (t * 69621 + 11) 2147483629 (by decide)
      rw [← hu] at u0 u1
      have m3 := oMul_b (x := u) (y := 2147483647) (by omega) (by decide)
      have m4 := oMul_b (x := u) (y := 30011) (by omega) (by decide)
      obtain ⟨w0, w1⟩ := mb (u * 30011 + t) 2147483587 (by decide)
      have d1 := oMod_b (x := c) (y := 2147483629) (by decide)
      have d2 := oMod_b (x := (s + r + (p : Int) + 1) * 48271) (y := 2147483647) (by decide)
      have d3 := oMod_b (x := t * 69621 + 11) (y := 2147483629) (by decide)
      have d4 := oMod_b (x := u * 30011 + t) (y := 2147483587) (by decide)
      rw [← hr] at d1
      rw [← ht] at d2
      rw [← hu] at d3
      refine ⟨u * 2147483647 + (u * 30011 + t) % 2147483587, t, p + 1, .v (.lf (.int (p : Int))), .v (.lf (.int c)), .v (.lf (.int u)), by omega, by omega, t0, t1, ?_⟩
      by_cases hl : p < cs.length
      · rw [dif_pos hl] at hc
        have at1 := cs_at (cs := cs) hl
        rw [hc] at at1
        simp -implicitDefEqProofs only [Mo.show_LS, Mo.view_LS, ↓Mo.bind_bn, ↓Mo.tos_tn, ↓Mo.sthen_sn, ↓Mo.sel_sl, Mo.bn_ok, Mo.bn_ex, Mo.tn_ok, Mo.tn_ex, Mo.sn_nx, Mo.sn_rt, Mo.sn_bk, Mo.sn_ct, Mo.sn_ex, Mo.sl_t, Mo.sl_f, Mo.vw_d, Mo.vw_w, Mo.vw_r, Mo.vwR_LS, Mo.vwR_io, Mo.vwR_lf, Mo.stays_d, Mo.stays_r, Mo.stays_t, Mo.varF_ap, Mo.varR_lf, Mo.varR_LS, Mo.varR_io, Mo.varR_ls, Mo.cF_ap, Mo.ofO_s, Mo.binV_s, Mo.bin2_ap, Mo.unV_s, Mo.un1_ap, Mo.fzE_d, Mo.fzE_r, Mo.fzR_LS, Mo.fzR_ls, Mo.fzs_n, Mo.fzs_c, Mo.vws_n, Mo.vws_c, Mo.vwsC_s, Mo.nilV_ap, Mo.stay1_t, Mo.consV_ap, Mo.okIf_T, Mo.tupF_ap, Mo.lstF_ap, Mo.frzO_ap, Mo.lfF_ap, Mo.callV_s, Mo.callF_ap, Mo.outV_r, Mo.outV_x, Mo.callD_ap, Mo.ixV_s, Mo.ixV_n, Mo.ixF_ap, Mo.noP_ap, Mo.intV_i, Mo.someP_ap, Mo.slV_s, Mo.slF_ap, Mo.boolV_b, Mo.boolF_ap, Mo.truW_s, Mo.truV_s, Mo.truF_ap, Mo.truD_b, Mo.truD_i, Mo.okB_ap, Mo.andF_ap, Mo.orF_ap, Mo.notF_ap, Mo.okV_ap, Mo.selV_b, Mo.andV_ap, Mo.orV_ap, Mo.ifF_ap, Mo.seqF_ap, Mo.nxF_ap, Mo.bkF_ap, Mo.retF_ap, Mo.exprF_ap, Mo.ofE_s, Mo.asgF_ap, Mo.asgE_ap, Mo.asgR_un, Mo.asgR_v, Mo.asgR_raw, Mo.setO_ap, Mo.ifS_ap, Mo.gNil_ap, Mo.nextE_s, Mo.gCons_ap, Mo.lsAt_ap, Mo.lsR_LS, Mo.lsR_io, Mo.lsR_ls, Mo.appF_ap, Mo.appG_s, Mo.appK_LS, Mo.okIf_le, Mo.okIf_lt, Mo.outS_nx, Mo.outS_rt, Mo.outS_ex, Mo.outI_rt, Mo.outI_nx, Mo.bTup_l, Mo.bTup_t, Mo.bInt_b, Mo.bInt_i, Mo.dropE_n, Mo.dropE_c, Mo.dropN_s, Mo.drop1R_un, Mo.drop1R_lf, Mo.restE_n, Mo.restE_c, Mo.restR_s, Mo.forF_ap, Mo.itV_s, Mo.itF_ap, Mo.argF_ap, Mo.items_l, Mo.items_t, Mo.yesF_ap, Mo.repO_ap, Mo.nilW_ap, Mo.consW_ap, Mo.parF_ap, Mo.parN_s, Mo.parE_n, Mo.parE_c, Mo.ioK_v, Mo.ioK_io, Mo.ioH_s, Mo.ioG_s, Mo.ioArg_r, Mo.joinF_ap, oAdd_i, oSub_i, oLt_i, oLe_i, oGt_i, oGe_i, oEq_i, oNe_i, len_S, List.getElem?_cons_zero, List.getElem?_cons_succ, List.set_cons_zero, List.set_cons_succ, List.map_cons, List.map_nil, List.replicate_succ, List.replicate_zero, List.cons_append, List.nil_append, List.length_cons, List.length_nil, Nat.reduceLeDiff, Nat.reduceAdd, Nat.reduceSub, Nat.zero_le, Nat.add_one_sub_one, Nat.sub_self, Nat.zero_add, decide_true, decide_false, Bool.not_true, Bool.not_false, Bool.and_self, Bool.true_and, Bool.and_true, vwR_T, varR_T, ixN1_ap', slotT_ap', slotR_io', ix_T0, ix_T1, ix_T2, ix_T3, setIx_ap, setG_s, lsR_T, set_T0, set_T1, set_T3, ten18, len_cs, hq, hcmp, hl, at1, ge_iff_le.mp, big, bInt_i', m1, m2, m3, m4, d1, d2, d3, d4]
      · rw [dif_neg hl] at hc
        subst hc
        simp -implicitDefEqProofs only [Mo.show_LS, Mo.view_LS, ↓Mo.bind_bn, ↓Mo.tos_tn, ↓Mo.sthen_sn, ↓Mo.sel_sl, Mo.bn_ok, Mo.bn_ex, Mo.tn_ok, Mo.tn_ex, Mo.sn_nx, Mo.sn_rt, Mo.sn_bk, Mo.sn_ct, Mo.sn_ex, Mo.sl_t, Mo.sl_f, Mo.vw_d, Mo.vw_w, Mo.vw_r, Mo.vwR_LS, Mo.vwR_io, Mo.vwR_lf, Mo.stays_d, Mo.stays_r, Mo.stays_t, Mo.varF_ap, Mo.varR_lf, Mo.varR_LS, Mo.varR_io, Mo.varR_ls, Mo.cF_ap, Mo.ofO_s, Mo.binV_s, Mo.bin2_ap, Mo.unV_s, Mo.un1_ap, Mo.fzE_d, Mo.fzE_r, Mo.fzR_LS, Mo.fzR_ls, Mo.fzs_n, Mo.fzs_c, Mo.vws_n, Mo.vws_c, Mo.vwsC_s, Mo.nilV_ap, Mo.stay1_t, Mo.consV_ap, Mo.okIf_T, Mo.tupF_ap, Mo.lstF_ap, Mo.frzO_ap, Mo.lfF_ap, Mo.callV_s, Mo.callF_ap, Mo.outV_r, Mo.outV_x, Mo.callD_ap, Mo.ixV_s, Mo.ixV_n, Mo.ixF_ap, Mo.noP_ap, Mo.intV_i, Mo.someP_ap, Mo.slV_s, Mo.slF_ap, Mo.boolV_b, Mo.boolF_ap, Mo.truW_s, Mo.truV_s, Mo.truF_ap, Mo.truD_b, Mo.truD_i, Mo.okB_ap, Mo.andF_ap, Mo.orF_ap, Mo.notF_ap, Mo.okV_ap, Mo.selV_b, Mo.andV_ap, Mo.orV_ap, Mo.ifF_ap, Mo.seqF_ap, Mo.nxF_ap, Mo.bkF_ap, Mo.retF_ap, Mo.exprF_ap, Mo.ofE_s, Mo.asgF_ap, Mo.asgE_ap, Mo.asgR_un, Mo.asgR_v, Mo.asgR_raw, Mo.setO_ap, Mo.ifS_ap, Mo.gNil_ap, Mo.nextE_s, Mo.gCons_ap, Mo.lsAt_ap, Mo.lsR_LS, Mo.lsR_io, Mo.lsR_ls, Mo.appF_ap, Mo.appG_s, Mo.appK_LS, Mo.okIf_le, Mo.okIf_lt, Mo.outS_nx, Mo.outS_rt, Mo.outS_ex, Mo.outI_rt, Mo.outI_nx, Mo.bTup_l, Mo.bTup_t, Mo.bInt_b, Mo.bInt_i, Mo.dropE_n, Mo.dropE_c, Mo.dropN_s, Mo.drop1R_un, Mo.drop1R_lf, Mo.restE_n, Mo.restE_c, Mo.restR_s, Mo.forF_ap, Mo.itV_s, Mo.itF_ap, Mo.argF_ap, Mo.items_l, Mo.items_t, Mo.yesF_ap, Mo.repO_ap, Mo.nilW_ap, Mo.consW_ap, Mo.parF_ap, Mo.parN_s, Mo.parE_n, Mo.parE_c, Mo.ioK_v, Mo.ioK_io, Mo.ioH_s, Mo.ioG_s, Mo.ioArg_r, Mo.joinF_ap, oAdd_i, oSub_i, oLt_i, oLe_i, oGt_i, oGe_i, oEq_i, oNe_i, len_S, List.getElem?_cons_zero, List.getElem?_cons_succ, List.set_cons_zero, List.set_cons_succ, List.map_cons, List.map_nil, List.replicate_succ, List.replicate_zero, List.cons_append, List.nil_append, List.length_cons, List.length_nil, Nat.reduceLeDiff, Nat.reduceAdd, Nat.reduceSub, Nat.zero_le, Nat.add_one_sub_one, Nat.sub_self, Nat.zero_add, decide_true, decide_false, Bool.not_true, Bool.not_false, Bool.and_self, Bool.true_and, Bool.and_true, vwR_T, varR_T, ixN1_ap', slotT_ap', slotR_io', ix_T0, ix_T1, ix_T2, ix_T3, setIx_ap, setG_s, lsR_T, set_T0, set_T1, set_T3, ten18, len_cs, hq, hcmp, hl, big, bInt_i', m1, m2, m3, m4, d1, d2, d3, d4]
  · refine ⟨q, s, p, .un, .un, .un, h0, by omega, s0, s1, ?_⟩
    simp -implicitDefEqProofs only [Mo.show_LS, Mo.view_LS, ↓Mo.bind_bn, ↓Mo.tos_tn, ↓Mo.sthen_sn, ↓Mo.sel_sl, Mo.bn_ok, Mo.bn_ex, Mo.tn_ok, Mo.tn_ex, Mo.sn_nx, Mo.sn_rt, Mo.sn_bk, Mo.sn_ct, Mo.sn_ex, Mo.sl_t, Mo.sl_f, Mo.vw_d, Mo.vw_w, Mo.vw_r, Mo.vwR_LS, Mo.vwR_io, Mo.vwR_lf, Mo.stays_d, Mo.stays_r, Mo.stays_t, Mo.varF_ap, Mo.varR_lf, Mo.varR_LS, Mo.varR_io, Mo.varR_ls, Mo.cF_ap, Mo.ofO_s, Mo.binV_s, Mo.bin2_ap, Mo.unV_s, Mo.un1_ap, Mo.fzE_d, Mo.fzE_r, Mo.fzR_LS, Mo.fzR_ls, Mo.fzs_n, Mo.fzs_c, Mo.vws_n, Mo.vws_c, Mo.vwsC_s, Mo.nilV_ap, Mo.stay1_t, Mo.consV_ap, Mo.okIf_T, Mo.tupF_ap, Mo.lstF_ap, Mo.frzO_ap, Mo.lfF_ap, Mo.callV_s, Mo.callF_ap, Mo.outV_r, Mo.outV_x, Mo.callD_ap, Mo.ixV_s, Mo.ixV_n, Mo.ixF_ap, Mo.noP_ap, Mo.intV_i, Mo.someP_ap, Mo.slV_s, Mo.slF_ap, Mo.boolV_b, Mo.boolF_ap, Mo.truW_s, Mo.truV_s, Mo.truF_ap, Mo.truD_b, Mo.truD_i, Mo.okB_ap, Mo.andF_ap, Mo.orF_ap, Mo.notF_ap, Mo.okV_ap, Mo.selV_b, Mo.andV_ap, Mo.orV_ap, Mo.ifF_ap, Mo.seqF_ap, Mo.nxF_ap, Mo.bkF_ap, Mo.retF_ap, Mo.exprF_ap, Mo.ofE_s, Mo.asgF_ap, Mo.asgE_ap, Mo.asgR_un, Mo.asgR_v, Mo.asgR_raw, Mo.setO_ap, Mo.ifS_ap, Mo.gNil_ap, Mo.nextE_s, Mo.gCons_ap, Mo.lsAt_ap, Mo.lsR_LS, Mo.lsR_io, Mo.lsR_ls, Mo.appF_ap, Mo.appG_s, Mo.appK_LS, Mo.okIf_le, Mo.okIf_lt, Mo.outS_nx, Mo.outS_rt, Mo.outS_ex, Mo.outI_rt, Mo.outI_nx, Mo.bTup_l, Mo.bTup_t, Mo.bInt_b, Mo.bInt_i, Mo.dropE_n, Mo.dropE_c, Mo.dropN_s, Mo.drop1R_un, Mo.drop1R_lf, Mo.restE_n, Mo.restE_c, Mo.restR_s, Mo.forF_ap, Mo.itV_s, Mo.itF_ap, Mo.argF_ap, Mo.items_l, Mo.items_t, Mo.yesF_ap, Mo.repO_ap, Mo.nilW_ap, Mo.consW_ap, Mo.parF_ap, Mo.parN_s, Mo.parE_n, Mo.parE_c, Mo.ioK_v, Mo.ioK_io, Mo.ioH_s, Mo.ioG_s, Mo.ioArg_r, Mo.joinF_ap, oAdd_i, oSub_i, oLt_i, oLe_i, oGt_i, oGe_i, oEq_i, oNe_i, len_S, List.getElem?_cons_zero, List.getElem?_cons_succ, List.set_cons_zero, List.set_cons_succ, List.map_cons, List.map_nil, List.replicate_succ, List.replicate_zero, List.cons_append, List.nil_append, List.length_cons, List.length_nil, Nat.reduceLeDiff, Nat.reduceAdd, Nat.reduceSub, Nat.zero_le, Nat.add_one_sub_one, Nat.sub_self, Nat.zero_add, decide_true, decide_false, Bool.not_true, Bool.not_false, Bool.and_self, Bool.true_and, Bool.and_true, vwR_T, varR_T, ixN1_ap', slotT_ap', slotR_io', ix_T0, hq]
theorem draw_is {n k : Nat} {t : OT} (h : St n t) (hk : 0 < k) (hk2 : k ≤ 1000000) (hn : n ≤ 1000000) : ∃ (d : Nat) (t' : OT), d < k ∧ cf_draw t [.int (k : Int)] = .ret (.int (d : Int)) t' ∧ St (n + 1) t' := by
  obtain ⟨q, p, cs, s, rfl, h0, hp, s0, s1⟩ := h
  obtain ⟨q', s', p', s3, s4, s5, g0, gp, gs0, gs1, e⟩ := draw_fill (k := (k : Int)) (cs := cs) h0 hp hn s0 s1
  have hm := oMod_b (x := q') (y := (k : Int)) (by omega)
  have hd := oFdiv_b (x := q') (y := (k : Int)) (by omega) (by omega)
  have b0 := Int.emod_nonneg q' (show (k : Int) ≠ 0 by omega)
  have b1 := Int.emod_lt_of_pos q' (show (0 : Int) < (k : Int) by omega)
  refine ⟨(q' % (k : Int)).toNat, T (q' / (k : Int)) p' cs s', by omega, ?_, q' / (k : Int), p', cs, s', rfl, Int.ediv_nonneg g0 (by omega), gp, gs0, gs1⟩
  unfold cf_draw
  rw [funI_ap (N := 6) (n := 2) (g := cg_draw) (ds := [.int (k : Int)]) rfl]
  have st : (Slot.io (T q p cs s) :: List.map (fun d => Slot.v (OT.lf d)) [PyData.int (k : Int)] ++ List.replicate (6 - 2) Slot.un) = [.io (T q p cs s), .v (.lf (.int (k : Int))), .un, .un, .un, .un] := rfl
  rw [st]
  unfold cg_draw
  rw [seqF_ap, e, sthen_nx, Int.toNat_of_nonneg b0]
  simp -implicitDefEqProofs only [Mo.show_LS, Mo.view_LS, ↓Mo.bind_bn, ↓Mo.tos_tn, ↓Mo.sthen_sn, ↓Mo.sel_sl, Mo.bn_ok, Mo.bn_ex, Mo.tn_ok, Mo.tn_ex, Mo.sn_nx, Mo.sn_rt, Mo.sn_bk, Mo.sn_ct, Mo.sn_ex, Mo.sl_t, Mo.sl_f, Mo.vw_d, Mo.vw_w, Mo.vw_r, Mo.vwR_LS, Mo.vwR_io, Mo.vwR_lf, Mo.stays_d, Mo.stays_r, Mo.stays_t, Mo.varF_ap, Mo.varR_lf, Mo.varR_LS, Mo.varR_io, Mo.varR_ls, Mo.cF_ap, Mo.ofO_s, Mo.binV_s, Mo.bin2_ap, Mo.unV_s, Mo.un1_ap, Mo.fzE_d, Mo.fzE_r, Mo.fzR_LS, Mo.fzR_ls, Mo.fzs_n, Mo.fzs_c, Mo.vws_n, Mo.vws_c, Mo.vwsC_s, Mo.nilV_ap, Mo.stay1_t, Mo.consV_ap, Mo.okIf_T, Mo.tupF_ap, Mo.lstF_ap, Mo.frzO_ap, Mo.lfF_ap, Mo.callV_s, Mo.callF_ap, Mo.outV_r, Mo.outV_x, Mo.callD_ap, Mo.ixV_s, Mo.ixV_n, Mo.ixF_ap, Mo.noP_ap, Mo.intV_i, Mo.someP_ap, Mo.slV_s, Mo.slF_ap, Mo.boolV_b, Mo.boolF_ap, Mo.truW_s, Mo.truV_s, Mo.truF_ap, Mo.truD_b, Mo.truD_i, Mo.okB_ap, Mo.andF_ap, Mo.orF_ap, Mo.notF_ap, Mo.okV_ap, Mo.selV_b, Mo.andV_ap, Mo.orV_ap, Mo.ifF_ap, Mo.seqF_ap, Mo.nxF_ap, Mo.bkF_ap, Mo.retF_ap, Mo.exprF_ap, Mo.ofE_s, Mo.asgF_ap, Mo.asgE_ap, Mo.asgR_un, Mo.asgR_v, Mo.asgR_raw, Mo.setO_ap, Mo.ifS_ap, Mo.gNil_ap, Mo.nextE_s, Mo.gCons_ap, Mo.lsAt_ap, Mo.lsR_LS, Mo.lsR_io, Mo.lsR_ls, Mo.appF_ap, Mo.appG_s, Mo.appK_LS, Mo.okIf_le, Mo.okIf_lt, Mo.outS_nx, Mo.outS_rt, Mo.outS_ex, Mo.outI_rt, Mo.outI_nx, Mo.bTup_l, Mo.bTup_t, Mo.bInt_b, Mo.bInt_i, Mo.dropE_n, Mo.dropE_c, Mo.dropN_s, Mo.drop1R_un, Mo.drop1R_lf, Mo.restE_n, Mo.restE_c, Mo.restR_s, Mo.forF_ap, Mo.itV_s, Mo.itF_ap, Mo.argF_ap, Mo.items_l, Mo.items_t, Mo.yesF_ap, Mo.repO_ap, Mo.nilW_ap, Mo.consW_ap, Mo.parF_ap, Mo.parN_s, Mo.parE_n, Mo.parE_c, Mo.ioK_v, Mo.ioK_io, Mo.ioH_s, Mo.ioG_s, Mo.ioArg_r, Mo.joinF_ap, oAdd_i, oSub_i, oLt_i, oLe_i, oGt_i, oGe_i, oEq_i, oNe_i, len_S, List.getElem?_cons_zero, List.getElem?_cons_succ, List.set_cons_zero, List.set_cons_succ, List.map_cons, List.map_nil, List.replicate_succ, List.replicate_zero, List.cons_append, List.nil_append, List.length_cons, List.length_nil, Nat.reduceLeDiff, Nat.reduceAdd, Nat.reduceSub, Nat.zero_le, Nat.add_one_sub_one, Nat.sub_self, Nat.zero_add, decide_true, decide_false, Bool.not_true, Bool.not_false, Bool.and_self, Bool.true_and, Bool.and_true, vwR_T, varR_T, ixN1_ap', slotT_ap', slotR_io', ix_T0, ix_T1, ix_T2, ix_T3, setIx_ap, setG_s, lsR_T, set_T0, set_T1, set_T3, bInt_i', hm, hd]

theorem varR_Tv {q s : Int} {p : Nat} {cs : List Int} {ρ : Mo.Env} {i : Nat} : varR i ρ (some (.v (T q p cs s))) = .ok (.r i) ρ := rfl
theorem lsR_Tv {q s : Int} {p : Nat} {cs : List Int} : lsR (some (.v (T q p cs s))) = some (.v (T q p cs s), TL q p cs s) := rfl
theorem TL_T {q s : Int} {p : Nat} {cs : List Int} : OT.ls (TL q p cs s) = T q p cs s := rfl
def isiW (ρ : Mo.Env) : Option Bool → Res Vl
  | some b => .ok (.d (.bool b)) ρ
  | none => .bad
theorem isiW_s {ρ : Mo.Env} {b : Bool} : isiW ρ (some b) = .ok (.d (.bool b)) ρ := rfl
def isiV (T : String) (ρ : Mo.Env) : Option PyData → Res Vl
  | some d => isiW ρ (isiD T d)
  | none => .bad
theorem isiV_s {T : String} {ρ : Mo.Env} {d : PyData} : isiV T ρ (some d) = isiW ρ (isiD T d) := rfl
theorem isiF_ap {T : String} {f : Mo.Env → Res Vl} {ρ : Mo.Env} : isiF T f ρ = (f ρ).bind fun x ρ1 => isiV T ρ1 (vw ρ1 x) := by
  unfold isiF
  refine bind_ext fun x ρ1 => ?_
  cases vw ρ1 x with
  | none => rfl
  | some d => show (match isiD T d with | some b => Res.ok (Vl.d (.bool b)) ρ1 | none => .bad) = isiW ρ1 (isiD T d); cases isiD T d <;> rfl
theorem it_i {x : Int} : isiD "tuple" (.int x) = some false := by show kitB "int" "tuple" = _; decide +kernel
theorem il_i {x : Int} : isiD "list" (.int x) = some false := by show kitB "int" "list" = _; decide +kernel
theorem ib_i {x : Int} : isiD "bool" (.int x) = some false := by show kitB "int" "bool" = _; decide +kernel
theorem ii_i {x : Int} : isiD "int" (.int x) = some true := by show kitB "int" "int" = _; decide +kernel
theorem it_t {xs : List PyData} : isiD "tuple" (.tuple xs) = some true := by show kitB "tuple" "tuple" = _; decide +kernel
theorem oNe_bb {x y : Bool} : oNe (.bool x) (.bool y) = some (.bool (!decide (x = y))) := by
  show some (PyData.bool (!(x == y))) = _
  cases x <;> cases y <;> rfl
theorem zip_self {xs : List PyData} {d : PyData} (h : d ∈ zipD xs xs) : ∃ x ∈ xs, d = .tuple [x, x] := by
  obtain ⟨i, hi, rfl⟩ := List.getElem_of_mem h
  obtain ⟨x, y, e1, e2, e⟩ := zipD_get (List.getElem?_eq_getElem hi)
  rw [e1] at e2
  cases e2
  exact ⟨x, List.mem_of_getElem? e1, e⟩

theorem call_draw {ρ : Mo.Env} {n k i : Nat} {t : OT} {fk : Mo.Env → Res Vl} (h : St n t) (hk : 0 < k) (hk2 : k ≤ 1000000) (hn : n ≤ 1000000) (e : ρ[i]? = some (.v t)) (hf : fk ρ = .ok (.d (.int (k : Int))) ρ) :
    ∃ (d : Nat) (t' : OT), d < k ∧ St (n + 1) t' ∧ callI cf_draw (consV true (varF i) (consV true fk nilV)) ρ = .ok (.d (.int (d : Int))) (ρ.set i (.v t')) := by
  obtain ⟨d, t', h1, h2, h3⟩ := draw_is h hk hk2 hn
  refine ⟨d, t', h1, h3, ?_⟩
  obtain ⟨q, p, cs, s, rfl, _⟩ := h
  simp -implicitDefEqProofs only [Mo.show_LS, Mo.view_LS, ↓Mo.bind_bn, ↓Mo.tos_tn, ↓Mo.sthen_sn, ↓Mo.sel_sl, Mo.bn_ok, Mo.bn_ex, Mo.tn_ok, Mo.tn_ex, Mo.sn_nx, Mo.sn_rt, Mo.sn_bk, Mo.sn_ct, Mo.sn_ex, Mo.sl_t, Mo.sl_f, Mo.vw_d, Mo.vw_w, Mo.vw_r, Mo.vwR_LS, Mo.vwR_io, Mo.vwR_lf, Mo.stays_d, Mo.stays_r, Mo.stays_t, Mo.varF_ap, Mo.varR_lf, Mo.varR_LS, Mo.varR_io, Mo.varR_ls, Mo.cF_ap, Mo.ofO_s, Mo.binV_s, Mo.bin2_ap, Mo.unV_s, Mo.un1_ap, Mo.fzE_d, Mo.fzE_r, Mo.fzR_LS, Mo.fzR_ls, Mo.fzs_n, Mo.fzs_c, Mo.vws_n, Mo.vws_c, Mo.vwsC_s, Mo.nilV_ap, Mo.stay1_t, Mo.consV_ap, Mo.okIf_T, Mo.tupF_ap, Mo.lstF_ap, Mo.frzO_ap, Mo.lfF_ap, Mo.callV_s, Mo.callF_ap, Mo.outV_r, Mo.outV_x, Mo.callD_ap, Mo.ixV_s, Mo.ixV_n, Mo.ixF_ap, Mo.noP_ap, Mo.intV_i, Mo.someP_ap, Mo.slV_s, Mo.slF_ap, Mo.boolV_b, Mo.boolF_ap, Mo.truW_s, Mo.truV_s, Mo.truF_ap, Mo.truD_b, Mo.truD_i, Mo.okB_ap, Mo.andF_ap, Mo.orF_ap, Mo.notF_ap, Mo.okV_ap, Mo.selV_b, Mo.andV_ap, Mo.orV_ap, Mo.ifF_ap, Mo.seqF_ap, Mo.nxF_ap, Mo.bkF_ap, Mo.retF_ap, Mo.exprF_ap, Mo.ofE_s, Mo.asgF_ap, Mo.asgE_ap, Mo.asgR_un, Mo.asgR_v, Mo.asgR_raw, Mo.setO_ap, Mo.ifS_ap, Mo.gNil_ap, Mo.nextE_s, Mo.gCons_ap, Mo.lsAt_ap, Mo.lsR_LS, Mo.lsR_io, Mo.lsR_ls, Mo.appF_ap, Mo.appG_s, Mo.appK_LS, Mo.okIf_le, Mo.okIf_lt, Mo.outS_nx, Mo.outS_rt, Mo.outS_ex, Mo.outI_rt, Mo.outI_nx, Mo.bTup_l, Mo.bTup_t, Mo.bInt_b, Mo.bInt_i, Mo.dropE_n, Mo.dropE_c, Mo.dropN_s, Mo.drop1R_un, Mo.drop1R_lf, Mo.restE_n, Mo.restE_c, Mo.restR_s, Mo.forF_ap, Mo.itV_s, Mo.itF_ap, Mo.argF_ap, Mo.items_l, Mo.items_t, Mo.yesF_ap, Mo.repO_ap, Mo.nilW_ap, Mo.consW_ap, Mo.parF_ap, Mo.parN_s, Mo.parE_n, Mo.parE_c, Mo.ioK_v, Mo.ioK_io, Mo.ioH_s, Mo.ioG_s, Mo.ioArg_r, Mo.joinF_ap, oAdd_i, oSub_i, oLt_i, oLe_i, oGt_i, oGe_i, oEq_i, oNe_i, len_S, List.getElem?_cons_zero, List.getElem?_cons_succ, List.set_cons_zero, List.set_cons_succ, List.map_cons, List.map_nil, List.replicate_succ, List.replicate_zero, List.cons_append, List.nil_append, List.length_cons, List.length_nil, Nat.reduceLeDiff, Nat.reduceAdd, Nat.reduceSub, Nat.zero_le, Nat.add_one_sub_one, Nat.sub_self, Nat.zero_add, decide_true, decide_false, Bool.not_true, Bool.not_false, Bool.and_self, Bool.true_and, Bool.and_true, callI_ap, e, varR_Tv, hf, lsR_Tv, TL_T, h2]
theorem call_draw_io {ρ : Mo.Env} {n k i : Nat} {t : OT} {fk : Mo.Env → Res Vl} (h : St n t) (hk : 0 < k) (hk2 : k ≤ 1000000) (hn : n ≤ 1000000) (e : ρ[i]? = some (.io t)) (hf : fk ρ = .ok (.d (.int (k : Int))) ρ) :
    ∃ (d : Nat) (t' : OT), d < k ∧ St (n + 1) t' ∧ callI cf_draw (consV true (varF i) (consV true fk nilV)) ρ = .ok (.d (.int (d : Int))) (ρ.set i (.io t')) := by
  obtain ⟨d, t', h1, h2, h3⟩ := draw_is h hk hk2 hn
  refine ⟨d, t', h1, h3, ?_⟩
  obtain ⟨q, p, cs, s, rfl, _⟩ := h
  simp -implicitDefEqProofs only [Mo.show_LS, Mo.view_LS, ↓Mo.bind_bn, ↓Mo.tos_tn, ↓Mo.sthen_sn, ↓Mo.sel_sl, Mo.bn_ok, Mo.bn_ex, Mo.tn_ok, Mo.tn_ex, Mo.sn_nx, Mo.sn_rt, Mo.sn_bk, Mo.sn_ct, Mo.sn_ex, Mo.sl_t, Mo.sl_f, Mo.vw_d, Mo.vw_w, Mo.vw_r, Mo.vwR_LS, Mo.vwR_io, Mo.vwR_lf, Mo.stays_d, Mo.stays_r, Mo.stays_t, Mo.varF_ap, Mo.varR_lf, Mo.varR_LS, Mo.varR_io, Mo.varR_ls, Mo.cF_ap, Mo.ofO_s, Mo.binV_s, Mo.bin2_ap, Mo.unV_s, Mo.un1_ap, Mo.fzE_d, Mo.fzE_r, Mo.fzR_LS, Mo.fzR_ls, Mo.fzs_n, Mo.fzs_c, Mo.vws_n, Mo.vws_c, Mo.vwsC_s, Mo.nilV_ap, Mo.stay1_t, Mo.consV_ap, Mo.okIf_T, Mo.tupF_ap, Mo.lstF_ap, Mo.frzO_ap, Mo.lfF_ap, Mo.callV_s, Mo.callF_ap, Mo.outV_r, Mo.outV_x, Mo.callD_ap, Mo.ixV_s, Mo.ixV_n, Mo.ixF_ap, Mo.noP_ap, Mo.intV_i, Mo.someP_ap, Mo.slV_s, Mo.slF_ap, Mo.boolV_b, Mo.boolF_ap, Mo.truW_s, Mo.truV_s, Mo.truF_ap, Mo.truD_b, Mo.truD_i, Mo.okB_ap, Mo.andF_ap, Mo.orF_ap, Mo.notF_ap, Mo.okV_ap, Mo.selV_b, Mo.andV_ap, Mo.orV_ap, Mo.ifF_ap, Mo.seqF_ap, Mo.nxF_ap, Mo.bkF_ap, Mo.retF_ap, Mo.exprF_ap, Mo.ofE_s, Mo.asgF_ap, Mo.asgE_ap, Mo.asgR_un, Mo.asgR_v, Mo.asgR_raw, Mo.setO_ap, Mo.ifS_ap, Mo.gNil_ap, Mo.nextE_s, Mo.gCons_ap, Mo.lsAt_ap, Mo.lsR_LS, Mo.lsR_io, Mo.lsR_ls, Mo.appF_ap, Mo.appG_s, Mo.appK_LS, Mo.okIf_le, Mo.okIf_lt, Mo.outS_nx, Mo.outS_rt, Mo.outS_ex, Mo.outI_rt, Mo.outI_nx, Mo.bTup_l, Mo.bTup_t, Mo.bInt_b, Mo.bInt_i, Mo.dropE_n, Mo.dropE_c, Mo.dropN_s, Mo.drop1R_un, Mo.drop1R_lf, Mo.restE_n, Mo.restE_c, Mo.restR_s, Mo.forF_ap, Mo.itV_s, Mo.itF_ap, Mo.argF_ap, Mo.items_l, Mo.items_t, Mo.yesF_ap, Mo.repO_ap, Mo.nilW_ap, Mo.consW_ap, Mo.parF_ap, Mo.parN_s, Mo.parE_n, Mo.parE_c, Mo.ioK_v, Mo.ioK_io, Mo.ioH_s, Mo.ioG_s, Mo.ioArg_r, Mo.joinF_ap, oAdd_i, oSub_i, oLt_i, oLe_i, oGt_i, oGe_i, oEq_i, oNe_i, len_S, List.getElem?_cons_zero, List.getElem?_cons_succ, List.set_cons_zero, List.set_cons_succ, List.map_cons, List.map_nil, List.replicate_succ, List.replicate_zero, List.cons_append, List.nil_append, List.length_cons, List.length_nil, Nat.reduceLeDiff, Nat.reduceAdd, Nat.reduceSub, Nat.zero_le, Nat.add_one_sub_one, Nat.sub_self, Nat.zero_add, decide_true, decide_false, Bool.not_true, Bool.not_false, Bool.and_self, Bool.true_and, Bool.and_true, callI_ap, e, varR_T, hf, lsR_T, TL_T, h2]
theorem St.more {n m : Nat} {t : OT} (h : St n t) (hm : n ≤ m) : St m t := by
  obtain ⟨q, p, cs, s, e, a1, a2, a3, a4⟩ := h
  exact ⟨q, p, cs, s, e, a1, by omega, a3, a4⟩
/-! ### a thing is alike itself -/
theorem il_t {xs : List PyData} : isiD "list" (.tuple xs) = some false := by show kitB "tuple" "list" = _; decide +kernel
theorem it_l {xs : List PyData} : isiD "tuple" (.list xs) = some false := by show kitB "list" "tuple" = _; decide +kernel
theorem il_l {xs : List PyData} : isiD "list" (.list xs) = some true := by show kitB "list" "list" = _; decide +kernel
theorem it_s {x : Str} : isiD "tuple" (.str x) = some false := by show kitB "str" "tuple" = _; decide +kernel
theorem il_s {x : Str} : isiD "list" (.str x) = some false := by show kitB "str" "list" = _; decide +kernel
theorem ib_s {x : Str} : isiD "bool" (.str x) = some false := by show kitB "str" "bool" = _; decide +kernel
theorem ii_s {x : Str} : isiD "int" (.str x) = some false := by show kitB "str" "int" = _; decide +kernel
theorem it_b {x : Bool} : isiD "tuple" (.bool x) = some false := by show kitB "bool" "tuple" = _; decide +kernel
theorem il_b {x : Bool} : isiD "list" (.bool x) = some false := by show kitB "bool" "list" = _; decide +kernel
theorem ib_b {x : Bool} : isiD "bool" (.bool x) = some true := by show kitB "bool" "bool" = _; decide +kernel
theorem ii_b {x : Bool} : isiD "int" (.bool x) = some true := by show kitB "bool" "int" = _; decide +kernel
theorem it_n : isiD "tuple" .none = some false := by show kitB "NoneType" "tuple" = _; decide +kernel
theorem il_n : isiD "list" .none = some false := by show kitB "NoneType" "list" = _; decide +kernel
theorem ib_n : isiD "bool" .none = some false := by show kitB "NoneType" "bool" = _; decide +kernel
theorem ii_n : isiD "int" .none = some false := by show kitB "NoneType" "int" = _; decide +kernel
theorem same_int (k : Nat) (x : Int) : cf_same_at (k + 1) [.int x, .int x] = .ret (.bool true) := by
  show funF 4 2 (cg_same (cf_same_at k)) [.int x, .int x] = _
  rw [funF_ap (N := 4) (n := 2) (g := cg_same (cf_same_at k)) (ds := [.int x, .int x]) rfl]
  unfold cg_same
  simp -implicitDefEqProofs only [Mo.show_LS, Mo.view_LS, ↓Mo.bind_bn, ↓Mo.tos_tn, ↓Mo.sthen_sn, ↓Mo.sel_sl, Mo.bn_ok, Mo.bn_ex, Mo.tn_ok, Mo.tn_ex, Mo.sn_nx, Mo.sn_rt, Mo.sn_bk, Mo.sn_ct, Mo.sn_ex, Mo.sl_t, Mo.sl_f, Mo.vw_d, Mo.vw_w, Mo.vw_r, Mo.vwR_LS, Mo.vwR_io, Mo.vwR_lf, Mo.stays_d, Mo.stays_r, Mo.stays_t, Mo.varF_ap, Mo.varR_lf, Mo.varR_LS, Mo.varR_io, Mo.varR_ls, Mo.cF_ap, Mo.ofO_s, Mo.binV_s, Mo.bin2_ap, Mo.unV_s, Mo.un1_ap, Mo.fzE_d, Mo.fzE_r, Mo.fzR_LS, Mo.fzR_ls, Mo.fzs_n, Mo.fzs_c, Mo.vws_n, Mo.vws_c, Mo.vwsC_s, Mo.nilV_ap, Mo.stay1_t, Mo.consV_ap, Mo.okIf_T, Mo.tupF_ap, Mo.lstF_ap, Mo.frzO_ap, Mo.lfF_ap, Mo.callV_s, Mo.callF_ap, Mo.outV_r, Mo.outV_x, Mo.callD_ap, Mo.ixV_s, Mo.ixV_n, Mo.ixF_ap, Mo.noP_ap, Mo.intV_i, Mo.someP_ap, Mo.slV_s, Mo.slF_ap, Mo.boolV_b, Mo.boolF_ap, Mo.truW_s, Mo.truV_s, Mo.truF_ap, Mo.truD_b, Mo.truD_i, Mo.okB_ap, Mo.andF_ap, Mo.orF_ap, Mo.notF_ap, Mo.okV_ap, Mo.selV_b, Mo.andV_ap, Mo.orV_ap, Mo.ifF_ap, Mo.seqF_ap, Mo.nxF_ap, Mo.bkF_ap, Mo.retF_ap, Mo.exprF_ap, Mo.ofE_s, Mo.asgF_ap, Mo.asgE_ap, Mo.asgR_un, Mo.asgR_v, Mo.asgR_raw, Mo.setO_ap, Mo.ifS_ap, Mo.gNil_ap, Mo.nextE_s, Mo.gCons_ap, Mo.lsAt_ap, Mo.lsR_LS, Mo.lsR_io, Mo.lsR_ls, Mo.appF_ap, Mo.appG_s, Mo.appK_LS, Mo.okIf_le, Mo.okIf_lt, Mo.outS_nx, Mo.outS_rt, Mo.outS_ex, Mo.outI_rt, Mo.outI_nx, Mo.bTup_l, Mo.bTup_t, Mo.bInt_b, Mo.bInt_i, Mo.dropE_n, Mo.dropE_c, Mo.dropN_s, Mo.drop1R_un, Mo.drop1R_lf, Mo.restE_n, Mo.restE_c, Mo.restR_s, Mo.forF_ap, Mo.itV_s, Mo.itF_ap, Mo.argF_ap, Mo.items_l, Mo.items_t, Mo.yesF_ap, Mo.repO_ap, Mo.nilW_ap, Mo.consW_ap, Mo.parF_ap, Mo.parN_s, Mo.parE_n, Mo.parE_c, Mo.ioK_v, Mo.ioK_io, Mo.ioH_s, Mo.ioG_s, Mo.ioArg_r, Mo.joinF_ap, oAdd_i, oSub_i, oLt_i, oLe_i, oGt_i, oGe_i, oEq_i, oNe_i, len_S, List.getElem?_cons_zero, List.getElem?_cons_succ, List.set_cons_zero, List.set_cons_succ, List.map_cons, List.map_nil, List.replicate_succ, List.replicate_zero, List.cons_append, List.nil_append, List.length_cons, List.length_nil, Nat.reduceLeDiff, Nat.reduceAdd, Nat.reduceSub, Nat.zero_le, Nat.add_one_sub_one, Nat.sub_self, Nat.zero_add, decide_true, decide_false, Bool.not_true, Bool.not_false, Bool.and_self, Bool.true_and, Bool.and_true, isiF_ap, isiV_s, isiW_s, it_i, il_i, ib_i, ii_i, oNe_bb]
theorem same_str (k : Nat) {x : Str} (h : PyData.strOk x = true) : cf_same_at (k + 1) [.str x, .str x] = .ret (.bool true) := by
  have eq1 : oEq (.str x) (.str x) = some (.bool true) := by
    have sh : SeqAt.shaped (.str x) = true := by
      show (PyData.strOk x && decide (PyData.depth (.str x) ≤ 64)) = true
      rw [h]; rfl
    unfold oEq
    rw [if_pos ⟨sh, sh, rfl, rfl⟩]
    have : PyData.eqv (.str x) (.str x) = true := by show decide (x = x) = true; exact decide_eq_true rfl
    rw [this]
  show funF 4 2 (cg_same (cf_same_at k)) [.str x, .str x] = _
  rw [funF_ap (N := 4) (n := 2) (g := cg_same (cf_same_at k)) (ds := [.str x, .str x]) rfl]
  unfold cg_same
  simp -implicitDefEqProofs only [Mo.show_LS, Mo.view_LS, ↓Mo.bind_bn, ↓Mo.tos_tn, ↓Mo.sthen_sn, ↓Mo.sel_sl, Mo.bn_ok, Mo.bn_ex, Mo.tn_ok, Mo.tn_ex, Mo.sn_nx, Mo.sn_rt, Mo.sn_bk, Mo.sn_ct, Mo.sn_ex, Mo.sl_t, Mo.sl_f, Mo.vw_d, Mo.vw_w, Mo.vw_r, Mo.vwR_LS, Mo.vwR_io, Mo.vwR_lf, Mo.stays_d, Mo.stays_r, Mo.stays_t, Mo.varF_ap, Mo.varR_lf, Mo.varR_LS, Mo.varR_io, Mo.varR_ls, Mo.cF_ap, Mo.ofO_s, Mo.binV_s, Mo.bin2_ap, Mo.unV_s, Mo.un1_ap, Mo.fzE_d, Mo.fzE_r, Mo.fzR_LS, Mo.fzR_ls, Mo.fzs_n, Mo.fzs_c, Mo.vws_n, Mo.vws_c, Mo.vwsC_s, Mo.nilV_ap, Mo.stay1_t, Mo.consV_ap, Mo.okIf_T, Mo.tupF_ap, Mo.lstF_ap, Mo.frzO_ap, Mo.lfF_ap, Mo.callV_s, Mo.callF_ap, Mo.outV_r, Mo.outV_x, Mo.callD_ap, Mo.ixV_s, Mo.ixV_n, Mo.ixF_ap, Mo.noP_ap, Mo.intV_i, Mo.someP_ap, Mo.slV_s, Mo.slF_ap, Mo.boolV_b, Mo.boolF_ap, Mo.truW_s, Mo.truV_s, Mo.truF_ap, Mo.truD_b, Mo.truD_i, Mo.okB_ap, Mo.andF_ap, Mo.orF_ap, Mo.notF_ap, Mo.okV_ap, Mo.selV_b, Mo.andV_ap, Mo.orV_ap, Mo.ifF_ap, Mo.seqF_ap, Mo.nxF_ap, Mo.bkF_ap, Mo.retF_ap, Mo.exprF_ap, Mo.ofE_s, Mo.asgF_ap, Mo.asgE_ap, Mo.asgR_un, Mo.asgR_v, Mo.asgR_raw, Mo.setO_ap, Mo.ifS_ap, Mo.gNil_ap, Mo.nextE_s, Mo.gCons_ap, Mo.lsAt_ap, Mo.lsR_LS, Mo.lsR_io, Mo.lsR_ls, Mo.appF_ap, Mo.appG_s, Mo.appK_LS, Mo.okIf_le, Mo.okIf_lt, Mo.outS_nx, Mo.outS_rt, Mo.outS_ex, Mo.outI_rt, Mo.outI_nx, Mo.bTup_l, Mo.bTup_t, Mo.bInt_b, Mo.bInt_i, Mo.dropE_n, Mo.dropE_c, Mo.dropN_s, Mo.drop1R_un, Mo.drop1R_lf, Mo.restE_n, Mo.restE_c, Mo.restR_s, Mo.forF_ap, Mo.itV_s, Mo.itF_ap, Mo.argF_ap, Mo.items_l, Mo.items_t, Mo.yesF_ap, Mo.repO_ap, Mo.nilW_ap, Mo.consW_ap, Mo.parF_ap, Mo.parN_s, Mo.parE_n, Mo.parE_c, Mo.ioK_v, Mo.ioK_io, Mo.ioH_s, Mo.ioG_s, Mo.ioArg_r, Mo.joinF_ap, oAdd_i, oSub_i, oLt_i, oLe_i, oGt_i, oGe_i, oEq_i, oNe_i, len_S, List.getElem?_cons_zero, List.getElem?_cons_succ, List.set_cons_zero, List.set_cons_succ, List.map_cons, List.map_nil, List.replicate_succ, List.replicate_zero, List.cons_append, List.nil_append, List.length_cons, List.length_nil, Nat.reduceLeDiff, Nat.reduceAdd, Nat.reduceSub, Nat.zero_le, Nat.add_one_sub_one, Nat.sub_self, Nat.zero_add, decide_true, decide_false, Bool.not_true, Bool.not_false, Bool.and_self, Bool.true_and, Bool.and_true, isiF_ap, isiV_s, isiW_s, it_s, il_s, ib_s, ii_s, oNe_bb, eq1]
theorem same_bool (k : Nat) (x : Bool) : cf_same_at (k + 1) [.bool x, .bool x] = .ret (.bool true) := by
  have eq1 : oEq (.bool x) (.bool x) = some (.bool true) := by cases x <;> rfl
  show funF 4 2 (cg_same (cf_same_at k)) [.bool x, .bool x] = _
  rw [funF_ap (N := 4) (n := 2) (g := cg_same (cf_same_at k)) (ds := [.bool x, .bool x]) rfl]
  unfold cg_same
  simp -implicitDefEqProofs only [Mo.show_LS, Mo.view_LS, ↓Mo.bind_bn, ↓Mo.tos_tn, ↓Mo.sthen_sn, ↓Mo.sel_sl, Mo.bn_ok, Mo.bn_ex, Mo.tn_ok, Mo.tn_ex, Mo.sn_nx, Mo.sn_rt, Mo.sn_bk, Mo.sn_ct, Mo.sn_ex, Mo.sl_t, Mo.sl_f, Mo.vw_d, Mo.vw_w, Mo.vw_r, Mo.vwR_LS, Mo.vwR_io, Mo.vwR_lf, Mo.stays_d, Mo.stays_r, Mo.stays_t, Mo.varF_ap, Mo.varR_lf, Mo.varR_LS, Mo.varR_io, Mo.varR_ls, Mo.cF_ap, Mo.ofO_s, Mo.binV_s, Mo.bin2_ap, Mo.unV_s, Mo.un1_ap, Mo.fzE_d, Mo.fzE_r, Mo.fzR_LS, Mo.fzR_ls, Mo.fzs_n, Mo.fzs_c, Mo.vws_n, Mo.vws_c, Mo.vwsC_s, Mo.nilV_ap, Mo.stay1_t, Mo.consV_ap, Mo.okIf_T, Mo.tupF_ap, Mo.lstF_ap, Mo.frzO_ap, Mo.lfF_ap, Mo.callV_s, Mo.callF_ap, Mo.outV_r, Mo.outV_x, Mo.callD_ap, Mo.ixV_s, Mo.ixV_n, Mo.ixF_ap, Mo.noP_ap, Mo.intV_i, Mo.someP_ap, Mo.slV_s, Mo.slF_ap, Mo.boolV_b, Mo.boolF_ap, Mo.truW_s, Mo.truV_s, Mo.truF_ap, Mo.truD_b, Mo.truD_i, Mo.okB_ap, Mo.andF_ap, Mo.orF_ap, Mo.notF_ap, Mo.okV_ap, Mo.selV_b, Mo.andV_ap, Mo.orV_ap, Mo.ifF_ap, Mo.seqF_ap, Mo.nxF_ap, Mo.bkF_ap, Mo.retF_ap, Mo.exprF_ap, Mo.ofE_s, Mo.asgF_ap, Mo.asgE_ap, Mo.asgR_un, Mo.asgR_v, Mo.asgR_raw, Mo.setO_ap, Mo.ifS_ap, Mo.gNil_ap, Mo.nextE_s, Mo.gCons_ap, Mo.lsAt_ap, Mo.lsR_LS, Mo.lsR_io, Mo.lsR_ls, Mo.appF_ap, Mo.appG_s, Mo.appK_LS, Mo.okIf_le, Mo.okIf_lt, Mo.outS_nx, Mo.outS_rt, Mo.outS_ex, Mo.outI_rt, Mo.outI_nx, Mo.bTup_l, Mo.bTup_t, Mo.bInt_b, Mo.bInt_i, Mo.dropE_n, Mo.dropE_c, Mo.dropN_s, Mo.drop1R_un, Mo.drop1R_lf, Mo.restE_n, Mo.restE_c, Mo.restR_s, Mo.forF_ap, Mo.itV_s, Mo.itF_ap, Mo.argF_ap, Mo.items_l, Mo.items_t, Mo.yesF_ap, Mo.repO_ap, Mo.nilW_ap, Mo.consW_ap, Mo.parF_ap, Mo.parN_s, Mo.parE_n, Mo.parE_c, Mo.ioK_v, Mo.ioK_io, Mo.ioH_s, Mo.ioG_s, Mo.ioArg_r, Mo.joinF_ap, oAdd_i, oSub_i, oLt_i, oLe_i, oGt_i, oGe_i, oEq_i, oNe_i, len_S, List.getElem?_cons_zero, List.getElem?_cons_succ, List.set_cons_zero, List.set_cons_succ, List.map_cons, List.map_nil, List.replicate_succ, List.replicate_zero, List.cons_append, List.nil_append, List.length_cons, List.length_nil, Nat.reduceLeDiff, Nat.reduceAdd, Nat.reduceSub, Nat.zero_le, Nat.add_one_sub_one, Nat.sub_self, Nat.zero_add, decide_true, decide_false, Bool.not_true, Bool.not_false, Bool.and_self, Bool.true_and, Bool.and_true, isiF_ap, isiV_s, isiW_s, it_b, il_b, ib_b, ii_b, oNe_bb, eq1]
theorem same_none (k : Nat) : cf_same_at (k + 1) [.none, .none] = .ret (.bool true) := by
  have eq1 : oEq .none .none = some (.bool true) := rfl
  show funF 4 2 (cg_same (cf_same_at k)) [.none, .none] = _
  rw [funF_ap (N := 4) (n := 2) (g := cg_same (cf_same_at k)) (ds := [.none, .none]) rfl]
  unfold cg_same
  simp -implicitDefEqProofs only [Mo.show_LS, Mo.view_LS, ↓Mo.bind_bn, ↓Mo.tos_tn, ↓Mo.sthen_sn, ↓Mo.sel_sl, Mo.bn_ok, Mo.bn_ex, Mo.tn_ok, Mo.tn_ex, Mo.sn_nx, Mo.sn_rt, Mo.sn_bk, Mo.sn_ct, Mo.sn_ex, Mo.sl_t, Mo.sl_f, Mo.vw_d, Mo.vw_w, Mo.vw_r, Mo.vwR_LS, Mo.vwR_io, Mo.vwR_lf, Mo.stays_d, Mo.stays_r, Mo.stays_t, Mo.varF_ap, Mo.varR_lf, Mo.varR_LS, Mo.varR_io, Mo.varR_ls, Mo.cF_ap, Mo.ofO_s, Mo.binV_s, Mo.bin2_ap, Mo.unV_s, Mo.un1_ap, Mo.fzE_d, Mo.fzE_r, Mo.fzR_LS, Mo.fzR_ls, Mo.fzs_n, Mo.fzs_c, Mo.vws_n, Mo.vws_c, Mo.vwsC_s, Mo.nilV_ap, Mo.stay1_t, Mo.consV_ap, Mo.okIf_T, Mo.tupF_ap, Mo.lstF_ap, Mo.frzO_ap, Mo.lfF_ap, Mo.callV_s, Mo.callF_ap, Mo.outV_r, Mo.outV_x, Mo.callD_ap, Mo.ixV_s, Mo.ixV_n, Mo.ixF_ap, Mo.noP_ap, Mo.intV_i, Mo.someP_ap, Mo.slV_s, Mo.slF_ap, Mo.boolV_b, Mo.boolF_ap, Mo.truW_s, Mo.truV_s, Mo.truF_ap, Mo.truD_b, Mo.truD_i, Mo.okB_ap, Mo.andF_ap, Mo.orF_ap, Mo.notF_ap, Mo.okV_ap, Mo.selV_b, Mo.andV_ap, Mo.orV_ap, Mo.ifF_ap, Mo.seqF_ap, Mo.nxF_ap, Mo.bkF_ap, Mo.retF_ap, Mo.exprF_ap, Mo.ofE_s, Mo.asgF_ap, Mo.asgE_ap, Mo.asgR_un, Mo.asgR_v, Mo.asgR_raw, Mo.setO_ap, Mo.ifS_ap, Mo.gNil_ap, Mo.nextE_s, Mo.gCons_ap, Mo.lsAt_ap, Mo.lsR_LS, Mo.lsR_io, Mo.lsR_ls, Mo.appF_ap, Mo.appG_s, Mo.appK_LS, Mo.okIf_le, Mo.okIf_lt, Mo.outS_nx, Mo.outS_rt, Mo.outS_ex, Mo.outI_rt, Mo.outI_nx, Mo.bTup_l, Mo.bTup_t, Mo.bInt_b, Mo.bInt_i, Mo.dropE_n, Mo.dropE_c, Mo.dropN_s, Mo.drop1R_un, Mo.drop1R_lf, Mo.restE_n, Mo.restE_c, Mo.restR_s, Mo.forF_ap, Mo.itV_s, Mo.itF_ap, Mo.argF_ap, Mo.items_l, Mo.items_t, Mo.yesF_ap, Mo.repO_ap, Mo.nilW_ap, Mo.consW_ap, Mo.parF_ap, Mo.parN_s, Mo.parE_n, Mo.parE_c, Mo.ioK_v, Mo.ioK_io, Mo.ioH_s, Mo.ioG_s, Mo.ioArg_r, Mo.joinF_ap, oAdd_i, oSub_i, oLt_i, oLe_i, oGt_i, oGe_i, oEq_i, oNe_i, len_S, List.getElem?_cons_zero, List.getElem?_cons_succ, List.set_cons_zero, List.set_cons_succ, List.map_cons, List.map_nil, List.replicate_succ, List.replicate_zero, List.cons_append, List.nil_append, List.length_cons, List.length_nil, Nat.reduceLeDiff, Nat.reduceAdd, Nat.reduceSub, Nat.zero_le, Nat.add_one_sub_one, Nat.sub_self, Nat.zero_add, decide_true, decide_false, Bool.not_true, Bool.not_false, Bool.and_self, Bool.true_and, Bool.and_true, isiF_ap, isiV_s, isiW_s, it_n, il_n, ib_n, ii_n, oNe_bb, eq1]
theorem same_tup (k : Nat) {xs : List PyData} (hl : xs.length ≤ 1000000) (h : ∀ x ∈ xs, cf_same_at k [x, x] = .ret (.bool true)) : cf_same_at (k + 1) [.tuple xs, .tuple xs] = .ret (.bool true) := by
  show funF 4 2 (cg_same (cf_same_at k)) [.tuple xs, .tuple xs] = _
  rw [funF_ap (N := 4) (n := 2) (g := cg_same (cf_same_at k)) (ds := [.tuple xs, .tuple xs]) rfl]
  have st : (List.map (fun d => Slot.v (OT.lf d)) [PyData.tuple xs, .tuple xs] ++ List.replicate (4 - 2) Slot.un) = [.v (.lf (.tuple xs)), .v (.lf (.tuple xs)), .un, .un] := rfl
  rw [st]
  have hc : compF [2, 3] (argF zip2 (consV true (varF 0) (consV true (varF 1) nilV))) (unpE 2 (gConsE (asgE 2) (gConsE (asgE 3) gNilE))) (notF (truF (callD (cf_same_at k) (consV true (varF 2) (consV true (varF 3) nilV))))) (lfF (cF (.int 1))) [.v (.lf (.tuple xs)), .v (.lf (.tuple xs)), .un, .un] = .ok (LS []) [.v (.lf (.tuple xs)), .v (.lf (.tuple xs)), .un, .un] := by
    refine (compF_is (items := zipD xs xs) (ρ1 := [.v (.lf (.tuple xs)), .v (.lf (.tuple xs)), .un, .un]) (ρb := [.v (.lf (.tuple xs)), .v (.lf (.tuple xs)), .un, .un]) (ρ2 := [.v (.lf (.tuple xs)), .v (.lf (.tuple xs)), .un, .un]) (acc := []) ?_ rfl ?_).trans ?_
    · rfl
    · have := compGo_filter (ρ := [.v (.lf (.tuple xs)), .v (.lf (.tuple xs)), .un, .un]) (vs := [2, 3]) (tg := unpE 2 (gConsE (asgE 2) (gConsE (asgE 3) gNilE))) (tt := notF (truF (callD (cf_same_at k) (consV true (varF 2) (consV true (varF 3) nilV))))) (te := lfF (cF (.int 1))) (fun _ => .lf .none) (fun _ => false) (items := zipD xs xs) (acc := []) (fun d hd => ?_) ?_
      · have nf : ∀ l : List PyData, l.filter (fun _ => false) = [] := fun l => List.filter_eq_nil_iff.mpr fun _ _ => Bool.false_ne_true
        rw [nf] at this
        exact this
      · obtain ⟨x, hx, rfl⟩ := zip_self hd
        have e := h x hx
        refine ⟨[.v (.lf (.tuple xs)), .v (.lf (.tuple xs)), .v (.lf x), .v (.lf x)], [.v (.lf (.tuple xs)), .v (.lf (.tuple xs)), .v (.lf x), .v (.lf x)], rfl, ?_, ?_⟩
        · simp -implicitDefEqProofs only [Mo.show_LS, Mo.view_LS, ↓Mo.bind_bn, ↓Mo.tos_tn, ↓Mo.sthen_sn, ↓Mo.sel_sl, Mo.bn_ok, Mo.bn_ex, Mo.tn_ok, Mo.tn_ex, Mo.sn_nx, Mo.sn_rt, Mo.sn_bk, Mo.sn_ct, Mo.sn_ex, Mo.sl_t, Mo.sl_f, Mo.vw_d, Mo.vw_w, Mo.vw_r, Mo.vwR_LS, Mo.vwR_io, Mo.vwR_lf, Mo.stays_d, Mo.stays_r, Mo.stays_t, Mo.varF_ap, Mo.varR_lf, Mo.varR_LS, Mo.varR_io, Mo.varR_ls, Mo.cF_ap, Mo.ofO_s, Mo.binV_s, Mo.bin2_ap, Mo.unV_s, Mo.un1_ap, Mo.fzE_d, Mo.fzE_r, Mo.fzR_LS, Mo.fzR_ls, Mo.fzs_n, Mo.fzs_c, Mo.vws_n, Mo.vws_c, Mo.vwsC_s, Mo.nilV_ap, Mo.stay1_t, Mo.consV_ap, Mo.okIf_T, Mo.tupF_ap, Mo.lstF_ap, Mo.frzO_ap, Mo.lfF_ap, Mo.callV_s, Mo.callF_ap, Mo.outV_r, Mo.outV_x, Mo.callD_ap, Mo.ixV_s, Mo.ixV_n, Mo.ixF_ap, Mo.noP_ap, Mo.intV_i, Mo.someP_ap, Mo.slV_s, Mo.slF_ap, Mo.boolV_b, Mo.boolF_ap, Mo.truW_s, Mo.truV_s, Mo.truF_ap, Mo.truD_b, Mo.truD_i, Mo.okB_ap, Mo.andF_ap, Mo.orF_ap, Mo.notF_ap, Mo.okV_ap, Mo.selV_b, Mo.andV_ap, Mo.orV_ap, Mo.ifF_ap, Mo.seqF_ap, Mo.nxF_ap, Mo.bkF_ap, Mo.retF_ap, Mo.exprF_ap, Mo.ofE_s, Mo.asgF_ap, Mo.asgE_ap, Mo.asgR_un, Mo.asgR_v, Mo.asgR_raw, Mo.setO_ap, Mo.ifS_ap, Mo.gNil_ap, Mo.nextE_s, Mo.gCons_ap, Mo.lsAt_ap, Mo.lsR_LS, Mo.lsR_io, Mo.lsR_ls, Mo.appF_ap, Mo.appG_s, Mo.appK_LS, Mo.okIf_le, Mo.okIf_lt, Mo.outS_nx, Mo.outS_rt, Mo.outS_ex, Mo.outI_rt, Mo.outI_nx, Mo.bTup_l, Mo.bTup_t, Mo.bInt_b, Mo.bInt_i, Mo.dropE_n, Mo.dropE_c, Mo.dropN_s, Mo.drop1R_un, Mo.drop1R_lf, Mo.restE_n, Mo.restE_c, Mo.restR_s, Mo.forF_ap, Mo.itV_s, Mo.itF_ap, Mo.argF_ap, Mo.items_l, Mo.items_t, Mo.yesF_ap, Mo.repO_ap, Mo.nilW_ap, Mo.consW_ap, Mo.parF_ap, Mo.parN_s, Mo.parE_n, Mo.parE_c, Mo.ioK_v, Mo.ioK_io, Mo.ioH_s, Mo.ioG_s, Mo.ioArg_r, Mo.joinF_ap, oAdd_i, oSub_i, oLt_i, oLe_i, oGt_i, oGe_i, oEq_i, oNe_i, len_S, List.getElem?_cons_zero, List.getElem?_cons_succ, List.set_cons_zero, List.set_cons_succ, List.map_cons, List.map_nil, List.replicate_succ, List.replicate_zero, List.cons_append, List.nil_append, List.length_cons, List.length_nil, Nat.reduceLeDiff, Nat.reduceAdd, Nat.reduceSub, Nat.zero_le, Nat.add_one_sub_one, Nat.sub_self, Nat.zero_add, decide_true, decide_false, Bool.not_true, Bool.not_false, Bool.and_self, Bool.true_and, Bool.and_true, e]
        · rw [if_neg Bool.false_ne_true]
          rfl
      · have : (zipD xs xs).length = xs.length := by simp [zipD]
        rw [this]
        show 0 + xs.length ≤ 2 ^ 24
        omega
    · rfl
  have bl : bLen [.tuple xs] = some (.int (xs.length : Int)) := rfl
  have v0 : (LS []).view = .list [] := rfl
  have eqn : oEq (.list []) (.list []) = some (.bool true) := rfl
  unfold cg_same
  rw [seqF_ap, ifS_ap]
  have test : orF (andF (truF (isiF "tuple" (varF 0))) (truF (isiF "tuple" (varF 1)))) (andF (truF (isiF "list" (varF 0))) (truF (isiF "list" (varF 1)))) [.v (.lf (.tuple xs)), .v (.lf (.tuple xs)), .un, .un] = .ok true [.v (.lf (.tuple xs)), .v (.lf (.tuple xs)), .un, .un] := by
    simp -implicitDefEqProofs only [Mo.show_LS, Mo.view_LS, ↓Mo.bind_bn, ↓Mo.tos_tn, ↓Mo.sthen_sn, ↓Mo.sel_sl, Mo.bn_ok, Mo.bn_ex, Mo.tn_ok, Mo.tn_ex, Mo.sn_nx, Mo.sn_rt, Mo.sn_bk, Mo.sn_ct, Mo.sn_ex, Mo.sl_t, Mo.sl_f, Mo.vw_d, Mo.vw_w, Mo.vw_r, Mo.vwR_LS, Mo.vwR_io, Mo.vwR_lf, Mo.stays_d, Mo.stays_r, Mo.stays_t, Mo.varF_ap, Mo.varR_lf, Mo.varR_LS, Mo.varR_io, Mo.varR_ls, Mo.cF_ap, Mo.ofO_s, Mo.binV_s, Mo.bin2_ap, Mo.unV_s, Mo.un1_ap, Mo.fzE_d, Mo.fzE_r, Mo.fzR_LS, Mo.fzR_ls, Mo.fzs_n, Mo.fzs_c, Mo.vws_n, Mo.vws_c, Mo.vwsC_s, Mo.nilV_ap, Mo.stay1_t, Mo.consV_ap, Mo.okIf_T, Mo.tupF_ap, Mo.lstF_ap, Mo.frzO_ap, Mo.lfF_ap, Mo.callV_s, Mo.callF_ap, Mo.outV_r, Mo.outV_x, Mo.callD_ap, Mo.ixV_s, Mo.ixV_n, Mo.ixF_ap, Mo.noP_ap, Mo.intV_i, Mo.someP_ap, Mo.slV_s, Mo.slF_ap, Mo.boolV_b, Mo.boolF_ap, Mo.truW_s, Mo.truV_s, Mo.truF_ap, Mo.truD_b, Mo.truD_i, Mo.okB_ap, Mo.andF_ap, Mo.orF_ap, Mo.notF_ap, Mo.okV_ap, Mo.selV_b, Mo.andV_ap, Mo.orV_ap, Mo.ifF_ap, Mo.seqF_ap, Mo.nxF_ap, Mo.bkF_ap, Mo.retF_ap, Mo.exprF_ap, Mo.ofE_s, Mo.asgF_ap, Mo.asgE_ap, Mo.asgR_un, Mo.asgR_v, Mo.asgR_raw, Mo.setO_ap, Mo.ifS_ap, Mo.gNil_ap, Mo.nextE_s, Mo.gCons_ap, Mo.lsAt_ap, Mo.lsR_LS, Mo.lsR_io, Mo.lsR_ls, Mo.appF_ap, Mo.appG_s, Mo.appK_LS, Mo.okIf_le, Mo.okIf_lt, Mo.outS_nx, Mo.outS_rt, Mo.outS_ex, Mo.outI_rt, Mo.outI_nx, Mo.bTup_l, Mo.bTup_t, Mo.bInt_b, Mo.bInt_i, Mo.dropE_n, Mo.dropE_c, Mo.dropN_s, Mo.drop1R_un, Mo.drop1R_lf, Mo.restE_n, Mo.restE_c, Mo.restR_s, Mo.forF_ap, Mo.itV_s, Mo.itF_ap, Mo.argF_ap, Mo.items_l, Mo.items_t, Mo.yesF_ap, Mo.repO_ap, Mo.nilW_ap, Mo.consW_ap, Mo.parF_ap, Mo.parN_s, Mo.parE_n, Mo.parE_c, Mo.ioK_v, Mo.ioK_io, Mo.ioH_s, Mo.ioG_s, Mo.ioArg_r, Mo.joinF_ap, oAdd_i, oSub_i, oLt_i, oLe_i, oGt_i, oGe_i, oEq_i, oNe_i, len_S, List.getElem?_cons_zero, List.getElem?_cons_succ, List.set_cons_zero, List.set_cons_succ, List.map_cons, List.map_nil, List.replicate_succ, List.replicate_zero, List.cons_append, List.nil_append, List.length_cons, List.length_nil, Nat.reduceLeDiff, Nat.reduceAdd, Nat.reduceSub, Nat.zero_le, Nat.add_one_sub_one, Nat.sub_self, Nat.zero_add, decide_true, decide_false, Bool.not_true, Bool.not_false, Bool.and_self, Bool.true_and, Bool.and_true, isiF_ap, isiV_s, isiW_s, it_t]
  have first : bin2 true oEq (callF bLen (consV true (varF 0) nilV)) (callF bLen (consV true (varF 1) nilV)) [.v (.lf (.tuple xs)), .v (.lf (.tuple xs)), .un, .un] = .ok (.d (.bool true)) [.v (.lf (.tuple xs)), .v (.lf (.tuple xs)), .un, .un] := by
    simp -implicitDefEqProofs only [Mo.show_LS, Mo.view_LS, ↓Mo.bind_bn, ↓Mo.tos_tn, ↓Mo.sthen_sn, ↓Mo.sel_sl, Mo.bn_ok, Mo.bn_ex, Mo.tn_ok, Mo.tn_ex, Mo.sn_nx, Mo.sn_rt, Mo.sn_bk, Mo.sn_ct, Mo.sn_ex, Mo.sl_t, Mo.sl_f, Mo.vw_d, Mo.vw_w, Mo.vw_r, Mo.vwR_LS, Mo.vwR_io, Mo.vwR_lf, Mo.stays_d, Mo.stays_r, Mo.stays_t, Mo.varF_ap, Mo.varR_lf, Mo.varR_LS, Mo.varR_io, Mo.varR_ls, Mo.cF_ap, Mo.ofO_s, Mo.binV_s, Mo.bin2_ap, Mo.unV_s, Mo.un1_ap, Mo.fzE_d, Mo.fzE_r, Mo.fzR_LS, Mo.fzR_ls, Mo.fzs_n, Mo.fzs_c, Mo.vws_n, Mo.vws_c, Mo.vwsC_s, Mo.nilV_ap, Mo.stay1_t, Mo.consV_ap, Mo.okIf_T, Mo.tupF_ap, Mo.lstF_ap, Mo.frzO_ap, Mo.lfF_ap, Mo.callV_s, Mo.callF_ap, Mo.outV_r, Mo.outV_x, Mo.callD_ap, Mo.ixV_s, Mo.ixV_n, Mo.ixF_ap, Mo.noP_ap, Mo.intV_i, Mo.someP_ap, Mo.slV_s, Mo.slF_ap, Mo.boolV_b, Mo.boolF_ap, Mo.truW_s, Mo.truV_s, Mo.truF_ap, Mo.truD_b, Mo.truD_i, Mo.okB_ap, Mo.andF_ap, Mo.orF_ap, Mo.notF_ap, Mo.okV_ap, Mo.selV_b, Mo.andV_ap, Mo.orV_ap, Mo.ifF_ap, Mo.seqF_ap, Mo.nxF_ap, Mo.bkF_ap, Mo.retF_ap, Mo.exprF_ap, Mo.ofE_s, Mo.asgF_ap, Mo.asgE_ap, Mo.asgR_un, Mo.asgR_v, Mo.asgR_raw, Mo.setO_ap, Mo.ifS_ap, Mo.gNil_ap, Mo.nextE_s, Mo.gCons_ap, Mo.lsAt_ap, Mo.lsR_LS, Mo.lsR_io, Mo.lsR_ls, Mo.appF_ap, Mo.appG_s, Mo.appK_LS, Mo.okIf_le, Mo.okIf_lt, Mo.outS_nx, Mo.outS_rt, Mo.outS_ex, Mo.outI_rt, Mo.outI_nx, Mo.bTup_l, Mo.bTup_t, Mo.bInt_b, Mo.bInt_i, Mo.dropE_n, Mo.dropE_c, Mo.dropN_s, Mo.drop1R_un, Mo.drop1R_lf, Mo.restE_n, Mo.restE_c, Mo.restR_s, Mo.forF_ap, Mo.itV_s, Mo.itF_ap, Mo.argF_ap, Mo.items_l, Mo.items_t, Mo.yesF_ap, Mo.repO_ap, Mo.nilW_ap, Mo.consW_ap, Mo.parF_ap, Mo.parN_s, Mo.parE_n, Mo.parE_c, Mo.ioK_v, Mo.ioK_io, Mo.ioH_s, Mo.ioG_s, Mo.ioArg_r, Mo.joinF_ap, oAdd_i, oSub_i, oLt_i, oLe_i, oGt_i, oGe_i, oEq_i, oNe_i, len_S, List.getElem?_cons_zero, List.getElem?_cons_succ, List.set_cons_zero, List.set_cons_succ, List.map_cons, List.map_nil, List.replicate_succ, List.replicate_zero, List.cons_append, List.nil_append, List.length_cons, List.length_nil, Nat.reduceLeDiff, Nat.reduceAdd, Nat.reduceSub, Nat.zero_le, Nat.add_one_sub_one, Nat.sub_self, Nat.zero_add, decide_true, decide_false, Bool.not_true, Bool.not_false, Bool.and_self, Bool.true_and, Bool.and_true, bl]
  rw [test, tos_ok, sel_t, retF_ap, andV_ap, first, bind_ok, selV_b, sel_t, bin2_ap, frzO_ap, hc]
  simp -implicitDefEqProofs only [Mo.show_LS, Mo.view_LS, ↓Mo.bind_bn, ↓Mo.tos_tn, ↓Mo.sthen_sn, ↓Mo.sel_sl, Mo.bn_ok, Mo.bn_ex, Mo.tn_ok, Mo.tn_ex, Mo.sn_nx, Mo.sn_rt, Mo.sn_bk, Mo.sn_ct, Mo.sn_ex, Mo.sl_t, Mo.sl_f, Mo.vw_d, Mo.vw_w, Mo.vw_r, Mo.vwR_LS, Mo.vwR_io, Mo.vwR_lf, Mo.stays_d, Mo.stays_r, Mo.stays_t, Mo.varF_ap, Mo.varR_lf, Mo.varR_LS, Mo.varR_io, Mo.varR_ls, Mo.cF_ap, Mo.ofO_s, Mo.binV_s, Mo.bin2_ap, Mo.unV_s, Mo.un1_ap, Mo.fzE_d, Mo.fzE_r, Mo.fzR_LS, Mo.fzR_ls, Mo.fzs_n, Mo.fzs_c, Mo.vws_n, Mo.vws_c, Mo.vwsC_s, Mo.nilV_ap, Mo.stay1_t, Mo.consV_ap, Mo.okIf_T, Mo.tupF_ap, Mo.lstF_ap, Mo.frzO_ap, Mo.lfF_ap, Mo.callV_s, Mo.callF_ap, Mo.outV_r, Mo.outV_x, Mo.callD_ap, Mo.ixV_s, Mo.ixV_n, Mo.ixF_ap, Mo.noP_ap, Mo.intV_i, Mo.someP_ap, Mo.slV_s, Mo.slF_ap, Mo.boolV_b, Mo.boolF_ap, Mo.truW_s, Mo.truV_s, Mo.truF_ap, Mo.truD_b, Mo.truD_i, Mo.okB_ap, Mo.andF_ap, Mo.orF_ap, Mo.notF_ap, Mo.okV_ap, Mo.selV_b, Mo.andV_ap, Mo.orV_ap, Mo.ifF_ap, Mo.seqF_ap, Mo.nxF_ap, Mo.bkF_ap, Mo.retF_ap, Mo.exprF_ap, Mo.ofE_s, Mo.asgF_ap, Mo.asgE_ap, Mo.asgR_un, Mo.asgR_v, Mo.asgR_raw, Mo.setO_ap, Mo.ifS_ap, Mo.gNil_ap, Mo.nextE_s, Mo.gCons_ap, Mo.lsAt_ap, Mo.lsR_LS, Mo.lsR_io, Mo.lsR_ls, Mo.appF_ap, Mo.appG_s, Mo.appK_LS, Mo.okIf_le, Mo.okIf_lt, Mo.outS_nx, Mo.outS_rt, Mo.outS_ex, Mo.outI_rt, Mo.outI_nx, Mo.bTup_l, Mo.bTup_t, Mo.bInt_b, Mo.bInt_i, Mo.dropE_n, Mo.dropE_c, Mo.dropN_s, Mo.drop1R_un, Mo.drop1R_lf, Mo.restE_n, Mo.restE_c, Mo.restR_s, Mo.forF_ap, Mo.itV_s, Mo.itF_ap, Mo.argF_ap, Mo.items_l, Mo.items_t, Mo.yesF_ap, Mo.repO_ap, Mo.nilW_ap, Mo.consW_ap, Mo.parF_ap, Mo.parN_s, Mo.parE_n, Mo.parE_c, Mo.ioK_v, Mo.ioK_io, Mo.ioH_s, Mo.ioG_s, Mo.ioArg_r, Mo.joinF_ap, oAdd_i, oSub_i, oLt_i, oLe_i, oGt_i, oGe_i, oEq_i, oNe_i, len_S, List.getElem?_cons_zero, List.getElem?_cons_succ, List.set_cons_zero, List.set_cons_succ, List.map_cons, List.map_nil, List.replicate_succ, List.replicate_zero, List.cons_append, List.nil_append, List.length_cons, List.length_nil, Nat.reduceLeDiff, Nat.reduceAdd, Nat.reduceSub, Nat.zero_le, Nat.add_one_sub_one, Nat.sub_self, Nat.zero_add, decide_true, decide_false, Bool.not_true, Bool.not_false, Bool.and_self, Bool.true_and, Bool.and_true, v0, eqn]
theorem same_lst (k : Nat) {xs : List PyData} (hl : xs.length ≤ 1000000) (h : ∀ x ∈ xs, cf_same_at k [x, x] = .ret (.bool true)) : cf_same_at (k + 1) [.list xs, .list xs] = .ret (.bool true) := by
  show funF 4 2 (cg_same (cf_same_at k)) [.list xs, .list xs] = _
  rw [funF_ap (N := 4) (n := 2) (g := cg_same (cf_same_at k)) (ds := [.list xs, .list xs]) rfl]
  have st : (List.map (fun d => Slot.v (OT.lf d)) [PyData.list xs, .list xs] ++ List.replicate (4 - 2) Slot.un) = [.v (.lf (.list xs)), .v (.lf (.list xs)), .un, .un] := rfl
  rw [st]
  have hc : compF [2, 3] (argF zip2 (consV true (varF 0) (consV true (varF 1) nilV))) (unpE 2 (gConsE (asgE 2) (gConsE (asgE 3) gNilE))) (notF (truF (callD (cf_same_at k) (consV true (varF 2) (consV true (varF 3) nilV))))) (lfF (cF (.int 1))) [.v (.lf (.list xs)), .v (.lf (.list xs)), .un, .un] = .ok (LS []) [.v (.lf (.list xs)), .v (.lf (.list xs)), .un, .un] := by
    refine (compF_is (items := zipD xs xs) (ρ1 := [.v (.lf (.list xs)), .v (.lf (.list xs)), .un, .un]) (ρb := [.v (.lf (.list xs)), .v (.lf (.list xs)), .un, .un]) (ρ2 := [.v (.lf (.list xs)), .v (.lf (.list xs)), .un, .un]) (acc := []) ?_ rfl ?_).trans ?_
    · rfl
    · have := compGo_filter (ρ := [.v (.lf (.list xs)), .v (.lf (.list xs)), .un, .un]) (vs := [2, 3]) (tg := unpE 2 (gConsE (asgE 2) (gConsE (asgE 3) gNilE))) (tt := notF (truF (callD (cf_same_at k) (consV true (varF 2) (consV true (varF 3) nilV))))) (te := lfF (cF (.int 1))) (fun _ => .lf .none) (fun _ => false) (items := zipD xs xs) (acc := []) (fun d hd => ?_) ?_
      · have nf : ∀ l : List PyData, l.filter (fun _ => false) = [] := fun l => List.filter_eq_nil_iff.mpr fun _ _ => Bool.false_ne_true
        rw [nf] at this
        exact this
      · obtain ⟨x, hx, rfl⟩ := zip_self hd
        have e := h x hx
        refine ⟨[.v (.lf (.list xs)), .v (.lf (.list xs)), .v (.lf x), .v (.lf x)], [.v (.lf (.list xs)), .v (.lf (.list xs)), .v (.lf x), .v (.lf x)], rfl, ?_, ?_⟩
        · simp -implicitDefEqProofs only [Mo.show_LS, Mo.view_LS, ↓Mo.bind_bn, ↓Mo.tos_tn, ↓Mo.sthen_sn, ↓Mo.sel_sl, Mo.bn_ok, Mo.bn_ex, Mo.tn_ok, Mo.tn_ex, Mo.sn_nx, Mo.sn_rt, Mo.sn_bk, Mo.sn_ct, Mo.sn_ex, Mo.sl_t, Mo.sl_f, Mo.vw_d, Mo.vw_w, Mo.vw_r, Mo.vwR_LS, Mo.vwR_io, Mo.vwR_lf, Mo.stays_d, Mo.stays_r, Mo.stays_t, Mo.varF_ap, Mo.varR_lf, Mo.varR_LS, Mo.varR_io, Mo.varR_ls, Mo.cF_ap, Mo.ofO_s, Mo.binV_s, Mo.bin2_ap, Mo.unV_s, Mo.un1_ap, Mo.fzE_d, Mo.fzE_r, Mo.fzR_LS, Mo.fzR_ls, Mo.fzs_n, Mo.fzs_c, Mo.vws_n, Mo.vws_c, Mo.vwsC_s, Mo.nilV_ap, Mo.stay1_t, Mo.consV_ap, Mo.okIf_T, Mo.tupF_ap, Mo.lstF_ap, Mo.frzO_ap, Mo.lfF_ap, Mo.callV_s, Mo.callF_ap, Mo.outV_r, Mo.outV_x, Mo.callD_ap, Mo.ixV_s, Mo.ixV_n, Mo.ixF_ap, Mo.noP_ap, Mo.intV_i, Mo.someP_ap, Mo.slV_s, Mo.slF_ap, Mo.boolV_b, Mo.boolF_ap, Mo.truW_s, Mo.truV_s, Mo.truF_ap, Mo.truD_b, Mo.truD_i, Mo.okB_ap, Mo.andF_ap, Mo.orF_ap, Mo.notF_ap, Mo.okV_ap, Mo.selV_b, Mo.andV_ap, Mo.orV_ap, Mo.ifF_ap, Mo.seqF_ap, Mo.nxF_ap, Mo.bkF_ap, Mo.retF_ap, Mo.exprF_ap, Mo.ofE_s, Mo.asgF_ap, Mo.asgE_ap, Mo.asgR_un, Mo.asgR_v, Mo.asgR_raw, Mo.setO_ap, Mo.ifS_ap, Mo.gNil_ap, Mo.nextE_s, Mo.gCons_ap, Mo.lsAt_ap, Mo.lsR_LS, Mo.lsR_io, Mo.lsR_ls, Mo.appF_ap, Mo.appG_s, Mo.appK_LS, Mo.okIf_le, Mo.okIf_lt, Mo.outS_nx, Mo.outS_rt, Mo.outS_ex, Mo.outI_rt, Mo.outI_nx, Mo.bTup_l, Mo.bTup_t, Mo.bInt_b, Mo.bInt_i, Mo.dropE_n, Mo.dropE_c, Mo.dropN_s, Mo.drop1R_un, Mo.drop1R_lf, Mo.restE_n, Mo.restE_c, Mo.restR_s, Mo.forF_ap, Mo.itV_s, Mo.itF_ap, Mo.argF_ap, Mo.items_l, Mo.items_t, Mo.yesF_ap, Mo.repO_ap, Mo.nilW_ap, Mo.consW_ap, Mo.parF_ap, Mo.parN_s, Mo.parE_n, Mo.parE_c, Mo.ioK_v, Mo.ioK_io, Mo.ioH_s, Mo.ioG_s, Mo.ioArg_r, Mo.joinF_ap, oAdd_i, oSub_i, oLt_i, oLe_i, oGt_i, oGe_i, oEq_i, oNe_i, len_S, List.getElem?_cons_zero, List.getElem?_cons_succ, List.set_cons_zero, List.set_cons_succ, List.map_cons, List.map_nil, List.replicate_succ, List.replicate_zero, List.cons_append, List.nil_append, List.length_cons, List.length_nil, Nat.reduceLeDiff, Nat.reduceAdd, Nat.reduceSub, Nat.zero_le, Nat.add_one_sub_one, Nat.sub_self, Nat.zero_add, decide_true, decide_false, Bool.not_true, Bool.not_false, Bool.and_self, Bool.true_and, Bool.and_true, e]
        · rw [if_neg Bool.false_ne_true]
          rfl
      · have : (zipD xs xs).length = xs.length := by simp [zipD]
        rw [this]
        show 0 + xs.length ≤ 2 ^ 24
        omega
    · rfl
  have bl : bLen [.list xs] = some (.int (xs.length : Int)) := rfl
  have v0 : (LS []).view = .list [] := rfl
  have eqn : oEq (.list []) (.list []) = some (.bool true) := rfl
  unfold cg_same
  rw [seqF_ap, ifS_ap]
  have test : orF (andF (truF (isiF "tuple" (varF 0))) (truF (isiF "tuple" (varF 1)))) (andF (truF (isiF "list" (varF 0))) (truF (isiF "list" (varF 1)))) [.v (.lf (.list xs)), .v (.lf (.list xs)), .un, .un] = .ok true [.v (.lf (.list xs)), .v (.lf (.list xs)), .un, .un] := by
    simp -implicitDefEqProofs only [Mo.show_LS, Mo.view_LS, ↓Mo.bind_bn, ↓Mo.tos_tn, ↓Mo.sthen_sn, ↓Mo.sel_sl, Mo.bn_ok, Mo.bn_ex, Mo.tn_ok, Mo.tn_ex, Mo.sn_nx, Mo.sn_rt, Mo.sn_bk, Mo.sn_ct, Mo.sn_ex, Mo.sl_t, Mo.sl_f, Mo.vw_d, Mo.vw_w, Mo.vw_r, Mo.vwR_LS, Mo.vwR_io, Mo.vwR_lf, Mo.stays_d, Mo.stays_r, Mo.stays_t, Mo.varF_ap, Mo.varR_lf, Mo.varR_LS, Mo.varR_io, Mo.varR_ls, Mo.cF_ap, Mo.ofO_s, Mo.binV_s, Mo.bin2_ap, Mo.unV_s, Mo.un1_ap, Mo.fzE_d, Mo.fzE_r, Mo.fzR_LS, Mo.fzR_ls, Mo.fzs_n, Mo.fzs_c, Mo.vws_n, Mo.vws_c, Mo.vwsC_s, Mo.nilV_ap, Mo.stay1_t, Mo.consV_ap, Mo.okIf_T, Mo.tupF_ap, Mo.lstF_ap, Mo.frzO_ap, Mo.lfF_ap, Mo.callV_s, Mo.callF_ap, Mo.outV_r, Mo.outV_x, Mo.callD_ap, Mo.ixV_s, Mo.ixV_n, Mo.ixF_ap, Mo.noP_ap, Mo.intV_i, Mo.someP_ap, Mo.slV_s, Mo.slF_ap, Mo.boolV_b, Mo.boolF_ap, Mo.truW_s, Mo.truV_s, Mo.truF_ap, Mo.truD_b, Mo.truD_i, Mo.okB_ap, Mo.andF_ap, Mo.orF_ap, Mo.notF_ap, Mo.okV_ap, Mo.selV_b, Mo.andV_ap, Mo.orV_ap, Mo.ifF_ap, Mo.seqF_ap, Mo.nxF_ap, Mo.bkF_ap, Mo.retF_ap, Mo.exprF_ap, Mo.ofE_s, Mo.asgF_ap, Mo.asgE_ap, Mo.asgR_un, Mo.asgR_v, Mo.asgR_raw, Mo.setO_ap, Mo.ifS_ap, Mo.gNil_ap, Mo.nextE_s, Mo.gCons_ap, Mo.lsAt_ap, Mo.lsR_LS, Mo.lsR_io, Mo.lsR_ls, Mo.appF_ap, Mo.appG_s, Mo.appK_LS, Mo.okIf_le, Mo.okIf_lt, Mo.outS_nx, Mo.outS_rt, Mo.outS_ex, Mo.outI_rt, Mo.outI_nx, Mo.bTup_l, Mo.bTup_t, Mo.bInt_b, Mo.bInt_i, Mo.dropE_n, Mo.dropE_c, Mo.dropN_s, Mo.drop1R_un, Mo.drop1R_lf, Mo.restE_n, Mo.restE_c, Mo.restR_s, Mo.forF_ap, Mo.itV_s, Mo.itF_ap, Mo.argF_ap, Mo.items_l, Mo.items_t, Mo.yesF_ap, Mo.repO_ap, Mo.nilW_ap, Mo.consW_ap, Mo.parF_ap, Mo.parN_s, Mo.parE_n, Mo.parE_c, Mo.ioK_v, Mo.ioK_io, Mo.ioH_s, Mo.ioG_s, Mo.ioArg_r, Mo.joinF_ap, oAdd_i, oSub_i, oLt_i, oLe_i, oGt_i, oGe_i, oEq_i, oNe_i, len_S, List.getElem?_cons_zero, List.getElem?_cons_succ, List.set_cons_zero, List.set_cons_succ, List.map_cons, List.map_nil, List.replicate_succ, List.replicate_zero, List.cons_append, List.nil_append, List.length_cons, List.length_nil, Nat.reduceLeDiff, Nat.reduceAdd, Nat.reduceSub, Nat.zero_le, Nat.add_one_sub_one, Nat.sub_self, Nat.zero_add, decide_true, decide_false, Bool.not_true, Bool.not_false, Bool.and_self, Bool.true_and, Bool.and_true, isiF_ap, isiV_s, isiW_s, it_l, il_l]
  have first : bin2 true oEq (callF bLen (consV true (varF 0) nilV)) (callF bLen (consV true (varF 1) nilV)) [.v (.lf (.list xs)), .v (.lf (.list xs)), .un, .un] = .ok (.d (.bool true)) [.v (.lf (.list xs)), .v (.lf (.list xs)), .un, .un] := by
    simp -implicitDefEqProofs only [Mo.show_LS, Mo.view_LS, ↓Mo.bind_bn, ↓Mo.tos_tn, ↓Mo.sthen_sn, ↓Mo.sel_sl, Mo.bn_ok, Mo.bn_ex, Mo.tn_ok, Mo.tn_ex, Mo.sn_nx, Mo.sn_rt, Mo.sn_bk, Mo.sn_ct, Mo.sn_ex, Mo.sl_t, Mo.sl_f, Mo.vw_d, Mo.vw_w, Mo.vw_r, Mo.vwR_LS, Mo.vwR_io, Mo.vwR_lf, Mo.stays_d, Mo.stays_r, Mo.stays_t, Mo.varF_ap, Mo.varR_lf, Mo.varR_LS, Mo.varR_io, Mo.varR_ls, Mo.cF_ap, Mo.ofO_s, Mo.binV_s, Mo.bin2_ap, Mo.unV_s, Mo.un1_ap, Mo.fzE_d, Mo.fzE_r, Mo.fzR_LS, Mo.fzR_ls, Mo.fzs_n, Mo.fzs_c, Mo.vws_n, Mo.vws_c, Mo.vwsC_s, Mo.nilV_ap, Mo.stay1_t, Mo.consV_ap, Mo.okIf_T, Mo.tupF_ap, Mo.lstF_ap, Mo.frzO_ap, Mo.lfF_ap, Mo.callV_s, Mo.callF_ap, Mo.outV_r, Mo.outV_x, Mo.callD_ap, Mo.ixV_s, Mo.ixV_n, Mo.ixF_ap, Mo.noP_ap, Mo.intV_i, Mo.someP_ap, Mo.slV_s, Mo.slF_ap, Mo.boolV_b, Mo.boolF_ap, Mo.truW_s, Mo.truV_s, Mo.truF_ap, Mo.truD_b, Mo.truD_i, Mo.okB_ap, Mo.andF_ap, Mo.orF_ap, Mo.notF_ap, Mo.okV_ap, Mo.selV_b, Mo.andV_ap, Mo.orV_ap, Mo.ifF_ap, Mo.seqF_ap, Mo.nxF_ap, Mo.bkF_ap, Mo.retF_ap, Mo.exprF_ap, Mo.ofE_s, Mo.asgF_ap, Mo.asgE_ap, Mo.asgR_un, Mo.asgR_v, Mo.asgR_raw, Mo.setO_ap, Mo.ifS_ap, Mo.gNil_ap, Mo.nextE_s, Mo.gCons_ap, Mo.lsAt_ap, Mo.lsR_LS, Mo.lsR_io, Mo.lsR_ls, Mo.appF_ap, Mo.appG_s, Mo.appK_LS, Mo.okIf_le, Mo.okIf_lt, Mo.outS_nx, Mo.outS_rt, Mo.outS_ex, Mo.outI_rt, Mo.outI_nx, Mo.bTup_l, Mo.bTup_t, Mo.bInt_b, Mo.bInt_i, Mo.dropE_n, Mo.dropE_c, Mo.dropN_s, Mo.drop1R_un, Mo.drop1R_lf, Mo.restE_n, Mo.restE_c, Mo.restR_s, Mo.forF_ap, Mo.itV_s, Mo.itF_ap, Mo.argF_ap, Mo.items_l, Mo.items_t, Mo.yesF_ap, Mo.repO_ap, Mo.nilW_ap, Mo.consW_ap, Mo.parF_ap, Mo.parN_s, Mo.parE_n, Mo.parE_c, Mo.ioK_v, Mo.ioK_io, Mo.ioH_s, Mo.ioG_s, Mo.ioArg_r, Mo.joinF_ap, oAdd_i, oSub_i, oLt_i, oLe_i, oGt_i, oGe_i, oEq_i, oNe_i, len_S, List.getElem?_cons_zero, List.getElem?_cons_succ, List.set_cons_zero, List.set_cons_succ, List.map_cons, List.map_nil, List.replicate_succ, List.replicate_zero, List.cons_append, List.nil_append, List.length_cons, List.length_nil, Nat.reduceLeDiff, Nat.reduceAdd, Nat.reduceSub, Nat.zero_le, Nat.add_one_sub_one, Nat.sub_self, Nat.zero_add, decide_true, decide_false, Bool.not_true, Bool.not_false, Bool.and_self, Bool.true_and, Bool.and_true, bl]
  rw [test, tos_ok, sel_t, retF_ap, andV_ap, first, bind_ok, selV_b, sel_t, bin2_ap, frzO_ap, hc]
  simp -implicitDefEqProofs only [Mo.show_LS, Mo.view_LS, ↓Mo.bind_bn, ↓Mo.tos_tn, ↓Mo.sthen_sn, ↓Mo.sel_sl, Mo.bn_ok, Mo.bn_ex, Mo.tn_ok, Mo.tn_ex, Mo.sn_nx, Mo.sn_rt, Mo.sn_bk, Mo.sn_ct, Mo.sn_ex, Mo.sl_t, Mo.sl_f, Mo.vw_d, Mo.vw_w, Mo.vw_r, Mo.vwR_LS, Mo.vwR_io, Mo.vwR_lf, Mo.stays_d, Mo.stays_r, Mo.stays_t, Mo.varF_ap, Mo.varR_lf, Mo.varR_LS, Mo.varR_io, Mo.varR_ls, Mo.cF_ap, Mo.ofO_s, Mo.binV_s, Mo.bin2_ap, Mo.unV_s, Mo.un1_ap, Mo.fzE_d, Mo.fzE_r, Mo.fzR_LS, Mo.fzR_ls, Mo.fzs_n, Mo.fzs_c, Mo.vws_n, Mo.vws_c, Mo.vwsC_s, Mo.nilV_ap, Mo.stay1_t, Mo.consV_ap, Mo.okIf_T, Mo.tupF_ap, Mo.lstF_ap, Mo.frzO_ap, Mo.lfF_ap, Mo.callV_s, Mo.callF_ap, Mo.outV_r, Mo.outV_x, Mo.callD_ap, Mo.ixV_s, Mo.ixV_n, Mo.ixF_ap, Mo.noP_ap, Mo.intV_i, Mo.someP_ap, Mo.slV_s, Mo.slF_ap, Mo.boolV_b, Mo.boolF_ap, Mo.truW_s, Mo.truV_s, Mo.truF_ap, Mo.truD_b, Mo.truD_i, Mo.okB_ap, Mo.andF_ap, Mo.orF_ap, Mo.notF_ap, Mo.okV_ap, Mo.selV_b, Mo.andV_ap, Mo.orV_ap, Mo.ifF_ap, Mo.seqF_ap, Mo.nxF_ap, Mo.bkF_ap, Mo.retF_ap, Mo.exprF_ap, Mo.ofE_s, Mo.asgF_ap, Mo.asgE_ap, Mo.asgR_un, Mo.asgR_v, Mo.asgR_raw, Mo.setO_ap, Mo.ifS_ap, Mo.gNil_ap, Mo.nextE_s, Mo.gCons_ap, Mo.lsAt_ap, Mo.lsR_LS, Mo.lsR_io, Mo.lsR_ls, Mo.appF_ap, Mo.appG_s, Mo.appK_LS, Mo.okIf_le, Mo.okIf_lt, Mo.outS_nx, Mo.outS_rt, Mo.outS_ex, Mo.outI_rt, Mo.outI_nx, Mo.bTup_l, Mo.bTup_t, Mo.bInt_b, Mo.bInt_i, Mo.dropE_n, Mo.dropE_c, Mo.dropN_s, Mo.drop1R_un, Mo.drop1R_lf, Mo.restE_n, Mo.restE_c, Mo.restR_s, Mo.forF_ap, Mo.itV_s, Mo.itF_ap, Mo.argF_ap, Mo.items_l, Mo.items_t, Mo.yesF_ap, Mo.repO_ap, Mo.nilW_ap, Mo.consW_ap, Mo.parF_ap, Mo.parN_s, Mo.parE_n, Mo.parE_c, Mo.ioK_v, Mo.ioK_io, Mo.ioH_s, Mo.ioG_s, Mo.ioArg_r, Mo.joinF_ap, oAdd_i, oSub_i, oLt_i, oLe_i, oGt_i, oGe_i, oEq_i, oNe_i, len_S, List.getElem?_cons_zero, List.getElem?_cons_succ, List.set_cons_zero, List.set_cons_succ, List.map_cons, List.map_nil, List.replicate_succ, List.replicate_zero, List.cons_append, List.nil_append, List.length_cons, List.length_nil, Nat.reduceLeDiff, Nat.reduceAdd, Nat.reduceSub, Nat.zero_le, Nat.add_one_sub_one, Nat.sub_self, Nat.zero_add, decide_true, decide_false, Bool.not_true, Bool.not_false, Bool.and_self, Bool.true_and, Bool.and_true, v0, eqn]

/-- what may be told alike itself, so deep -/
def smd : Nat → D → Prop
  | 0, _ => False
  | _ + 1, .none => True
  | _ + 1, .bool _ => True
  | _ + 1, .int _ => True
  | _ + 1, .str x => PyData.strOk x = true
  | n + 1, .tuple xs => xs.length ≤ 1000000 ∧ ∀ x ∈ xs, smd n x
  | n + 1, .list xs => xs.length ≤ 1000000 ∧ ∀ x ∈ xs, smd n x
  | _ + 1, .dict _ => False
theorem same_self : ∀ (n : Nat) (d : D), smd n d → cf_same_at n [d, d] = .ret (.bool true)
  | n + 1, .none, _ => same_none n
  | n + 1, .bool b, _ => same_bool n b
  | n + 1, .int i, _ => same_int n i
  | n + 1, .str x, h => same_str n h
  | n + 1, .tuple xs, h => same_tup n h.1 fun x hx => same_self n x (h.2 x hx)
  | n + 1, .list xs, h => same_lst n h.1 fun x hx => same_self n x (h.2 x hx)
theorem strOk_S {l : List Nat} (h : okS l) : PyData.strOk ⟨l.toArray⟩ = true := by
  unfold PyData.strOk
  simp only [List.all_toArray, List.all_eq_true, decide_eq_true_eq]
  exact h
end Mo

/-! Ev2: more combinators at work: insert, extend, x[i] = e, try, raise, list(range(..)). -/
namespace Mo
open PySem PySem.Spec PyProof.Rows L2
section
variable {f g : Env → Res Vl} {fs : Env → Res (List Vl)} {sf sg : Env → SRes} {ρ ρ1 : Env} {d e : D} {i n : Nat} {C : Addr} {u : OT} {ds es : List D}
def insK (i : Nat) (k : Int) (d : D) (ρ : Env) : Option (Slot × List OT) → Res Vl
  | some (s, ts) => okIf (ts.length < sizeLine ∧ 0 ≤ k ∧ k < 2 ^ 63) (.ok (.d .none) (ρ.set i (s.to (.ls (ts.take k.toNat ++ [.lf d] ++ ts.drop k.toNat)))))
  | none => .bad
def insH (i : Nat) (ρ1 : Env) : Option (Int × Vl) → Res Vl
  | some (k, y) => (fzE y ρ1).bind fun d ρ2 => insK i k d ρ2 (lsAt ρ2 i)
  | none => .bad
def insG (i : Nat) (fs : Env → Res (List Vl)) (ρ : Env) : Option (Slot × List OT) → Res Vl
  | some _ => (fs ρ).bind fun xs ρ1 => insH i ρ1 (insArg xs)
  | none => .bad
theorem insF_ap : insF i fs ρ = insG i fs ρ (lsAt ρ i) := by
  unfold insF insG
  cases lsAt ρ i with
  | none => rfl
  | some st =>
    show (fs ρ).bind _ = (fs ρ).bind _
    refine bind_ext fun xs ρ1 => ?_
    cases insArg xs with
    | none => rfl
    | some ky =>
      obtain ⟨k, y⟩ := ky
      show (fzE y ρ1).bind _ = (fzE y ρ1).bind _
      refine bind_ext fun d ρ2 => ?_
      cases lsAt ρ2 i <;> rfl
theorem insG_s {st : Slot × List OT} : insG i fs ρ (some st) = (fs ρ).bind fun xs ρ1 => insH i ρ1 (insArg xs) := nr rfl
theorem insArg_s {k : Int} {y : Vl} : insArg [.d (.int k), y] = some (k, y) := nr rfl
theorem insH_s {k : Int} {y : Vl} : insH i ρ1 (some (k, y)) = (fzE y ρ1).bind fun d ρ2 => insK i k d ρ2 (lsAt ρ2 i) := nr rfl
theorem ins_LS {k : Nat} (h : ds.length < 1000000) (hk : k ≤ 1000000) : insK i (k : Int) d ρ (some (.v u, mapLf ds)) = .ok (.d .none) (ρ.set i (.v (LS (ds.take k ++ d :: ds.drop k)))) := by
  unfold insK LS mapLf
  have : (ds.map OT.lf).length < sizeLine ∧ 0 ≤ (k : Int) ∧ (k : Int) < 2 ^ 63 := ⟨by rw [List.length_map]; exact Nat.lt_of_lt_of_le h (by decide), by omega, by omega⟩
  refine (okIf_t this).trans ?_
  simp [Slot.to]
def extK (i : Nat) (es : List D) (ρ : Env) : Option (Slot × List OT) → Res Vl
  | some (s, ts) => okIf (ts.length + es.length ≤ sizeLine) (.ok (.d .none) (ρ.set i (s.to (.ls (ts ++ es.map .lf)))))
  | none => .bad
def extH (i : Nat) (ρ1 : Env) : Vl → Res Vl
  | .d (.list es) => extK i es ρ1 (lsAt ρ1 i)
  | _ => .bad
def extG (i : Nat) (f : Env → Res Vl) (ρ : Env) : Option (Slot × List OT) → Res Vl
  | some _ => (f ρ).bind fun x ρ1 => extH i ρ1 x
  | none => .bad
theorem extF_ap : extF i f ρ = extG i f ρ (lsAt ρ i) := by
  unfold extF extG
  cases lsAt ρ i with
  | none => rfl
  | some st =>
    show (f ρ).bind _ = (f ρ).bind _
    refine bind_ext fun x ρ1 => ?_
    rcases x with y | y | y
    · cases y <;> (first | rfl | (cases lsAt ρ1 i <;> rfl))
    · rfl
    · rfl
theorem extG_s {st : Slot × List OT} : extG i f ρ (some st) = (f ρ).bind fun x ρ1 => extH i ρ1 x := nr rfl
theorem extH_s : extH i ρ1 (.d (.list es)) = extK i es ρ1 (lsAt ρ1 i) := nr rfl
theorem ext_LS (h : ds.length + es.length ≤ 1000000) : extK i es ρ (some (.v u, mapLf ds)) = .ok (.d .none) (ρ.set i (.v (LS (ds ++ es)))) := by
  unfold extK LS mapLf
  have : (ds.map OT.lf).length + es.length ≤ sizeLine := by rw [List.length_map]; exact Nat.le_trans h (by decide)
  refine (okIf_t this).trans ?_
  simp [Slot.to]
theorem set_LS {k : Int} {j : Nat} (h : ixN ds.length k = some j) : setK i d ρ (.d (.int k)) (some (.v u, mapLf ds)) = .nx (ρ.set i (.v (LS (ds.set j d)))) := by
  have h' : ixN (ds.map OT.lf).length k = some j := by rw [List.length_map]; exact h
  show (match ixN (ds.map OT.lf).length k with | some j => SRes.nx (ρ.set i ((Slot.v u).to (.ls ((ds.map OT.lf).set j (.lf d))))) | none => SRes.bad) = _
  rw [h']
  show SRes.nx (ρ.set i (.v (.ls ((ds.map OT.lf).set j (.lf d))))) = SRes.nx (ρ.set i (.v (.ls ((ds.set j d).map .lf))))
  rw [List.map_set]
def tryK (C : Addr) (s : Env → SRes) : SRes → SRes
  | .ex C' ρ1 => if C' = C then s ρ1 else .bad
  | r => r
theorem tryF_ap : tryF C sf sg ρ = tryK C sg (sf ρ) := by
  unfold tryF tryK
  cases sf ρ <;> rfl
theorem tryK_nx : tryK C sg (.nx ρ) = .nx ρ := nr rfl
theorem tryK_rt : tryK C sg (.rt d ρ) = .rt d ρ := nr rfl
theorem tryK_ex : tryK C sg (.ex C ρ) = sg ρ := if_pos rfl
theorem raiseF_ap : raiseF C ρ = .ex C ρ := nr rfl
theorem lr2F_ap : lr2F f g ρ = (f ρ).bind fun x ρ1 => (g ρ1).bind fun y ρ2 => lrP x y ρ2 := nr rfl
theorem lr1F_ap : lr1F f ρ = (f ρ).bind fun x ρ1 => lrP (.d (.int 0)) x ρ1 := nr rfl
theorem lrPi_ap {i j : Int} : lrP (.d (.int i)) (.d (.int j)) ρ = okI (rgS i j) (.ok (.ls ((rngD i (j - i).toNat).map .lf)) ρ) := nr rfl
theorem okI_tr {α : Type} {r : Res α} : okI true r = r := nr rfl
end
end Mo

/-! Sh: rows shuffled. -/
namespace Mo
open PySem PySem.Spec PyProof.Rows L2
/-- a slot that may be stored to: empty, or with a thing -/
def Lt (s : Slot) : Prop := s = .un ∨ ∃ d, s = .v (.lf d)
theorem Lt.un : Lt .un := .inl rfl
theorem Lt.v {d : PyData} : Lt (.v (.lf d)) := .inr ⟨d, rfl⟩
theorem Lt.asg {s : Slot} (h : Lt s) {i : Nat} {t : OT} {ρ : Mo.Env} : asgR i t ρ (some s) = some (ρ.set i (.v t)) := by
  rcases h with rfl | ⟨d, rfl⟩ <;> rfl
theorem len_l {ds : List PyData} : bLen [.list ds] = some (.int (ds.length : Int)) := rfl
theorem len_t {ds : List PyData} : bLen [.tuple ds] = some (.int (ds.length : Int)) := rfl
theorem perm_ins {α : Type} (l : List α) (k : Nat) (x : α) : (l.take k ++ x :: l.drop k).Perm (x :: l) := by
  have := List.perm_middle (a := x) (l₁ := l.take k) (l₂ := l.drop k)
  rwa [List.take_append_drop] at this
theorem shuf_is {n : Nat} {t : OT} {ds : List PyData} (h : St n t) (hl : ds.length ≤ 100000) (hn : n + ds.length ≤ 1000000) :
    ∃ es t', cf_shuf t [.list ds] = .ret (.list es) t' ∧ es.Perm ds ∧ St (n + ds.length) t' := by
  have st : (Slot.io t :: List.map (fun d => Slot.v (OT.lf d)) [PyData.list ds] ++ List.replicate (4 - 2) Slot.un) = [.io t, .v (.lf (.list ds)), .un, .un] := rfl
  obtain ⟨ρ', e1, es, t', s3, a1, a2, a3, e2⟩ := forGo_inv (ρ := [.io t, .v (.lf (.list ds)), .v (LS []), .un]) (tg := asgE 3) (b := exprF (insF 2 (consV true (callI cf_draw (consV true (varF 0) (consV true (bin2 true oAdd (callF bLen (consV true (varF 2) nilV)) (cF (.int 1))) nilV))) (consV true (varF 3) nilV)))) (items := ds)
    (fun k ρ => ∃ (es : List PyData) (t' : OT) (s3 : Slot), St (n + k) t' ∧ es.Perm (ds.take k) ∧ Lt s3 ∧ ρ = [.io t', .v (.lf (.list ds)), .v (LS es), s3])
    ⟨[], t, .un, h, .refl _, .un, rfl⟩ fun k hk ρ hp => by
      obtain ⟨es, t1, s3, a1, a2, a3, rfl⟩ := hp
      have le : es.length = k := by rw [a2.length_eq, List.length_take]; omega
      obtain ⟨d, t2, hd, hS, e⟩ := call_draw_io (ρ := [.io t1, .v (.lf (.list ds)), .v (LS es), .v (.lf ds[k])]) (i := 0) (k := k + 1) (fk := bin2 true oAdd (callF bLen (consV true (varF 2) nilV)) (cF (.int 1))) a1 (by omega) (by omega) (by omega) rfl (by
        simp -implicitDefEqProofs only [Mo.show_LS, Mo.view_LS, ↓Mo.bind_bn, ↓Mo.tos_tn, ↓Mo.sthen_sn, ↓Mo.sel_sl, Mo.bn_ok, Mo.bn_ex, Mo.tn_ok, Mo.tn_ex, Mo.sn_nx, Mo.sn_rt, Mo.sn_bk, Mo.sn_ct, Mo.sn_ex, Mo.sl_t, Mo.sl_f, Mo.vw_d, Mo.vw_w, Mo.vw_r, Mo.vwR_LS, Mo.vwR_io, Mo.vwR_lf, Mo.stays_d, Mo.stays_r, Mo.stays_t, Mo.varF_ap, Mo.varR_lf, Mo.varR_LS, Mo.varR_io, Mo.varR_ls, Mo.cF_ap, Mo.ofO_s, Mo.binV_s, Mo.bin2_ap, Mo.unV_s, Mo.un1_ap, Mo.fzE_d, Mo.fzE_r, Mo.fzR_LS, Mo.fzR_ls, Mo.fzs_n, Mo.fzs_c, Mo.vws_n, Mo.vws_c, Mo.vwsC_s, Mo.nilV_ap, Mo.stay1_t, Mo.consV_ap, Mo.okIf_T, Mo.tupF_ap, Mo.lstF_ap, Mo.frzO_ap, Mo.lfF_ap, Mo.callV_s, Mo.callF_ap, Mo.outV_r, Mo.outV_x, Mo.callD_ap, Mo.ixV_s, Mo.ixV_n, Mo.ixF_ap, Mo.noP_ap, Mo.intV_i, Mo.someP_ap, Mo.slV_s, Mo.slF_ap, Mo.boolV_b, Mo.boolF_ap, Mo.truW_s, Mo.truV_s, Mo.truF_ap, Mo.truD_b, Mo.truD_i, Mo.okB_ap, Mo.andF_ap, Mo.orF_ap, Mo.notF_ap, Mo.okV_ap, Mo.selV_b, Mo.andV_ap, Mo.orV_ap, Mo.ifF_ap, Mo.seqF_ap, Mo.nxF_ap, Mo.bkF_ap, Mo.retF_ap, Mo.exprF_ap, Mo.ofE_s, Mo.asgF_ap, Mo.asgE_ap, Mo.asgR_un, Mo.asgR_v, Mo.asgR_raw, Mo.setO_ap, Mo.ifS_ap, Mo.gNil_ap, Mo.nextE_s, Mo.gCons_ap, Mo.lsAt_ap, Mo.lsR_LS, Mo.lsR_io, Mo.lsR_ls, Mo.appF_ap, Mo.appG_s, Mo.appK_LS, Mo.okIf_le, Mo.okIf_lt, Mo.outS_nx, Mo.outS_rt, Mo.outS_ex, Mo.outI_rt, Mo.outI_nx, Mo.bTup_l, Mo.bTup_t, Mo.bInt_b, Mo.bInt_i, Mo.dropE_n, Mo.dropE_c, Mo.dropN_s, Mo.drop1R_un, Mo.drop1R_lf, Mo.restE_n, Mo.restE_c, Mo.restR_s, Mo.forF_ap, Mo.itV_s, Mo.itF_ap, Mo.argF_ap, Mo.items_l, Mo.items_t, Mo.yesF_ap, Mo.repO_ap, Mo.nilW_ap, Mo.consW_ap, Mo.parF_ap, Mo.parN_s, Mo.parE_n, Mo.parE_c, Mo.ioK_v, Mo.ioK_io, Mo.ioH_s, Mo.ioG_s, Mo.ioArg_r, Mo.joinF_ap, Mo.insF_ap, Mo.insG_s, Mo.insArg_s, Mo.insH_s, Mo.extF_ap, Mo.extG_s, Mo.extH_s, Mo.tryF_ap, Mo.tryK_nx, Mo.tryK_rt, Mo.tryK_ex, Mo.raiseF_ap, Mo.lr2F_ap, Mo.lr1F_ap, Mo.lrPi_ap, Mo.okI_tr, oAdd_i, oSub_i, oLt_i, oLe_i, oGt_i, oGe_i, oEq_i, oNe_i, len_S, List.getElem?_cons_zero, List.getElem?_cons_succ, List.set_cons_zero, List.set_cons_succ, List.map_cons, List.map_nil, List.replicate_succ, List.replicate_zero, List.cons_append, List.nil_append, List.length_cons, List.length_nil, Nat.reduceLeDiff, Nat.reduceAdd, Nat.reduceSub, Nat.zero_le, Nat.add_one_sub_one, Nat.sub_self, Nat.zero_add, decide_true, decide_false, Bool.not_true, Bool.not_false, Bool.and_self, Bool.true_and, Bool.and_true, len_l, le]
        rfl)
      have ins := ins_LS (ρ := [.io t2, .v (.lf (.list ds)), .v (LS es), .v (.lf ds[k])]) (i := 2) (d := ds[k]) (ds := es) (u := LS es) (k := d) (by omega) (by omega)
      refine ⟨[.io t1, .v (.lf (.list ds)), .v (LS es), .v (.lf ds[k])], [.io t2, .v (.lf (.list ds)), .v (LS (es.take d ++ ds[k] :: es.drop d)), .v (.lf ds[k])], ?_, .inl ?_, es.take d ++ ds[k] :: es.drop d, t2, .v (.lf ds[k]), ?_, ?_, .v, rfl⟩
      · rw [asgE_ap]
        exact a3.asg
      · simp -implicitDefEqProofs only [Mo.show_LS, Mo.view_LS, ↓Mo.bind_bn, ↓Mo.tos_tn, ↓Mo.sthen_sn, ↓Mo.sel_sl, Mo.bn_ok, Mo.bn_ex, Mo.tn_ok, Mo.tn_ex, Mo.sn_nx, Mo.sn_rt, Mo.sn_bk, Mo.sn_ct, Mo.sn_ex, Mo.sl_t, Mo.sl_f, Mo.vw_d, Mo.vw_w, Mo.vw_r, Mo.vwR_LS, Mo.vwR_io, Mo.vwR_lf, Mo.stays_d, Mo.stays_r, Mo.stays_t, Mo.varF_ap, Mo.varR_lf, Mo.varR_LS, Mo.varR_io, Mo.varR_ls, Mo.cF_ap, Mo.ofO_s, Mo.binV_s, Mo.bin2_ap, Mo.unV_s, Mo.un1_ap, Mo.fzE_d, Mo.fzE_r, Mo.fzR_LS, Mo.fzR_ls, Mo.fzs_n, Mo.fzs_c, Mo.vws_n, Mo.vws_c, Mo.vwsC_s, Mo.nilV_ap, Mo.stay1_t, Mo.consV_ap, Mo.okIf_T, Mo.tupF_ap, Mo.lstF_ap, Mo.frzO_ap, Mo.lfF_ap, Mo.callV_s, Mo.callF_ap, Mo.outV_r, Mo.outV_x, Mo.callD_ap, Mo.ixV_s, Mo.ixV_n, Mo.ixF_ap, Mo.noP_ap, Mo.intV_i, Mo.someP_ap, Mo.slV_s, Mo.slF_ap, Mo.boolV_b, Mo.boolF_ap, Mo.truW_s, Mo.truV_s, Mo.truF_ap, Mo.truD_b, Mo.truD_i, Mo.okB_ap, Mo.andF_ap, Mo.orF_ap, Mo.notF_ap, Mo.okV_ap, Mo.selV_b, Mo.andV_ap, Mo.orV_ap, Mo.ifF_ap, Mo.seqF_ap, Mo.nxF_ap, Mo.bkF_ap, Mo.retF_ap, Mo.exprF_ap, Mo.ofE_s, Mo.asgF_ap, Mo.asgE_ap, Mo.asgR_un, Mo.asgR_v, Mo.asgR_raw, Mo.setO_ap, Mo.ifS_ap, Mo.gNil_ap, Mo.nextE_s, Mo.gCons_ap, Mo.lsAt_ap, Mo.lsR_LS, Mo.lsR_io, Mo.lsR_ls, Mo.appF_ap, Mo.appG_s, Mo.appK_LS, Mo.okIf_le, Mo.okIf_lt, Mo.outS_nx, Mo.outS_rt, Mo.outS_ex, Mo.outI_rt, Mo.outI_nx, Mo.bTup_l, Mo.bTup_t, Mo.bInt_b, Mo.bInt_i, Mo.dropE_n, Mo.dropE_c, Mo.dropN_s, Mo.drop1R_un, Mo.drop1R_lf, Mo.restE_n, Mo.restE_c, Mo.restR_s, Mo.forF_ap, Mo.itV_s, Mo.itF_ap, Mo.argF_ap, Mo.items_l, Mo.items_t, Mo.yesF_ap, Mo.repO_ap, Mo.nilW_ap, Mo.consW_ap, Mo.parF_ap, Mo.parN_s, Mo.parE_n, Mo.parE_c, Mo.ioK_v, Mo.ioK_io, Mo.ioH_s, Mo.ioG_s, Mo.ioArg_r, Mo.joinF_ap, Mo.insF_ap, Mo.insG_s, Mo.insArg_s, Mo.insH_s, Mo.extF_ap, Mo.extG_s, Mo.extH_s, Mo.tryF_ap, Mo.tryK_nx, Mo.tryK_rt, Mo.tryK_ex, Mo.raiseF_ap, Mo.lr2F_ap, Mo.lr1F_ap, Mo.lrPi_ap, Mo.okI_tr, oAdd_i, oSub_i, oLt_i, oLe_i, oGt_i, oGe_i, oEq_i, oNe_i, len_S, List.getElem?_cons_zero, List.getElem?_cons_succ, List.set_cons_zero, List.set_cons_succ, List.map_cons, List.map_nil, List.replicate_succ, List.replicate_zero, List.cons_append, List.nil_append, List.length_cons, List.length_nil, Nat.reduceLeDiff, Nat.reduceAdd, Nat.reduceSub, Nat.zero_le, Nat.add_one_sub_one, Nat.sub_self, Nat.zero_add, decide_true, decide_false, Bool.not_true, Bool.not_false, Bool.and_self, Bool.true_and, Bool.and_true, e, ins]
      · exact hS
      · rw [List.take_add_one, List.getElem?_eq_getElem hk]
        exact (perm_ins es d ds[k]).trans ((List.perm_append_comm (l₁ := [ds[k]]) (l₂ := es)).trans (a2.append_right _))
  rw [List.take_length] at a2
  refine ⟨es, t', ?_, a2, a1⟩
  unfold cf_shuf
  rw [funI_ap (N := 4) (n := 2) (g := cg_shuf) (ds := [.list ds]) rfl, st]
  unfold cg_shuf
  simp -implicitDefEqProofs only [Mo.show_LS, Mo.view_LS, ↓Mo.bind_bn, ↓Mo.tos_tn, ↓Mo.sthen_sn, ↓Mo.sel_sl, Mo.bn_ok, Mo.bn_ex, Mo.tn_ok, Mo.tn_ex, Mo.sn_nx, Mo.sn_rt, Mo.sn_bk, Mo.sn_ct, Mo.sn_ex, Mo.sl_t, Mo.sl_f, Mo.vw_d, Mo.vw_w, Mo.vw_r, Mo.vwR_LS, Mo.vwR_io, Mo.vwR_lf, Mo.stays_d, Mo.stays_r, Mo.stays_t, Mo.varF_ap, Mo.varR_lf, Mo.varR_LS, Mo.varR_io, Mo.varR_ls, Mo.cF_ap, Mo.ofO_s, Mo.binV_s, Mo.bin2_ap, Mo.unV_s, Mo.un1_ap, Mo.fzE_d, Mo.fzE_r, Mo.fzR_LS, Mo.fzR_ls, Mo.fzs_n, Mo.fzs_c, Mo.vws_n, Mo.vws_c, Mo.vwsC_s, Mo.nilV_ap, Mo.stay1_t, Mo.consV_ap, Mo.okIf_T, Mo.tupF_ap, Mo.lstF_ap, Mo.frzO_ap, Mo.lfF_ap, Mo.callV_s, Mo.callF_ap, Mo.outV_r, Mo.outV_x, Mo.callD_ap, Mo.ixV_s, Mo.ixV_n, Mo.ixF_ap, Mo.noP_ap, Mo.intV_i, Mo.someP_ap, Mo.slV_s, Mo.slF_ap, Mo.boolV_b, Mo.boolF_ap, Mo.truW_s, Mo.truV_s, Mo.truF_ap, Mo.truD_b, Mo.truD_i, Mo.okB_ap, Mo.andF_ap, Mo.orF_ap, Mo.notF_ap, Mo.okV_ap, Mo.selV_b, Mo.andV_ap, Mo.orV_ap, Mo.ifF_ap, Mo.seqF_ap, Mo.nxF_ap, Mo.bkF_ap, Mo.retF_ap, Mo.exprF_ap, Mo.ofE_s, Mo.asgF_ap, Mo.asgE_ap, Mo.asgR_un, Mo.asgR_v, Mo.asgR_raw, Mo.setO_ap, Mo.ifS_ap, Mo.gNil_ap, Mo.nextE_s, Mo.gCons_ap, Mo.lsAt_ap, Mo.lsR_LS, Mo.lsR_io, Mo.lsR_ls, Mo.appF_ap, Mo.appG_s, Mo.appK_LS, Mo.okIf_le, Mo.okIf_lt, Mo.outS_nx, Mo.outS_rt, Mo.outS_ex, Mo.outI_rt, Mo.outI_nx, Mo.bTup_l, Mo.bTup_t, Mo.bInt_b, Mo.bInt_i, Mo.dropE_n, Mo.dropE_c, Mo.dropN_s, Mo.drop1R_un, Mo.drop1R_lf, Mo.restE_n, Mo.restE_c, Mo.restR_s, Mo.forF_ap, Mo.itV_s, Mo.itF_ap, Mo.argF_ap, Mo.items_l, Mo.items_t, Mo.yesF_ap, Mo.repO_ap, Mo.nilW_ap, Mo.consW_ap, Mo.parF_ap, Mo.parN_s, Mo.parE_n, Mo.parE_c, Mo.ioK_v, Mo.ioK_io, Mo.ioH_s, Mo.ioG_s, Mo.ioArg_r, Mo.joinF_ap, Mo.insF_ap, Mo.insG_s, Mo.insArg_s, Mo.insH_s, Mo.extF_ap, Mo.extG_s, Mo.extH_s, Mo.tryF_ap, Mo.tryK_nx, Mo.tryK_rt, Mo.tryK_ex, Mo.raiseF_ap, Mo.lr2F_ap, Mo.lr1F_ap, Mo.lrPi_ap, Mo.okI_tr, oAdd_i, oSub_i, oLt_i, oLe_i, oGt_i, oGe_i, oEq_i, oNe_i, len_S, List.getElem?_cons_zero, List.getElem?_cons_succ, List.set_cons_zero, List.set_cons_succ, List.map_cons, List.map_nil, List.replicate_succ, List.replicate_zero, List.cons_append, List.nil_append, List.length_cons, List.length_nil, Nat.reduceLeDiff, Nat.reduceAdd, Nat.reduceSub, Nat.zero_le, Nat.add_one_sub_one, Nat.sub_self, Nat.zero_add, decide_true, decide_false, Bool.not_true, Bool.not_false, Bool.and_self, Bool.true_and, Bool.and_true, e1, e2]

/-! ### comprehensions over rows of things -/
theorem compGo_typed {α : Type} {vs : List Nat} {tg : PyData → Mo.Env → Option Mo.Env} {tt : Mo.Env → Res Bool} {te : Mo.Env → Res OT} {ρ : Mo.Env} (enc : α → PyData) (p : α → Bool) (k : α → PyData) : ∀ (xs : List α) (acc : List OT), acc.length + xs.length ≤ 1000000 →
    (∀ x ∈ xs, ∃ ρ3 ρ4, tg (enc x) ρ = some ρ3 ∧ tt ρ3 = .ok (p x) ρ4 ∧ (p x = true → ∃ ρ5, te ρ4 = .ok (.lf (k x)) ρ5 ∧ dropE ρ5 vs = some ρ) ∧ (p x = false → dropE ρ4 vs = some ρ)) →
    compGo vs tg tt te (xs.map enc) ρ acc = .ok (acc ++ ((xs.filter p).map k).map .lf) ρ
  | [], acc, _, _ => by simp [compGo]
  | x :: xs, acc, hl, q => by
    obtain ⟨ρ3, ρ4, e1, e2, e3, e4⟩ := q x (by simp)
    have rest := fun y hy => q y (List.mem_cons_of_mem x hy)
    simp only [List.length_cons] at hl
    rw [List.map_cons]
    unfold compGo
    cases hp : p x with
    | true =>
      obtain ⟨ρ5, e5, e6⟩ := e3 hp
      rw [hp] at e2
      have hz : acc.length < sizeLine := by show acc.length < 2 ^ 24; omega
      simp only [e1, e2, e5, e6]
      rw [if_pos hz, compGo_typed enc p k xs _ (by simp; omega) rest, List.filter_cons, if_pos hp]
      simp
    | false =>
      rw [hp] at e2
      have e6 := e4 hp
      simp only [e1, e2, e6]
      rw [compGo_typed enc p k xs _ (by omega) rest, List.filter_cons, if_neg (by rw [hp]; exact Bool.false_ne_true)]
theorem comp_typed {α : Type} {vs : List Nat} {it : Mo.Env → Res (List PyData)} {tg : PyData → Mo.Env → Option Mo.Env} {tt : Mo.Env → Res Bool} {te : Mo.Env → Res OT} {ρ ρ1 ρb ρ2 : Mo.Env} (xs : List α) (enc : α → PyData) (p : α → Bool) (k : α → PyData)
    (h1 : it ρ = .ok (xs.map enc) ρ1) (h2 : dropE ρ1 vs = some ρb) (h3 : restE ρ1 ρb vs = ρ2) (hl : xs.length ≤ 1000000)
    (hs : ∀ x ∈ xs, ∃ ρ3 ρ4, tg (enc x) ρb = some ρ3 ∧ tt ρ3 = .ok (p x) ρ4 ∧ (p x = true → ∃ ρ5, te ρ4 = .ok (.lf (k x)) ρ5 ∧ dropE ρ5 vs = some ρb) ∧ (p x = false → dropE ρ4 vs = some ρb)) :
    compF vs it tg tt te ρ = .ok (LS ((xs.filter p).map k)) ρ2 := by
  have g := compGo_typed (vs := vs) (tg := tg) (tt := tt) (te := te) (ρ := ρb) enc p k xs [] (by simpa using hl) hs
  rw [compF_is h1 h2 g, h3]
  rfl
theorem frz_comp {α : Type} {vs : List Nat} {it : Mo.Env → Res (List PyData)} {tg : PyData → Mo.Env → Option Mo.Env} {tt : Mo.Env → Res Bool} {te : Mo.Env → Res OT} {ρ ρ1 ρb ρ2 : Mo.Env} (xs : List α) (enc : α → PyData) (p : α → Bool) (k : α → PyData)
    (h1 : it ρ = .ok (xs.map enc) ρ1) (h2 : dropE ρ1 vs = some ρb) (h3 : restE ρ1 ρb vs = ρ2) (hl : xs.length ≤ 1000000)
    (hs : ∀ x ∈ xs, ∃ ρ3 ρ4, tg (enc x) ρb = some ρ3 ∧ tt ρ3 = .ok (p x) ρ4 ∧ (p x = true → ∃ ρ5, te ρ4 = .ok (.lf (k x)) ρ5 ∧ dropE ρ5 vs = some ρb) ∧ (p x = false → dropE ρ4 vs = some ρb)) :
    frzO (compF vs it tg tt te) ρ = .ok (.d (.list ((xs.filter p).map k))) ρ2 := by
  rw [frzO_ap, comp_typed xs enc p k h1 h2 h3 hl hs, bind_ok, view_LS]
/-! ### texts put together -/
theorem strs_S : ∀ l : List (List Nat), strsD (l.map fun c => S c) = some (l.map fun c => (⟨c.toArray⟩ : Str))
  | [] => rfl
  | c :: l => by
    show (strsD (l.map fun c => S c)).map _ = _
    rw [strs_S l]; rfl
theorem glue_all : ∀ (l : List (List Nat)) (acc : Array Nat), List.foldl (fun (acc : Array Nat) (p : Str) => acc ++ (Str.ofString "").cps ++ p.cps) acc (l.map fun c => (⟨c.toArray⟩ : Str)) = acc ++ l.flatten.toArray
  | [], acc => by simp
  | c :: l, acc => by
    have e : (Str.ofString "").cps = #[] := by decide
    rw [List.map_cons, List.foldl_cons, glue_all l, e]
    simp
theorem join_all {l : List (List Nat)} (h : l.flatten.length ≤ 1000000) : joinD "" (l.map fun c => S c) = some (S l.flatten) := by
  unfold joinD
  rw [strs_S]
  have e : Txt.join (Str.ofString "") (l.map fun c => (⟨c.toArray⟩ : Str)) = ⟨l.flatten.toArray⟩ := by
    show (⟨List.foldl (fun (acc : Array Nat) (p : Str) => acc ++ (Str.ofString "").cps ++ p.cps) ((l.map fun c => (⟨c.toArray⟩ : Str)).headD Str.empty).cps ((l.map fun c => (⟨c.toArray⟩ : Str)).drop 1)⟩ : Str) = _
    cases l with
    | nil => rfl
    | cons c l =>
      show (⟨List.foldl (fun (acc : Array Nat) (p : Str) => acc ++ (Str.ofString "").cps ++ p.cps) c.toArray (l.map fun c => (⟨c.toArray⟩ : Str))⟩ : Str) = _
      rw [glue_all]
      simp
  have l1 : ∀ l : List (List Nat), ((l.map fun c => (⟨c.toArray⟩ : Str)).map (·.length)).sum = l.flatten.length := by
    intro l
    induction l with
    | nil => rfl
    | cons c l ih =>
      rw [List.map_cons, List.map_cons, List.sum_cons, ih, List.flatten_cons, List.length_append]
      rfl
  show (if ((l.map fun c => (⟨c.toArray⟩ : Str)).map (·.length)).sum + (l.map fun c => (⟨c.toArray⟩ : Str)).length * (Str.ofString "").length ≤ 16777216 ∧ (Txt.join (Str.ofString "") (l.map fun c => (⟨c.toArray⟩ : Str))).length ≤ sizeLine then some (PyData.str (Txt.join (Str.ofString "") (l.map fun c => (⟨c.toArray⟩ : Str)))) else none) = _
  have e0 : (Str.ofString "").length = 0 := by decide
  rw [e, l1, e0, if_pos ⟨by omega, show l.flatten.length ≤ 2 ^ 24 by omega⟩]
theorem oAdd_l {x y : List PyData} (h : x.length + y.length ≤ 1000000) : oAdd (.list x) (.list y) = some (.list (x ++ y)) := if_pos (by show x.length + y.length ≤ 2 ^ 24; omega)
theorem intsD_map : ∀ ns : List Int, intsD (ns.map .int) = some ns
  | [] => rfl
  | n :: ns => by
    show (intsD (ns.map .int)).map (n :: ·) = _
    rw [intsD_map ns]; rfl
theorem usort_l {ns : List Int} (h : ns.length < 64) : bUsort [.list (ns.map .int)] = some (.list ((usort ns).map .int)) := by
  show (match intsD (ns.map PyData.int) with | some ns => if ns.length < 64 then some (PyData.list ((usort ns).map .int)) else none | none => none) = _
  rw [intsD_map]
  exact if_pos h

/-! ### a turn of a for -/
theorem forGo_nx {tg : PyData → Mo.Env → Option Mo.Env} {b : Mo.Env → SRes} {d : PyData} {ds : List PyData} {ρ ρ1 ρ2 : Mo.Env} (h : tg d ρ = some ρ1) (e : b ρ1 = .nx ρ2) : forGo tg b (d :: ds) ρ = forGo tg b ds ρ2 := by
  conv => lhs; unfold forGo
  rw [h]
  show (match b ρ1 with | .nx ρ2 => forGo tg b ds ρ2 | .ct ρ2 => forGo tg b ds ρ2 | .bk ρ2 => .nx ρ2 | .rt d ρ2 => .rt d ρ2 | .ex C ρ2 => .ex C ρ2 | .bad => .bad) = _
  rw [e]
theorem forGo_ex {tg : PyData → Mo.Env → Option Mo.Env} {b : Mo.Env → SRes} {d : PyData} {ds : List PyData} {ρ ρ1 ρ2 : Mo.Env} {C : Addr} (h : tg d ρ = some ρ1) (e : b ρ1 = .ex C ρ2) : forGo tg b (d :: ds) ρ = .ex C ρ2 := by
  conv => lhs; unfold forGo
  rw [h]
  show (match b ρ1 with | .nx ρ2 => forGo tg b ds ρ2 | .ct ρ2 => forGo tg b ds ρ2 | .bk ρ2 => .nx ρ2 | .rt d ρ2 => .rt d ρ2 | .ex C ρ2 => .ex C ρ2 | .bad => .bad) = _
  rw [e]
theorem forGo_nil {tg : PyData → Mo.Env → Option Mo.Env} {b : Mo.Env → SRes} {ρ : Mo.Env} : forGo tg b [] ρ = .nx ρ := by unfold forGo; rfl
end Mo

/-! Mo19: in, not in of data at any depth. -/
namespace Mo
variable [Tabs]
open PySem PySem.Spec PyProof.Rows L2
theorem hu65 {A : Around} {k : Nat} (h : Room k A) : A.units + 65 < cLine := by
  have := h.un
  omega
def oInG : D → D → Option D
  | x, .list ys => if SeqAt.shaped x = true ∧ SeqAt.shaped (.list ys) = true ∧ flat x = true ∧ flats ys = true then some (.bool (inD x ys)) else none
  | x, .tuple ys => if SeqAt.shaped x = true ∧ SeqAt.shaped (.tuple ys) = true ∧ flat x = true ∧ flats ys = true then some (.bool (inD x ys)) else none
  | .str a, .str b => match a.cps.toList with
    | [c] => some (.bool (decide (c ∈ b.cps.toList)))
    | _ => none
  | _, _ => none
def oNotInG : D → D → Option D := fun a b => match oInG a b with
  | some (.bool k) => some (.bool (!k))
  | _ => none
section
variable {X : Cx}
theorem room_in {A : Around} {xs : List D} {d : D} (hd : SeqAt.shaped d = true) (hu : A.units + 65 < cLine) : A.units + 1 + min (PyData.depthAll xs) d.depth < cLine := by
  have h1 := SeqAt.depth_of_shaped hd
  have h2 : min (PyData.depthAll xs) d.depth ≤ d.depth := Nat.min_le_right _ _
  omega
theorem or_inG (hu : X.A.units + 65 < cLine) : OpR X (compareOp .In) (rD2 X.K oInG) := by
  intro pins s σ H x y v u Q I rx ry h
  obtain ⟨G, a, b, c, ge, ra, rb, e, q⟩ := h
  unfold oInG at e
  split at e
  · split at e
    · rename_i hz
      cases e
      obtain ⟨s1, s2, f1, f2⟩ := hz
      exact op_inD hu pins s σ H _ _ v u Q I rx ry ⟨a, _, (ra.rp ge).dp f1, (Rv.rp ge rb).dp f2, s1, s2, q _ _ G (.refl ge) rfl⟩
    · cases e
  · split at e
    · rename_i hz
      cases e
      obtain ⟨s1, s2, f1, f2⟩ := hz
      obtain ⟨as, r1⟩ := Dp.reads I a x v ((ra.rp ge).dp f1) rx
      obtain ⟨bs, r2⟩ := Dp.reads I _ y u ((Rv.rp ge rb).dp f2) ry
      exact SeqAt.in_tuple_reads r2 r1 (SeqAt.canLay_of_shaped s2) (SeqAt.canLay_of_shaped s1) (room_in s1 hu) ⟨.bl _, H, I, rfl, q _ _ G (.refl ge) rfl⟩
    · cases e
  · split at e
    · rename_i a b _ d hd
      cases e; cases rb.1
      have : a = ⟨#[d]⟩ := by cases a; simp only at hd; congr; exact Array.toList_inj.mp hd
      subst this
      cases ra.1
      exact op_in_sign pins s σ H _ _ v u Q I rx ry ⟨d, b, rfl, rfl, q _ _ G (.refl ge) rfl⟩
    · cases e
  · cases e
theorem or_notinG (hu : X.A.units + 65 < cLine) : OpR X (compareOp .NotIn) (rD2 X.K oNotInG) := by
  intro pins s σ H x y v u Q I rx ry h
  obtain ⟨G, a, b, c, ge, ra, rb, e, q⟩ := h
  unfold oNotInG oInG at e
  split at e
  · rename_i k hk
    cases e
    split at hk
    · split at hk
      · rename_i hz
        cases hk
        obtain ⟨s1, s2, f1, f2⟩ := hz
        exact op_notInD hu pins s σ H _ _ v u Q I rx ry ⟨a, _, (ra.rp ge).dp f1, (Rv.rp ge rb).dp f2, s1, s2, q _ _ G (.refl ge) rfl⟩
      · cases hk
    · split at hk
      · rename_i hz
        cases hk
        obtain ⟨s1, s2, f1, f2⟩ := hz
        obtain ⟨as, r1⟩ := Dp.reads I a x v ((ra.rp ge).dp f1) rx
        obtain ⟨bs, r2⟩ := Dp.reads I _ y u ((Rv.rp ge rb).dp f2) ry
        exact SeqAt.notIn_tuple_reads r2 r1 (SeqAt.canLay_of_shaped s2) (SeqAt.canLay_of_shaped s1) (room_in s1 hu) ⟨.bl _, H, I, rfl, q _ _ G (.refl ge) rfl⟩
      · cases hk
    · split at hk
      · rename_i a b _ d hd
        cases hk; cases rb.1
        have : a = ⟨#[d]⟩ := by cases a; simp only at hd; congr; exact Array.toList_inj.mp hd
        subst this
        cases ra.1
        exact op_notIn_sign pins s σ H _ _ v u Q I rx ry ⟨d, b, rfl, rfl, q _ _ G (.refl ge) rfl⟩
      · cases hk
    · cases hk
  · cases e
end
end Mo

/-! Cm: things that can be compared. -/
namespace Mo
open PySem PySem.Spec PyProof.Rows L2
structure Cm (n : Nat) (d : PyData) : Prop where
  lay : d.canLay0 = true
  fl : flat d = true
  dp : d.depth ≤ n
theorem Cm.int {n : Nat} {i : Int} : Cm n (.int i) := ⟨rfl, rfl, Nat.zero_le _⟩
theorem Cm.bool {n : Nat} {b : Bool} : Cm n (.bool b) := ⟨rfl, rfl, Nat.zero_le _⟩
theorem Cm.none {n : Nat} : Cm n .none := ⟨rfl, rfl, Nat.zero_le _⟩
theorem Cm.str {n : Nat} {x : Str} (h : PyData.strOk x = true) : Cm n (.str x) := ⟨h, rfl, Nat.zero_le _⟩
theorem Cm.S {n : Nat} {l : List Nat} (h : okS l) : Cm n (S l) := .str (strOk_S h)
theorem cm_all {n : Nat} : ∀ {xs : List PyData}, (∀ x ∈ xs, Cm n x) → PyData.canLayAll0 xs = true ∧ flats xs = true ∧ PyData.depthAll xs ≤ n
  | [], _ => ⟨rfl, rfl, Nat.zero_le _⟩
  | x :: xs, h => by
    obtain ⟨a, b, c⟩ := cm_all fun y hy => h y (List.mem_cons_of_mem x hy)
    have q := h x (by simp)
    refine ⟨?_, ?_, ?_⟩
    · show (x.canLay0 && PyData.canLayAll0 xs) = true
      rw [q.lay, a]; rfl
    · show (flat x && flats xs) = true
      rw [q.fl, b]; rfl
    · show max x.depth (PyData.depthAll xs) ≤ n
      have := q.dp
      omega
theorem Cm.tup {n : Nat} {xs : List PyData} (h : ∀ x ∈ xs, Cm n x) : Cm (n + 1) (.tuple xs) := by
  obtain ⟨a, b, c⟩ := cm_all h
  exact ⟨a, b, Nat.succ_le_succ c⟩
theorem Cm.lst {n : Nat} {xs : List PyData} (h : ∀ x ∈ xs, Cm n x) : Cm (n + 1) (.list xs) := by
  obtain ⟨a, b, c⟩ := cm_all h
  exact ⟨a, b, Nat.succ_le_succ c⟩
theorem Cm.up {n m : Nat} {d : PyData} (h : Cm n d) (hm : n ≤ m) : Cm m d := ⟨h.lay, h.fl, Nat.le_trans h.dp hm⟩
theorem Cm.sh {n : Nat} {d : PyData} (h : Cm n d) (hn : n ≤ 64) : SeqAt.shaped d = true := by
  show (d.canLay0 && decide (d.depth ≤ 64)) = true
  rw [h.lay, decide_eq_true (Nat.le_trans h.dp hn)]; rfl
theorem oEq_cm {n : Nat} {a b : PyData} (ha : Cm n a) (hb : Cm n b) (hn : n ≤ 64 := by decide) : oEq a b = some (.bool (PyData.eqv a b)) := if_pos ⟨ha.sh hn, hb.sh hn, ha.fl, hb.fl⟩
theorem oNe_cm {n : Nat} {a b : PyData} (ha : Cm n a) (hb : Cm n b) (hn : n ≤ 64 := by decide) : oNe a b = some (.bool (!PyData.eqv a b)) := if_pos ⟨ha.sh hn, hb.sh hn, ha.fl, hb.fl⟩
theorem in_l {n : Nat} {x : PyData} {ys : List PyData} (hx : Cm n x) (hy : ∀ y ∈ ys, Cm n y) (hn : n ≤ 60 := by decide) : oInG x (.list ys) = some (.bool (inD x ys)) := by
  have L : Cm (n + 1) (.list ys) := .lst hy
  exact if_pos ⟨hx.sh (by omega), L.sh (by omega), hx.fl, L.fl⟩
theorem in_t {n : Nat} {x : PyData} {ys : List PyData} (hx : Cm n x) (hy : ∀ y ∈ ys, Cm n y) (hn : n ≤ 60 := by decide) : oInG x (.tuple ys) = some (.bool (inD x ys)) := by
  have L : Cm (n + 1) (.tuple ys) := .tup hy
  exact if_pos ⟨hx.sh (by omega), L.sh (by omega), hx.fl, L.fl⟩
theorem eqv_i {x y : Int} : PyData.eqv (.int x) (.int y) = decide (x = y) := by
  show (x == y) = _
  by_cases h : x = y
  · subst h; simp
  · simp [h]
theorem eqv_S {a b : List Nat} : PyData.eqv (S a) (S b) = decide (a = b) := by
  rw [← strEq_S]
  show ((⟨a.toArray⟩ : Str) == ⟨b.toArray⟩) = _
  by_cases h : (⟨a.toArray⟩ : Str) = ⟨b.toArray⟩
  · rw [h]; simp
  · simp [h]
theorem eqv_b {x y : Bool} : PyData.eqv (.bool x) (.bool y) = decide (x = y) := by cases x <;> cases y <;> rfl
theorem inD_ints {k : Int} {ns : List Int} : inD (.int k) (ns.map .int) = decide (k ∈ ns) := by
  unfold inD
  rw [List.any_map]
  have : ((fun y => PyData.eqv y (.int k)) ∘ PyData.int) = fun n => decide (n = k) := funext fun n => eqv_i
  rw [this, Bool.eq_iff_iff]
  simp
theorem inD_S {a : List Nat} {ls : List (List Nat)} : inD (S a) (ls.map fun l => S l) = decide (a ∈ ls) := by
  unfold inD
  rw [List.any_map]
  have : ((fun y => PyData.eqv y (S a)) ∘ fun l => S l) = fun n => decide (n = a) := funext fun n => eqv_S
  rw [this, Bool.eq_iff_iff]
  simp
end Mo

/-! Fi: the law's first statement. -/
namespace Mo
open PySem PySem.Spec PyProof.Rows L2
theorem first_is {ρ : Mo.Env} {ns : List Int} (h0 : ρ[0]? = some (.raw ns)) (h1 : ρ[1]? = some .un) (hl : ns.length ≤ 63) :
    setO 1 (lstO (consW (lfF (cF (.int 0))) (consW (lfF (cF (.int 0))) (consW (rawF 0) (consW (lfF (cF (.int 1))) nilW))))) ρ = .nx (ρ.set 1 (.v (T 0 0 ns 1))) := by
  have raw : rawF 0 ρ = .ok (LS (ns.map .int)) ρ := by
    unfold rawF
    rw [h0]
    show (if ns.length ≤ sizeLine then Res.ok (OT.ls (ns.map fun n => OT.lf (.int n))) ρ else .bad) = _
    rw [if_pos (Nat.le_trans hl (by decide))]
    unfold LS
    rw [List.map_map]
    rfl
  have rows : consW (lfF (cF (.int 0))) (consW (lfF (cF (.int 0))) (consW (rawF 0) (consW (lfF (cF (.int 1))) nilW))) ρ = .ok [.lf (.int 0), .lf (.int 0), LS (ns.map .int), .lf (.int 1)] ρ := by
    simp -implicitDefEqProofs only [Mo.show_LS, Mo.view_LS, ↓Mo.bind_bn, ↓Mo.tos_tn, ↓Mo.sthen_sn, ↓Mo.sel_sl, Mo.bn_ok, Mo.bn_ex, Mo.tn_ok, Mo.tn_ex, Mo.sn_nx, Mo.sn_rt, Mo.sn_bk, Mo.sn_ct, Mo.sn_ex, Mo.sl_t, Mo.sl_f, Mo.vw_d, Mo.vw_w, Mo.vw_r, Mo.vwR_LS, Mo.vwR_io, Mo.vwR_lf, Mo.stays_d, Mo.stays_r, Mo.stays_t, Mo.varF_ap, Mo.varR_lf, Mo.varR_LS, Mo.varR_io, Mo.varR_ls, Mo.cF_ap, Mo.ofO_s, Mo.binV_s, Mo.bin2_ap, Mo.unV_s, Mo.un1_ap, Mo.fzE_d, Mo.fzE_r, Mo.fzR_LS, Mo.fzR_ls, Mo.fzs_n, Mo.fzs_c, Mo.vws_n, Mo.vws_c, Mo.vwsC_s, Mo.nilV_ap, Mo.stay1_t, Mo.consV_ap, Mo.okIf_T, Mo.tupF_ap, Mo.lstF_ap, Mo.frzO_ap, Mo.lfF_ap, Mo.callV_s, Mo.callF_ap, Mo.outV_r, Mo.outV_x, Mo.callD_ap, Mo.ixV_s, Mo.ixV_n, Mo.ixF_ap, Mo.noP_ap, Mo.intV_i, Mo.someP_ap, Mo.slV_s, Mo.slF_ap, Mo.boolV_b, Mo.boolF_ap, Mo.truW_s, Mo.truV_s, Mo.truF_ap, Mo.truD_b, Mo.truD_i, Mo.okB_ap, Mo.andF_ap, Mo.orF_ap, Mo.notF_ap, Mo.okV_ap, Mo.selV_b, Mo.andV_ap, Mo.orV_ap, Mo.ifF_ap, Mo.seqF_ap, Mo.nxF_ap, Mo.bkF_ap, Mo.retF_ap, Mo.exprF_ap, Mo.ofE_s, Mo.asgF_ap, Mo.asgE_ap, Mo.asgR_un, Mo.asgR_v, Mo.asgR_raw, Mo.setO_ap, Mo.ifS_ap, Mo.gNil_ap, Mo.nextE_s, Mo.gCons_ap, Mo.lsAt_ap, Mo.lsR_LS, Mo.lsR_io, Mo.lsR_ls, Mo.appF_ap, Mo.appG_s, Mo.appK_LS, Mo.okIf_le, Mo.okIf_lt, Mo.outS_nx, Mo.outS_rt, Mo.outS_ex, Mo.outI_rt, Mo.outI_nx, Mo.bTup_l, Mo.bTup_t, Mo.bInt_b, Mo.bInt_i, Mo.dropE_n, Mo.dropE_c, Mo.dropN_s, Mo.drop1R_un, Mo.drop1R_lf, Mo.restE_n, Mo.restE_c, Mo.restR_s, Mo.forF_ap, Mo.itV_s, Mo.itF_ap, Mo.argF_ap, Mo.items_l, Mo.items_t, Mo.yesF_ap, Mo.repO_ap, Mo.nilW_ap, Mo.consW_ap, Mo.parF_ap, Mo.parN_s, Mo.parE_n, Mo.parE_c, Mo.ioK_v, Mo.ioK_io, Mo.ioH_s, Mo.ioG_s, Mo.ioArg_r, Mo.joinF_ap, Mo.insF_ap, Mo.insG_s, Mo.insArg_s, Mo.insH_s, Mo.extF_ap, Mo.extG_s, Mo.extH_s, Mo.tryF_ap, Mo.tryK_nx, Mo.tryK_rt, Mo.tryK_ex, Mo.raiseF_ap, Mo.lr2F_ap, Mo.lr1F_ap, Mo.lrPi_ap, Mo.okI_tr, oAdd_i, oSub_i, oLt_i, oLe_i, oGt_i, oGe_i, oEq_i, oNe_i, len_S, List.getElem?_cons_zero, List.getElem?_cons_succ, List.set_cons_zero, List.set_cons_succ, List.map_cons, List.map_nil, List.replicate_succ, List.replicate_zero, List.cons_append, List.nil_append, List.length_cons, List.length_nil, Nat.reduceLeDiff, Nat.reduceAdd, Nat.reduceSub, Nat.zero_le, Nat.add_one_sub_one, Nat.sub_self, Nat.zero_add, decide_true, decide_false, Bool.not_true, Bool.not_false, Bool.and_self, Bool.true_and, Bool.and_true, raw]
  have l : lstO (consW (lfF (cF (.int 0))) (consW (lfF (cF (.int 0))) (consW (rawF 0) (consW (lfF (cF (.int 1))) nilW)))) ρ = .ok (T 0 0 ns 1) ρ := by
    unfold lstO
    rw [rows, bind_ok]
    show (if 4 ≤ sizeLine then Res.ok (OT.ls _) ρ else .bad) = _
    rw [if_pos (by decide)]
    rfl
  rw [setO_ap, l, tos_ok, h1]
  rfl
theorem St.zero (ns : List Int) : St 0 (T 0 0 ns 1) := ⟨0, 0, ns, 1, rfl, by omega, by omega, by omega, by omega⟩
end Mo

/-! Mo20: quiet expressions in a generator's own frame: data in, data out, what stood is kept. -/
namespace Mo
open PySem PySem.Spec PyProof.Rows L2
theorem kp_trans {a b c : Shared} (h : Keeps a b) (g : Keeps b c) : Keeps a c := by
  obtain ⟨h1, k1, rfl, e1⟩ := h
  obtain ⟨h2, k2, rfl, e2⟩ := g
  exact ⟨h2, k2, rfl, fun b o e => e2 b o (e1 b o e)⟩
theorem kp_heap {a b : Shared} (h : Keeps a b) : ∀ x o, a.heap.get? x = some o → b.heap.get? x = some o := by
  obtain ⟨h1, k1, rfl, e1⟩ := h
  exact e1
mutual
/-- what is read stands in objects with a class -/
theorem reads_but {h h' : Heap} (k : ∀ b o, h.get? b = some o → o.cls ≠ .none → h'.get? b = some o) : ∀ {v : Value} {d : D} {as : List Addr}, Reads h v d as → Reads h' v d as
  | _, _, _, .none => .none
  | _, _, _, .bool b => .bool b
  | _, _, _, .int i t => .int i t
  | _, _, _, .str x t => .str x t
  | _, _, _, .list h1 h2 h3 h4 => .list (k _ _ h1 (by rw [h2]; nofun)) h2 h3 (readsAll_but k h4)
  | _, _, _, .tuple h1 h2 h3 h4 => .tuple (k _ _ h1 (by rw [h2]; nofun)) h2 h3 (readsAll_but k h4)
  | _, _, _, .dict h1 h2 h3 h4 h5 => .dict (k _ _ h1 (by rw [h2]; nofun)) h2 h3 (readsAll_but k h4) (readsAll_but k h5)
theorem readsAll_but {h h' : Heap} (k : ∀ b o, h.get? b = some o → o.cls ≠ .none → h'.get? b = some o) : ∀ {vs : List Value} {ds : List D} {as : List Addr}, ReadsAll h vs ds as → ReadsAll h' vs ds as
  | _, _, _, .nil => .nil
  | _, _, _, .cons h1 h2 => .cons (reads_but k h1) (readsAll_but k h2)
end
theorem ns_but {h h' : Heap} {a : Addr} {m : Str → Option Value} (k : ∀ o, h.get? a = some o → h'.get? a = some o) (n : h.Ns a m) : h'.Ns a m := n.at' k
/-- the generator's frame: its names have data, the module and the built-ins are there -/
structure GFr (mg : Str → Option Value) (cenv : PySem.Env) (N : List Str) (ds : List D) (s : Shared) : Prop where
  m : ∃ m, s.heap.Ns cenv.locals m ∧ ∀ (i : Nat) (x : Str) (d : D), N[i]? = some x → ds[i]? = some d → ∃ v as, m x = some v ∧ Reads s.heap v d as
  gl : s.heap.Ns cenv.globals mg
  bl : ∃ mb, s.heap.Ns cenv.builtins mb ∧ ∀ x : Str, x ≠ "__name__" → mb x = bootBuiltins x
theorem GFr.keeps {mg : Str → Option Value} {cenv : PySem.Env} {N : List Str} {ds : List D} {s s' : Shared} (F : GFr mg cenv N ds s) (k : Keeps s s') : GFr mg cenv N ds s' := by
  have kh := kp_heap k
  obtain ⟨⟨m, hm, hd⟩, g, ⟨mb, hb, hbb⟩⟩ := F
  exact ⟨⟨m, hm.keeps kh, fun i x d a b => by
    obtain ⟨v, as, h1, h2⟩ := hd i x d a b
    exact ⟨v, as, h1, PyProof.Rows.Reads.keeps kh h2⟩⟩, g.keeps kh, ⟨mb, hb.keeps kh, hbb⟩⟩
structure QE (prog : Program) (w : World) (mg : Str → Option Value) (scope : Scope) (N : List Str) (e : Expr) (f : List D → Option D) : Prop where
  run : ∀ (cenv : PySem.Env) (A : Around) (E : Value → Shared → Prop) (Q : Value → Shared → Prop) (s : Shared) (ds : List D) (d : D), cenv.scope = scope → GFr mg cenv N ds s → f ds = some d →
    (∀ v as s', Keeps s s' → Reads s'.heap v d as → Q v s') → wpAny (model prog w) A (eval e cenv) Q E s
section
variable {prog : Program} {w : World} {mg : Str → Option Value} {scope : Scope} {N : List Str} {a b c : Expr} {fa fb fc : List D → Option D}
theorem qe_name {x : Str} {p : Pos} (i : Nat) (hk : scope.kind = .function) (hN : N[i]? = some x) (hl : scope.names.lookup x = some .local) (hd : (x == ("__debug__" : Str)) = false := by decide) : QE prog w mg scope N (.Name x p) (fun ds => ds[i]?) := by
  refine ⟨fun cenv A E Q s ds d hs F hf h => ?_⟩
  obtain ⟨⟨m, hm, hr⟩, _, _⟩ := F
  obtain ⟨v, as, h1, h2⟩ := hr i x d hN hf
  exact wpAny_Name (wpAny_loadName_local (by rw [hs]; exact hk) (show cenv.scope.names.lookup x = some .local by rw [hs]; exact hl) hm h1 (h v as s (GxR.keeps_refl s) h2)) hd
theorem qe_int {i : Int} {j : Nat} {p : Pos} : QE prog w mg scope N (.Constant (.int i) j p) (fun _ => some (.int i)) :=
  ⟨fun cenv A E Q s ds d hs F hf h => by
    cases hf
    exact wpAny_Constant_int (h _ _ _ (GxR.keeps_tok s _) (.int i _))⟩
theorem qe_str {i : Str} {j : Nat} {p : Pos} : QE prog w mg scope N (.Constant (.str i) j p) (fun _ => some (.str i)) :=
  ⟨fun cenv A E Q s ds d hs F hf h => by
    cases hf
    exact Calls.Constant_str (h _ _ _ (GxR.keeps_tok s _) (.str i _))⟩
def qNot (f : List D → Option D) : List D → Option D := fun ds => match f ds with
  | some (.bool b) => some (.bool (!b))
  | _ => none
def qAnd (f g : List D → Option D) : List D → Option D := fun ds => match f ds with
  | some (.bool true) => g ds
  | some (.bool false) => some (.bool false)
  | _ => none
def qOr (f g : List D → Option D) : List D → Option D := fun ds => match f ds with
  | some (.bool false) => g ds
  | some (.bool true) => some (.bool true)
  | _ => none
theorem qe_not {p : Pos} (ha : QE prog w mg scope N a fa) : QE prog w mg scope N (.UnaryOp .Not a p) (qNot fa) := by
  refine ⟨fun cenv A E Q s ds d hs F hf h => ?_⟩
  unfold qNot at hf
  split at hf
  · rename_i b e
    cases hf
    refine UnaryOp_ (ha.run cenv A E _ s ds _ hs F e fun v as s' k r => ?_)
    cases r
    exact not_of (wpAny_truthy_bool (h _ _ s' k (.bool _)))
  · cases hf
theorem qe_one {op : BoolOp} {p : Pos} (ha : QE prog w mg scope N a fa) : QE prog w mg scope N (.BoolOp op [a] p) fa :=
  ⟨fun cenv A E Q s ds d hs F hf h => BoolOp_one (ha.run cenv A E Q s ds d hs F hf h)⟩
theorem qe_and {rest : List Expr} {p : Pos} (ha : QE prog w mg scope N a fa) (hb : QE prog w mg scope N (.BoolOp .And (b :: rest) p) fb) : QE prog w mg scope N (.BoolOp .And (a :: b :: rest) p) (qAnd fa fb) := by
  refine ⟨fun cenv A E Q s ds d hs F hf h => ?_⟩
  unfold qAnd at hf
  split at hf
  · rename_i e
    refine BoolOp_and (ha.run cenv A E _ s ds _ hs F e fun v as s' k r => ?_)
    cases r
    refine wpAny_truthy_bool ?_
    exact hb.run cenv A E Q s' ds d hs (F.keeps k) hf fun v as s2 k2 r => h v as s2 (kp_trans k k2) r
  · rename_i e
    cases hf
    refine BoolOp_and (ha.run cenv A E _ s ds _ hs F e fun v as s' k r => ?_)
    cases r
    refine wpAny_truthy_bool ?_
    exact h _ _ s' k (.bool _)
  · cases hf
theorem qe_or {rest : List Expr} {p : Pos} (ha : QE prog w mg scope N a fa) (hb : QE prog w mg scope N (.BoolOp .Or (b :: rest) p) fb) : QE prog w mg scope N (.BoolOp .Or (a :: b :: rest) p) (qOr fa fb) := by
  refine ⟨fun cenv A E Q s ds d hs F hf h => ?_⟩
  unfold qOr at hf
  split at hf
  · rename_i e
    refine BoolOp_or (ha.run cenv A E _ s ds _ hs F e fun v as s' k r => ?_)
    cases r
    refine wpAny_truthy_bool ?_
    exact hb.run cenv A E Q s' ds d hs (F.keeps k) hf fun v as s2 k2 r => h v as s2 (kp_trans k k2) r
  · rename_i e
    cases hf
    refine BoolOp_or (ha.run cenv A E _ s ds _ hs F e fun v as s' k r => ?_)
    cases r
    refine wpAny_truthy_bool ?_
    exact h _ _ s' k (.bool _)
  · cases hf
/-! ### operators of two -/
structure QO (prog : Program) (w : World) (op : Value → Value → Sem Value) (o : D → D → Option D) : Prop where
  run : ∀ (A : Around) (E : Value → Shared → Prop) (Q : Value → Shared → Prop) (s : Shared) (x y d : D) (u v : Value) (as bs : List Addr), Reads s.heap u x as → Reads s.heap v y bs → o x y = some d →
    (∀ v as s', Keeps s s' → Reads s'.heap v d as → Q v s') → wpAny (model prog w) A (op u v) Q E s
def q2 (o : D → D → Option D) (f g : List D → Option D) : List D → Option D := fun ds => match f ds, g ds with
  | some x, some y => o x y
  | _, _ => none
def qCmp (r : Int → Int → Bool) : D → D → Option D := fun x y => match x, y with
  | .int i, .int j => some (.bool (r i j))
  | _, _ => none
theorem qo_cmp {op : CmpOp} {r : Int → Int → Bool} (h : ∀ (A : Around) (E : Value → Shared → Prop) (Q : Value → Shared → Prop) (s : Shared) (i j : Int) (t u : Tok), Q (.bool (r i j)) s → wpAny (model prog w) A (compareOp op (.int i t) (.int j u)) Q E s) : QO prog w (compareOp op) (qCmp r) := by
  refine ⟨fun A E Q s x y d u v as bs hx hy e k => ?_⟩
  unfold qCmp at e
  split at e
  · cases e
    cases hx
    cases hy
    exact h A E Q s _ _ _ _ (k _ _ s (GxR.keeps_refl s) (.bool _))
  · cases e
theorem qo_lt : QO prog w (compareOp .Lt) (qCmp fun i j => decide (i < j)) := qo_cmp fun _ _ _ _ _ _ _ _ h => P.lt_int h
theorem qo_le : QO prog w (compareOp .LtE) (qCmp fun i j => decide (i ≤ j)) := qo_cmp fun _ _ _ _ _ _ _ _ h => P.le_int h
theorem qo_gt : QO prog w (compareOp .Gt) (qCmp fun i j => decide (j < i)) := qo_cmp fun _ _ _ _ _ _ _ _ h => P.gt_int h
theorem qo_ge : QO prog w (compareOp .GtE) (qCmp fun i j => decide (j ≤ i)) := qo_cmp fun _ _ _ _ _ _ _ _ h => P.ge_int h
def qPow : D → D → Option D := fun x y => match x, y with
  | .int i, .int j => if 0 ≤ j ∧ j ≤ 1000000 ∧ i.natAbs < 2 ^ 64 then some (.int (i ^ j.toNat)) else none
  | _, _ => none
theorem qo_pow : QO prog w (binaryOp .Pow) qPow := by
  refine ⟨fun A E Q s x y d u v as bs hx hy e k => ?_⟩
  unfold qPow at e
  split at e
  · split at e
    · rename_i hc
      cases e
      cases hx
      cases hy
      exact pow_int_small hc.1 hc.2.1 hc.2.2 (k _ _ _ (GxR.keeps_tok s _) (.int _ _))
    · cases e
  · cases e
theorem qe_bin {op : Operator} {o : D → D → Option D} {p : Pos} (ho : QO prog w (binaryOp op) o) (ha : QE prog w mg scope N a fa) (hb : QE prog w mg scope N b fb) : QE prog w mg scope N (.BinOp a op b p) (q2 o fa fb) := by
  refine ⟨fun cenv A E Q s ds d hs F hf h => ?_⟩
  unfold q2 at hf
  split at hf
  · rename_i x y ex ey
    refine wpAny_BinOp (ha.run cenv A E _ s ds _ hs F ex fun u as s1 k1 r1 => hb.run cenv A E _ s1 ds _ hs (F.keeps k1) ey fun v bs s2 k2 r2 => ?_)
    exact ho.run A E _ s2 x y d u v as bs (PyProof.Rows.Reads.keeps (kp_heap k2) r1) r2 hf fun v as s3 k3 r3 => h v as s3 (kp_trans (kp_trans k1 k2) k3) r3
  · cases hf
theorem qe_cmp {op : CmpOp} {o : D → D → Option D} {p : Pos} (ho : QO prog w (compareOp op) o) (ha : QE prog w mg scope N a fa) (hb : QE prog w mg scope N b fb)
    (h1 : behindInMarks op b = false := by first | exact nobehind _ (by decide) (by decide) | rfl) : QE prog w mg scope N (.Compare a [op] [b] p) (q2 o fa fb) := by
  refine ⟨fun cenv A E Q s ds d hs F hf h => ?_⟩
  unfold q2 at hf
  split at hf
  · rename_i x y ex ey
    refine wpAny_Compare1 (ha.run cenv A E _ s ds _ hs F ex fun u as s1 k1 r1 => hb.run cenv A E _ s1 ds _ hs (F.keeps k1) ey fun v bs s2 k2 r2 => ?_) h1
    exact ho.run A E _ s2 x y d u v as bs (PyProof.Rows.Reads.keeps (kp_heap k2) r1) r2 hf fun v as s3 k3 r3 => h v as s3 (kp_trans (kp_trans k1 k2) k3) r3
  · cases hf
/-- a op b op2 c -/
def qChain (o o2 : D → D → Option D) (f g k : List D → Option D) : List D → Option D := fun ds => match f ds, g ds with
  | some x, some y => match o x y with
    | some (.bool true) => (match k ds with
      | some z => o2 y z
      | none => none)
    | some (.bool false) => some (.bool false)
    | _ => none
  | _, _ => none
theorem qe_chain {op op2 : CmpOp} {o o2 : D → D → Option D} {p : Pos} (ho : QO prog w (compareOp op) o) (ho2 : QO prog w (compareOp op2) o2) (ha : QE prog w mg scope N a fa) (hb : QE prog w mg scope N b fb) (hc : QE prog w mg scope N c fc)
    (hm : lastMarks [op, op2] [b, c] = false := by with_unfolding_all rfl) : QE prog w mg scope N (.Compare a [op, op2] [b, c] p) (qChain o o2 fa fb fc) := by
  refine ⟨fun cenv A E Q s ds d hs F hf h => ?_⟩
  unfold qChain at hf
  split at hf
  · rename_i x y ex ey
    refine Compare_chain (ha.run cenv A E _ s ds _ hs F ex fun u as s1 k1 r1 => ?_) hm
    refine chain_link (hb.run cenv A E _ s1 ds _ hs (F.keeps k1) ey fun v bs s2 k2 r2 => ?_)
    split at hf
    · rename_i e
      refine ho.run A E _ s2 x y _ u v as bs (PyProof.Rows.Reads.keeps (kp_heap k2) r1) r2 e fun b1 a1 s3 k3 r3 => ?_
      cases r3
      refine wpAny_truthy_bool ?_
      show wpAny _ _ (compareChain p v [op2] (evalEach [c] cenv)) Q E s3
      cases ez : fc ds with
      | none => rw [ez] at hf; cases hf
      | some z =>
        rw [ez] at hf
        have k13 := kp_trans (kp_trans k1 k2) k3
        refine chain_last (hc.run cenv A E _ s3 ds z hs (F.keeps k13) ez fun v2 a2 s4 k4 r4 => ?_)
        exact ho2.run A E _ s4 y z d v v2 bs a2 (PyProof.Rows.Reads.keeps (kp_heap k4) (PyProof.Rows.Reads.keeps (kp_heap k3) r2)) r4 hf fun v3 a3 s5 k5 r5 => h v3 a3 s5 (kp_trans (kp_trans k13 k4) k5) r5
    · rename_i e
      cases hf
      refine ho.run A E _ s2 x y _ u v as bs (PyProof.Rows.Reads.keeps (kp_heap k2) r1) r2 e fun b1 a1 s3 k3 r3 => ?_
      cases r3
      exact wpAny_truthy_bool (h _ _ s3 (kp_trans (kp_trans k1 k2) k3) (.bool _))
    · cases hf
  · cases hf
/-! ### isinstance(e, T) -/
def qIsa (T : D → Bool) (f : List D → Option D) : List D → Option D := fun ds => (f ds).map fun x => .bool (T x)
theorem qe_isa {T : String} {tn : Str} {isT : D → Bool} {p p1 p2 : Pos} (hk : scope.kind = .function)
    (ht : ∀ (A : Around) (E : Value → Shared → Prop) (Q : Value → Shared → Prop) (s : Shared) (v : Value) (d : D) (as : List Addr), Reads s.heap v d as → (∀ tk, s.toks ≤ tk → Q (.bool (isT d)) { s with toks := tk }) → wpAny (model prog w) A (call (.builtin "isinstance") [v, .type T]) Q E s)
    (g1 : (∀ cenv : PySem.Env, cenv.scope = scope → cenv.kindOf "isinstance" = some .globalImplicit ∧ cenv.kindOf tn = some .globalImplicit)) (m1 : mg "isinstance" = none) (m2 : mg tn = none) (b2 : bootBuiltins tn = some (.type T)) (n2 : tn ≠ "__name__")
    (d2 : (tn == ("__debug__" : Str)) = false) (ha : QE prog w mg scope N a fa)
    (he : ∀ cenv : PySem.Env, starEach [a, .Name tn p2] cenv = [(false, eval a cenv), (false, eval (.Name tn p2) cenv)] := by intro _; rfl) :
    QE prog w mg scope N (.Call (.Name "isinstance" p1) [a, .Name tn p2] [] p) (qIsa isT fa) := by
  refine ⟨fun cenv A E Q s ds d hs F hf h => ?_⟩
  unfold qIsa at hf
  cases ex : fa ds with
  | none => rw [ex] at hf; cases hf
  | some x =>
    rw [ex] at hf
    cases hf
    obtain ⟨k1, k2⟩ := g1 cenv hs
    obtain ⟨_, gl, ⟨mb, hb, hbb⟩⟩ := id F
    refine wpAny_Call_Name_kw (Calls.Name_function_global (by rw [hs]; exact hk) k1 (Calls.loadGlobal_builtin gl m1 hb ((hbb "isinstance" (by decide)).trans boot_isinstance) ?_))
    rw [he cenv]
    refine Calls.callWith_builtin (by rfl) (Calls.evalArgs_plain (Calls.spliced_cons (ha.run cenv A E _ s ds _ hs F ex fun v as s1 k r => ?_)))
    have F1 := F.keeps k
    obtain ⟨_, gl1, ⟨mb1, hb1, hbb1⟩⟩ := id F1
    refine Calls.spliced_cons (Calls.Name_function_global (by rw [hs]; exact hk) k2 (Calls.loadGlobal_builtin gl1 m2 hb1 ((hbb1 tn n2).trans b2) ?_) d2)
    refine Calls.spliced_nil ?_
    exact ht A E Q s1 v x as r fun tk htk => h _ _ _ (kp_trans k (GxR.keeps_tok s1 tk)) (.bool _)
end
end Mo

/-! Mo21: all(..), any(..) of a generator expression over a tuple, over zip of two tuples. -/
namespace Mo
variable [Tabs]
open PySem PySem.Spec PyProof.Rows L2
/-- the tests of all items -/
def tests (p : D → Option D) : List D → Option (List Bool)
  | [] => some []
  | d :: ds => match p d, tests p ds with
    | some (.bool b), some bs => some (b :: bs)
    | _, _ => none
theorem tests_at {p : D → Option D} : ∀ {ds : List D} {bs : List Bool} {i : Nat} {d : D}, tests p ds = some bs → ds[i]? = some d → ∃ b, bs[i]? = some b ∧ p d = some (.bool b)
  | [], _, _, _, _, e => by simp at e
  | x :: ds, bs, i, d, h, e => by
    unfold tests at h
    split at h
    · rename_i b cs e1 e2
      cases h
      cases i with
      | zero =>
        have : x = d := by simpa using e
        subst this
        exact ⟨b, rfl, e1⟩
      | succ i =>
        obtain ⟨c, h1, h2⟩ := tests_at (i := i) (d := d) e2 (by simpa using e)
        exact ⟨c, by simpa using h1, h2⟩
    · cases h
theorem tests_len {p : D → Option D} : ∀ {ds : List D} {bs : List Bool}, tests p ds = some bs → bs.length = ds.length
  | [], _, h => by cases h; rfl
  | x :: ds, bs, h => by
    unfold tests at h
    split at h
    · rename_i b cs e1 e2
      cases h
      simp [tests_len e2]
    · cases h
theorem getD_at {bs : List Bool} {j : Nat} (hj : j < bs.length) : bs.getD j false = bs[j] := by simp [hj]
def trB (bs : List Bool) (j : Nat) : Bool := bs.getD j false
theorem all_trB (bs : List Bool) : (List.range bs.length).all (trB bs) = bs.all id := by
  rw [Bool.eq_iff_iff, List.all_eq_true, List.all_eq_true]
  constructor
  · intro h b hb
    obtain ⟨j, hj, e⟩ := List.getElem_of_mem hb
    have := h j (List.mem_range.mpr hj)
    unfold trB at this
    rw [getD_at hj, e] at this
    exact this
  · intro h j hj
    have hj' := List.mem_range.mp hj
    unfold trB
    rw [getD_at hj']
    exact h _ (List.getElem_mem hj')
theorem any_trB (bs : List Bool) : (List.range bs.length).any (trB bs) = bs.any id := by
  rw [Bool.eq_iff_iff, List.any_eq_true, List.any_eq_true]
  constructor
  · intro ⟨j, hj, h⟩
    have hj' := List.mem_range.mp hj
    unfold trB at h
    rw [getD_at hj'] at h
    exact ⟨_, List.getElem_mem hj', h⟩
  · intro ⟨b, hb, h⟩
    obtain ⟨j, hj, e⟩ := List.getElem_of_mem hb
    refine ⟨j, List.mem_range.mpr hj, ?_⟩
    unfold trB
    rw [getD_at hj, e]
    exact h
/-- the generator g with these tests, ready to be walked, in the state s5; H1: what was held before -/
def ReadyB (X : Cx) (pins : List (Addr × Obj)) (σ : L2.St) (H1 : Hp) (P : Addr) (bs : List Bool) (g : Addr) (s5 : Shared) : Prop :=
  ∃ (fp wr : List Addr) (G : Array GenState → Array GenState → Prop) (F : Nat → Value → Prop) (St : Nat → Shared → Prop),
    WalksS X.prog X.w X.A.in1 g fp wr G bs.length F St ∧ St 0 s5 ∧ TruthOf X.prog X.w X.A.in1 F (trB bs) ∧
    ∀ s', Moved wr G s5 s' → ∃ H2, GxR.Tabbed P H1 H2 ∧ Inv X pins σ H2 s'
section
variable {X : Cx} {pins : List (Addr × Obj)} {σ : L2.St} {H H1 : Hp} {s s1 : Shared}
/-- the source: an iterator over the items, made anew -/
def SrcN (X : Cx) (s1 : Shared) (v : Value) (ds : List D) : Prop :=
  ∀ (Q : Value → Shared → Prop), (∀ (I : Addr) (fp wr : List Addr) (Pv : Nat → Value → Prop) (St : Nat → Heap → Prop) (h2 : Heap) (tk : Nat),
      (∀ A' : Around, A'.handled = none → Walks X.prog X.w A' I fp wr ds.length Pv St) → St 0 h2 → (∀ b ∈ fp, b < h2.objs.size) → (∀ b ∈ fp, s1.heap.objs.size ≤ b ∨ ∃ o, s1.heap.get? b = some o ∧ o.cls ≠ .none) → (∀ b ∈ wr, s1.heap.objs.size ≤ b) →
      s1.heap.objs.size ≤ h2.objs.size → (∀ b o, s1.heap.get? b = some o → h2.get? b = some o) → h2.NoLimit → (∀ i u, Pv i u → ∃ d as, ds[i]? = some d ∧ Reads s1.heap u d as) → Q (.ref I) { s1 with heap := h2, toks := tk }) →
    wpAny (model X.prog X.w) X.A (pyIter v) Q X.xe s1
theorem gen_src {c P : Addr} {elt iter : Expr} {x : Str} {px gpos : Pos} {scope : Scope} {fe : List D → Option D} {k : Nat} {Q' : Value → Shared → Prop}
    (hr : Room k X.A) (TB : GxR.TabB X.base X.mg c P) (hcode : X.env.code = .ref c) (S : GxR.GenS X.env scope x) (hel : QE X.prog X.w X.mg scope [x] elt fe)
    (hs : ∀ v, genFold iter X.env v = pure v)
    (hi : wpAny (model X.prog X.w) X.A (eval iter X.env) (fun v s1 => ∃ H1 ds bs, Inv X pins σ H1 s1 ∧ GxR.TabG H1 P ∧ SrcN X s1 v ds ∧ tests (fun d => fe [d]) ds = some bs ∧
      ∀ g s5, ReadyB X pins σ H1 P bs g s5 → Q' (.ref g) s5) X.xe s) :
    wpAny (model X.prog X.w) X.A (eval (.GeneratorExp elt [⟨.Name x px, iter, [], 0⟩] scope gpos) X.env) Q' X.xe s := by
  refine wpAny_GeneratorExp_walksQ hr.hd S.co (closure_ok S.free) S.cell S.dot S.loc S.kind (by have := hr.dp; omega) ?_ hs
  refine thn hi fun xv s1 ⟨H1, ds, bs, I1, ⟨ps, hP, ht⟩, src, hb, hQ⟩ => ?_
  refine src _ fun I fp wr Pv St h2 tk2 W hst hfp hfc hwr hsz2 hk2 lim2 hit => ?_
  have hPs : s1.heap.get? P = some { cls := .none, data := .fields ps } := I1.hok P _ hP
  have hPlt : P < s1.heap.objs.size := Heap.lt_size hPs
  have hP2 : h2.get? P = some { cls := .none, data := .fields ps } := hk2 _ _ hPs
  have hPfp : ∀ b ∈ fp, b ≠ P := fun b hb z => by
    subst z
    rcases hfc b hb with y | ⟨o, e, hc⟩
    · exact absurd y (Nat.not_le_of_lt hPlt)
    · rw [hPs] at e
      cases e
      exact hc rfl
  have cd : PySem.W.CodeHd h2 c P := TB.code.keeps fun b u e => hk2 _ _ (I1.bk b u e)
  have hlen := tests_len hb
  have cont : ∀ (code : Value) (h3 : Heap) (tk : Nat) (ps' : Array Value), Heap.ExtBut P h2 h3 → h2.objs.size ≤ h3.objs.size → h3.get? P = some { cls := .none, data := .fields ps' } → (∃ more, ps' = ps ++ more) → TriplesOk ps'.toList →
      wpAny (model X.prog X.w) X.A (builtinsFor X.env.globals X.env.builtins) (fun bi s₄ =>
        ∃ Ia fp wr n₀ Pf St₀ pz F, Value.ref I = .ref Ia ∧ (∀ A' : Around, A'.handled = none → Walks X.prog X.w A' Ia fp wr n₀ Pf St₀) ∧ St₀ 0 s₄.heap ∧ (∀ b ∈ fp, b < s₄.heap.objs.size) ∧ s₄.heap.NoLimit ∧ cStatics ∉ wr ∧
          (∀ href : Heap, (∀ b o, s₄.heap.get? b = some o → href.get? b = some o) →
            QuietGen X.prog X.w (genEnv scope (cloFrom X.env.cells scope.names []) s₄.heap.objs.size code bi X.env) x [] elt (List.range s₄.heap.objs.size) wr Pf pz F href) ∧
          (∀ a h₅ tk gs, gs.bare = true → s₄.heap.objs.size < a → h₅.objs.size = a + 1 → (∀ b o, s₄.heap.get? b = some o → h₅.get? b = some o) →
            WalksS X.prog X.w X.A.in4 a (a :: s₄.heap.objs.size :: List.range s₄.heap.objs.size) (s₄.heap.objs.size :: wr) (GenOnlyQ s₄.gens.size) (passing pz n₀ 0).length
              (fun j y => ∃ i, (passing pz n₀ 0)[j]? = some i ∧ F i y) (GenAt X.prog X.w X.A.in4 a s₄.gens.size s₄.heap.objs.size (List.range s₄.heap.objs.size) wr pz n₀ F) →
            GenAt X.prog X.w X.A.in4 a s₄.gens.size s₄.heap.objs.size (List.range s₄.heap.objs.size) wr pz n₀ F 0 { s₄ with gens := s₄.gens.push gs, toks := tk, heap := h₅ } →
            Q' (.ref a) { s₄ with gens := s₄.gens.push gs, toks := tk, heap := h₅ })) X.xe { s1 with heap := h3, toks := tk } := by
    intro code h3 tk ps' hx hsz hP3 hmore ht3
    obtain ⟨bm, ob, e1, e2, e3, e4, e5, e6, e7, e8⟩ := TB.bm
    have hcP : cStatics ≠ P := fun e => by
      obtain ⟨_, hns, _⟩ := I1.nolimit
      obtain ⟨o', es, ep, ho, hd, _⟩ := hns
      rw [e, hPs] at ho
      cases ho
      cases hd
    have hcl : cStatics < s1.heap.objs.size := let ⟨_, hns, _⟩ := I1.nolimit; hns.lt
    have keep3 : ∀ b u, b ≠ P → s1.heap.get? b = some u → h3.get? b = some u := fun b u hb e => hx b u hb (hk2 _ _ e)
    have gl3 : h3.Ns mainGlobals X.mg := ((I1.mod.glob.keeps I1.bk).keeps hk2).extBut hx TB.gP
    refine wpAny_builtinsFor (m := X.mg) (by rw [I1.ok.glob]; exact gl3) e1 e2 (keep3 _ _ e4 (I1.bk _ _ e5)) e6 e7 e8 ?_
    have bP : builtinsNs ≠ P := fun z => by
      obtain ⟨mb, h1, _⟩ := I1.mod.blt
      obtain ⟨o', es, ep, ho, hd, _⟩ := h1.keeps I1.bk
      rw [z, hPs] at ho
      cases ho
      cases hd
    refine ⟨I, fp, wr, ds.length, Pv, St, (fun _ => true), (fun i y => ∃ b, bs[i]? = some b ∧ y = .bool b), rfl, W, ?_, ?_, lim2.extBut hx hcP, ?_, ?_, ?_⟩
    · exact (W X.A hr.hd).frame _ _ _ hst fun b hb u e => hx b u (hPfp b hb) e
    · intro b hb
      exact Nat.lt_of_lt_of_le (hfp b hb) hsz
    · intro z
      exact absurd (hwr _ z) (Nat.not_le_of_lt hcl)
    · intro href hhref
      have kept : ∀ (s₂ : Shared), (∀ b ∈ List.range h3.objs.size, b ∉ wr → ∀ o, href.get? b = some o → s₂.heap.get? b = some o) → ∀ b o, b ≠ P → s1.heap.get? b = some o → s₂.heap.get? b = some o := fun s₂ hk b o hb e => by
        have l1 := Heap.lt_size e
        have l3 : b < h3.objs.size := Nat.lt_of_lt_of_le l1 (Nat.le_trans hsz2 hsz)
        exact hk b (List.mem_range.mpr l3) (fun z => absurd (hwr _ z) (Nat.not_le_of_lt l1)) o (hhref b o (keep3 b o hb e))
      refine ⟨fun A' E' i v s₂ m₂ hA hPv hn hm hk => ?_, fun A' E' i v s₂ m₂ hA hPv hp hn hm hk => ?_⟩
      · simp only [List.forIn_nil]
        exact wpAny_pure ⟨rfl, GxR.keeps_refl _⟩
      · obtain ⟨d, as, hd, rd⟩ := hit i v hPv
        obtain ⟨b, hb1, hb2⟩ := tests_at hb hd
        have kp := kept s₂ hk
        have kpR : ∀ b o, s1.heap.get? b = some o → b ≠ P → s₂.heap.get? b = some o := fun b o e n => kp b o n e
        have rd2 : Reads s₂.heap v d as := reads_but (fun b o e hc => kpR b o e (fun z => by rw [z, hPs] at e; cases e; exact hc rfl)) rd
        have fr : GFr X.mg (genEnv scope (cloFrom X.env.cells scope.names []) h3.objs.size code builtinsNs X.env) [x] [d] s₂ := by
          refine ⟨⟨m₂, hn, fun j y e h1 h2 => ?_⟩, ?_, ?_⟩
          · cases j with
            | zero =>
              cases h1; cases h2
              exact ⟨v, as, hm, rd2⟩
            | succ j => simp at h1
          · show s₂.heap.Ns X.env.globals X.mg
            rw [I1.ok.glob]
            exact ns_but (fun o e => kpR _ _ e (Ne.symm (fun z => TB.gP z.symm))) (I1.mod.glob.keeps I1.bk)
          · obtain ⟨mb, h1, h2⟩ := I1.mod.blt
            exact ⟨mb, ns_but (fun o e => kpR _ _ e bP) (h1.keeps I1.bk), h2⟩
        exact hel.run _ A' E' _ s₂ [d] (.bool b) rfl fr hb2 fun u as s' k r => by
          cases r
          exact ⟨⟨b, hb1, rfl⟩, k⟩
    · intro g h5 tk5 gs hgb hag hsz5 hk5 W5 hat
      simp only [GxR.passing_true, List.length_range] at W5
      rw [← hlen] at W5 hat
      refine hQ g _ ⟨_, _, _, _, _, W5.in4_1, hat, ?_, fun s' hm => ?_⟩
      · intro j y sj Qj Ej hy hQj
        obtain ⟨i, hij, b, hb1, rfl⟩ := hy
        obtain ⟨hj, ej⟩ := List.getElem?_eq_some_iff.mp hij
        rw [List.getElem_range] at ej
        subst ej
        have : trB bs j = b := by
          unfold trB
          rw [List.getD_eq_getElem?_getD, hb1]
          rfl
        rw [this] at hQj
        exact wpAny_truthy_bool hQj
      · obtain ⟨more, em⟩ := hmore
        have nwr : ∀ b u, s1.heap.get? b = some u → b ∉ h3.objs.size :: wr := fun b u e hb => by
          have hl := Heap.lt_size e
          rcases List.mem_cons.mp hb with z | z
          · have h9 : b = h3.objs.size := z
            rw [h9] at hl
            exact absurd (Nat.le_trans hsz2 hsz) (Nat.not_le_of_lt hl)
          · exact absurd (hwr _ z) (Nat.not_le_of_lt hl)
        have J := GxR.inv_tab (more := more) (h' := s'.heap) (g' := s'.gens) (d' := s'.drawn) (t' := s'.toks) I1 hP (fun b u hb e => hm.heap b u (nwr b u e) (hk5 b u (keep3 b u hb e)))
          (by rw [← em]; exact hm.heap P _ (nwr P _ hPs) (hk5 P _ hP3)) (AllBare.movedS (I1.bare.push hgb) hm)
        rw [GxR.sh_eta s1 s' hm.os] at J
        refine ⟨upd H1 P (.tbl (ps ++ more)), ⟨⟨ps ++ more, upd_same, by rw [← em]; exact ht3⟩, fun b hb => upd_ne hb⟩, J⟩
  refine ⟨lim2, ?_⟩
  cases hf : codeAmong gpos ps.toList with
  | none =>
    refine wpAny_genexprCodeX hcode (cd.code hP2 ht) (cd.tab hP2) hf fun c' h' tk hx hge hlt hco' _ htab' _ => ?_
    obtain ⟨o1, vs, f1, tf, fl, tg, inF, tx, tt, op, _, _, _, _, _, _, _, _, _, htr, _⟩ := hco'
    exact cont _ h' tk _ hx (Nat.le_trans hge (Nat.le_of_lt hlt)) htab'.2 ⟨_, rfl⟩ htr
  | some cv =>
    refine wpAny_genexprCode_hit hcode (cd.code hP2 ht) hf ?_
    exact cont cv h2 tk2 ps (Heap.ExtBut.refl _ _) (Nat.le_refl _) hP2 ⟨#[], by simp⟩ ht
def pairT (fe : List D → Option D) : D → Option D := fun d => match d with
  | .tuple [x, y] => fe [x, y]
  | _ => none
/-- the same of pairs -/
def SrcP (X : Cx) (s1 s1' : Shared) (v : Value) (ds : List D) : Prop :=
  ∀ (Q : Value → Shared → Prop), (∀ (I : Addr) (fp wr : List Addr) (Pv : Nat → Array Value → Prop) (St : Nat → Heap → Prop) (Mid : Nat → Addr → Heap → Prop) (h2 : Heap) (tk : Nat),
      (∀ A' : Around, A'.handled = none → WalksU X.prog X.w A' I fp wr ds.length Pv St Mid) → St 0 h2 → (∀ b ∈ fp, b < h2.objs.size) → (∀ b ∈ fp, s1.heap.objs.size ≤ b ∨ ∃ o, s1.heap.get? b = some o ∧ o.cls ≠ .none) → (∀ b ∈ wr, s1.heap.objs.size ≤ b) →
      s1.heap.objs.size ≤ h2.objs.size → (∀ b o, s1.heap.get? b = some o → h2.get? b = some o) → h2.NoLimit → (∀ i vals, Pv i vals → ∃ va vb x y as bs, vals = #[va, vb] ∧ ds[i]? = some (.tuple [x, y]) ∧ Reads s1.heap va x as ∧ Reads s1.heap vb y bs) → Q (.ref I) { s1 with heap := h2, toks := tk }) →
    wpAny (model X.prog X.w) X.A (pyIter v) Q X.xe s1'
theorem gen_srcP {c P : Addr} {elt iter : Expr} {xa xb : Str} {pa pb pt gpos : Pos} {kt : Nat} {scope : Scope} {fe : List D → Option D} {k : Nat} {Q' : Value → Shared → Prop}
    (hr : Room k X.A) (TB : GxR.TabB X.base X.mg c P) (hcode : X.env.code = .ref c) (S : GxR.GenS X.env scope xa) (Sb : scope.names.lookup xb = some .local) (hab : xa ≠ xb) (hel : QE X.prog X.w X.mg scope [xa, xb] elt fe)
    (hs : ∀ v, genFold iter X.env v = pure v)
    (hi : wpAny (model X.prog X.w) X.A (eval iter X.env) (fun v s1' => ∃ s1 H1 ds bs, Inv X pins σ H1 s1 ∧ GxR.TabG H1 P ∧ SrcP X s1 s1' v ds ∧ tests (pairT fe) ds = some bs ∧
      ∀ g s5, ReadyB X pins σ H1 P bs g s5 → Q' (.ref g) s5) X.xe s) :
    wpAny (model X.prog X.w) X.A (eval (.GeneratorExp elt [⟨.Tuple [.Name xa pa, .Name xb pb] kt pt, iter, [], 0⟩] scope gpos) X.env) Q' X.xe s := by
  refine wpAny_GeneratorExp_walksQT hr.hd S.co (closure_ok S.free) S.cell S.dot S.loc Sb hab S.kind (by have := hr.dp; omega) ?_ hs
  refine thn hi fun xv s1' ⟨s1, H1, ds, bs, I1, ⟨ps, hP, ht⟩, src, hb, hQ⟩ => ?_
  refine src _ fun I fp wr Pv St Mid h2 tk2 W hst hfp hfc hwr hsz2 hk2 lim2 hit => ?_
  have hPs : s1.heap.get? P = some { cls := .none, data := .fields ps } := I1.hok P _ hP
  have hPlt : P < s1.heap.objs.size := Heap.lt_size hPs
  have hP2 : h2.get? P = some { cls := .none, data := .fields ps } := hk2 _ _ hPs
  have hPfp : ∀ b ∈ fp, b ≠ P := fun b hb z => by
    subst z
    rcases hfc b hb with y | ⟨o, e, hc⟩
    · exact absurd y (Nat.not_le_of_lt hPlt)
    · rw [hPs] at e
      cases e
      exact hc rfl
  have cd : PySem.W.CodeHd h2 c P := TB.code.keeps fun b u e => hk2 _ _ (I1.bk b u e)
  have hlen := tests_len hb
  have cont : ∀ (code : Value) (h3 : Heap) (tk : Nat) (ps' : Array Value), Heap.ExtBut P h2 h3 → h2.objs.size ≤ h3.objs.size → h3.get? P = some { cls := .none, data := .fields ps' } → (∃ more, ps' = ps ++ more) → TriplesOk ps'.toList →
      wpAny (model X.prog X.w) X.A (builtinsFor X.env.globals X.env.builtins) (fun bi s₄ =>
        ∃ Ia fp wr n₀ Pf St₀ Mid pz F, Value.ref I = .ref Ia ∧ (∀ A' : Around, A'.handled = none → WalksU X.prog X.w A' Ia fp wr n₀ Pf St₀ Mid) ∧ (∀ i vals, Pf i vals → ∃ va vb, vals = #[va, vb]) ∧ St₀ 0 s₄.heap ∧ (∀ b ∈ fp, b < s₄.heap.objs.size) ∧ s₄.heap.NoLimit ∧ cStatics ∉ wr ∧
          (∀ href : Heap, (∀ b o, s₄.heap.get? b = some o → href.get? b = some o) →
            QuietGenT X.prog X.w (genEnv scope (cloFrom X.env.cells scope.names []) s₄.heap.objs.size code bi X.env) xa xb [] elt (List.range s₄.heap.objs.size) wr Pf pz F href) ∧
          (∀ a h₅ tk gs, gs.bare = true → s₄.heap.objs.size < a → h₅.objs.size = a + 1 → (∀ b o, s₄.heap.get? b = some o → h₅.get? b = some o) →
            WalksS X.prog X.w X.A.in4 a (a :: s₄.heap.objs.size :: List.range s₄.heap.objs.size) (s₄.heap.objs.size :: wr) (GenOnlyQ s₄.gens.size) (passing pz n₀ 0).length
              (fun j y => ∃ i, (passing pz n₀ 0)[j]? = some i ∧ F i y) (GenAt X.prog X.w X.A.in4 a s₄.gens.size s₄.heap.objs.size (List.range s₄.heap.objs.size) wr pz n₀ F) →
            GenAt X.prog X.w X.A.in4 a s₄.gens.size s₄.heap.objs.size (List.range s₄.heap.objs.size) wr pz n₀ F 0 { s₄ with gens := s₄.gens.push gs, toks := tk, heap := h₅ } →
            Q' (.ref a) { s₄ with gens := s₄.gens.push gs, toks := tk, heap := h₅ })) X.xe { s1 with heap := h3, toks := tk } := by
    intro code h3 tk ps' hx hsz hP3 hmore ht3
    obtain ⟨bm, ob, e1, e2, e3, e4, e5, e6, e7, e8⟩ := TB.bm
    have hcP : cStatics ≠ P := fun e => by
      obtain ⟨_, hns, _⟩ := I1.nolimit
      obtain ⟨o', es, ep, ho, hd, _⟩ := hns
      rw [e, hPs] at ho
      cases ho
      cases hd
    have hcl : cStatics < s1.heap.objs.size := let ⟨_, hns, _⟩ := I1.nolimit; hns.lt
    have keep3 : ∀ b u, b ≠ P → s1.heap.get? b = some u → h3.get? b = some u := fun b u hb e => hx b u hb (hk2 _ _ e)
    have gl3 : h3.Ns mainGlobals X.mg := ((I1.mod.glob.keeps I1.bk).keeps hk2).extBut hx TB.gP
    refine wpAny_builtinsFor (m := X.mg) (by rw [I1.ok.glob]; exact gl3) e1 e2 (keep3 _ _ e4 (I1.bk _ _ e5)) e6 e7 e8 ?_
    have bP : builtinsNs ≠ P := fun z => by
      obtain ⟨mb, h1, _⟩ := I1.mod.blt
      obtain ⟨o', es, ep, ho, hd, _⟩ := h1.keeps I1.bk
      rw [z, hPs] at ho
      cases ho
      cases hd
    refine ⟨I, fp, wr, ds.length, Pv, St, Mid, (fun _ => true), (fun i y => ∃ b, bs[i]? = some b ∧ y = .bool b), rfl, W, (fun i vals h => by obtain ⟨va, vb, _, _, _, _, h1, _⟩ := hit i vals h; exact ⟨va, vb, h1⟩), ?_, ?_, lim2.extBut hx hcP, ?_, ?_, ?_⟩
    · exact (W X.A hr.hd).frame _ _ _ hst fun b hb u e => hx b u (hPfp b hb) e
    · intro b hb
      exact Nat.lt_of_lt_of_le (hfp b hb) hsz
    · intro z
      exact absurd (hwr _ z) (Nat.not_le_of_lt hcl)
    · intro href hhref
      have kept : ∀ (s₂ : Shared), (∀ b ∈ List.range h3.objs.size, b ∉ wr → ∀ o, href.get? b = some o → s₂.heap.get? b = some o) → ∀ b o, b ≠ P → s1.heap.get? b = some o → s₂.heap.get? b = some o := fun s₂ hk b o hb e => by
        have l1 := Heap.lt_size e
        have l3 : b < h3.objs.size := Nat.lt_of_lt_of_le l1 (Nat.le_trans hsz2 hsz)
        exact hk b (List.mem_range.mpr l3) (fun z => absurd (hwr _ z) (Nat.not_le_of_lt l1)) o (hhref b o (keep3 b o hb e))
      refine ⟨fun A' E' i va vb s₂ m₂ hA hPv hn hm hm' hk => ?_, fun A' E' i va vb s₂ m₂ hA hPv hp hn hm hm' hk => ?_⟩
      · simp only [List.forIn_nil]
        exact wpAny_pure ⟨rfl, GxR.keeps_refl _⟩
      · obtain ⟨va', vb', x, y, as, cs, ev, hd, rd, re⟩ := hit i _ hPv
        cases ev
        obtain ⟨b, hb1, hb2⟩ := tests_at hb hd
        replace hb2 : fe [x, y] = some (.bool b) := hb2
        have kp := kept s₂ hk
        have kpR : ∀ b o, s1.heap.get? b = some o → b ≠ P → s₂.heap.get? b = some o := fun b o e n => kp b o n e
        have rd2 : Reads s₂.heap va x as := reads_but (fun b o e hc => kpR b o e (fun z => by rw [z, hPs] at e; cases e; exact hc rfl)) rd
        have re2 : Reads s₂.heap vb y cs := reads_but (fun b o e hc => kpR b o e (fun z => by rw [z, hPs] at e; cases e; exact hc rfl)) re
        have fr : GFr X.mg (genEnv scope (cloFrom X.env.cells scope.names []) h3.objs.size code builtinsNs X.env) [xa, xb] [x, y] s₂ := by
          refine ⟨⟨m₂, hn, fun j z e h1 h2 => ?_⟩, ?_, ?_⟩
          · cases j with
            | zero =>
              cases h1; cases h2
              exact ⟨va, as, hm, rd2⟩
            | succ j =>
              cases j with
              | zero =>
                cases h1; cases h2
                exact ⟨vb, cs, hm', re2⟩
              | succ j => simp at h1
          · show s₂.heap.Ns X.env.globals X.mg
            rw [I1.ok.glob]
            exact ns_but (fun o e => kpR _ _ e (Ne.symm (fun z => TB.gP z.symm))) (I1.mod.glob.keeps I1.bk)
          · obtain ⟨mb, h1, h2⟩ := I1.mod.blt
            exact ⟨mb, ns_but (fun o e => kpR _ _ e bP) (h1.keeps I1.bk), h2⟩
        exact hel.run _ A' E' _ s₂ [x, y] (.bool b) rfl fr hb2 fun u as s' k r => by
          cases r
          exact ⟨⟨b, hb1, rfl⟩, k⟩
    · intro g h5 tk5 gs hgb hag hsz5 hk5 W5 hat
      simp only [GxR.passing_true, List.length_range] at W5
      rw [← hlen] at W5 hat
      refine hQ g _ ⟨_, _, _, _, _, W5.in4_1, hat, ?_, fun s' hm => ?_⟩
      · intro j y sj Qj Ej hy hQj
        obtain ⟨i, hij, b, hb1, rfl⟩ := hy
        obtain ⟨hj, ej⟩ := List.getElem?_eq_some_iff.mp hij
        rw [List.getElem_range] at ej
        subst ej
        have : trB bs j = b := by
          unfold trB
          rw [List.getD_eq_getElem?_getD, hb1]
          rfl
        rw [this] at hQj
        exact wpAny_truthy_bool hQj
      · obtain ⟨more, em⟩ := hmore
        have nwr : ∀ b u, s1.heap.get? b = some u → b ∉ h3.objs.size :: wr := fun b u e hb => by
          have hl := Heap.lt_size e
          rcases List.mem_cons.mp hb with z | z
          · have h9 : b = h3.objs.size := z
            rw [h9] at hl
            exact absurd (Nat.le_trans hsz2 hsz) (Nat.not_le_of_lt hl)
          · exact absurd (hwr _ z) (Nat.not_le_of_lt hl)
        have J := GxR.inv_tab (more := more) (h' := s'.heap) (g' := s'.gens) (d' := s'.drawn) (t' := s'.toks) I1 hP (fun b u hb e => hm.heap b u (nwr b u e) (hk5 b u (keep3 b u hb e)))
          (by rw [← em]; exact hm.heap P _ (nwr P _ hPs) (hk5 P _ hP3)) (AllBare.movedS (I1.bare.push hgb) hm)
        rw [GxR.sh_eta s1 s' hm.os] at J
        refine ⟨upd H1 P (.tbl (ps ++ more)), ⟨⟨ps ++ more, upd_same, by rw [← em]; exact ht3⟩, fun b hb => upd_ne hb⟩, J⟩
  refine ⟨lim2, ?_⟩
  cases hf : codeAmong gpos ps.toList with
  | none =>
    refine wpAny_genexprCodeX hcode (cd.code hP2 ht) (cd.tab hP2) hf fun c' h' tk hx hge hlt hco' _ htab' _ => ?_
    obtain ⟨o1, vs, f1, tf, fl, tg, inF, tx, tt, op, _, _, _, _, _, _, _, _, _, htr, _⟩ := hco'
    exact cont _ h' tk _ hx (Nat.le_trans hge (Nat.le_of_lt hlt)) htab'.2 ⟨_, rfl⟩ htr
  | some cv =>
    refine wpAny_genexprCode_hit hcode (cd.code hP2 ht) hf ?_
    exact cont cv h2 tk2 ps (Heap.ExtBut.refl _ _) (Nat.le_refl _) hP2 ⟨#[], by simp⟩ ht

/-! ### sources -/
theorem items_read {X : Cx} {pins : List (Addr × Obj)} {σ : L2.St} {H G : Hp} {s : Shared} (I : Inv X pins σ H s) (ge : Ex G H) {ds : List D} {vs : List V} {us : List Value} (f : flats ds = true) (r : RpL X.K G ds vs) (rv : Vals vs us) {i : Nat} {u : Value} (h : us[i]? = some u) :
    ∃ d as, ds[i]? = some d ∧ Reads s.heap u d as := by
  have key : ∀ {ds : List D} {vs : List V} {us : List Value} {i : Nat} {u : Value}, flats ds = true → RpL X.K G ds vs → Vals vs us → us[i]? = some u → ∃ d as, ds[i]? = some d ∧ Reads s.heap u d as := by
    intro ds
    induction ds with
    | nil =>
      intro vs us i u f r rv h
      cases r
      cases rv
      simp at h
    | cons d ds ih =>
      intro vs us i u f r rv h
      obtain ⟨v, vr, e, h1, t⟩ := r
      subst e
      have f' : (flat d && flats ds) = true := f
      rw [Bool.and_eq_true] at f'
      cases rv with
      | cons a b =>
        cases i with
        | zero =>
          obtain ⟨as, q⟩ := Dp.reads I d v _ ((h1.mono ge).dp f'.1) a
          have : _ = u := Option.some.inj h
          subst this
          exact ⟨d, as, rfl, q⟩
        | succ i =>
          obtain ⟨d', as, q1, q2⟩ := ih (i := i) (u := u) f'.2 t b (by simpa using h)
          exact ⟨d', as, by simpa using q1, q2⟩
  exact key f r rv h
theorem src_tup {X : Cx} {pins : List (Addr × Obj)} {σ : L2.St} {H G : Hp} {s : Shared} (I : Inv X pins σ H s) (ge : Ex G H) {a : Addr} {ds : List D} {vs : List V} (f : flats ds = true) (hS : SqT X.K H a vs) (r : RpL X.K G ds vs) : SrcN X s (.ref a) ds := by
  intro Q hQ
  obtain ⟨its, rv, p, _⟩ := I.tuple hS
  have p' : s.heap.IsTuple a its.toArray := p
  obtain ⟨o, ho, hc, _⟩ := id p'
  have hlt : a < s.heap.objs.size := Heap.lt_size ho
  have hl : its.toArray.size = ds.length := by rw [List.size_toArray, ← rv.length, r.length]
  refine wpAny_pyIter_tuple p' ?_
  refine hQ s.heap.objs.size [s.heap.objs.size, a] [s.heap.objs.size] (fun i v => its.toArray[i]? = some v) (fun i h => h.IsTupleIter s.heap.objs.size a i ∧ h.IsTuple a its.toArray) _ s.toks (fun A' hA => by rw [← hl]; exact Walks.tuple hA _ _ (Nat.ne_of_lt hlt) _)
    ⟨⟨_, Heap.get?_push_size _ rfl, rfl, rfl⟩, p'.push _⟩ (fun b hb => ?_) (fun b hb => ?_) (fun b hb => ?_) (by rw [Heap.size_push]; omega) (fun b o e => Heap.get?_push_of_some _ e) (I.nolimit.push _) fun i u h => ?_
  · rw [Heap.size_push]
    rcases List.mem_cons.mp hb with z | z
    · rw [z]; exact Nat.lt_succ_self _
    · rcases List.mem_cons.mp z with z | z
      · rw [z]; exact Nat.lt_succ_of_lt hlt
      · cases z
  · rcases List.mem_cons.mp hb with z | z
    · rw [z]; exact .inl (Nat.le_refl _)
    · rcases List.mem_cons.mp z with z | z
      · rw [z]; exact .inr ⟨o, ho, by rw [hc]; nofun⟩
      · cases z
  · rcases List.mem_cons.mp hb with z | z
    · rw [z]; exact Nat.le_refl _
    · cases z
  · exact items_read I ge f r rv (by simpa using h)
theorem nm2 {x a b : Nat} (h1 : x ≠ a) (h2 : x ≠ b) : x ∉ [a, b] := by simp [h1, h2]
theorem zipSep (n a b : Nat) (ha : a < n) (hb : b < n) : ZipSep2 (n + 4) (n + 2) (n + 3) n (n + 1) [n, a] [n + 1, b] where
  TIz := fun h : (n + 2 : Nat) = n + 4 => by omega
  TOz := fun h : (n + 3 : Nat) = n + 4 => by omega
  TITO := fun h : (n + 2 : Nat) = n + 3 => by omega
  TIi1 := fun h : (n + 2 : Nat) = n => by omega
  mem1 := List.mem_cons_self
  zf1 := nm2 (by omega) (by omega)
  Tf1 := nm2 (by omega) (by omega)
  TIi2 := fun h : (n + 2 : Nat) = n + 1 => by omega
  mem2 := List.mem_cons_self
  zf2 := nm2 (by omega) (by omega)
  Tf2 := nm2 (by omega) (by omega)
  sep1_2 := nm2 (by omega) (by omega)
  sep2_1 := nm2 (by omega) (by omega)
theorem zipFp (n a b c : Nat) (h : c ∈ (n + 4) :: (n + 2) :: (n + 3) :: ([n, a] ++ [n + 1, b])) : (n ≤ c ∧ c < n + 5) ∨ c = a ∨ c = b := by
  simp at h
  omega
theorem zipWr (n c : Nat) (h : c ∈ [n + 4, n + 3, n, n + 1]) : n ≤ c := by
  simp at h
  omega
theorem src_zip {X : Cx} {pins : List (Addr × Obj)} {σ : L2.St} {H G : Hp} {s : Shared} (I : Inv X pins σ H s) (ge : Ex G H) {a b : Addr} {xs ys : List D} {vs us : List V} (f : flats xs = true) (f' : flats ys = true) (hS : SqT X.K H a vs) (hS' : SqT X.K H b us) (r : RpL X.K G xs vs) (r' : RpL X.K G ys us)
    {Q : Value → Shared → Prop} (h : ∀ h' z, SrcP X s { s with heap := h' } (.ref z) (zipD xs ys) → Q (.ref z) { s with heap := h' }) : wpAny (model X.prog X.w) X.A (call (.type "zip") [.ref a, .ref b]) Q X.xe s := by
  obtain ⟨its, rv, p, _⟩ := I.tuple hS
  obtain ⟨its2, rv2, p2, _⟩ := I.tuple hS'
  have p' : s.heap.IsTuple a its.toArray := p
  have p2' : s.heap.IsTuple b its2.toArray := p2
  obtain ⟨o, ho, hc0, _⟩ := id p'
  obtain ⟨o2, ho2, hc2, _⟩ := id p2'
  have hlt : a < s.heap.objs.size := Heap.lt_size ho
  have hlt2 : b < s.heap.objs.size := Heap.lt_size ho2
  have hl : its.toArray.size = xs.length := by rw [List.size_toArray, ← rv.length, r.length]
  have hl2 : its2.toArray.size = ys.length := by rw [List.size_toArray, ← rv2.length, r'.length]
  refine RZ.call_zipT p' p2' fun h' hz hTI hTO h1 h2 hsz hk => h h' _ ?_
  have I2 : Inv X pins σ H { s with heap := h' } := I.kept (t' := s.toks) hk
  intro Q hQ
  have sep : ZipSep2 (s.heap.objs.size + 4) (s.heap.objs.size + 2) (s.heap.objs.size + 3) s.heap.objs.size (s.heap.objs.size + 1) [s.heap.objs.size, a] [s.heap.objs.size + 1, b] := by
    exact zipSep _ _ _ hlt hlt2
  refine wpAny_pyIter_zip hz ?_
  have hzl : (zipD xs ys).length = min its.toArray.size its2.toArray.size := by rw [hl, hl2]; simp [zipD]
  have W := fun (A' : Around) (hA : A'.handled = none) => (WalksT.zipD2 sep (Draws.tuple (prog := X.prog) (w := X.w) (A := A'.in1) hA _ _ (Nat.ne_of_lt hlt) its.toArray) (Draws.tuple (A := A'.in1) hA _ _ (Nat.ne_of_lt (Nat.lt_succ_of_lt hlt2)) its2.toArray)).toU
  rw [← hzl] at W
  have hle : s.heap.objs.size ≤ h'.objs.size := by
    have hn : h'.objs.size = s.heap.objs.size + 5 := hsz
    rw [hn]
    exact Nat.le_add_right _ _
  refine hQ _ _ _ _ _ _ h' s.toks W ⟨hz, hTI, ⟨_, _, hTO⟩, ⟨h1, p'.at fun u e => hk _ _ e⟩, ⟨h2, p2'.at fun u e => hk _ _ e⟩⟩ (fun c hc => ?_) (fun c hc => ?_) (fun c hc => ?_) hle hk I2.nolimit fun i vals hv => ?_
  · have hn : h'.objs.size = s.heap.objs.size + 5 := hsz
    rw [hn]
    rcases zipFp _ _ _ _ hc with ⟨y, y'⟩ | y | y
    · exact y'
    · rw [y]; exact Nat.lt_of_lt_of_le hlt (Nat.le_add_right _ _)
    · rw [y]; exact Nat.lt_of_lt_of_le hlt2 (Nat.le_add_right _ _)
  · rcases zipFp _ _ _ _ hc with ⟨y, y'⟩ | y | y
    · exact .inl y
    · rw [y]; exact .inr ⟨o, ho, by rw [hc0]; nofun⟩
    · rw [y]; exact .inr ⟨o2, ho2, by rw [hc2]; nofun⟩
  · exact zipWr _ _ hc
  · obtain ⟨x1, x2, e1, e2, e3⟩ := hv
    obtain ⟨d, as, q1, q2⟩ := items_read I ge f r rv (i := i) (by simpa using e1)
    obtain ⟨d2, as2, q3, q4⟩ := items_read I ge f' r' rv2 (i := i) (by simpa using e2)
    refine ⟨x1, x2, d, d2, as, as2, e3, ?_, q2, q4⟩
    unfold zipD
    rw [List.getElem?_map, show (xs.zip ys)[i]? = some (d, d2) from List.getElem?_zip_eq_some.mpr ⟨q1, q3⟩]
    rfl
end

/-! ### all, any -/
theorem tabbed_gro {G H1 H2 : Hp} {P : Addr} (e : Ex G H1) (t : GxR.TabG H1 P) (b : GxR.Tabbed P H1 H2) : Gro G H1 G H2 := by
  obtain ⟨ps, hP, ht⟩ := t
  obtain ⟨⟨qs, hq, hq2⟩, hb⟩ := b
  have ex : Ex H1 H2 := ⟨fun a o h k => by
    have : a ≠ P := fun z => by rw [z, hP] at h; cases h; exact k ps rfl
    rw [hb a this]; exact h, fun a rs h => by
    by_cases z : a = P
    · subst z; exact ⟨qs, hq, fun _ => hq2⟩
    · exact ⟨rs, by rw [hb a z]; exact h, id⟩⟩
  exact ⟨.refl _, ex, e.trans ex, fun _ _ h => .inl h⟩
def tGenN (K : PySem.W.Frag) (P : Addr) (fe : List D → Option D) (k : List Bool → Bool) (te : TE) : TE := fun σ H Q => te σ H fun v H1 => ∃ (a : Addr) (vs : List V) (ds : List D) (bs : List Bool) (G : Hp), v = .ref a ∧ SqT K H1 a vs ∧ RpL K G ds vs ∧ Ex G H1 ∧ flats ds = true ∧
  tests (fun d => fe [d]) ds = some bs ∧ GxR.TabG H1 P ∧ ∀ H2, GxR.Tabbed P H1 H2 → Q (.bl (k bs)) H2
def tGenZ (K : PySem.W.Frag) (P : Addr) (fe : List D → Option D) (k : List Bool → Bool) (ta : TA) : TE := fun σ H Q => ta σ H fun us H1 => ∃ (a b : Addr) (vs ws : List V) (ds es : List D) (bs : List Bool) (G : Hp), us = [.ref a, .ref b] ∧ SqT K H1 a vs ∧ SqT K H1 b ws ∧ RpL K G ds vs ∧ RpL K G es ws ∧ Ex G H1 ∧ flats ds = true ∧ flats es = true ∧
  tests (pairT fe) (zipD ds es) = some bs ∧ GxR.TabG H1 P ∧ ∀ H2, GxR.Tabbed P H1 H2 → Q (.bl (k bs)) H2
section
variable {X : Cx} {c P : Addr} {elt iter : Expr} {x : Str} {px p pos gpos : Pos} {scope : Scope} {fe : List D → Option D} {te : TE} {k : Nat}
theorem pe_allN (hr : Room k X.A) (hg : Gl X "all") (hm : X.mg "all" = none) (TB : GxR.TabB X.base X.mg c P) (hcode : X.env.code = .ref c) (S : GxR.GenS X.env scope x) (hi : PE X iter te) (hel : QE X.prog X.w X.mg scope [x] elt fe)
    (hs : ∀ v, genFold iter X.env v = pure v)
    (he : starEach [.GeneratorExp elt [⟨.Name x px, iter, [], 0⟩] scope gpos] X.env = (false, eval (.GeneratorExp elt [⟨.Name x px, iter, [], 0⟩] scope gpos) X.env) :: starEach [] X.env := by rfl) :
    PE X (.Call (.Name "all" p) [.GeneratorExp elt [⟨.Name x px, iter, [], 0⟩] scope gpos] [] pos) (tGenN X.K P fe (fun bs => bs.all id) te) := by
  refine ⟨fun pins s σ H Q I h => ?_⟩
  refine wpAny_Call_Name_kw (ld_blt I hg hm PyProof.Rows.boot_all ?_)
  refine PyProof.Rows.callWith_builtin1 ?_ he (by rfl)
  rw [he]
  show wpAny _ _ (spliced ((false, eval (.GeneratorExp elt [⟨.Name x px, iter, [], 0⟩] scope gpos) X.env) :: backTo pos (starEach [] X.env))) _ _ s
  refine Calls.spliced_cons (gen_src (σ := σ) (pins := pins) hr TB hcode S hel hs (thn (hi.run pins s σ H _ I h) fun v s1 ⟨x', H1, I1, r1, a, vs, ds, bs, G, e1, hS, r, ge, f, hb, tg, hQ⟩ => ?_))
  subst e1
  obtain rfl : v = Value.ref a := r1
  refine ⟨H1, ds, bs, I1, tg, src_tup I1 ge f hS r, hb, fun g s5 hG => ?_⟩
  obtain ⟨fp, wr, G', F, St, W, hst, htr, hI⟩ := hG
  refine Calls.spliced_nil ?_
  refine call_all_walkS (W.self 0 _ _ _ hst ⟨g, fp, wr, G', _, F, St, _, rfl, W, hst, htr, fun s' hmv => ?_⟩)
  obtain ⟨H2, hT, J⟩ := hI s' hmv
  refine ⟨.bl _, H2, J, rfl, ?_⟩
  rw [all_trB]
  exact hQ H2 hT
theorem pe_anyN (hr : Room k X.A) (hg : Gl X "any") (hm : X.mg "any" = none) (TB : GxR.TabB X.base X.mg c P) (hcode : X.env.code = .ref c) (S : GxR.GenS X.env scope x) (hi : PE X iter te) (hel : QE X.prog X.w X.mg scope [x] elt fe)
    (hs : ∀ v, genFold iter X.env v = pure v)
    (he : starEach [.GeneratorExp elt [⟨.Name x px, iter, [], 0⟩] scope gpos] X.env = (false, eval (.GeneratorExp elt [⟨.Name x px, iter, [], 0⟩] scope gpos) X.env) :: starEach [] X.env := by rfl) :
    PE X (.Call (.Name "any" p) [.GeneratorExp elt [⟨.Name x px, iter, [], 0⟩] scope gpos] [] pos) (tGenN X.K P fe (fun bs => bs.any id) te) := by
  refine ⟨fun pins s σ H Q I h => ?_⟩
  refine wpAny_Call_Name_kw (ld_blt I hg hm boot_any ?_)
  refine PyProof.Rows.callWith_builtin1 ?_ he (by rfl)
  rw [he]
  show wpAny _ _ (spliced ((false, eval (.GeneratorExp elt [⟨.Name x px, iter, [], 0⟩] scope gpos) X.env) :: backTo pos (starEach [] X.env))) _ _ s
  refine Calls.spliced_cons (gen_src (σ := σ) (pins := pins) hr TB hcode S hel hs (thn (hi.run pins s σ H _ I h) fun v s1 ⟨x', H1, I1, r1, a, vs, ds, bs, G, e1, hS, r, ge, f, hb, tg, hQ⟩ => ?_))
  subst e1
  obtain rfl : v = Value.ref a := r1
  refine ⟨H1, ds, bs, I1, tg, src_tup I1 ge f hS r, hb, fun g s5 hG => ?_⟩
  obtain ⟨fp, wr, G', F, St, W, hst, htr, hI⟩ := hG
  refine Calls.spliced_nil ?_
  refine call_any_walkS (W.self 0 _ _ _ hst ⟨g, fp, wr, G', _, F, St, _, rfl, W, hst, htr, fun s' hmv => ?_⟩)
  obtain ⟨H2, hT, J⟩ := hI s' hmv
  refine ⟨.bl _, H2, J, rfl, ?_⟩
  rw [any_trB]
  exact hQ H2 hT
theorem pe_allZ {xa xb : Str} {pa pb pt pz zpos : Pos} {kt : Nat} {e1 e2 : Expr} {ta : TA} (hr : Room k X.A) (hg : Gl X "all") (hm : X.mg "all" = none) (hgz : Gl X "zip") (hmz : X.mg "zip" = none) (TB : GxR.TabB X.base X.mg c P) (hcode : X.env.code = .ref c)
    (S : GxR.GenS X.env scope xa) (Sb : scope.names.lookup xb = some .local) (hab : xa ≠ xb) (ha : PA X [e1, e2] ta) (hel : QE X.prog X.w X.mg scope [xa, xb] elt fe)
    (hs : ∀ v, genFold (.Call (.Name "zip" pz) [e1, e2] [] zpos) X.env v = pure v)
    (he : starEach [.GeneratorExp elt [⟨.Tuple [.Name xa pa, .Name xb pb] kt pt, .Call (.Name "zip" pz) [e1, e2] [] zpos, [], 0⟩] scope gpos] X.env = (false, eval (.GeneratorExp elt [⟨.Tuple [.Name xa pa, .Name xb pb] kt pt, .Call (.Name "zip" pz) [e1, e2] [] zpos, [], 0⟩] scope gpos) X.env) :: starEach [] X.env := by rfl)
    (hs2 : starEach [e1, e2] X.env = (false, eval e1 X.env) :: starEach [e2] X.env := by rfl) (hpl : (backTo zpos (starEach [e2] X.env)).any (·.1) = false := by rfl) :
    PE X (.Call (.Name "all" p) [.GeneratorExp elt [⟨.Tuple [.Name xa pa, .Name xb pb] kt pt, .Call (.Name "zip" pz) [e1, e2] [] zpos, [], 0⟩] scope gpos] [] pos) (tGenZ X.K P fe (fun bs => bs.all id) ta) := by
  refine ⟨fun pins s σ H Q I h => ?_⟩
  refine wpAny_Call_Name_kw (ld_blt I hg hm PyProof.Rows.boot_all ?_)
  refine PyProof.Rows.callWith_builtin1 ?_ he (by rfl)
  rw [he]
  show wpAny _ _ (spliced ((false, eval (.GeneratorExp elt [⟨.Tuple [.Name xa pa, .Name xb pb] kt pt, .Call (.Name "zip" pz) [e1, e2] [] zpos, [], 0⟩] scope gpos) X.env) :: backTo pos (starEach [] X.env))) _ _ s
  refine Calls.spliced_cons (gen_srcP (σ := σ) (pins := pins) hr TB hcode S Sb hab hel hs ?_)
  refine Call_ (ld_blt I hgz hmz PyProof.Rows.boot_zip (PyProof.Rows.callWith_type1 (thn (ha.run zpos pins s σ H _ I h) fun us s1 ⟨vs0, H1, I1, r1, a, b, vs, ws, ds, es, bs, G, e0, hS, hS', r, r', ge, f, f', hb, tg, hQ⟩ => ?_) hs2 hpl))
  subst e0
  cases r1 with
  | cons ra rr =>
    cases rr with
    | cons rb rr =>
      cases rr
      cases ra
      cases rb
      refine src_zip I1 ge f f' hS hS' r r' fun h' z hsrc => ?_
      refine ⟨s1, H1, zipD ds es, bs, I1, tg, hsrc, hb, fun g s5 hG => ?_⟩
      obtain ⟨fp, wr, G', F, St, W, hst, htr, hI⟩ := hG
      refine Calls.spliced_nil ?_
      refine call_all_walkS (W.self 0 _ _ _ hst ⟨g, fp, wr, G', _, F, St, _, rfl, W, hst, htr, fun s' hmv => ?_⟩)
      obtain ⟨H2, hT, J⟩ := hI s' hmv
      refine ⟨.bl _, H2, J, rfl, ?_⟩
      rw [all_trB]
      exact hQ H2 hT
/-! ### as plain functions -/
def genN (fe : List D → Option D) (k : List Bool → Bool) (fi : Env → Res Vl) : Env → Res Vl := fun ρ => (fi ρ).bind fun x ρ1 => (fzE x ρ1).bind fun d ρ2 => match d with
  | .tuple ds => if flats ds = true then match tests (fun d => fe [d]) ds with
    | some bs => .ok (.d (.bool (k bs))) ρ2
    | none => .bad
    else .bad
  | _ => .bad
theorem gen_to {W : WX} {pu : Bool} {fi : Env → Res Vl} {kk : List Bool → Bool} {σ : L2.St} {H : Hp} {Q : VK} (hP : P ∈ Tabs.l) (h : tF X.K pu W (genN fe kk fi) σ H Q) : tGenN X.K P fe kk (tF X.K pu W fi) σ H Q := by
  obtain ⟨pn, G, ρ, fp, c, h⟩ := h
  refine ⟨pn, G, ρ, fp, c, (Res.sat_bind h).imp (fun x ρ1 h v H1 G1 fp1 fw1 p1 c1 vo => ?_) fun _ _ h => h⟩
  obtain ⟨d, ρ2, G2, fp2, s, fw2, c2, r⟩ := c1.fz vo (Res.sat_bind h)
  split at s
  · rename_i ds
    split at s
    · rename_i f
      cases hb : tests (fun d => fe [d]) ds with
      | none => simp only [hb] at s; exact s.elim
      | some bs =>
        simp only [hb] at s
        obtain ⟨a, vs, e1, hS, rr⟩ := r
        refine ⟨a, vs, ds, bs, G2, e1, c2.ex.t hS, rr, c2.ex, f, hb, c2.tb P hP, fun H2 tb => ?_⟩
        have gr := tabbed_gro c2.ex (c2.tb P hP) tb
        exact s _ H2 G2 fp2 ((fw1.trans fw2).trans gr.fw) (fun z => (p1 z).trans gr.h) (c2.gro gr) rfl
    · exact s.elim
  · exact s.elim
def genZ (fe : List D → Option D) (k : List Bool → Bool) (fs : Env → Res (List Vl)) : Env → Res Vl := fun ρ => (fs ρ).bind fun xs ρ1 => (fzs xs ρ1).bind fun ds ρ2 => match ds with
  | [.tuple ds, .tuple es] => if flats ds = true ∧ flats es = true then match tests (pairT fe) (zipD ds es) with
    | some bs => .ok (.d (.bool (k bs))) ρ2
    | none => .bad
    else .bad
  | _ => .bad
theorem genZ_to {W : WX} {pu : Bool} {fs : Env → Res (List Vl)} {kk : List Bool → Bool} {σ : L2.St} {H : Hp} {Q : VK} (hP : P ∈ Tabs.l) (h : tF X.K pu W (genZ fe kk fs) σ H Q) : tGenZ X.K P fe kk (tV X.K pu W fs) σ H Q := by
  obtain ⟨pn, G, ρ, fp, c, h⟩ := h
  refine ⟨pn, G, ρ, fp, c, (Res.sat_bind h).imp (fun xs ρ1 h vs0 H1 G1 fp1 fw1 p1 c1 vo => ?_) fun _ _ h => h⟩
  obtain ⟨dd, ρ2, G2, fp2, s, fw2, c2, r⟩ := c1.fzs vo (Res.sat_bind h)
  split at s
  · rename_i ds es
    split at s
    · rename_i f
      cases hb : tests (pairT fe) (zipD ds es) with
      | none => simp only [hb] at s; exact s.elim
      | some bs =>
        simp only [hb] at s
        obtain ⟨v, w, e1, ⟨a, vs, e2, hS, rr⟩, v2, w2, e3, ⟨b, us, e4, hS', rr'⟩, e5⟩ := r
        subst e1 e2 e3 e4 e5
        refine ⟨a, b, vs, us, ds, es, bs, G2, rfl, c2.ex.t hS, c2.ex.t hS', rr, rr', c2.ex, f.1, f.2, hb, c2.tb P hP, fun H2 tb => ?_⟩
        have gr := tabbed_gro c2.ex (c2.tb P hP) tb
        exact s _ H2 G2 fp2 ((fw1.trans fw2).trans gr.fw) (fun z => (p1 z).trans gr.h) (c2.gro gr) rfl
    · exact s.elim
  · exact s.elim
end
end Mo

/-! Mo22: t[::k] of a tuple, not e by truth, defs with their code object, the law's end with tables. -/
namespace Mo
variable [Tabs]
open PySem PySem.Spec PyProof.Rows L2
/-! ### not e, by truth -/
def notT (f : Env → Res Vl) : Env → Res Vl := fun ρ => (f ρ).bind fun x ρ1 => match vw ρ1 x with
  | some a => match truD a with
    | some b => .ok (.d (.bool (!b))) ρ1
    | none => .bad
  | none => .bad
theorem pe_notT {X : Cx} {a : Expr} {ta : TE} {pos : Pos} (ha : PE X a ta) : PE X (.UnaryOp .Not a pos) (fun σ H Q => ta σ H fun x H' => ∃ k, TruV X.K x H' k ∧ Q (.bl (!k)) H') := by
  refine ⟨fun pins s σ H Q I h => ?_⟩
  refine UnaryOp_ (thn (ha.run pins s σ H _ I h) fun v s1 ⟨x, H1, I1, r1, k, e, q⟩ => ?_)
  refine not_of (thn (tru_ok pins s1 σ H1 x v (fun b H2 => Q (.bl (!b)) H2) I1 r1 ⟨k, e, q⟩) fun b s2 ⟨H2, I2, q2⟩ => ?_)
  exact ⟨.bl _, H2, I2, rfl, q2⟩
theorem pb_notT {X : Cx} {a : Expr} {pa : Bool} {W : WX} {f : Env → Res Vl} {pos : Pos} (ha : PE X a (tF X.K pa W f)) : PE X (.UnaryOp .Not a pos) (tF X.K pa W (notT f)) := by
  refine PE.imp (pe_notT ha) fun σ H Q h => ?_
  obtain ⟨pn, G, ρ, fp, c, h⟩ := h
  refine ⟨pn, G, ρ, fp, c, (Res.sat_bind h).imp (fun x ρ1 h v H1 G1 fp1 fw1 p1 c1 vo => ?_) fun _ _ h => h⟩
  cases e1 : vw ρ1 x with
  | none => simp only [e1] at h; exact h.elim
  | some y =>
    cases e2 : truD y with
    | none => simp only [e1, e2] at h; exact h.elim
    | some b =>
      simp only [e1, e2] at h
      exact ⟨b, truD_rel c1.ex (c1.vw vo e1) e2, h _ H1 G1 fp1 fw1 p1 c1 rfl⟩
/-! ### t[::k] -/
def stIx (k : Int) (n : Nat) : List Nat := (List.range (Builtin.Slice.slicePlaces 0 n k)).map fun (m : Nat) => ((0 : Int) + (m : Int) * k).toNat
def picks {α : Type} (ix : List Nat) (xs : List α) : List α := ix.filterMap (xs[·]?)
theorem picks_len {α : Type} (ix : List Nat) (xs : List α) : (picks ix xs).length ≤ ix.length := List.length_filterMap_le _ _
theorem RpL.picks {K : PySem.W.Frag} {G : Hp} {ds : List D} {vs : List V} (r : RpL K G ds vs) (ix : List Nat) : RpL K G (Mo.picks ix ds) (Mo.picks ix vs) := by
  induction ix with
  | nil => exact rfl
  | cons i ix ih =>
    unfold Mo.picks at ih ⊢
    cases e : ds[i]? with
    | none =>
      have e2 : vs[i]? = none := by
        rw [List.getElem?_eq_none_iff] at e ⊢
        rw [r.length]; exact e
      rw [List.filterMap_cons_none e, List.filterMap_cons_none e2]
      exact ih
    | some d =>
      obtain ⟨v, e2, h⟩ := r.get e
      rw [List.filterMap_cons_some e, List.filterMap_cons_some e2]
      exact ⟨v, _, rfl, h, ih⟩
theorem Vals_picks {vs : List V} {us : List Value} (r : Vals vs us) (ix : List Nat) : Vals (picks ix vs) (picks ix us) := by
  induction ix with
  | nil => exact .nil
  | cons i ix ih =>
    unfold picks at ih ⊢
    cases e : vs[i]? with
    | none =>
      have e2 : us[i]? = none := by
        rw [List.getElem?_eq_none_iff] at e ⊢
        rw [← r.length]; exact e
      rw [List.filterMap_cons_none e, List.filterMap_cons_none e2]
      exact ih
    | some d =>
      obtain ⟨v, e2, h⟩ := r.get e
      rw [List.filterMap_cons_some e, List.filterMap_cons_some e2]
      exact .cons h ih

section
variable {prog : Program} {w : World} {A : Around} {E : Value → Shared → Prop} {s : Shared}
theorem sliceApplied_step {sl : Addr} {k : Int} {tk : Tok} {n : Nat} {Q : Int × Int × Nat → Shared → Prop} (hk : 0 < k) (hs : s.heap.IsSliceOf sl .none .none (.int k tk))
    (h : Q (0, k, Builtin.Slice.slicePlaces 0 n k) s) : wpAny (model prog w) A (Builtin.Slice.sliceApplied (.ref sl) (pure (n : Int))) Q E s := by
  obtain ⟨os, hos, hcs, hds⟩ := id hs
  unfold Builtin.Slice.sliceApplied Builtin.Slice.sliceFields
  refine wpAny_bind (wpAny_bind (wpAny_field hos hds (x := .none) rfl (wpAny_bind (wpAny_field hos hds (x := .none) rfl (wpAny_bind (wpAny_field hos hds (x := .int k tk) rfl (wpAny_pure ?_)))))))
  refine wpAny_bind (slicePart_int ?_)
  show wpAny _ _ (if ((k : Int) == 0) = true then _ else _) _ _ s
  have hk0 : ¬ ((k == 0) = true) := fun z => by
    have := eq_of_beq z
    omega
  rw [if_neg hk0]
  refine wpAny_bind (slicePart_none (wpAny_bind (slicePart_none (wpAny_bind (wpAny_pure ?_)))))
  have e : Builtin.Slice.sliceAdjust none none k (n : Int) = ((0 : Int), (n : Int)) := by
    unfold Builtin.Slice.sliceAdjust
    simp [show ¬ k < 0 by omega, hk]
  show wpAny _ _ (match Builtin.Slice.sliceAdjust none none k (n : Int) with | (lo, hi) => pure (lo, k, Builtin.Slice.slicePlaces lo hi k)) _ _ s
  rw [e]
  exact wpAny_pure h
theorem getItem_tuple_step {t sl : Addr} {items : Array Value} {k : Int} {tk : Tok} {Q : Value → Shared → Prop} (hk : 1 < k) (ht : IsTup s.heap t items) (hs : s.heap.IsSliceOf sl .none .none (.int k tk))
    (hsz : (picks (stIx k items.size) items.toList).length ≤ sizeLine)
    (h : Q (.ref s.heap.objs.size) { s with heap := s.heap.push { cls := .type "tuple", data := .seq (picks (stIx k items.size) items.toList).toArray } }) : wpAny (model prog w) A (getItem (.ref t) (.ref sl)) Q E s := by
  have htake : sizeOk (.seq (picks (stIx k items.size) items.toList).toArray) := by
    show (picks (stIx k items.size) items.toList).toArray.size ≤ sizeLine
    rw [List.size_toArray]
    exact hsz
  obtain ⟨os, hos, hcs, hds⟩ := id hs
  have hTs : s.TypeIs (.ref sl) "slice" := ⟨os, hos, hcs⟩
  unfold getItem
  try with_reducible refine wpAny_holding ?_
  first | refine wpAny_bind (wpAny_pure ?_) | skip
  refine wpAny_bind (wpAny_sequenceKey ht.typeIs (by decide) ?_)
  refine wpAny_bind (wpAny_callSpecial?_slot (name := Str.ofString "__getitem__") ht.typeIs PyProof.Rows.slot_tuple_getitem
    (wpAny_call_entry PyProof.Rows.slot_tuple_getitem ht.typeIs entry_tuple_getitem ?_ (args_tuple_getitem _ _)))
  show wpAny _ _ (Builtin.Tuple.tupleItemsOf (.ref t) >>= _) _ _ s
  refine wpAny_bind (tupleItemsOf_ ht ?_)
  refine wpAny_bind (wpAny_typeOf hTs ?_)
  rw [if_pos (by decide)]
  refine wpAny_bind (sliceApplied_step (by omega) hs ?_)
  have hno : ¬ (((0 : Int) == 0 && (k : Int) == 1 && (Builtin.Slice.slicePlaces 0 items.size k) == items.size) = true) := by
    intro q
    rw [Bool.and_eq_true, Bool.and_eq_true] at q
    have q1 : k = 1 := eq_of_beq q.1.2
    omega
  show wpAny _ _ (if ((0 : Int) == 0 && (k : Int) == 1 && (Builtin.Slice.slicePlaces 0 items.size k) == items.size) = true then _ else _) _ _ s
  have e : ((List.range (Builtin.Slice.slicePlaces 0 items.size k)).filterMap fun (m : Nat) => items[((0 : Int) + (m : Int) * k).toNat]?).toArray = (picks (stIx k items.size) items.toList).toArray := by
    unfold picks stIx
    rw [List.filterMap_map]
    congr 2
    funext m
    simp
  rw [if_neg hno, e]
  first
    | exact wpAny_bind (m := Builtin.Tuple.tupleExact _) (wpAny_newObj_type (wpAny_pure ⟨_, rfl, wpAny_pure h⟩) htake)
    | exact wpAny_bind (m := Builtin.Tuple.tupleExact _) (wpAny_newObj_type (wpAny_bind (wpAny_pure (wpAny_pure ⟨_, rfl, wpAny_pure h⟩))) htake)
    | exact wpAny_bind (wpAny_bind (m := Builtin.Tuple.tupleExact _) (wpAny_newObj_type (wpAny_pure (wpAny_pure ⟨_, rfl, wpAny_pure h⟩)) htake))
    | exact wpAny_bind (wpAny_bind (m := Builtin.Tuple.tupleExact _) (wpAny_newObj_type (wpAny_pure ⟨_, rfl, wpAny_pure h⟩) htake))
end
def oStep (k : Int) : D → Option D
  | .tuple xs => if 1 < k ∧ (stIx k xs.length).length ≤ sizeLine then some (.tuple (picks (stIx k xs.length) xs)) else none
  | _ => none
def tStep (K : PySem.W.Frag) (k : Int) (te : TE) : TE := fun σ H Q => te σ H fun x H1 => ∃ a vs, x = .ref a ∧ SqT K H1 a vs ∧ 1 < k ∧ (stIx k vs.length).length ≤ sizeLine ∧ ∀ p, H1 p = none → Q (.ref p) (upd H1 p (.tup (picks (stIx k vs.length) vs)))
theorem pe_step {X : Cx} {e : Expr} {te : TE} {k : Int} {j : Nat} {q1 q2 pos : Pos} (he : PE X e te) : PE X (.Subscript e (.Slice none none (some (.Constant (.int k) j q1)) q2) pos) (tStep X.K k te) := by
  constructor
  intro pins s σ H Q I h
  refine Subscript_ (thn (he.run pins s σ H _ I h) ?_)
  rintro v s1 ⟨x, H1, I1, r1, a, vs, ex, hS, h1, hz, q⟩
  subst ex
  obtain rfl : v = Value.ref a := r1
  have stp : PO X (some (.Constant (.int k) j q1)) (tPart (tC (.int k))) := po_some pe_int
  have none1 := po_none (X := X).run pins s1 σ H1 (fun o H2 => o = none ∧ H2 = H1) I1 ⟨rfl, rfl⟩
  refine wpAny_Slice (thn none1 ?_)
  rintro vl s2 ⟨l, H2, I2, pl, rfl, rfl⟩
  have none2 := po_none (X := X).run pins s2 σ H2 (fun o H3 => o = none ∧ H3 = H2) I2 ⟨rfl, rfl⟩
  refine thn none2 ?_
  rintro vu s3 ⟨u, H3, I3, pu, rfl, rfl⟩
  have step3 := stp.run pins s3 σ H3 (fun o H4 => o = some k ∧ H4 = H3) I3 ⟨k, rfl, rfl, rfl⟩
  refine thn step3 ?_
  rintro vs' s4 ⟨o, H4, I4, ps, rfl, rfl⟩
  cases pl
  cases pu
  cases ps with
  | int _ tk =>
    have I5 : Inv X pins σ H4 { s4 with heap := s4.heap.push { cls := .type "slice", data := .fields #[.none, .none, .int k tk] } } := I4.kept (t' := s4.toks) fun b ob q => Heap.get?_push_of_some _ q
    obtain ⟨its, r, ht, hzz⟩ := I5.tuple hS
    have hlen : its.toArray.size = vs.length := by rw [List.size_toArray]; exact r.length.symm
    refine tail_any (ops := [.ref a, .ref s4.heap.objs.size]) ht.typeIs PyProof.Rows.slot_tuple_getitem.lookup ?_ (by with_unfolding_all rfl)
    refine getItem_tuple_step h1 ht ⟨_, Heap.get?_push_size _ rfl, rfl, rfl⟩ ?_ ?_
    · rw [hlen]
      exact Nat.le_trans (picks_len _ _) hz
    · rw [hlen]
      refine ⟨.ref _, _, I5.laid (t' := s4.toks) (o := .tup (picks (stIx k vs.length) vs)) (fun b ob q => Heap.get?_push_of_some _ q) (Nat.le_refl _) ?_, rfl, q _ (I5.hok.fresh (Nat.le_refl _))⟩
      exact ⟨Nat.le_trans (picks_len _ _) hz, _, Vals_picks r _, IsTup.new _ _⟩
theorem pb_step {X : Cx} {e : Expr} {pu : Bool} {W : WX} {f : Env → Res Vl} {k : Int} {j : Nat} {q1 q2 pos : Pos} (ha : PE X e (tF X.K pu W f)) : PE X (.Subscript e (.Slice none none (some (.Constant (.int k) j q1)) q2) pos) (tF X.K pu W (un1 (oStep k) f)) := by
  refine PE.imp (pe_step ha) fun σ H Q h => ?_
  obtain ⟨pn, G, ρ, fp, c, h⟩ := h
  refine ⟨pn, G, ρ, fp, c, (Res.sat_bind h).imp (fun x ρ1 h v H1 G1 fp1 fw1 p1 c1 vo => ?_) fun _ _ h => h⟩
  cases e1 : vw ρ1 x with
  | none => simp only [e1] at h; exact h.elim
  | some d =>
    cases d with
    | tuple xs =>
      simp only [e1, oStep] at h
      split at h
      · rename_i c' hc
        split at hc
        · rename_i hk
          cases hc
          obtain ⟨a, vs, e2, hS, r⟩ := c1.vw vo e1
          refine ⟨a, vs, e2, c1.ex.t hS, hk.1, by rw [r.length]; exact hk.2, fun p hp => ?_⟩
          have gr : Gro G1 H1 (upd G1 p (.tup (picks (stIx k vs.length) vs))) (upd H1 p (.tup (picks (stIx k vs.length) vs))) := Gro.new c1.ex hp
          refine h _ _ _ fp1 (fw1.trans gr.fw) (fun z => (p1 z).trans gr.h) (c1.gro gr) ⟨p, _, rfl, .inl (.inl upd_same), ?_⟩
          have key := (r.mono gr.g).picks (stIx k xs.length)
          rw [← r.length] at key ⊢
          exact key
        · cases hc
      · exact h.elim
    | none => simp only [e1, oStep] at h; exact h.elim
    | bool _ => simp only [e1, oStep] at h; exact h.elim
    | int _ => simp only [e1, oStep] at h; exact h.elim
    | str _ => simp only [e1, oStep] at h; exact h.elim
    | list _ => simp only [e1, oStep] at h; exact h.elim
    | dict _ => simp only [e1, oStep] at h; exact h.elim

/-! ### defs with their code object -/
section
variable {P : Program} {w : World} {K : PySem.W.Frag} {mg : Str → Option Value} {base : Heap} {x qual : Str} {st : Stmt} {f : Addr} {fd : FuncData} {N ps : List Str} {k : Nat}
theorem okXC {sp : Sp} (F : Fun K x qual st f fd) (S : FnScope N ps (defScope st)) (len : ∀ vs H Q E, sp vs H Q E → vs.length = ps.length)
    (hbody : ∀ (cdv : Value), fd.code = cdv → ∀ (A : Around) (outer : List PySem.Env) (s : Shared) (H : Hp) (vs : List V) (Q : VK) (E : XK), Room k (A.deeper (envOfC qual (defScope st) s.heap.objs.size f cdv)) → sp vs H Q E →
      ∃ t, PSs (cxOf (L2.CX P w) P w K mg base N qual (defScope st) f cdv A outer s H E) (defBody st) t ∧ t { nx := fun _ H' => Q .non H', rt := Q } (start N vs) H) : FnOk P w K mg base (L2.CX P w) (k + 1) f fd ps sp := by
  obtain ⟨oc, od, kV, doc, pm, an, cdv, ct, osl, rfl, lk, hcd⟩ := F.ex
  exact fn_of lk hcd S len fun A outer s H vs Q E hr hsp => hbody cdv rfl A outer s H vs Q E hr hsp
theorem def_okC (F : Fun K x qual st f fd) (S : FnScope N ps (defScope st)) (g : Env → SRes)
    (hb : ∀ (cdv : Value), fd.code = cdv → ∀ (A : Around) (outer : List PySem.Env) (s : Shared) (H : Hp) (E : XK), Room k (A.deeper (envOfC qual (defScope st) s.heap.objs.size f cdv)) →
      PSs (cxOf (L2.CX P w) P w K mg base N qual (defScope st) f cdv A outer s H E) (defBody st) (tS K (fun cls d _ H => E cls d H) g)) :
    FnOk P w K mg base (L2.CX P w) (k + 1) f fd ps (spF K (funF N.length ps.length g)) := by
  have hlen : ∀ vs H Q E, spF K (funF N.length ps.length g) vs H Q E → vs.length = ps.length := fun vs H Q E h => by
    obtain ⟨G, ds, ge, r, h⟩ := h
    unfold funF at h
    split at h
    · rename_i hl
      split at hl
      · rw [r.length]; assumption
      · cases hl
    · rename_i hl
      split at hl
      · rw [r.length]; assumption
      · cases hl
    · exact h.elim
  refine okXC F S hlen fun cdv hc A outer s H vs Q E hr h => ⟨_, hb cdv hc A outer s H E hr, ?_⟩
  have hl := hlen vs H Q E h
  obtain ⟨G, ds, ge, r, h⟩ := h
  have hd : ds.length = ps.length := by rw [← r.length]; exact hl
  refine ⟨[], G, ds.map (fun d => .v (.lf d)) ++ List.replicate (N.length - ps.length) .un, [], ⟨ge.1, ?_, List.nodup_nil, (fun _ h => nomatch h), ge.2⟩, ?_⟩
  · show Slots K G H _ (vs.map some ++ List.replicate (N.length - vs.length) none) []
    rw [hl]
    exact Slots.args _ r
  · unfold funF at h
    rw [if_pos hd] at h
    have gro : ∀ {σ' : L2.St} {H' G' : Hp} {ρ' : Env} {fp' : List Addr}, Fw G H [] G' H' fp' → Cor K [] σ' H' G' ρ' fp' → Gro G H G' H' := fun fw c => ⟨fw.ex, ⟨fun a o h k => fw.fr a o h (fun z => by cases z) k, fw.tb⟩, c.ex, fun a o h => (fw.ng a o h).elim .inl fun z => z.elim .inr fun z => nomatch z⟩
    cases e : g (ds.map (fun d => .v (.lf d)) ++ List.replicate (N.length - ps.length) .un) with
    | nx ρ => simp only [e] at h; exact fun σ' H' G' fp' fw c => h .non H' G' (gro fw c) rfl
    | rt d ρ => simp only [e] at h; exact fun v σ' H' G' fp' fw c rv => h v H' G' (gro fw c) rv
    | bk ρ => simp only [e] at h; try exact h.elim
    | ct ρ => simp only [e] at h; try exact h.elim
    | ex C ρ => simp only [e] at h; exact fun σ' H' G' fp' fw c => h H' G' (gro fw c)
    | bad => simp only [e] at h; try exact h.elim
end
/-- the generator expression's scope, with nothing captured -/
theorem gens_mk {env : PySem.Env} {scope : Scope} {x : Str} (h1 : scope.kind = .function) (h2 : scope.isCoroutine = false) (h3 : (scope.names.all fun y => match y.2 with | .cell => false | .free => false | _ => true) = true)
    (h4 : scope.names.lookup (".0" : Str) = some NameKind.local) (h5 : scope.names.lookup x = some .local) : GxR.GenS env scope x := by
  have key : ∀ y ∈ scope.names, y.2 ≠ .cell ∧ y.2 ≠ .free := fun y hy => by
    have := List.all_eq_true.mp h3 y hy
    constructor
    · intro z; rw [z] at this; cases this
    · intro z; rw [z] at this; cases this
  exact ⟨h1, h2, fun y hy => (key y hy).1, h4, h5, fun y hy z => absurd z (key y hy).2⟩
theorem kind_of {scope : Scope} {x : Str} {k : NameKind} (h : scope.names.lookup x = some k) (cenv : PySem.Env) (e : cenv.scope = scope) : cenv.kindOf x = some k := by
  show cenv.scope.names.lookup x = some k
  rw [e]; exact h
/-! ### the end of a law with tables -/
/-- what is known of the tables: the table of a def that stands in the module -/
def OwnTabs (q : Program) (K : PySem.W.Frag) (mg : Str → Option Value) (h : Heap) : Prop := ∀ (x : Str) (fa c P : Addr) (o : Obj) (fd : FuncData) (e : Value) (dd : Option Addr) (vs : Array Value) (sl : Array (Option Value)), ((recsOf q).any fun e => e.name == x) = true → mg x = some (.ref fa) →
  K.lookup fa = some o → o.data = .func fd → fd.code = .ref c → K.lookup c = some ⟨e, dd, .fields vs, sl⟩ → vs[11]? = some (.ref P) → h.get? P = some { cls := .none, data := .fields #[] }
theorem walk_tabs {l : PySem.W.OpenLaw} {n k : Nat} {q : Program} {loose : List Str} {XP : (Str → Option Value) → Heap → Prop} {YP : World → Heap → Prop} {d : DefRec} {K : Params → PySem.W.Frag} {CX : World → CXT} {x : Str}
    (hn : l.most = some n) (hn2 : n ≤ sizeLine) (hdf : d.params.defaults = []) (hr : Room k callerA) (hY : ∀ (w : World) (h : Heap), YP w h → (K w.params).In h)
    (F : ∀ (w : World) (mg : Str → Option Value) (fa : Addr) (h : Heap), (K w.params).In h → h.Ns mainGlobals mg → mg d.name = some (.ref fa) → OwnTabs q (K w.params) mg h → LamX.LawAtS l w (K w.params) (CX w) k n x mg fa h)
    (hCX : ∀ (w : World) (H : Hp) (s : Shared) (e : Value) (s' : Shared), CX w [] H s (fun _ _ _ => False) e s' → False) :
    PySem.W.WalkO q loose XP YP l.row.toRowW d [] (fun f vs => PySem.call f vs) := by
  refine Att.attach_callB hn hdf fun w s₀ s₁ mg mb fa o pm cd doc a vs ns G Y ho hd hcd hmg hobj hints hlen hbits hg => ?_
  have KX := hY w _ Y
  have own : OwnTabs q (K w.params) mg s₁.heap := fun y fb c P o1 fd1 e dd vs1 sl hrec hy k1 k2 k3 k4 k5 => by
    obtain ⟨dL, hm, hn1⟩ := List.any_eq_true.mp hrec
    have hn2 : dL.name = y := beq_iff_eq.mp hn1
    obtain ⟨a', o', fd', c', P', h1, h2, h3, h4, h5, h6⟩ := G.T.tab dL hm
    rw [hn2, hy] at h1
    cases h1
    have g1 := KX _ _ k1
    rw [g1] at h2
    cases h2
    rw [k2] at h3
    cases h3
    rw [k3] at h4
    cases h4
    obtain ⟨⟨oc, vc, e1, _, e3, e4⟩, hP⟩ := h6
    have g2 := KX _ _ k4
    rw [g2] at e1
    cases e1
    cases e3
    rw [k5] at e4
    cases e4
    exact hP
  obtain ⟨fd, cs, sp, hT, nT, C, hb, hsp, hF⟩ := F w mg fa _ KX G.T.g hmg own
  exact LamX.law_callTs KX G.T.g G.T.b G.T.builtins G.T.nolimit hg hT nT C G.T.bmain hobj hints (Nat.le_trans hlen hn2) hr hF hb (fun H hH hS => hsp H a ns hlen hbits hH hS) fun H e s' => hCX w H s₁ e s'

/-! ### is True, is not False -/
def oIsB : D → D → Option D := fun x y => match x, y with
  | .bool a, .bool b => some (.bool (a == b))
  | _, _ => none
def oNotB : D → D → Option D := fun x y => match x, y with
  | .bool a, .bool b => some (.bool (a != b))
  | _, _ => none
section
variable {X : Cx}
theorem or_isB : OpR X (compareOp .Is) (rD2 X.K oIsB) := by
  intro pins s σ H x y v u Q I rx ry h
  obtain ⟨G, a, b, c, ge, ra, rb, e, q⟩ := h
  unfold oIsB at e
  split at e
  · cases e; cases ra; cases rb; cases rx; cases ry
    exact is_bool ⟨.bl _, H, I, rfl, q _ _ G (.refl ge) rfl⟩
  · cases e
theorem or_notB : OpR X (compareOp .IsNot) (rD2 X.K oNotB) := by
  intro pins s σ H x y v u Q I rx ry h
  obtain ⟨G, a, b, c, ge, ra, rb, e, q⟩ := h
  unfold oNotB at e
  split at e
  · cases e; cases ra; cases rb; cases rx; cases ry
    exact isnot_bool ⟨.bl _, H, I, rfl, q _ _ G (.refl ge) rfl⟩
  · cases e
end
theorem tab_conv {base : Heap} {mg : Str → Option Value} {c P : Addr} (h : LamX.TabB base mg c P) : GxR.TabB base mg c P := ⟨h.1, h.2, h.3⟩
end Mo

/-! k88: the defs of the law, printed by gen.py -/
namespace K88
variable [Mo.Tabs]
open PySem PySem.Spec PyProof.Rows L2 Mo
def top (i : Nat) : Stmt := PySem.Challenge.pw_foundalways_k88_whole_seeks_from_all_pla.main.body.getD i (.Pass ⟨0, 0, 0, 0⟩)
abbrev s_is_row : Stmt := top 4
abbrev s_seek : Stmt := top 5
abbrev s_met : Stmt := top 6
abbrev s_both : Stmt := top 7
abbrev s_without : Stmt := top 8
abbrev s_part : Stmt := top 9
abbrev s_place_in : Stmt := top 10
abbrev s_judge_met : Stmt := top 11
abbrev s_l_draw : Stmt := top 13
abbrev s_l_same : Stmt := top 14
abbrev s_l_made : Stmt := top 15
abbrev s_l_sought : Stmt := top 16
abbrev s_l_power : Stmt := top 17
abbrev s_law : Stmt := top 18
/-- where the classes of errors stand -/
structure Cs where
  C_NoSuch : Addr
structure Ad where
  a_is_row : Addr
  d_is_row : FuncData
  a_seek : Addr
  d_seek : FuncData
  a_met : Addr
  d_met : FuncData
  a_both : Addr
  d_both : FuncData
  a_without : Addr
  d_without : FuncData
  a_part : Addr
  d_part : FuncData
  a_place_in : Addr
  d_place_in : FuncData
  a_judge_met : Addr
  d_judge_met : FuncData
  a_l_draw : Addr
  d_l_draw : FuncData
  a_l_same : Addr
  d_l_same : FuncData
  a_l_made : Addr
  d_l_made : FuncData
  a_l_sought : Addr
  d_l_sought : FuncData
  a_l_power : Addr
  d_l_power : FuncData
  a_law : Addr
  d_law : FuncData
  ct_is_row : Addr
  P_is_row : Addr
  c : Cs
structure Txt (K : PySem.W.Frag) (mg : Str → Option Value) (a : Ad) : Prop where
  F_is_row : Fun K "is_row" "is_row" s_is_row a.a_is_row a.d_is_row
  B_is_row : Binds K a.d_is_row ["value"] []
  G_is_row : mg "is_row" = some (.ref a.a_is_row)
  F_seek : Fun K "seek" "seek" s_seek a.a_seek a.d_seek
  B_seek : Binds K a.d_seek ["row", "start", "goal"] []
  G_seek : mg "seek" = some (.ref a.a_seek)
  F_met : Fun K "met" "met" s_met a.a_met a.d_met
  B_met : Binds K a.d_met ["one", "two"] []
  G_met : mg "met" = some (.ref a.a_met)
  F_both : Fun K "both" "both" s_both a.a_both a.d_both
  B_both : Binds K a.d_both ["one", "two"] []
  G_both : mg "both" = some (.ref a.a_both)
  F_without : Fun K "without" "without" s_without a.a_without a.d_without
  B_without : Binds K a.d_without ["one", "two"] []
  G_without : mg "without" = some (.ref a.a_without)
  F_part : Fun K "part" "part" s_part a.a_part a.d_part
  B_part : Binds K a.d_part ["row", "low", "high"] []
  G_part : mg "part" = some (.ref a.a_part)
  F_place_in : Fun K "place_in" "place_in" s_place_in a.a_place_in a.d_place_in
  B_place_in : Binds K a.d_place_in ["row", "number"] []
  G_place_in : mg "place_in" = some (.ref a.a_place_in)
  F_judge_met : Fun K "judge_met" "judge_met" s_judge_met a.a_judge_met a.d_judge_met
  B_judge_met : Binds K a.d_judge_met ["one", "two", "told"] []
  G_judge_met : mg "judge_met" = some (.ref a.a_judge_met)
  F_l_draw : Fun K "_law_draw" "_law_draw" s_l_draw a.a_l_draw a.d_l_draw
  B_l_draw : Binds K a.d_l_draw ["state", "limit"] []
  G_l_draw : mg "_law_draw" = some (.ref a.a_l_draw)
  F_l_same : Fun K "_law_same" "_law_same" s_l_same a.a_l_same a.d_l_same
  B_l_same : Binds K a.d_l_same ["one", "two"] []
  G_l_same : mg "_law_same" = some (.ref a.a_l_same)
  F_l_made : Fun K "_law_made" "_law_made" s_l_made a.a_l_made a.d_l_made
  B_l_made : Binds K a.d_l_made ["state"] []
  G_l_made : mg "_law_made" = some (.ref a.a_l_made)
  F_l_sought : Fun K "_law_sought" "_law_sought" s_l_sought a.a_l_sought a.d_l_sought
  B_l_sought : Binds K a.d_l_sought ["row", "start", "goal"] []
  G_l_sought : mg "_law_sought" = some (.ref a.a_l_sought)
  F_l_power : Fun K "_law_power" "_law_power" s_l_power a.a_l_power a.d_l_power
  B_l_power : Binds K a.d_l_power ["many"] []
  G_l_power : mg "_law_power" = some (.ref a.a_l_power)
  F_law : Fun K "law" "law" s_law a.a_law a.d_law
  B_law : Binds K a.d_law ["script"] []
  G_law : mg "law" = some (.ref a.a_law)
  z_all : mg "all" = none
  z_bool : mg "bool" = none
  z_int : mg "int" = none
  z_isinstance : mg "isinstance" = none
  z_len : mg "len" = none
  z_list : mg "list" = none
  z_min : mg "min" = none
  z_range : mg "range" = none
  z_set : mg "set" = none
  z_sorted : mg "sorted" = none
  z_tuple : mg "tuple" = none
  z_zip : mg "zip" = none
  cd_is_row : a.d_is_row.code = .ref a.ct_is_row
  p_is_row : a.P_is_row ∈ Tabs.l
  G_NoSuch : mg "NoSuch" = some (.ref a.c.C_NoSuch)
  k_NoSuch : PySem.W.keepIn K (.ref a.c.C_NoSuch) = true
  x_NoSuch : PySem.W.excIn K a.c.C_NoSuch [.type "ValueError", .type "Exception", .type "BaseException", .type "object"] "ValueError.__new__" = true
  h_NoSuch : PySem.W.subIn K (.ref a.c.C_NoSuch) (.type "BaseException") = some true
  t_NoSuch : PySem.W.typeIn K (.ref a.c.C_NoSuch) = some (.type "type")
  e_NoSuch : PySem.W.exmOne K (.ref a.c.C_NoSuch) (.ref a.c.C_NoSuch) = some true
structure Tba (base : Heap) (mg : Str → Option Value) (a : Ad) : Prop where
  tb_is_row : GxR.TabB base mg a.ct_is_row a.P_is_row
theorem sc_is_row : FnScope ["value", "one", "two"] ["value"] (defScope s_is_row) := ⟨rfl, rfl, rfl, by decide +kernel, rfl, by decide +kernel, by decide +kernel⟩
theorem sc_seek : FnScope ["row", "start", "goal", "high", "steps", "leap", "low", "middle"] ["row", "start", "goal"] (defScope s_seek) := ⟨rfl, rfl, rfl, by decide +kernel, rfl, by decide +kernel, by decide +kernel⟩
theorem sc_met : FnScope ["one", "two", "found", "steps", "here", "there", "more"] ["one", "two"] (defScope s_met) := ⟨rfl, rfl, rfl, by decide +kernel, rfl, by decide +kernel, by decide +kernel⟩
theorem sc_both : FnScope ["one", "two"] ["one", "two"] (defScope s_both) := ⟨rfl, rfl, rfl, by decide +kernel, rfl, by decide +kernel, by decide +kernel⟩
theorem sc_without : FnScope ["one", "two", "number", "found", "there", "_"] ["one", "two"] (defScope s_without) := ⟨rfl, rfl, rfl, by decide +kernel, rfl, by decide +kernel, by decide +kernel⟩
theorem sc_part : FnScope ["row", "low", "high", "first", "_", "last"] ["row", "low", "high"] (defScope s_part) := ⟨rfl, rfl, rfl, by decide +kernel, rfl, by decide +kernel, by decide +kernel⟩
theorem sc_place_in : FnScope ["row", "number", "place", "_"] ["row", "number"] (defScope s_place_in) := ⟨rfl, rfl, rfl, by decide +kernel, rfl, by decide +kernel, by decide +kernel⟩
theorem sc_judge_met : FnScope ["one", "two", "told", "number", "row", "few", "many", "place", "_"] ["one", "two", "told"] (defScope s_judge_met) := ⟨rfl, rfl, rfl, by decide +kernel, rfl, by decide +kernel, by decide +kernel⟩
theorem sc_l_draw : FnScope ["state", "limit", "digit", "position", "cell", "mixed"] ["state", "limit"] (defScope s_l_draw) := ⟨rfl, rfl, rfl, by decide +kernel, rfl, by decide +kernel, by decide +kernel⟩
theorem sc_l_same : FnScope ["one", "two", "a", "b"] ["one", "two"] (defScope s_l_same) := ⟨rfl, rfl, rfl, by decide +kernel, rfl, by decide +kernel, by decide +kernel⟩
theorem sc_l_made : FnScope ["state", "step", "k"] ["state"] (defScope s_l_made) := ⟨rfl, rfl, rfl, by decide +kernel, rfl, by decide +kernel, by decide +kernel⟩
theorem sc_l_sought : FnScope ["row", "start", "goal", "turn", "steps", "low", "leap", "end", "middle"] ["row", "start", "goal"] (defScope s_l_sought) := ⟨rfl, rfl, rfl, by decide +kernel, rfl, by decide +kernel, by decide +kernel⟩
theorem sc_l_power : FnScope ["many", "found", "turn"] ["many"] (defScope s_l_power) := ⟨rfl, rfl, rfl, by decide +kernel, rfl, by decide +kernel, by decide +kernel⟩
theorem sc_law : FnScope ["script", "state", "rows", "row", "goals", "start", "turn", "k", "goal", "steps", "found", "here", "there", "due", "place", "one", "two", "more", "number"] ["script"] (defScope s_law) := ⟨rfl, rfl, rfl, by decide +kernel, rfl, by decide +kernel, by decide +kernel⟩
section
variable {P : Program} {w : World} {K : PySem.W.Frag} {mg : Str → Option Value} {base : Heap} {a : Ad}
noncomputable def g_is_row (c : Cs) : Mo.Env → SRes :=
  (seqF (ifS (notF (truF (isiF "tuple" (varF 0)))) (retF (cF (.bool false))) nxF)
    (seqF (ifS (notF (truF (genN (qAnd (qIsa PyData.isInt (fun ds : List PyData => ds[0]?)) (qAnd (qNot (qIsa PyData.isBool (fun ds : List PyData => ds[0]?))) (qChain (qCmp fun i j => decide (i ≤ j)) (qCmp fun i j => decide (i ≤ j)) (fun _ => some (.int 0)) (fun ds : List PyData => ds[0]?) (q2 qPow (fun _ => some (.int 10)) (fun _ => some (.int 9)))))) (fun bs => bs.all id) (varF 0)))) (retF (cF (.bool false))) nxF)
    (retF (genZ (q2 (qCmp fun i j => decide (i < j)) (fun ds : List PyData => ds[0]?) (fun ds : List PyData => ds[1]?)) (fun bs => bs.all id) (consV true (varF 0) (consV true (slF true true (varF 0) (someP (cF (.int 1))) noP) nilV))))))
noncomputable def f_is_row (c : Cs) : List PyData → Out := funF 3 1 (g_is_row c)
theorem ok_is_row (T : Txt K mg a) (B : Tba base mg a) : FnOk P w K mg base (L2.CX P w) 1 a.a_is_row a.d_is_row ["value"] (spF K (f_is_row a.c)) := by
  have sc := sc_is_row
  refine def_okC (k := 0) T.F_is_row sc (g_is_row a.c) fun cdv hc A outer s H E hr => ?_
  have hu := hu64 hr
  have hu5 := hu65 hr
  unfold g_is_row
  exact (pb_sc (pb_if' (pb_not (pb_tru (pb_isi "tuple" (pb_var 0) (by rfl) (by rfl) T.z_isinstance (by rfl) T.z_tuple))) (pb_s1 (pb_ret pb_bl)) pb_sn)
    (pb_sc (pb_if' (pb_not (pb_tru (PE.imp (pe_allN hr (by rfl) T.z_all B.tb_is_row (hc.symm.trans T.cd_is_row) (gens_mk rfl rfl (by decide +kernel) (by decide +kernel) (by decide +kernel)) (pb_var 0) (qe_and (qe_isa (T := "int") rfl (fun _ _ _ _ _ _ _ r h => PySem.W.isinstance_int_data r h) (fun cenv e => ⟨kind_of (by decide +kernel) cenv e, kind_of (by decide +kernel) cenv e⟩) T.z_isinstance T.z_int (by decide +kernel) (by decide) (by decide) (qe_name 0 rfl rfl (by decide +kernel))) (qe_and (qe_not (qe_isa (T := "bool") rfl (fun _ _ _ _ _ _ _ r h => PySem.W.isinstance_bool_data r h) (fun cenv e => ⟨kind_of (by decide +kernel) cenv e, kind_of (by decide +kernel) cenv e⟩) T.z_isinstance T.z_bool (by decide +kernel) (by decide) (by decide) (qe_name 0 rfl rfl (by decide +kernel)))) (qe_one (qe_chain qo_le qo_le qe_int (qe_name 0 rfl rfl (by decide +kernel)) (qe_bin qo_pow qe_int qe_int))))) (fun _ => rfl)) fun σ H Q h => gen_to T.p_is_row h))) (pb_s1 (pb_ret pb_bl)) pb_sn)
    (pb_s1 (pb_ret (PE.imp (pe_allZ hr (by rfl) T.z_all (by rfl) T.z_zip B.tb_is_row (hc.symm.trans T.cd_is_row) (gens_mk rfl rfl (by decide +kernel) (by decide +kernel) (by decide +kernel)) (by decide +kernel) (by decide) (pb_cons (pb_var 0) (pb_cons (pb_sl (pb_var 0) (po_s pb_int) po_n) pb_nil)) (qe_cmp qo_lt (qe_name 0 rfl rfl (by decide +kernel)) (qe_name 1 rfl rfl (by decide +kernel)) (by rfl)) (fun _ => rfl)) fun σ H Q h => genZ_to T.p_is_row h)))))
noncomputable def g_seek (c : Cs) : Mo.Env → SRes :=
  (seqF (parF [4, 5, 6] (consW (lfF (cF (.int 0))) (consW (lfF (cF (.int 1))) (consW (lfF (varF 1)) nilW))))
    (seqF (whileF (boolF (bin2 true oLt (bin2 true oSub (bin2 true oAdd (varF 6) (varF 5)) (cF (.int 1))) (callF bLen (consV true (varF 0) nilV)))) (seqF (augF 4 oIadd (cF (.int 1)))
    (seqF (ifS (boolF (bin2 true oGe (ixF true (varF 0) (bin2 true oSub (bin2 true oAdd (varF 6) (varF 5)) (cF (.int 1)))) (varF 2))) bkF nxF)
    (parF [6, 5] (consW (lfF (bin2 true oAdd (varF 6) (varF 5))) (consW (lfF (bin2 true oMul (varF 5) (cF (.int 2)))) nilW))))))
    (seqF (asgF (asgE 3) (callF bMin (consV true (bin2 true oSub (bin2 true oAdd (varF 6) (varF 5)) (cF (.int 1))) (consV true (callF bLen (consV true (varF 0) nilV)) nilV))))
    (seqF (whileF (boolF (bin2 true oLt (varF 6) (varF 3))) (seqF (asgF (asgE 7) (bin2 true oFdiv (bin2 true oAdd (varF 6) (varF 3)) (cF (.int 2))))
    (seqF (augF 4 oIadd (cF (.int 1)))
    (ifS (boolF (bin2 true oGe (ixF true (varF 0) (varF 7)) (varF 2))) (asgF (asgE 3) (varF 7)) (asgF (asgE 6) (bin2 true oAdd (varF 7) (cF (.int 1))))))))
    (retF (tupF (consV true (varF 6) (consV true (varF 4) nilV))))))))
noncomputable def f_seek (c : Cs) : List PyData → Out := funF 8 3 (g_seek c)
theorem ok_seek (T : Txt K mg a) (B : Tba base mg a) : FnOk P w K mg base (L2.CX P w) 1 a.a_seek a.d_seek ["row", "start", "goal"] (spF K (f_seek a.c)) := by
  have sc := sc_seek
  refine def_ok (k := 0) T.F_seek sc (g_seek a.c) fun cdv A outer s H E hr => ?_
  have hu := hu64 hr
  have hu5 := hu65 hr
  unfold g_seek
  exact (pb_sc (pb_par3 4 5 6 rfl sc.nd (pw_cons (pb_lf pb_int) (pw_cons (pb_lf pb_int) (pw_cons (pb_lf (pb_var 1)) pw_nil))))
    (pb_sc (pb_while PassesOwn.leaving (pb_tcmp or_lt (pb_op or_sub (pb_op or_add (pb_var 6) (pb_var 5)) pb_int) (pb_callB c_len (by rfl) T.z_len PySem.boot_len (pb_cons (pb_var 0) pb_nil)) (by rfl)) (pb_sc (pb_aug 4 sc.nd ip_iadd pb_int)
    (pb_sc (pb_if' (pb_tcmp or_ge (pb_ix (pb_var 0) (pb_op or_sub (pb_op or_add (pb_var 6) (pb_var 5)) pb_int)) (pb_var 2) (by rfl)) (pb_s1 pb_break) pb_sn)
    (pb_s1 (pb_par 6 5 rfl sc.nd (pw_cons (pb_lf (pb_op or_add (pb_var 6) (pb_var 5))) (pw_cons (pb_lf (pb_op or_mul (pb_var 5) pb_int)) pw_nil)))))))
    (pb_sc (pb_asg (pb_callB (c_min rfl) (by rfl) T.z_min (by decide +kernel) (pb_cons (pb_op or_sub (pb_op or_add (pb_var 6) (pb_var 5)) pb_int) (pb_cons (pb_callB c_len (by rfl) T.z_len PySem.boot_len (pb_cons (pb_var 0) pb_nil)) pb_nil))) (pg_n 3 sc.nd))
    (pb_sc (pb_while PassesOwn.leaving (pb_tcmp or_lt (pb_var 6) (pb_var 3) (by rfl)) (pb_sc (pb_asg (pb_op or_fdiv (pb_op or_add (pb_var 6) (pb_var 3)) pb_int) (pg_n 7 sc.nd))
    (pb_sc (pb_aug 4 sc.nd ip_iadd pb_int)
    (pb_s1 (pb_if' (pb_tcmp or_ge (pb_ix (pb_var 0) (pb_var 7)) (pb_var 2) (by rfl)) (pb_s1 (pb_asg (pb_var 7) (pg_n 3 sc.nd))) (pb_s1 (pb_asg (pb_op or_add (pb_var 7) pb_int) (pg_n 6 sc.nd))))))))
    (pb_s1 (pb_ret (pb_tup (pb_cons (pb_var 6) (pb_cons (pb_var 4) pb_nil)))))))))
noncomputable def g_met (c : Cs) : Mo.Env → SRes :=
  (seqF (parF [2, 3, 4, 5] (consW (lstF nilV) (consW (lfF (cF (.int 0))) (consW (lfF (cF (.int 0))) (consW (lfF (cF (.int 0))) nilW)))))
    (seqF (whileF (andF (boolF (bin2 true oLt (varF 4) (callF bLen (consV true (varF 0) nilV)))) (boolF (bin2 true oLt (varF 5) (callF bLen (consV true (varF 1) nilV))))) (ifS (boolF (bin2 true oEq (ixF true (varF 0) (varF 4)) (ixF true (varF 1) (varF 5)))) (seqF (exprF (appF 2 (lfF (ixF true (varF 0) (varF 4)))))
    (parF [4, 5] (consW (lfF (bin2 true oAdd (varF 4) (cF (.int 1)))) (consW (lfF (bin2 true oAdd (varF 5) (cF (.int 1)))) nilW)))) (ifS (boolF (bin2 true oLt (ixF true (varF 0) (varF 4)) (ixF true (varF 1) (varF 5)))) (seqF (asgF (unpE 2 (gConsE (asgE 4) (gConsE (asgE 6) gNilE))) (callD (f_seek c) (consV true (varF 0) (consV true (varF 4) (consV true (ixF true (varF 1) (varF 5)) nilV)))))
    (augF 3 oIadd (varF 6))) (seqF (asgF (unpE 2 (gConsE (asgE 5) (gConsE (asgE 6) gNilE))) (callD (f_seek c) (consV true (varF 1) (consV true (varF 5) (consV true (ixF true (varF 0) (varF 4)) nilV)))))
    (augF 3 oIadd (varF 6))))))
    (retF (tupF (consV true (callF bTuple (consV true (varF 2) nilV)) (consV true (varF 3) nilV))))))
noncomputable def f_met (c : Cs) : List PyData → Out := funF 7 2 (g_met c)
theorem ok_met (T : Txt K mg a) (B : Tba base mg a) : FnOk P w K mg base (L2.CX P w) 2 a.a_met a.d_met ["one", "two"] (spF K (f_met a.c)) := by
  have sc := sc_met
  refine def_ok (k := 1) T.F_met sc (g_met a.c) fun cdv A outer s H E hr => ?_
  have hu := hu64 hr
  have hu5 := hu65 hr
  unfold g_met
  exact (pb_sc (pb_parT (is := [2, 3, 4, 5]) (n := 4) rfl (pw_cons (pb_lst pb_nil) (pw_cons (pb_lf pb_int) (pw_cons (pb_lf pb_int) (pw_cons (pb_lf pb_int) pw_nil)))) (pgw_c 2 sc.nd (pgw_c 3 sc.nd (pgw_c 4 sc.nd (pgw_c 5 sc.nd pgw_n)))))
    (pb_sc (pb_while PassesOwn.leaving ((pb_wand (pb_tcmp or_lt (pb_var 4) (pb_callB c_len (by rfl) T.z_len PySem.boot_len (pb_cons (pb_var 0) pb_nil)) (by rfl)) (pb_pw1 (pb_tcmp or_lt (pb_var 5) (pb_callB c_len (by rfl) T.z_len PySem.boot_len (pb_cons (pb_var 1) pb_nil)) (by rfl))))).pt (pb_s1 (pb_if' (pb_tcmp (or_eq hu) (pb_ix (pb_var 0) (pb_var 4)) (pb_ix (pb_var 1) (pb_var 5)) (by rfl)) (pb_sc (pb_expr (pb_append 2 (pe_var (i := 2) rfl (by first | exact Or.inl rfl | exact Or.inr (Or.inl rfl) | exact Or.inr (Or.inr rfl))) (pb_lf (pb_ix (pb_var 0) (pb_var 4)))))
    (pb_s1 (pb_par 4 5 rfl sc.nd (pw_cons (pb_lf (pb_op or_add (pb_var 4) pb_int)) (pw_cons (pb_lf (pb_op or_add (pb_var 5) pb_int)) pw_nil))))) (pb_s1 (pb_if' (pb_tcmp or_lt (pb_ix (pb_var 0) (pb_var 4)) (pb_ix (pb_var 1) (pb_var 5)) (by rfl)) (pb_sc (pb_asg (pb_call (ok_seek T B) (hr.mono (by decide)) (by rfl) T.G_seek T.F_seek.kp T.B_seek (takes_of rfl rfl rfl rfl) (pb_cons (pb_var 0) (pb_cons (pb_var 4) (pb_cons (pb_ix (pb_var 1) (pb_var 5)) pb_nil)))) (pg_t (ix := [4, 6]) rfl (pgs_c (pg_n 4 sc.nd) (pgs_c (pg_n 6 sc.nd) pgs_n))))
    (pb_s1 (pb_aug 3 sc.nd ip_iadd (pb_var 6)))) (pb_sc (pb_asg (pb_call (ok_seek T B) (hr.mono (by decide)) (by rfl) T.G_seek T.F_seek.kp T.B_seek (takes_of rfl rfl rfl rfl) (pb_cons (pb_var 1) (pb_cons (pb_var 5) (pb_cons (pb_ix (pb_var 0) (pb_var 4)) pb_nil)))) (pg_t (ix := [5, 6]) rfl (pgs_c (pg_n 5 sc.nd) (pgs_c (pg_n 6 sc.nd) pgs_n))))
    (pb_s1 (pb_aug 3 sc.nd ip_iadd (pb_var 6)))))))))
    (pb_s1 (pb_ret (pb_tup (pb_cons (pb_callT c_tuple (by rfl) T.z_tuple (by decide +kernel) (pb_cons (pb_var 2) pb_nil)) (pb_cons (pb_var 3) pb_nil)))))))
noncomputable def g_both (c : Cs) : Mo.Env → SRes :=
  (retF (ixF true (callD (f_met c) (consV true (varF 0) (consV true (varF 1) nilV))) (cF (.int 0))))
noncomputable def f_both (c : Cs) : List PyData → Out := funF 2 2 (g_both c)
theorem ok_both (T : Txt K mg a) (B : Tba base mg a) : FnOk P w K mg base (L2.CX P w) 3 a.a_both a.d_both ["one", "two"] (spF K (f_both a.c)) := by
  have sc := sc_both
  refine def_ok (k := 2) T.F_both sc (g_both a.c) fun cdv A outer s H E hr => ?_
  have hu := hu64 hr
  have hu5 := hu65 hr
  unfold g_both
  exact (pb_s1 (pb_ret (pb_ix (pb_call (ok_met T B) (hr.mono (by decide)) (by rfl) T.G_met T.F_met.kp T.B_met (takes_of rfl rfl rfl rfl) (pb_cons (pb_var 0) (pb_cons (pb_var 1) pb_nil))) pb_int)))
noncomputable def g_without (c : Cs) : Mo.Env → SRes :=
  (seqF (parF [3, 4] (consW (lstF nilV) (consW (lfF (cF (.int 0))) nilW)))
    (seqF (forF (itF (varF 0)) (asgE 2) (seqF (asgF (unpE 2 (gConsE (asgE 4) (gConsE (asgE 5) gNilE))) (callD (f_seek c) (consV true (varF 1) (consV true (varF 4) (consV true (varF 2) nilV)))))
    (ifS (orF (boolF (bin2 true oEq (varF 4) (callF bLen (consV true (varF 1) nilV)))) (boolF (bin2 true oNe (ixF true (varF 1) (varF 4)) (varF 2)))) (exprF (appF 3 (lfF (varF 2)))) nxF)))
    (retF (callF bTuple (consV true (varF 3) nilV)))))
noncomputable def f_without (c : Cs) : List PyData → Out := funF 6 2 (g_without c)
theorem ok_without (T : Txt K mg a) (B : Tba base mg a) : FnOk P w K mg base (L2.CX P w) 2 a.a_without a.d_without ["one", "two"] (spF K (f_without a.c)) := by
  have sc := sc_without
  refine def_ok (k := 1) T.F_without sc (g_without a.c) fun cdv A outer s H E hr => ?_
  have hu := hu64 hr
  have hu5 := hu65 hr
  unfold g_without
  exact (pb_sc (pb_par 3 4 rfl sc.nd (pw_cons (pb_lst pb_nil) (pw_cons (pb_lf pb_int) pw_nil)))
    (pb_sc (pb_for (ix := [2]) PassesOwn.leaving rfl (pi_l (pb_var 0)) (pg_n 2 sc.nd) (pb_sc (pb_asg (pb_call (ok_seek T B) (hr.mono (by decide)) (by rfl) T.G_seek T.F_seek.kp T.B_seek (takes_of rfl rfl rfl rfl) (pb_cons (pb_var 1) (pb_cons (pb_var 4) (pb_cons (pb_var 2) pb_nil)))) (pg_t (ix := [4, 5]) rfl (pgs_c (pg_n 4 sc.nd) (pgs_c (pg_n 5 sc.nd) pgs_n))))
    (pb_s1 (pb_if' ((pb_wor (pb_tcmp (or_eq hu) (pb_var 4) (pb_callB c_len (by rfl) T.z_len PySem.boot_len (pb_cons (pb_var 1) pb_nil)) (by rfl)) (pb_pwo1 (pb_tcmp (or_ne hu) (pb_ix (pb_var 1) (pb_var 4)) (pb_var 2) (by rfl))))).pt (pb_s1 (pb_expr (pb_append 3 (pe_var (i := 3) rfl (by first | exact Or.inl rfl | exact Or.inr (Or.inl rfl) | exact Or.inr (Or.inr rfl))) (pb_lf (pb_var 2))))) pb_sn))))
    (pb_s1 (pb_ret (pb_callT c_tuple (by rfl) T.z_tuple (by decide +kernel) (pb_cons (pb_var 3) pb_nil))))))
noncomputable def g_part (c : Cs) : Mo.Env → SRes :=
  (seqF (asgF (unpE 2 (gConsE (asgE 3) (gConsE (asgE 4) gNilE))) (callD (f_seek c) (consV true (varF 0) (consV true (cF (.int 0)) (consV true (varF 1) nilV)))))
    (seqF (asgF (unpE 2 (gConsE (asgE 5) (gConsE (asgE 4) gNilE))) (callD (f_seek c) (consV true (varF 0) (consV true (varF 3) (consV true (bin2 true oAdd (varF 2) (cF (.int 1))) nilV)))))
    (retF (callF bTuple (consV true (slF true true (varF 0) (someP (varF 3)) (someP (varF 5))) nilV)))))
noncomputable def f_part (c : Cs) : List PyData → Out := funF 6 3 (g_part c)
theorem ok_part (T : Txt K mg a) (B : Tba base mg a) : FnOk P w K mg base (L2.CX P w) 2 a.a_part a.d_part ["row", "low", "high"] (spF K (f_part a.c)) := by
  have sc := sc_part
  refine def_ok (k := 1) T.F_part sc (g_part a.c) fun cdv A outer s H E hr => ?_
  have hu := hu64 hr
  have hu5 := hu65 hr
  unfold g_part
  exact (pb_sc (pb_asg (pb_call (ok_seek T B) (hr.mono (by decide)) (by rfl) T.G_seek T.F_seek.kp T.B_seek (takes_of rfl rfl rfl rfl) (pb_cons (pb_var 0) (pb_cons pb_int (pb_cons (pb_var 1) pb_nil)))) (pg_t (ix := [3, 4]) rfl (pgs_c (pg_n 3 sc.nd) (pgs_c (pg_n 4 sc.nd) pgs_n))))
    (pb_sc (pb_asg (pb_call (ok_seek T B) (hr.mono (by decide)) (by rfl) T.G_seek T.F_seek.kp T.B_seek (takes_of rfl rfl rfl rfl) (pb_cons (pb_var 0) (pb_cons (pb_var 3) (pb_cons (pb_op or_add (pb_var 2) pb_int) pb_nil)))) (pg_t (ix := [5, 4]) rfl (pgs_c (pg_n 5 sc.nd) (pgs_c (pg_n 4 sc.nd) pgs_n))))
    (pb_s1 (pb_ret (pb_callT c_tuple (by rfl) T.z_tuple (by decide +kernel) (pb_cons (pb_sl (pb_var 0) (po_s (pb_var 3)) (po_s (pb_var 5))) pb_nil))))))
noncomputable def g_place_in (c : Cs) : Mo.Env → SRes :=
  (seqF (asgF (unpE 2 (gConsE (asgE 2) (gConsE (asgE 3) gNilE))) (callD (f_seek c) (consV true (varF 0) (consV true (cF (.int 0)) (consV true (varF 1) nilV)))))
    (seqF (ifS (orF (boolF (bin2 true oEq (varF 2) (callF bLen (consV true (varF 0) nilV)))) (boolF (bin2 true oNe (ixF true (varF 0) (varF 2)) (varF 1)))) (raiseF c.C_NoSuch) nxF)
    (retF (varF 2))))
noncomputable def f_place_in (c : Cs) : List PyData → Out := funF 4 2 (g_place_in c)
theorem ok_place_in (T : Txt K mg a) (B : Tba base mg a) : FnOk P w K mg base (L2.CX P w) 2 a.a_place_in a.d_place_in ["row", "number"] (spF K (f_place_in a.c)) := by
  have sc := sc_place_in
  refine def_ok (k := 1) T.F_place_in sc (g_place_in a.c) fun cdv A outer s H E hr => ?_
  have hu := hu64 hr
  have hu5 := hu65 hr
  unfold g_place_in
  exact (pb_sc (pb_asg (pb_call (ok_seek T B) (hr.mono (by decide)) (by rfl) T.G_seek T.F_seek.kp T.B_seek (takes_of rfl rfl rfl rfl) (pb_cons (pb_var 0) (pb_cons pb_int (pb_cons (pb_var 1) pb_nil)))) (pg_t (ix := [2, 3]) rfl (pgs_c (pg_n 2 sc.nd) (pgs_c (pg_n 3 sc.nd) pgs_n))))
    (pb_sc (pb_if' ((pb_wor (pb_tcmp (or_eq hu) (pb_var 2) (pb_callB c_len (by rfl) T.z_len PySem.boot_len (pb_cons (pb_var 0) pb_nil)) (by rfl)) (pb_pwo1 (pb_tcmp (or_ne hu) (pb_ix (pb_var 0) (pb_var 2)) (pb_var 1) (by rfl))))).pt (pb_s1 (pb_raise rfl (takes_of rfl rfl rfl rfl) PySem.F.excBase_ValueError T.x_NoSuch T.G_NoSuch T.k_NoSuch (raises_own T.h_NoSuch T.t_NoSuch) (by rfl))) pb_sn)
    (pb_s1 (pb_ret (pb_var 2)))))
noncomputable def g_judge_met (c : Cs) : Mo.Env → SRes :=
  (seqF (ifS (notF (truF (callD (f_is_row c) (consV true (varF 2) nilV)))) (retF (cF (.bool false))) nxF)
    (seqF (forF (itF (varF 2)) (asgE 3) (forF (itF (tupF (consV true (varF 0) (consV true (varF 1) nilV)))) (asgE 4) (seqF (asgF (unpE 2 (gConsE (asgE 7) (gConsE (asgE 8) gNilE))) (callD (f_seek c) (consV true (varF 4) (consV true (cF (.int 0)) (consV true (varF 3) nilV)))))
    (ifS (orF (boolF (bin2 true oEq (varF 7) (callF bLen (consV true (varF 4) nilV)))) (boolF (bin2 true oNe (ixF true (varF 4) (varF 7)) (varF 3)))) (retF (cF (.bool false))) nxF))))
    (seqF (asgF (unpE 2 (gConsE (asgE 5) (gConsE (asgE 6) gNilE))) (ifF (boolF (bin2 true oLe (callF bLen (consV true (varF 0) nilV)) (callF bLen (consV true (varF 1) nilV)))) (tupF (consV true (varF 0) (consV true (varF 1) nilV))) (tupF (consV true (varF 1) (consV true (varF 0) nilV)))))
    (retF (notT (callD (f_both c) (consV true (callD (f_without c) (consV true (varF 5) (consV true (varF 2) nilV))) (consV true (varF 6) nilV))))))))
noncomputable def f_judge_met (c : Cs) : List PyData → Out := funF 9 3 (g_judge_met c)
theorem ok_judge_met (T : Txt K mg a) (B : Tba base mg a) : FnOk P w K mg base (L2.CX P w) 4 a.a_judge_met a.d_judge_met ["one", "two", "told"] (spF K (f_judge_met a.c)) := by
  have sc := sc_judge_met
  refine def_ok (k := 3) T.F_judge_met sc (g_judge_met a.c) fun cdv A outer s H E hr => ?_
  have hu := hu64 hr
  have hu5 := hu65 hr
  unfold g_judge_met
  exact (pb_sc (pb_if' (pb_not (pb_tru (pb_call (ok_is_row T B) (hr.mono (by decide)) (by rfl) T.G_is_row T.F_is_row.kp T.B_is_row (takes_of rfl rfl rfl rfl) (pb_cons (pb_var 2) pb_nil)))) (pb_s1 (pb_ret pb_bl)) pb_sn)
    (pb_sc (pb_for (ix := [3]) PassesOwn.leaving rfl (pi_l (pb_var 2)) (pg_n 3 sc.nd) (pb_s1 (pb_for (ix := [4]) PassesOwn.leaving rfl (pi_l (pb_tup (pb_cons (pb_var 0) (pb_cons (pb_var 1) pb_nil)))) (pg_n 4 sc.nd) (pb_sc (pb_asg (pb_call (ok_seek T B) (hr.mono (by decide)) (by rfl) T.G_seek T.F_seek.kp T.B_seek (takes_of rfl rfl rfl rfl) (pb_cons (pb_var 4) (pb_cons pb_int (pb_cons (pb_var 3) pb_nil)))) (pg_t (ix := [7, 8]) rfl (pgs_c (pg_n 7 sc.nd) (pgs_c (pg_n 8 sc.nd) pgs_n))))
    (pb_s1 (pb_if' ((pb_wor (pb_tcmp (or_eq hu) (pb_var 7) (pb_callB c_len (by rfl) T.z_len PySem.boot_len (pb_cons (pb_var 4) pb_nil)) (by rfl)) (pb_pwo1 (pb_tcmp (or_ne hu) (pb_ix (pb_var 4) (pb_var 7)) (pb_var 3) (by rfl))))).pt (pb_s1 (pb_ret pb_bl)) pb_sn))))))
    (pb_sc (pb_asg (pb_if (pb_tcmp or_le (pb_callB c_len (by rfl) T.z_len PySem.boot_len (pb_cons (pb_var 0) pb_nil)) (pb_callB c_len (by rfl) T.z_len PySem.boot_len (pb_cons (pb_var 1) pb_nil)) (by rfl)) (pb_tup (pb_cons (pb_var 0) (pb_cons (pb_var 1) pb_nil))) (pb_tup (pb_cons (pb_var 1) (pb_cons (pb_var 0) pb_nil)))) (pg_t (ix := [5, 6]) rfl (pgs_c (pg_n 5 sc.nd) (pgs_c (pg_n 6 sc.nd) pgs_n))))
    (pb_s1 (pb_ret (pb_notT (pb_call (ok_both T B) (hr.mono (by decide)) (by rfl) T.G_both T.F_both.kp T.B_both (takes_of rfl rfl rfl rfl) (pb_cons (pb_call (ok_without T B) (hr.mono (by decide)) (by rfl) T.G_without T.F_without.kp T.B_without (takes_of rfl rfl rfl rfl) (pb_cons (pb_var 5) (pb_cons (pb_var 2) pb_nil))) (pb_cons (pb_var 6) pb_nil)))))))))
noncomputable def g_l_draw (c : Cs) : Mo.Env → SRes :=
  (seqF (ifS (boolF (bin2 true oLt (ixF true (varF 0) (cF (.int 0))) (varF 1))) (seqF (asgF (asgE 3) (ixF true (varF 0) (cF (.int 1))))
    (seqF (setIx 0 (cF (.int 1)) (bin2 true oAdd (varF 3) (cF (.int 1))))
    (seqF (asgF (asgE 4) (cF (.int 0)))
    (seqF (ifS (boolF (bin2 true oLt (varF 3) (callF bLen (consV true (ixF true (varF 0) (cF (.int 2))) nilV)))) (asgF (asgE 4) (ixF true (ixF true (varF 0) (cF (.int 2))) (varF 3))) nxF)
    (ifS (boolF (bin2 true oGe (varF 4) (bin2 true oPow (cF (.int 10)) (cF (.int 18))))) (setIx 0 (cF (.int 0)) (varF 4)) (seqF (setIx 0 (cF (.int 3)) (bin2 true oMod (callF bInt (consV true (bin2 true oMul (bin2 true oAdd (bin2 true oAdd (bin2 true oAdd (ixF true (varF 0) (cF (.int 3))) (bin2 true oMod (callF bInt (consV true (varF 4) nilV)) (cF (.int 2147483629)))) (varF 3)) (cF (.int 1))) (cF (.int 48271))) nilV)) (cF (.int 2147483647))))
    (seqF (asgF (asgE 5) (bin2 true oMod (callF bInt (consV true (bin2 true oAdd (bin2 true oMul (ixF true (varF 0) (cF (.int 3))) (cF (.int 69621))) (cF (.int 11))) nilV)) (cF (.int 2147483629))))
    (setIx 0 (cF (.int 0)) (bin2 true oAdd (bin2 true oMul (varF 5) (cF (.int 2147483647))) (bin2 true oMod (callF bInt (consV true (bin2 true oAdd (bin2 true oMul (varF 5) (cF (.int 30011))) (ixF true (varF 0) (cF (.int 3)))) nilV)) (cF (.int 2147483587)))))))))))) nxF)
    (seqF (asgF (asgE 2) (bin2 true oMod (callF bInt (consV true (ixF true (varF 0) (cF (.int 0))) nilV)) (varF 1)))
    (seqF (setIx 0 (cF (.int 0)) (bin2 true oFdiv (ixF true (varF 0) (cF (.int 0))) (varF 1)))
    (retF (varF 2)))))
noncomputable def f_l_draw (c : Cs) : OT → List PyData → OutI := funI 6 2 (g_l_draw c)
theorem ok_l_draw (T : Txt K mg a) (B : Tba base mg a) : FnOk P w K mg base (L2.CX P w) 1 a.a_l_draw a.d_l_draw ["state", "limit"] (spI K (f_l_draw a.c)) := by
  have sc := sc_l_draw
  refine defI_ok (k := 0) T.F_l_draw sc (g_l_draw a.c) fun cdv A outer s H E hr => ?_
  have hu := hu64 hr
  have hu5 := hu65 hr
  unfold g_l_draw
  exact (pb_sc (pb_if' (pb_tcmp or_lt (pb_ix (pb_var 0) pb_int) (pb_var 1) (by rfl)) (pb_sc (pb_asg (pb_ix (pb_var 0) pb_int) (pg_n 3 sc.nd))
    (pb_sc (pb_setIx 0 (pe_var (i := 0) rfl (by first | exact Or.inl rfl | exact Or.inr (Or.inl rfl) | exact Or.inr (Or.inr rfl))) pb_int (pb_op or_add (pb_var 3) pb_int))
    (pb_sc (pb_asg pb_int (pg_n 4 sc.nd))
    (pb_sc (pb_if' (pb_tcmp or_lt (pb_var 3) (pb_callB c_len (by rfl) T.z_len PySem.boot_len (pb_cons (pb_ix (pb_var 0) pb_int) pb_nil)) (by rfl)) (pb_s1 (pb_asg (pb_ix (pb_ix (pb_var 0) pb_int) (pb_var 3)) (pg_n 4 sc.nd))) pb_sn)
    (pb_s1 (pb_if' (pb_tcmp or_ge (pb_var 4) (pb_op or_pow pb_int pb_int) (by rfl)) (pb_s1 (pb_setIx 0 (pe_var (i := 0) rfl (by first | exact Or.inl rfl | exact Or.inr (Or.inl rfl) | exact Or.inr (Or.inr rfl))) pb_int (pb_var 4))) (pb_sc (pb_setIx 0 (pe_var (i := 0) rfl (by first | exact Or.inl rfl | exact Or.inr (Or.inl rfl) | exact Or.inr (Or.inr rfl))) pb_int (pb_op or_mod (pb_callT c_int (by rfl) T.z_int (by decide +kernel) (pb_cons (pb_op or_mul (pb_op or_add (pb_op or_add (pb_op or_add (pb_ix (pb_var 0) pb_int) (pb_op or_mod (pb_callT c_int (by rfl) T.z_int (by decide +kernel) (pb_cons (pb_var 4) pb_nil)) pb_int)) (pb_var 3)) pb_int) pb_int) pb_nil)) pb_int))
    (pb_sc (pb_asg (pb_op or_mod (pb_callT c_int (by rfl) T.z_int (by decide +kernel) (pb_cons (pb_op or_add (pb_op or_mul (pb_ix (pb_var 0) pb_int) pb_int) pb_int) pb_nil)) pb_int) (pg_n 5 sc.nd))
    (pb_s1 (pb_setIx 0 (pe_var (i := 0) rfl (by first | exact Or.inl rfl | exact Or.inr (Or.inl rfl) | exact Or.inr (Or.inr rfl))) pb_int (pb_op or_add (pb_op or_mul (pb_var 5) pb_int) (pb_op or_mod (pb_callT c_int (by rfl) T.z_int (by decide +kernel) (pb_cons (pb_op or_add (pb_op or_mul (pb_var 5) pb_int) (pb_ix (pb_var 0) pb_int)) pb_nil)) pb_int)))))))))))) pb_sn)
    (pb_sc (pb_asg (pb_op or_mod (pb_callT c_int (by rfl) T.z_int (by decide +kernel) (pb_cons (pb_ix (pb_var 0) pb_int) pb_nil)) (pb_var 1)) (pg_n 2 sc.nd))
    (pb_sc (pb_setIx 0 (pe_var (i := 0) rfl (by first | exact Or.inl rfl | exact Or.inr (Or.inl rfl) | exact Or.inr (Or.inr rfl))) pb_int (pb_op or_fdiv (pb_ix (pb_var 0) pb_int) (pb_var 1)))
    (pb_s1 (pb_ret (pb_var 2))))))
noncomputable def g_l_same (c : Cs) (rec : List PyData → Out) : Mo.Env → SRes :=
  (seqF (ifS (orF (andF (truF (isiF "tuple" (varF 0))) (truF (isiF "tuple" (varF 1)))) (andF (truF (isiF "list" (varF 0))) (truF (isiF "list" (varF 1))))) (retF (andV (bin2 true oEq (callF bLen (consV true (varF 0) nilV)) (callF bLen (consV true (varF 1) nilV))) (bin2 true oEq (frzO (compF [2, 3] (argF zip2 (consV true (varF 0) (consV true (varF 1) nilV))) (unpE 2 (gConsE (asgE 2) (gConsE (asgE 3) gNilE))) (notF (truF (callD rec (consV true (varF 2) (consV true (varF 3) nilV))))) (lfF (cF (.int 1))))) (frzO (lstF nilV))))) nxF)
    (seqF (ifS (orF (boolF (bin2 true oNe (isiF "bool" (varF 0)) (isiF "bool" (varF 1)))) (boolF (bin2 true oNe (isiF "int" (varF 0)) (isiF "int" (varF 1))))) (retF (cF (.bool false))) nxF)
    (retF (bin2 true oEq (varF 0) (varF 1)))))
noncomputable def f_l_same_at (c : Cs) : Nat → List PyData → Out
  | 0 => fun _ => .bad
  | n + 1 => funF 4 2 (g_l_same c (f_l_same_at c n))
noncomputable abbrev f_l_same (c : Cs) : List PyData → Out := f_l_same_at c 5
theorem ok_l_same_at (T : Txt K mg a) (B : Tba base mg a) : ∀ n : Nat, FnOk P w K mg base (L2.CX P w) (n + 0) a.a_l_same a.d_l_same ["one", "two"] (spF K (f_l_same_at a.c n))
  | 0 => def_bad
  | n + 1 => by
    have sc := sc_l_same
    have Fk := ok_l_same_at T B n
    refine FnOk.mono (def_ok (k := n + 0) T.F_l_same sc (g_l_same a.c (f_l_same_at a.c n)) fun cdv A outer s H E hr => ?_) (by omega)
    have hu := hu64 hr
    have hu5 := hu65 hr
    unfold g_l_same
    exact (pb_sc (pb_if' ((pb_wor ((pb_wand (pb_tru (pb_isi "tuple" (pb_var 0) (by rfl) (by rfl) T.z_isinstance (by rfl) T.z_tuple)) (pb_pw1 (pb_tru (pb_isi "tuple" (pb_var 1) (by rfl) (by rfl) T.z_isinstance (by rfl) T.z_tuple))))).pt (pb_pwo1 ((pb_wand (pb_tru (pb_isi "list" (pb_var 0) (by rfl) (by rfl) T.z_isinstance (by rfl) T.z_list)) (pb_pw1 (pb_tru (pb_isi "list" (pb_var 1) (by rfl) (by rfl) T.z_isinstance (by rfl) T.z_list))))).pt))).pt (pb_s1 (pb_ret (pb_andv (pb_cmp (or_eq hu) (pb_callB c_len (by rfl) T.z_len PySem.boot_len (pb_cons (pb_var 0) pb_nil)) (pb_callB c_len (by rfl) T.z_len PySem.boot_len (pb_cons (pb_var 1) pb_nil)) (by rfl)) (pe_one (pb_cmp (or_eq hu) (pb_ofO (pb_lc [("a", 2), ("b", 3)] rfl sc.nd (pi_z (by rfl) T.z_zip (pb_cons (pb_var 0) (pb_cons (pb_var 1) pb_nil))) (blkOk_by (by rfl)) (fun _ _ _ _ _ => (pg_t (ix := [2, 3]) rfl (pgs_c (pg_n 2 sc.nd) (pgs_c (pg_n 3 sc.nd) pgs_n)))) (fun _ _ _ _ _ => (pb_pts1 (pb_not (pb_tru (pb_call Fk hr (by rfl) T.G_l_same T.F_l_same.kp T.B_l_same takes0 (pb_cons (pb_var 2) (pb_cons (pb_var 3) pb_nil))))))) (fun _ _ _ _ _ => (pb_lf pb_int)))) (pb_ofO (pb_lst pb_nil)) (by rfl)))))) pb_sn)
    (pb_sc (pb_if' ((pb_wor (pb_tcmp (or_ne hu) (pb_isi "bool" (pb_var 0) (by rfl) (by rfl) T.z_isinstance (by rfl) T.z_bool) (pb_isi "bool" (pb_var 1) (by rfl) (by rfl) T.z_isinstance (by rfl) T.z_bool) (by rfl)) (pb_pwo1 (pb_tcmp (or_ne hu) (pb_isi "int" (pb_var 0) (by rfl) (by rfl) T.z_isinstance (by rfl) T.z_int) (pb_isi "int" (pb_var 1) (by rfl) (by rfl) T.z_isinstance (by rfl) T.z_int) (by rfl))))).pt (pb_s1 (pb_ret pb_bl)) pb_sn)
    (pb_s1 (pb_ret (pb_cmp (or_eq hu) (pb_var 0) (pb_var 1) (by rfl))))))
theorem ok_l_same (T : Txt K mg a) (B : Tba base mg a) : FnOk P w K mg base (L2.CX P w) 5 a.a_l_same a.d_l_same ["one", "two"] (spF K (f_l_same a.c)) := ok_l_same_at T B 5
noncomputable def g_l_made (c : Cs) : Mo.Env → SRes :=
  (seqF (asgF (asgE 1) (ixF false (frzO (lstF (consV true (cF (.int 1)) (consV true (cF (.int 2)) (consV true (cF (.int 7)) (consV true (cF (.int 1000)) nilV)))))) (callI (f_l_draw c) (consV true (varF 0) (consV true (cF (.int 4)) nilV)))))
    (retF (callF bTuple (consV true (frzO (compF [2] (argF rg1 (consV true (callI (f_l_draw c) (consV true (varF 0) (consV true (cF (.int 41)) nilV))) nilV)) (asgE 2) yesF (lfF (bin2 true oAdd (callI (f_l_draw c) (consV true (varF 0) (consV true (cF (.int 3)) nilV))) (bin2 true oMul (bin2 true oMul (varF 1) (varF 2)) (cF (.int 3))))))) nilV))))
noncomputable def f_l_made (c : Cs) : OT → List PyData → OutI := funI 3 1 (g_l_made c)
theorem ok_l_made (T : Txt K mg a) (B : Tba base mg a) : FnOk P w K mg base (L2.CX P w) 2 a.a_l_made a.d_l_made ["state"] (spI K (f_l_made a.c)) := by
  have sc := sc_l_made
  refine defI_ok (k := 1) T.F_l_made sc (g_l_made a.c) fun cdv A outer s H E hr => ?_
  have hu := hu64 hr
  have hu5 := hu65 hr
  unfold g_l_made
  exact (pb_sc (pb_asg (pb_ix (pb_ofO (pb_lst (pb_cons pb_int (pb_cons pb_int (pb_cons pb_int (pb_cons pb_int pb_nil)))))) (pb_callI (ok_l_draw T B) (hr.mono (by decide)) (by rfl) T.G_l_draw T.F_l_draw.kp T.B_l_draw (takes_of rfl rfl rfl rfl) (pb_cons (pb_var 0) (pb_cons pb_int pb_nil)))) (pg_n 1 sc.nd))
    (pb_s1 (pb_ret (pb_callT c_tuple (by rfl) T.z_tuple (by decide +kernel) (pb_cons (pb_ofO (pb_lc [("k", 2)] rfl sc.nd (pi_r1 (by rfl) T.z_range (pb_cons (pb_callI (ok_l_draw T B) (hr.mono (by decide)) (by rfl) T.G_l_draw T.F_l_draw.kp T.B_l_draw (takes_of rfl rfl rfl rfl) (pb_cons (pb_var 0) (pb_cons pb_int pb_nil))) pb_nil)) (blkOk_by (by rfl)) (fun _ _ _ _ _ => (pg_n 2 sc.nd)) (fun _ _ _ _ _ => pts_n) (fun _ _ _ _ _ => (pb_lf (pb_op or_add (pb_callI (ok_l_draw T B) (hr.mono (by decide)) (by rfl) T.G_l_draw T.F_l_draw.kp T.B_l_draw takes0 (pb_cons (pb_var 0) (pb_cons pb_int pb_nil))) (pb_op or_mul (pb_op or_mul (pb_var 1) (pb_var 2)) pb_int)))))) pb_nil)))))
noncomputable def g_l_sought (c : Cs) : Mo.Env → SRes :=
  (seqF (parF [4, 5, 6, 7] (consW (lfF (cF (.int 0))) (consW (lfF (varF 1)) (consW (lfF (cF (.int 1))) (consW (lfF (cF .none)) nilW)))))
    (seqF (forF (argF rg1 (consV true (cF (.int 60)) nilV)) (asgE 3) (ifS (andF (boolF (bin2 true oIs (varF 7) (cF .none))) (boolF (bin2 true oGe (bin2 true oSub (bin2 true oAdd (varF 5) (varF 6)) (cF (.int 1))) (callF bLen (consV true (varF 0) nilV))))) (asgF (asgE 7) (callF bLen (consV true (varF 0) nilV))) (ifS (boolF (bin2 true oIs (varF 7) (cF .none))) (seqF (asgF (asgE 4) (bin2 true oAdd (varF 4) (cF (.int 1))))
    (ifS (boolF (bin2 true oGe (ixF true (varF 0) (bin2 true oSub (bin2 true oAdd (varF 5) (varF 6)) (cF (.int 1)))) (varF 2))) (asgF (asgE 7) (bin2 true oSub (bin2 true oAdd (varF 5) (varF 6)) (cF (.int 1)))) (parF [5, 6] (consW (lfF (bin2 true oAdd (varF 5) (varF 6))) (consW (lfF (bin2 true oMul (cF (.int 2)) (varF 6))) nilW))))) nxF)))
    (seqF (forF (argF rg1 (consV true (cF (.int 60)) nilV)) (asgE 3) (ifS (boolF (bin2 true oLt (varF 5) (varF 7))) (seqF (parF [4, 8] (consW (lfF (bin2 true oAdd (varF 4) (cF (.int 1)))) (consW (lfF (bin2 true oFdiv (bin2 true oAdd (varF 5) (varF 7)) (cF (.int 2)))) nilW)))
    (asgF (unpE 2 (gConsE (asgE 5) (gConsE (asgE 7) gNilE))) (ifF (boolF (bin2 true oGe (ixF true (varF 0) (varF 8)) (varF 2))) (tupF (consV true (varF 5) (consV true (varF 8) nilV))) (tupF (consV true (bin2 true oAdd (varF 8) (cF (.int 1))) (consV true (varF 7) nilV)))))) nxF))
    (retF (tupF (consV true (varF 5) (consV true (varF 4) nilV)))))))
noncomputable def f_l_sought (c : Cs) : List PyData → Out := funF 9 3 (g_l_sought c)
theorem ok_l_sought (T : Txt K mg a) (B : Tba base mg a) : FnOk P w K mg base (L2.CX P w) 1 a.a_l_sought a.d_l_sought ["row", "start", "goal"] (spF K (f_l_sought a.c)) := by
  have sc := sc_l_sought
  refine def_ok (k := 0) T.F_l_sought sc (g_l_sought a.c) fun cdv A outer s H E hr => ?_
  have hu := hu64 hr
  have hu5 := hu65 hr
  unfold g_l_sought
  exact (pb_sc (pb_parT (is := [4, 5, 6, 7]) (n := 4) rfl (pw_cons (pb_lf pb_int) (pw_cons (pb_lf (pb_var 1)) (pw_cons (pb_lf pb_int) (pw_cons (pb_lf pb_non) pw_nil)))) (pgw_c 4 sc.nd (pgw_c 5 sc.nd (pgw_c 6 sc.nd (pgw_c 7 sc.nd pgw_n)))))
    (pb_sc (pb_for (ix := [3]) PassesOwn.leaving rfl (pi_r1 (by rfl) T.z_range (pb_cons pb_int pb_nil)) (pg_n 3 sc.nd) (pb_s1 (pb_if' ((pb_wand (pb_tcmp or_is (pb_var 7) pb_non (by rfl)) (pb_pw1 (pb_tcmp or_ge (pb_op or_sub (pb_op or_add (pb_var 5) (pb_var 6)) pb_int) (pb_callB c_len (by rfl) T.z_len PySem.boot_len (pb_cons (pb_var 0) pb_nil)) (by rfl))))).pt (pb_s1 (pb_asg (pb_callB c_len (by rfl) T.z_len PySem.boot_len (pb_cons (pb_var 0) pb_nil)) (pg_n 7 sc.nd))) (pb_s1 (pb_if' (pb_tcmp or_is (pb_var 7) pb_non (by rfl)) (pb_sc (pb_asg (pb_op or_add (pb_var 4) pb_int) (pg_n 4 sc.nd))
    (pb_s1 (pb_if' (pb_tcmp or_ge (pb_ix (pb_var 0) (pb_op or_sub (pb_op or_add (pb_var 5) (pb_var 6)) pb_int)) (pb_var 2) (by rfl)) (pb_s1 (pb_asg (pb_op or_sub (pb_op or_add (pb_var 5) (pb_var 6)) pb_int) (pg_n 7 sc.nd))) (pb_s1 (pb_par 5 6 rfl sc.nd (pw_cons (pb_lf (pb_op or_add (pb_var 5) (pb_var 6))) (pw_cons (pb_lf (pb_op or_mul pb_int (pb_var 6))) pw_nil))))))) pb_sn)))))
    (pb_sc (pb_for (ix := [3]) PassesOwn.leaving rfl (pi_r1 (by rfl) T.z_range (pb_cons pb_int pb_nil)) (pg_n 3 sc.nd) (pb_s1 (pb_if' (pb_tcmp or_lt (pb_var 5) (pb_var 7) (by rfl)) (pb_sc (pb_par 4 8 rfl sc.nd (pw_cons (pb_lf (pb_op or_add (pb_var 4) pb_int)) (pw_cons (pb_lf (pb_op or_fdiv (pb_op or_add (pb_var 5) (pb_var 7)) pb_int)) pw_nil)))
    (pb_s1 (pb_asg (pb_if (pb_tcmp or_ge (pb_ix (pb_var 0) (pb_var 8)) (pb_var 2) (by rfl)) (pb_tup (pb_cons (pb_var 5) (pb_cons (pb_var 8) pb_nil))) (pb_tup (pb_cons (pb_op or_add (pb_var 8) pb_int) (pb_cons (pb_var 7) pb_nil)))) (pg_t (ix := [5, 7]) rfl (pgs_c (pg_n 5 sc.nd) (pgs_c (pg_n 7 sc.nd) pgs_n)))))) pb_sn)))
    (pb_s1 (pb_ret (pb_tup (pb_cons (pb_var 5) (pb_cons (pb_var 4) pb_nil))))))))
noncomputable def g_l_power (c : Cs) : Mo.Env → SRes :=
  (seqF (asgF (asgE 1) (cF (.int 0)))
    (seqF (forF (argF rg1 (consV true (cF (.int 40)) nilV)) (asgE 2) (asgF (unpE 2 (gConsE (asgE 1) (gConsE (asgE 0) gNilE))) (ifF (boolF (bin2 true oGt (varF 0) (cF (.int 0)))) (tupF (consV true (bin2 true oAdd (varF 1) (cF (.int 1))) (consV true (bin2 true oFdiv (varF 0) (cF (.int 2))) nilV))) (tupF (consV true (varF 1) (consV true (varF 0) nilV))))))
    (retF (varF 1))))
noncomputable def f_l_power (c : Cs) : List PyData → Out := funF 3 1 (g_l_power c)
theorem ok_l_power (T : Txt K mg a) (B : Tba base mg a) : FnOk P w K mg base (L2.CX P w) 1 a.a_l_power a.d_l_power ["many"] (spF K (f_l_power a.c)) := by
  have sc := sc_l_power
  refine def_ok (k := 0) T.F_l_power sc (g_l_power a.c) fun cdv A outer s H E hr => ?_
  have hu := hu64 hr
  have hu5 := hu65 hr
  unfold g_l_power
  exact (pb_sc (pb_asg pb_int (pg_n 1 sc.nd))
    (pb_sc (pb_for (ix := [2]) PassesOwn.leaving rfl (pi_r1 (by rfl) T.z_range (pb_cons pb_int pb_nil)) (pg_n 2 sc.nd) (pb_s1 (pb_asg (pb_if (pb_tcmp or_gt (pb_var 0) pb_int (by rfl)) (pb_tup (pb_cons (pb_op or_add (pb_var 1) pb_int) (pb_cons (pb_op or_fdiv (pb_var 0) pb_int) pb_nil))) (pb_tup (pb_cons (pb_var 1) (pb_cons (pb_var 0) pb_nil)))) (pg_t (ix := [1, 0]) rfl (pgs_c (pg_n 1 sc.nd) (pgs_c (pg_n 0 sc.nd) pgs_n))))))
    (pb_s1 (pb_ret (pb_var 1)))))
noncomputable def g_law (c : Cs) : Mo.Env → SRes :=
  (seqF (setO 1 (lstO (consW (lfF (cF (.int 0))) (consW (lfF (cF (.int 0))) (consW (rawF 0) (consW (lfF (cF (.int 1))) nilW))))))
    (seqF (asgF (asgE 2) (frzO (lstF (consV false (callI (f_l_made c) (consV true (varF 1) nilV)) (consV true (callI (f_l_made c) (consV true (varF 1) nilV)) nilV)))))
    (seqF (asgF (asgE 3) (ixF true (varF 2) (cF (.int 0))))
    (seqF (asgF (asgE 4) (callF bUsort (consV true (bin2 true oAdd (bin2 false oAdd (frzO (listF (consV true (un1 (oStep 5) (varF 3)) nilV))) (frzO (compF [18] (itF (un1 (oStep 7) (varF 3))) (asgE 18) yesF (lfF (bin2 true oAdd (varF 18) (cF (.int 1))))))) (frzO (lstF (consV true (cF (.int 0)) (consV true (bin2 true oPow (cF (.int 10)) (cF (.int 9))) (consV true (cF (.int 5)) nilV)))))) nilV)))
    (seqF (forF (argF rg1 (consV true (bin2 true oAdd (callF bLen (consV true (varF 3) nilV)) (cF (.int 1))) nilV)) (asgE 5) (forF (itF (varF 4)) (asgE 8) (seqF (asgF (unpE 2 (gConsE (asgE 14) (gConsE (asgE 9) gNilE))) (callD (f_seek c) (consV true (varF 3) (consV true (varF 5) (consV true (varF 8) nilV)))))
    (seqF (asgF (asgE 13) (bin2 false oAdd (varF 5) (callF bLen (consV true (frzO (compF [18] (itF (slF true true (varF 3) (someP (varF 5)) noP)) (asgE 18) (boolF (bin2 true oLt (varF 18) (varF 8))) (lfF (varF 18)))) nilV))))
    (ifS (orF (boolF (bin2 true oNe (varF 14) (varF 13))) (orF (notF (truF (callD (f_l_same c) (consV true (tupF (consV true (varF 14) (consV true (varF 9) nilV))) (consV true (callD (f_l_sought c) (consV true (varF 3) (consV true (varF 5) (consV true (varF 8) nilV)))) nilV))))) (boolF (bin2 true oGt (varF 9) (bin2 true oAdd (bin2 true oMul (cF (.int 2)) (callD (f_l_power c) (consV true (bin2 true oAdd (bin2 true oSub (varF 13) (varF 5)) (cF (.int 1))) nilV))) (cF (.int 1))))))) (retF (cF (.bool false))) nxF)))))
    (seqF (parF [9, 10, 11, 12] (consW (lfF (cF (.int 0))) (consW (lfF (frzO (lstF nilV))) (consW (lfF (cF (.int 0))) (consW (lfF (cF (.int 0))) nilW)))))
    (seqF (forF (argF rg1 (consV true (bin2 true oAdd (bin2 true oAdd (callF bLen (consV true (ixF true (varF 2) (cF (.int 0))) nilV)) (callF bLen (consV true (ixF true (varF 2) (cF (.int 1))) nilV))) (cF (.int 1))) nilV)) (asgE 6) (ifS (andF (boolF (bin2 true oLt (varF 11) (callF bLen (consV true (ixF true (varF 2) (cF (.int 0))) nilV)))) (boolF (bin2 true oLt (varF 12) (callF bLen (consV true (ixF true (varF 2) (cF (.int 1))) nilV))))) (seqF (parF [15, 16] (consW (lfF (ixF true (ixF true (varF 2) (cF (.int 0))) (varF 11))) (consW (lfF (ixF true (ixF true (varF 2) (cF (.int 1))) (varF 12))) nilW)))
    (ifS (boolF (bin2 true oEq (varF 15) (varF 16))) (parF [10, 11, 12] (consW (lfF (bin2 true oAdd (varF 10) (frzO (lstF (consV true (varF 15) nilV))))) (consW (lfF (bin2 true oAdd (varF 11) (cF (.int 1)))) (consW (lfF (bin2 true oAdd (varF 12) (cF (.int 1)))) nilW)))) (ifS (boolF (bin2 true oLt (varF 15) (varF 16))) (seqF (asgF (unpE 2 (gConsE (asgE 11) (gConsE (asgE 17) gNilE))) (callD (f_l_sought c) (consV true (ixF true (varF 2) (cF (.int 0))) (consV true (varF 11) (consV true (varF 16) nilV)))))
    (asgF (asgE 9) (bin2 true oAdd (varF 9) (varF 17)))) (seqF (asgF (unpE 2 (gConsE (asgE 12) (gConsE (asgE 17) gNilE))) (callD (f_l_sought c) (consV true (ixF true (varF 2) (cF (.int 1))) (consV true (varF 12) (consV true (varF 15) nilV)))))
    (asgF (asgE 9) (bin2 true oAdd (varF 9) (varF 17))))))) nxF))
    (seqF (ifS (orF (notF (truF (callD (f_l_same c) (consV true (callD (f_met c) (consV true (ixF true (varF 2) (cF (.int 0))) (consV true (ixF true (varF 2) (cF (.int 1))) nilV))) (consV true (tupF (consV true (callF bTuple (consV true (varF 10) nilV)) (consV true (varF 9) nilV))) nilV))))) (notF (truF (callD (f_l_same c) (consV true (callD (f_met c) (consV true (ixF true (varF 2) (cF (.int 1))) (consV true (ixF true (varF 2) (cF (.int 0))) nilV))) (consV true (tupF (consV true (callF bTuple (consV true (varF 10) nilV)) (consV true (varF 9) nilV))) nilV)))))) (retF (cF (.bool false))) nxF)
    (seqF (ifS (orF (notF (truF (callD (f_l_same c) (consV true (callD (f_met c) (consV true (varF 3) (consV true (varF 3) nilV))) (consV true (tupF (consV true (varF 3) (consV true (cF (.int 0)) nilV))) nilV))))) (notF (truF (callD (f_l_same c) (consV false (callD (f_both c) (consV true (varF 3) (consV true (ixF true (varF 2) (cF (.int 1))) nilV))) (consV true (callF bTuple (consV true (frzO (compF [18] (itF (varF 3)) (asgE 18) (boolF (bin2 true oInG (varF 18) (ixF true (varF 2) (cF (.int 1))))) (lfF (varF 18)))) nilV)) nilV)))))) (retF (cF (.bool false))) nxF)
    (seqF (ifS (orF (boolF (bin2 true oNotB (callD (f_judge_met c) (consV true (ixF true (varF 2) (cF (.int 0))) (consV true (ixF true (varF 2) (cF (.int 1))) (consV true (callF bTuple (consV true (varF 10) nilV)) nilV)))) (cF (.bool true)))) (andF (boolF (bin2 true oNe (varF 10) (frzO (lstF nilV)))) (boolF (bin2 true oNotB (callD (f_judge_met c) (consV true (ixF true (varF 2) (cF (.int 0))) (consV true (ixF true (varF 2) (cF (.int 1))) (consV true (callF bTuple (consV true (slF true true (varF 10) (someP (cF (.int 1))) noP) nilV)) nilV)))) (cF (.bool false)))))) (retF (cF (.bool false))) nxF)
    (seqF (forF (argF rg1 (consV true (callF bLen (consV true (varF 3) nilV)) nilV)) (asgE 7) (ifS (orF (boolF (bin2 true oNe (callD (f_place_in c) (consV true (varF 3) (consV true (ixF true (varF 3) (varF 7)) nilV))) (varF 7))) (orF (notF (truF (callD (f_l_same c) (consV true (callD (f_part c) (consV true (varF 3) (consV true (ixF true (varF 3) (varF 7)) (consV true (ixF true (varF 3) (un1 oNeg (cF (.int 1)))) nilV)))) (consV true (slF true true (varF 3) (someP (varF 7)) noP) nilV))))) (notF (truF (callD (f_l_same c) (consV true (callD (f_without c) (consV true (varF 3) (consV true (slF true true (varF 3) (someP (varF 7)) noP) nilV))) (consV true (slF true true (varF 3) noP (someP (varF 7))) nilV))))))) (retF (cF (.bool false))) nxF))
    (retF (bin2 true oEq (callD (f_seek c) (consV true (tupF nilV) (consV true (cF (.int 0)) (consV true (cF (.int 5)) nilV)))) (tupF (consV true (cF (.int 0)) (consV true (cF (.int 0)) nilV))))))))))))))))
theorem b_law (T : Txt K mg a) (B : Tba base mg a) (cdv : Value) (A : Around) (outer : List PySem.Env) (s : Shared) (H : Hp) (E : XK) (hr : Room 5 (A.deeper (envOfC "law" (defScope s_law) s.heap.objs.size a.a_law cdv))) :
    PSs (cxOf CX0 P w K mg base ["script", "state", "rows", "row", "goals", "start", "turn", "k", "goal", "steps", "found", "here", "there", "due", "place", "one", "two", "more", "number"] "law" (defScope s_law) a.a_law cdv A outer s H E).nox (defBody s_law) (tS K W0 (g_law a.c)) := by
  have sc := sc_law
  have hu := hu64 hr
  have hu5 := hu65 hr
  unfold g_law
  exact (pb_sc (pb_setO 1 sc.nd (pb_lstO (pw_cons (pb_lf pb_int) (pw_cons (pb_lf pb_int) (pw_cons (pb_raw 0 (by rfl) T.z_list (pe_var (i := 0) rfl (.inl rfl))) (pw_cons (pb_lf pb_int) pw_nil))))))
    (pb_sc (pb_asg (pb_ofO (pb_lst (pb_cons (pb_callI (ok_l_made T B) (hr.mono (by decide)) (by rfl) T.G_l_made T.F_l_made.kp T.B_l_made takes0 (pb_cons (pb_var 1) pb_nil)) (pb_cons (pb_callI (ok_l_made T B) (hr.mono (by decide)) (by rfl) T.G_l_made T.F_l_made.kp T.B_l_made takes0 (pb_cons (pb_var 1) pb_nil)) pb_nil)))) (pg_n 2 sc.nd))
    (pb_sc (pb_asg (pb_ix (pb_var 2) pb_int) (pg_n 3 sc.nd))
    (pb_sc (pb_asg (pb_usort rfl (by rfl) T.z_sorted (by decide +kernel) (by rfl) T.z_set (pb_cons (pb_op or_add (pb_op or_add (pb_ofO (pb_list (by rfl) T.z_list (pb_cons (pb_step (pb_var 3)) pb_nil))) (pb_ofO (pb_lc [("number", 18)] rfl sc.nd (pi_l (pb_step (pb_var 3))) (blkOk_by (by rfl)) (fun _ _ _ _ _ => (pg_n 18 sc.nd)) (fun _ _ _ _ _ => pts_n) (fun _ _ _ _ _ => (pb_lf (pb_op or_add (pb_var 18) pb_int)))))) (pb_ofO (pb_lst (pb_cons pb_int (pb_cons (pb_op or_pow pb_int pb_int) (pb_cons pb_int pb_nil)))))) pb_nil)) (pg_n 4 sc.nd))
    (pb_sc (pb_for (ix := [5]) PassesOwn.never rfl (pi_r1 (by rfl) T.z_range (pb_cons (pb_op or_add (pb_callB c_len (by rfl) T.z_len PySem.boot_len (pb_cons (pb_var 3) pb_nil)) pb_int) pb_nil)) (pg_n 5 sc.nd) (pb_s1 (pb_for (ix := [8]) PassesOwn.never rfl (pi_l (pb_var 4)) (pg_n 8 sc.nd) (pb_sc (pb_asg (pb_call (ok_seek T B) (hr.mono (by decide)) (by rfl) T.G_seek T.F_seek.kp T.B_seek takes0 (pb_cons (pb_var 3) (pb_cons (pb_var 5) (pb_cons (pb_var 8) pb_nil)))) (pg_t (ix := [14, 9]) rfl (pgs_c (pg_n 14 sc.nd) (pgs_c (pg_n 9 sc.nd) pgs_n))))
    (pb_sc (pb_asg (pb_op or_add (pb_var 5) (pb_callB c_len (by rfl) T.z_len PySem.boot_len (pb_cons (pb_ofO (pb_lc [("number", 18)] rfl sc.nd (pi_l (pb_sl (pb_var 3) (po_s (pb_var 5)) po_n)) (blkOk_by (by rfl)) (fun _ _ _ _ _ => (pg_n 18 sc.nd)) (fun _ _ _ _ _ => (pb_pts1 (pb_tcmp or_lt (pb_var 18) (pb_var 8) (by rfl)))) (fun _ _ _ _ _ => (pb_lf (pb_var 18))))) pb_nil))) (pg_n 13 sc.nd))
    (pb_s1 (pb_if' ((pb_wor (pb_tcmp (or_ne hu) (pb_var 14) (pb_var 13) (by rfl)) (pb_wor (pb_not (pb_tru (pb_call (ok_l_same T B) (hr.mono (by decide)) (by rfl) T.G_l_same T.F_l_same.kp T.B_l_same takes0 (pb_cons (pb_tup (pb_cons (pb_var 14) (pb_cons (pb_var 9) pb_nil))) (pb_cons (pb_call (ok_l_sought T B) (hr.mono (by decide)) (by rfl) T.G_l_sought T.F_l_sought.kp T.B_l_sought takes0 (pb_cons (pb_var 3) (pb_cons (pb_var 5) (pb_cons (pb_var 8) pb_nil)))) pb_nil))))) (pb_pwo1 (pb_tcmp or_gt (pb_var 9) (pb_op or_add (pb_op or_mul pb_int (pb_call (ok_l_power T B) (hr.mono (by decide)) (by rfl) T.G_l_power T.F_l_power.kp T.B_l_power takes0 (pb_cons (pb_op or_add (pb_op or_sub (pb_var 13) (pb_var 5)) pb_int) pb_nil))) pb_int) (by rfl)))))).pt (pb_s1 (pb_ret pb_bl)) pb_sn)))))))
    (pb_sc (pb_parT (is := [9, 10, 11, 12]) (n := 4) rfl (pw_cons (pb_lf pb_int) (pw_cons (pb_lf (pb_ofO (pb_lst pb_nil))) (pw_cons (pb_lf pb_int) (pw_cons (pb_lf pb_int) pw_nil)))) (pgw_c 9 sc.nd (pgw_c 10 sc.nd (pgw_c 11 sc.nd (pgw_c 12 sc.nd pgw_n)))))
    (pb_sc (pb_for (ix := [6]) PassesOwn.never rfl (pi_r1 (by rfl) T.z_range (pb_cons (pb_op or_add (pb_op or_add (pb_callB c_len (by rfl) T.z_len PySem.boot_len (pb_cons (pb_ix (pb_var 2) pb_int) pb_nil)) (pb_callB c_len (by rfl) T.z_len PySem.boot_len (pb_cons (pb_ix (pb_var 2) pb_int) pb_nil))) pb_int) pb_nil)) (pg_n 6 sc.nd) (pb_s1 (pb_if' ((pb_wand (pb_tcmp or_lt (pb_var 11) (pb_callB c_len (by rfl) T.z_len PySem.boot_len (pb_cons (pb_ix (pb_var 2) pb_int) pb_nil)) (by rfl)) (pb_pw1 (pb_tcmp or_lt (pb_var 12) (pb_callB c_len (by rfl) T.z_len PySem.boot_len (pb_cons (pb_ix (pb_var 2) pb_int) pb_nil)) (by rfl))))).pt (pb_sc (pb_par 15 16 rfl sc.nd (pw_cons (pb_lf (pb_ix (pb_ix (pb_var 2) pb_int) (pb_var 11))) (pw_cons (pb_lf (pb_ix (pb_ix (pb_var 2) pb_int) (pb_var 12))) pw_nil)))
    (pb_s1 (pb_if' (pb_tcmp (or_eq hu) (pb_var 15) (pb_var 16) (by rfl)) (pb_s1 (pb_par3 10 11 12 rfl sc.nd (pw_cons (pb_lf (pb_op or_add (pb_var 10) (pb_ofO (pb_lst (pb_cons (pb_var 15) pb_nil))))) (pw_cons (pb_lf (pb_op or_add (pb_var 11) pb_int)) (pw_cons (pb_lf (pb_op or_add (pb_var 12) pb_int)) pw_nil))))) (pb_s1 (pb_if' (pb_tcmp or_lt (pb_var 15) (pb_var 16) (by rfl)) (pb_sc (pb_asg (pb_call (ok_l_sought T B) (hr.mono (by decide)) (by rfl) T.G_l_sought T.F_l_sought.kp T.B_l_sought takes0 (pb_cons (pb_ix (pb_var 2) pb_int) (pb_cons (pb_var 11) (pb_cons (pb_var 16) pb_nil)))) (pg_t (ix := [11, 17]) rfl (pgs_c (pg_n 11 sc.nd) (pgs_c (pg_n 17 sc.nd) pgs_n))))
    (pb_s1 (pb_asg (pb_op or_add (pb_var 9) (pb_var 17)) (pg_n 9 sc.nd)))) (pb_sc (pb_asg (pb_call (ok_l_sought T B) (hr.mono (by decide)) (by rfl) T.G_l_sought T.F_l_sought.kp T.B_l_sought takes0 (pb_cons (pb_ix (pb_var 2) pb_int) (pb_cons (pb_var 12) (pb_cons (pb_var 15) pb_nil)))) (pg_t (ix := [12, 17]) rfl (pgs_c (pg_n 12 sc.nd) (pgs_c (pg_n 17 sc.nd) pgs_n))))
    (pb_s1 (pb_asg (pb_op or_add (pb_var 9) (pb_var 17)) (pg_n 9 sc.nd))))))))) pb_sn)))
    (pb_sc (pb_if' ((pb_wor (pb_not (pb_tru (pb_call (ok_l_same T B) (hr.mono (by decide)) (by rfl) T.G_l_same T.F_l_same.kp T.B_l_same takes0 (pb_cons (pb_call (ok_met T B) (hr.mono (by decide)) (by rfl) T.G_met T.F_met.kp T.B_met takes0 (pb_cons (pb_ix (pb_var 2) pb_int) (pb_cons (pb_ix (pb_var 2) pb_int) pb_nil))) (pb_cons (pb_tup (pb_cons (pb_callT c_tuple (by rfl) T.z_tuple (by decide +kernel) (pb_cons (pb_var 10) pb_nil)) (pb_cons (pb_var 9) pb_nil))) pb_nil))))) (pb_pwo1 (pb_not (pb_tru (pb_call (ok_l_same T B) (hr.mono (by decide)) (by rfl) T.G_l_same T.F_l_same.kp T.B_l_same takes0 (pb_cons (pb_call (ok_met T B) (hr.mono (by decide)) (by rfl) T.G_met T.F_met.kp T.B_met takes0 (pb_cons (pb_ix (pb_var 2) pb_int) (pb_cons (pb_ix (pb_var 2) pb_int) pb_nil))) (pb_cons (pb_tup (pb_cons (pb_callT c_tuple (by rfl) T.z_tuple (by decide +kernel) (pb_cons (pb_var 10) pb_nil)) (pb_cons (pb_var 9) pb_nil))) pb_nil)))))))).pt (pb_s1 (pb_ret pb_bl)) pb_sn)
    (pb_sc (pb_if' ((pb_wor (pb_not (pb_tru (pb_call (ok_l_same T B) (hr.mono (by decide)) (by rfl) T.G_l_same T.F_l_same.kp T.B_l_same takes0 (pb_cons (pb_call (ok_met T B) (hr.mono (by decide)) (by rfl) T.G_met T.F_met.kp T.B_met takes0 (pb_cons (pb_var 3) (pb_cons (pb_var 3) pb_nil))) (pb_cons (pb_tup (pb_cons (pb_var 3) (pb_cons pb_int pb_nil))) pb_nil))))) (pb_pwo1 (pb_not (pb_tru (pb_call (ok_l_same T B) (hr.mono (by decide)) (by rfl) T.G_l_same T.F_l_same.kp T.B_l_same takes0 (pb_cons (pb_call (ok_both T B) (hr.mono (by decide)) (by rfl) T.G_both T.F_both.kp T.B_both takes0 (pb_cons (pb_var 3) (pb_cons (pb_ix (pb_var 2) pb_int) pb_nil))) (pb_cons (pb_callT c_tuple (by rfl) T.z_tuple (by decide +kernel) (pb_cons (pb_ofO (pb_lc [("number", 18)] rfl sc.nd (pi_l (pb_var 3)) (blkOk_by (by rfl)) (fun _ _ _ _ _ => (pg_n 18 sc.nd)) (fun _ _ _ _ _ => (pb_pts1 (pb_tcmp (or_inG hu5) (pb_var 18) (pb_ix (pb_var 2) pb_int) (by rfl)))) (fun _ _ _ _ _ => (pb_lf (pb_var 18))))) pb_nil)) pb_nil)))))))).pt (pb_s1 (pb_ret pb_bl)) pb_sn)
    (pb_sc (pb_if' ((pb_wor (pb_tcmp or_notB (pb_call (ok_judge_met T B) (hr.mono (by decide)) (by rfl) T.G_judge_met T.F_judge_met.kp T.B_judge_met takes0 (pb_cons (pb_ix (pb_var 2) pb_int) (pb_cons (pb_ix (pb_var 2) pb_int) (pb_cons (pb_callT c_tuple (by rfl) T.z_tuple (by decide +kernel) (pb_cons (pb_var 10) pb_nil)) pb_nil)))) pb_bl (by rfl)) (pb_pwo1 ((pb_wand (pb_tcmp (or_ne hu) (pb_var 10) (pb_ofO (pb_lst pb_nil)) (by rfl)) (pb_pw1 (pb_tcmp or_notB (pb_call (ok_judge_met T B) (hr.mono (by decide)) (by rfl) T.G_judge_met T.F_judge_met.kp T.B_judge_met takes0 (pb_cons (pb_ix (pb_var 2) pb_int) (pb_cons (pb_ix (pb_var 2) pb_int) (pb_cons (pb_callT c_tuple (by rfl) T.z_tuple (by decide +kernel) (pb_cons (pb_sl (pb_var 10) (po_s pb_int) po_n) pb_nil)) pb_nil)))) pb_bl (by rfl))))).pt))).pt (pb_s1 (pb_ret pb_bl)) pb_sn)
    (pb_sc (pb_for (ix := [7]) PassesOwn.never rfl (pi_r1 (by rfl) T.z_range (pb_cons (pb_callB c_len (by rfl) T.z_len PySem.boot_len (pb_cons (pb_var 3) pb_nil)) pb_nil)) (pg_n 7 sc.nd) (pb_s1 (pb_if' ((pb_wor (pb_tcmp (or_ne hu) (pb_call (ok_place_in T B) (hr.mono (by decide)) (by rfl) T.G_place_in T.F_place_in.kp T.B_place_in takes0 (pb_cons (pb_var 3) (pb_cons (pb_ix (pb_var 3) (pb_var 7)) pb_nil))) (pb_var 7) (by rfl)) (pb_wor (pb_not (pb_tru (pb_call (ok_l_same T B) (hr.mono (by decide)) (by rfl) T.G_l_same T.F_l_same.kp T.B_l_same takes0 (pb_cons (pb_call (ok_part T B) (hr.mono (by decide)) (by rfl) T.G_part T.F_part.kp T.B_part takes0 (pb_cons (pb_var 3) (pb_cons (pb_ix (pb_var 3) (pb_var 7)) (pb_cons (pb_ix (pb_var 3) (pb_un ur_neg pb_int)) pb_nil)))) (pb_cons (pb_sl (pb_var 3) (po_s (pb_var 7)) po_n) pb_nil))))) (pb_pwo1 (pb_not (pb_tru (pb_call (ok_l_same T B) (hr.mono (by decide)) (by rfl) T.G_l_same T.F_l_same.kp T.B_l_same takes0 (pb_cons (pb_call (ok_without T B) (hr.mono (by decide)) (by rfl) T.G_without T.F_without.kp T.B_without takes0 (pb_cons (pb_var 3) (pb_cons (pb_sl (pb_var 3) (po_s (pb_var 7)) po_n) pb_nil))) (pb_cons (pb_sl (pb_var 3) po_n (po_s (pb_var 7))) pb_nil))))))))).pt (pb_s1 (pb_ret pb_bl)) pb_sn)))
    (pb_s1 (pb_ret (pb_cmp (or_eq hu) (pb_call (ok_seek T B) (hr.mono (by decide)) (by rfl) T.G_seek T.F_seek.kp T.B_seek takes0 (pb_cons (pb_tup pb_nil) (pb_cons pb_int (pb_cons pb_int pb_nil)))) (pb_tup (pb_cons pb_int (pb_cons pb_int pb_nil))) (by rfl)))))))))))))))
end
/-- the plain law -/
def Plain : Prop := ∀ (c : Cs) (ns : List Int), ns.length ≤ 63 → ∃ ρ, g_law c (.raw ns :: List.replicate 18 .un) = .rt (.bool true) ρ
omit [Tabs] in
theorem all_mk {l : PySem.W.OpenLaw} {w : World} {K : PySem.W.Frag} {h : Heap} {mg : Str → Option Value} {fa : Addr} (pl : Plain) (X : K.In h) (G : h.Ns mainGlobals mg) (hfa : mg "law" = some (.ref fa)) {q : Program} (own : OwnTabs q K mg h)
    {oc0 kV0 dc0 pm0 cd0 ct0 : Value} {od0 an0 : Option Addr} {sl0 : Array (Option Value)} {f0 : Addr}
    {oc1 kV1 dc1 pm1 cd1 ct1 : Value} {od1 an1 : Option Addr} {sl1 : Array (Option Value)} {f1 : Addr}
    {oc2 kV2 dc2 pm2 cd2 ct2 : Value} {od2 an2 : Option Addr} {sl2 : Array (Option Value)} {f2 : Addr}
    {oc3 kV3 dc3 pm3 cd3 ct3 : Value} {od3 an3 : Option Addr} {sl3 : Array (Option Value)} {f3 : Addr}
    {oc4 kV4 dc4 pm4 cd4 ct4 : Value} {od4 an4 : Option Addr} {sl4 : Array (Option Value)} {f4 : Addr}
    {oc5 kV5 dc5 pm5 cd5 ct5 : Value} {od5 an5 : Option Addr} {sl5 : Array (Option Value)} {f5 : Addr}
    {oc6 kV6 dc6 pm6 cd6 ct6 : Value} {od6 an6 : Option Addr} {sl6 : Array (Option Value)} {f6 : Addr}
    {oc7 kV7 dc7 pm7 cd7 ct7 : Value} {od7 an7 : Option Addr} {sl7 : Array (Option Value)} {f7 : Addr}
    {oc8 kV8 dc8 pm8 cd8 ct8 : Value} {od8 an8 : Option Addr} {sl8 : Array (Option Value)} {f8 : Addr}
    {oc9 kV9 dc9 pm9 cd9 ct9 : Value} {od9 an9 : Option Addr} {sl9 : Array (Option Value)} {f9 : Addr}
    {oc10 kV10 dc10 pm10 cd10 ct10 : Value} {od10 an10 : Option Addr} {sl10 : Array (Option Value)} {f10 : Addr}
    {oc11 kV11 dc11 pm11 cd11 ct11 : Value} {od11 an11 : Option Addr} {sl11 : Array (Option Value)} {f11 : Addr}
    {oc12 kV12 dc12 pm12 cd12 ct12 : Value} {od12 an12 : Option Addr} {sl12 : Array (Option Value)} {f12 : Addr}
    {oc13 kV13 dc13 pm13 cd13 ct13 : Value} {od13 an13 : Option Addr} {sl13 : Array (Option Value)} {f13 : Addr}
    {X0 : Addr}
    {C0 Q0 : Addr} {te00 : Value} {td00 : Option Addr} {tv0 : Array Value} {ts0 : Array (Option Value)}
    (a0 : PySem.W.nsIn K mainGlobals "is_row" = some (some (.ref f0))) (l0 : K.lookup f0 = some ⟨oc0, od0, .func (PySem.W.fnOf "is_row" "is_row" (defArgs s_is_row) (defBody s_is_row) (defScope s_is_row) .none kV0 dc0 pm0 an0 cd0 ct0), sl0⟩) (c0 : PySem.W.codeIn K cd0 "is_row" = true) (k0 : PySem.W.keepIn K (.ref f0) = true)
    (a1 : PySem.W.nsIn K mainGlobals "seek" = some (some (.ref f1))) (l1 : K.lookup f1 = some ⟨oc1, od1, .func (PySem.W.fnOf "seek" "seek" (defArgs s_seek) (defBody s_seek) (defScope s_seek) .none kV1 dc1 pm1 an1 cd1 ct1), sl1⟩) (c1 : PySem.W.codeIn K cd1 "seek" = true) (k1 : PySem.W.keepIn K (.ref f1) = true)
    (a2 : PySem.W.nsIn K mainGlobals "met" = some (some (.ref f2))) (l2 : K.lookup f2 = some ⟨oc2, od2, .func (PySem.W.fnOf "met" "met" (defArgs s_met) (defBody s_met) (defScope s_met) .none kV2 dc2 pm2 an2 cd2 ct2), sl2⟩) (c2 : PySem.W.codeIn K cd2 "met" = true) (k2 : PySem.W.keepIn K (.ref f2) = true)
    (a3 : PySem.W.nsIn K mainGlobals "both" = some (some (.ref f3))) (l3 : K.lookup f3 = some ⟨oc3, od3, .func (PySem.W.fnOf "both" "both" (defArgs s_both) (defBody s_both) (defScope s_both) .none kV3 dc3 pm3 an3 cd3 ct3), sl3⟩) (c3 : PySem.W.codeIn K cd3 "both" = true) (k3 : PySem.W.keepIn K (.ref f3) = true)
    (a4 : PySem.W.nsIn K mainGlobals "without" = some (some (.ref f4))) (l4 : K.lookup f4 = some ⟨oc4, od4, .func (PySem.W.fnOf "without" "without" (defArgs s_without) (defBody s_without) (defScope s_without) .none kV4 dc4 pm4 an4 cd4 ct4), sl4⟩) (c4 : PySem.W.codeIn K cd4 "without" = true) (k4 : PySem.W.keepIn K (.ref f4) = true)
    (a5 : PySem.W.nsIn K mainGlobals "part" = some (some (.ref f5))) (l5 : K.lookup f5 = some ⟨oc5, od5, .func (PySem.W.fnOf "part" "part" (defArgs s_part) (defBody s_part) (defScope s_part) .none kV5 dc5 pm5 an5 cd5 ct5), sl5⟩) (c5 : PySem.W.codeIn K cd5 "part" = true) (k5 : PySem.W.keepIn K (.ref f5) = true)
    (a6 : PySem.W.nsIn K mainGlobals "place_in" = some (some (.ref f6))) (l6 : K.lookup f6 = some ⟨oc6, od6, .func (PySem.W.fnOf "place_in" "place_in" (defArgs s_place_in) (defBody s_place_in) (defScope s_place_in) .none kV6 dc6 pm6 an6 cd6 ct6), sl6⟩) (c6 : PySem.W.codeIn K cd6 "place_in" = true) (k6 : PySem.W.keepIn K (.ref f6) = true)
    (a7 : PySem.W.nsIn K mainGlobals "judge_met" = some (some (.ref f7))) (l7 : K.lookup f7 = some ⟨oc7, od7, .func (PySem.W.fnOf "judge_met" "judge_met" (defArgs s_judge_met) (defBody s_judge_met) (defScope s_judge_met) .none kV7 dc7 pm7 an7 cd7 ct7), sl7⟩) (c7 : PySem.W.codeIn K cd7 "judge_met" = true) (k7 : PySem.W.keepIn K (.ref f7) = true)
    (a8 : PySem.W.nsIn K mainGlobals "_law_draw" = some (some (.ref f8))) (l8 : K.lookup f8 = some ⟨oc8, od8, .func (PySem.W.fnOf "_law_draw" "_law_draw" (defArgs s_l_draw) (defBody s_l_draw) (defScope s_l_draw) .none kV8 dc8 pm8 an8 cd8 ct8), sl8⟩) (c8 : PySem.W.codeIn K cd8 "_law_draw" = true) (k8 : PySem.W.keepIn K (.ref f8) = true)
    (a9 : PySem.W.nsIn K mainGlobals "_law_same" = some (some (.ref f9))) (l9 : K.lookup f9 = some ⟨oc9, od9, .func (PySem.W.fnOf "_law_same" "_law_same" (defArgs s_l_same) (defBody s_l_same) (defScope s_l_same) .none kV9 dc9 pm9 an9 cd9 ct9), sl9⟩) (c9 : PySem.W.codeIn K cd9 "_law_same" = true) (k9 : PySem.W.keepIn K (.ref f9) = true)
    (a10 : PySem.W.nsIn K mainGlobals "_law_made" = some (some (.ref f10))) (l10 : K.lookup f10 = some ⟨oc10, od10, .func (PySem.W.fnOf "_law_made" "_law_made" (defArgs s_l_made) (defBody s_l_made) (defScope s_l_made) .none kV10 dc10 pm10 an10 cd10 ct10), sl10⟩) (c10 : PySem.W.codeIn K cd10 "_law_made" = true) (k10 : PySem.W.keepIn K (.ref f10) = true)
    (a11 : PySem.W.nsIn K mainGlobals "_law_sought" = some (some (.ref f11))) (l11 : K.lookup f11 = some ⟨oc11, od11, .func (PySem.W.fnOf "_law_sought" "_law_sought" (defArgs s_l_sought) (defBody s_l_sought) (defScope s_l_sought) .none kV11 dc11 pm11 an11 cd11 ct11), sl11⟩) (c11 : PySem.W.codeIn K cd11 "_law_sought" = true) (k11 : PySem.W.keepIn K (.ref f11) = true)
    (a12 : PySem.W.nsIn K mainGlobals "_law_power" = some (some (.ref f12))) (l12 : K.lookup f12 = some ⟨oc12, od12, .func (PySem.W.fnOf "_law_power" "_law_power" (defArgs s_l_power) (defBody s_l_power) (defScope s_l_power) .none kV12 dc12 pm12 an12 cd12 ct12), sl12⟩) (c12 : PySem.W.codeIn K cd12 "_law_power" = true) (k12 : PySem.W.keepIn K (.ref f12) = true)
    (a13 : PySem.W.nsIn K mainGlobals "law" = some (some (.ref f13))) (l13 : K.lookup f13 = some ⟨oc13, od13, .func (PySem.W.fnOf "law" "law" (defArgs s_law) (defBody s_law) (defScope s_law) .none kV13 dc13 pm13 an13 cd13 ct13), sl13⟩) (c13 : PySem.W.codeIn K cd13 "law" = true) (k13 : PySem.W.keepIn K (.ref f13) = true)
    (z0 : PySem.W.nsIn K mainGlobals "all" = some none)
    (z1 : PySem.W.nsIn K mainGlobals "bool" = some none)
    (z2 : PySem.W.nsIn K mainGlobals "int" = some none)
    (z3 : PySem.W.nsIn K mainGlobals "isinstance" = some none)
    (z4 : PySem.W.nsIn K mainGlobals "len" = some none)
    (z5 : PySem.W.nsIn K mainGlobals "list" = some none)
    (z6 : PySem.W.nsIn K mainGlobals "min" = some none)
    (z7 : PySem.W.nsIn K mainGlobals "range" = some none)
    (z8 : PySem.W.nsIn K mainGlobals "set" = some none)
    (z9 : PySem.W.nsIn K mainGlobals "sorted" = some none)
    (z10 : PySem.W.nsIn K mainGlobals "tuple" = some none)
    (z11 : PySem.W.nsIn K mainGlobals "zip" = some none)
    (xa0 : PySem.W.nsIn K mainGlobals "NoSuch" = some (some (.ref X0))) (xk0 : PySem.W.keepIn K (.ref X0) = true) (xx0 : PySem.W.excIn K X0 [.type "ValueError", .type "Exception", .type "BaseException", .type "object"] "ValueError.__new__" = true) (xh0 : PySem.W.subIn K (.ref X0) (.type "BaseException") = some true) (xt0 : PySem.W.typeIn K (.ref X0) = some (.type "type")) (xi0 : PySem.W.isClsIn K X0 = true) (xs0 : PySem.W.subIn K (.ref X0) (.ref X0) = some true)
    (ta0 : cd0 = .ref C0) (tb0 : K.lookup C0 = some ⟨te00, td00, .fields tv0, ts0⟩) (tc0 : tv0[11]? = some (.ref Q0)) (td0 : PySem.W.codeHdIn K C0 Q0 = true) (te0 : K.lookup Q0 = none) (tf0 : ((recsOf q).any fun e => e.name == "is_row") = true)
    : LamX.LawAtS l w K CX0 6 63 "script" mg fa h := by
  have e := hfa.symm.trans (PySem.W.mg_of X G a13)
  cases e
  have F0 := fun_mk (st := s_is_row) l0 c0 k0
  have b0 := F0.binds (ps := ["value"]) fun _ _ _ _ _ _ us hl => match us, hl with | [_], _ => rfl
  have F1 := fun_mk (st := s_seek) l1 c1 k1
  have b1 := F1.binds (ps := ["row", "start", "goal"]) fun _ _ _ _ _ _ us hl => match us, hl with | [_, _, _], _ => rfl
  have F2 := fun_mk (st := s_met) l2 c2 k2
  have b2 := F2.binds (ps := ["one", "two"]) fun _ _ _ _ _ _ us hl => match us, hl with | [_, _], _ => rfl
  have F3 := fun_mk (st := s_both) l3 c3 k3
  have b3 := F3.binds (ps := ["one", "two"]) fun _ _ _ _ _ _ us hl => match us, hl with | [_, _], _ => rfl
  have F4 := fun_mk (st := s_without) l4 c4 k4
  have b4 := F4.binds (ps := ["one", "two"]) fun _ _ _ _ _ _ us hl => match us, hl with | [_, _], _ => rfl
  have F5 := fun_mk (st := s_part) l5 c5 k5
  have b5 := F5.binds (ps := ["row", "low", "high"]) fun _ _ _ _ _ _ us hl => match us, hl with | [_, _, _], _ => rfl
  have F6 := fun_mk (st := s_place_in) l6 c6 k6
  have b6 := F6.binds (ps := ["row", "number"]) fun _ _ _ _ _ _ us hl => match us, hl with | [_, _], _ => rfl
  have F7 := fun_mk (st := s_judge_met) l7 c7 k7
  have b7 := F7.binds (ps := ["one", "two", "told"]) fun _ _ _ _ _ _ us hl => match us, hl with | [_, _, _], _ => rfl
  have F8 := fun_mk (st := s_l_draw) l8 c8 k8
  have b8 := F8.binds (ps := ["state", "limit"]) fun _ _ _ _ _ _ us hl => match us, hl with | [_, _], _ => rfl
  have F9 := fun_mk (st := s_l_same) l9 c9 k9
  have b9 := F9.binds (ps := ["one", "two"]) fun _ _ _ _ _ _ us hl => match us, hl with | [_, _], _ => rfl
  have F10 := fun_mk (st := s_l_made) l10 c10 k10
  have b10 := F10.binds (ps := ["state"]) fun _ _ _ _ _ _ us hl => match us, hl with | [_], _ => rfl
  have F11 := fun_mk (st := s_l_sought) l11 c11 k11
  have b11 := F11.binds (ps := ["row", "start", "goal"]) fun _ _ _ _ _ _ us hl => match us, hl with | [_, _, _], _ => rfl
  have F12 := fun_mk (st := s_l_power) l12 c12 k12
  have b12 := F12.binds (ps := ["many"]) fun _ _ _ _ _ _ us hl => match us, hl with | [_], _ => rfl
  have F13 := fun_mk (st := s_law) l13 c13 k13
  have b13 := F13.binds (ps := ["script"]) fun _ _ _ _ _ _ us hl => match us, hl with | [_], _ => rfl
  letI TT : Tabs := ⟨[Q0]⟩
  have T : Txt K mg ⟨f0, _, f1, _, f2, _, f3, _, f4, _, f5, _, f6, _, f7, _, f8, _, f9, _, f10, _, f11, _, f12, _, fa, _, C0, Q0, ⟨X0⟩⟩ := ⟨F0, b0, PySem.W.mg_of X G a0, F1, b1, PySem.W.mg_of X G a1, F2, b2, PySem.W.mg_of X G a2, F3, b3, PySem.W.mg_of X G a3, F4, b4, PySem.W.mg_of X G a4, F5, b5, PySem.W.mg_of X G a5, F6, b6, PySem.W.mg_of X G a6, F7, b7, PySem.W.mg_of X G a7, F8, b8, PySem.W.mg_of X G a8, F9, b9, PySem.W.mg_of X G a9, F10, b10, PySem.W.mg_of X G a10, F11, b11, PySem.W.mg_of X G a11, F12, b12, PySem.W.mg_of X G a12, F13, b13, PySem.W.mg_of X G a13, PySem.W.mg_none_of X G z0, PySem.W.mg_none_of X G z1, PySem.W.mg_none_of X G z2, PySem.W.mg_none_of X G z3, PySem.W.mg_none_of X G z4, PySem.W.mg_none_of X G z5, PySem.W.mg_none_of X G z6, PySem.W.mg_none_of X G z7, PySem.W.mg_none_of X G z8, PySem.W.mg_none_of X G z9, PySem.W.mg_none_of X G z10, PySem.W.mg_none_of X G z11, ta0, (show Q0 ∈ [Q0] from by simp), PySem.W.mg_of X G xa0, xk0, xx0, xh0, xt0, exm_own xh0 xi0 xt0 xs0⟩
  have hT : ∀ p ∈ [(C0, Q0)], h.get? p.2 = some { cls := .none, data := .fields #[] } := fun p hp => by
    simp only [List.mem_cons, List.not_mem_nil, or_false] at hp
    rcases hp with rfl
    · exact own "is_row" f0 C0 Q0 _ _ _ _ _ _ tf0 (PySem.W.mg_of X G a0) l0 rfl ta0 tb0 tc0
  have nT : ∀ p ∈ [(C0, Q0)], K.lookup p.2 = none := fun p hp => by
    simp only [List.mem_cons, List.not_mem_nil, or_false] at hp
    rcases hp with rfl
    · exact te0
  have cT : ∀ p ∈ [(C0, Q0)], PySem.W.CodeHd h p.1 p.2 := fun p hp => by
    simp only [List.mem_cons, List.not_mem_nil, or_false] at hp
    rcases hp with rfl
    · exact PySem.W.codeHd_of_K X td0
  have sT : ∀ H : Hp, (∀ p ∈ [(C0, Q0)], H p.2 = some (.tbl #[])) → Tb H := fun H hH P hP => by
    have hP : P ∈ [Q0] := hP
    simp only [List.mem_cons, List.not_mem_nil, or_false] at hP
    have e := hP
    · exact ⟨#[], by rw [e]; exact hH (C0, Q0) (by simp), trivial⟩
  exact ⟨PySem.W.fnOf "law" "law" (defArgs s_law) (defBody s_law) (defScope s_law) .none kV13 dc13 pm13 an13 cd13 ct13, [(C0, Q0)], spLaw K, hT, nT, cT, fun s v => .of_eq rfl, fun H a ns hl _ hH hS => ⟨a, ns, rfl, hS, hl, sT H hH, fun _ => rfl⟩, fun base _ _ hB => law_def (k := 5) F13 sc_law (g_law ⟨X0⟩) (fun cdv A outer s H E hr => b_law T ⟨tab_conv (hB (C0, Q0) (by simp))⟩ cdv A outer s H E hr) (pl ⟨X0⟩)⟩
end K88

/-! T88: the law's statements, printed by stm.py -/
namespace K88
open PySem PySem.Spec PyProof.Rows L2 Mo
theorem same_eq (c : Cs) : ∀ k, f_l_same_at c k = cf_same_at k
  | 0 => rfl
  | k + 1 => by
    show funF 4 2 (g_l_same c (f_l_same_at c k)) = funF 4 2 (cg_same (cf_same_at k))
    rw [same_eq c k]
    rfl
noncomputable def t1 (c : Cs) : Mo.Env → SRes := (setO 1 (lstO (consW (lfF (cF (.int 0))) (consW (lfF (cF (.int 0))) (consW (rawF 0) (consW (lfF (cF (.int 1))) nilW))))))
noncomputable def t2 (c : Cs) : Mo.Env → SRes := (asgF (asgE 2) (frzO (lstF (consV false (callI (f_l_made c) (consV true (varF 1) nilV)) (consV true (callI (f_l_made c) (consV true (varF 1) nilV)) nilV)))))
noncomputable def t3 (c : Cs) : Mo.Env → SRes := (asgF (asgE 3) (ixF true (varF 2) (cF (.int 0))))
noncomputable def t4 (c : Cs) : Mo.Env → SRes := (asgF (asgE 4) (callF bUsort (consV true (bin2 true oAdd (bin2 false oAdd (frzO (listF (consV true (un1 (oStep 5) (varF 3)) nilV))) (frzO (compF [18] (itF (un1 (oStep 7) (varF 3))) (asgE 18) yesF (lfF (bin2 true oAdd (varF 18) (cF (.int 1))))))) (frzO (lstF (consV true (cF (.int 0)) (consV true (bin2 true oPow (cF (.int 10)) (cF (.int 9))) (consV true (cF (.int 5)) nilV)))))) nilV)))
noncomputable def t5 (c : Cs) : Mo.Env → SRes := (forF (argF rg1 (consV true (bin2 true oAdd (callF bLen (consV true (varF 3) nilV)) (cF (.int 1))) nilV)) (asgE 5) (forF (itF (varF 4)) (asgE 8) (seqF (asgF (unpE 2 (gConsE (asgE 14) (gConsE (asgE 9) gNilE))) (callD (f_seek c) (consV true (varF 3) (consV true (varF 5) (consV true (varF 8) nilV))))) (seqF (asgF (asgE 13) (bin2 false oAdd (varF 5) (callF bLen (consV true (frzO (compF [18] (itF (slF true true (varF 3) (someP (varF 5)) noP)) (asgE 18) (boolF (bin2 true oLt (varF 18) (varF 8))) (lfF (varF 18)))) nilV)))) (ifS (orF (boolF (bin2 true oNe (varF 14) (varF 13))) (orF (notF (truF (callD (cf_same_at 5) (consV true (tupF (consV true (varF 14) (consV true (varF 9) nilV))) (consV true (callD (f_l_sought c) (consV true (varF 3) (consV true (varF 5) (consV true (varF 8) nilV)))) nilV))))) (boolF (bin2 true oGt (varF 9) (bin2 true oAdd (bin2 true oMul (cF (.int 2)) (callD (f_l_power c) (consV true (bin2 true oAdd (bin2 true oSub (varF 13) (varF 5)) (cF (.int 1))) nilV))) (cF (.int 1))))))) (retF (cF (.bool false))) nxF)))))
noncomputable def t6 (c : Cs) : Mo.Env → SRes := (parF [9, 10, 11, 12] (consW (lfF (cF (.int 0))) (consW (lfF (frzO (lstF nilV))) (consW (lfF (cF (.int 0))) (consW (lfF (cF (.int 0))) nilW)))))
noncomputable def t7 (c : Cs) : Mo.Env → SRes := (forF (argF rg1 (consV true (bin2 true oAdd (bin2 true oAdd (callF bLen (consV true (ixF true (varF 2) (cF (.int 0))) nilV)) (callF bLen (consV true (ixF true (varF 2) (cF (.int 1))) nilV))) (cF (.int 1))) nilV)) (asgE 6) (ifS (andF (boolF (bin2 true oLt (varF 11) (callF bLen (consV true (ixF true (varF 2) (cF (.int 0))) nilV)))) (boolF (bin2 true oLt (varF 12) (callF bLen (consV true (ixF true (varF 2) (cF (.int 1))) nilV))))) (seqF (parF [15, 16] (consW (lfF (ixF true (ixF true (varF 2) (cF (.int 0))) (varF 11))) (consW (lfF (ixF true (ixF true (varF 2) (cF (.int 1))) (varF 12))) nilW))) (ifS (boolF (bin2 true oEq (varF 15) (varF 16))) (parF [10, 11, 12] (consW (lfF (bin2 true oAdd (varF 10) (frzO (lstF (consV true (varF 15) nilV))))) (consW (lfF (bin2 true oAdd (varF 11) (cF (.int 1)))) (consW (lfF (bin2 true oAdd (varF 12) (cF (.int 1)))) nilW)))) (ifS (boolF (bin2 true oLt (varF 15) (varF 16))) (seqF (asgF (unpE 2 (gConsE (asgE 11) (gConsE (asgE 17) gNilE))) (callD (f_l_sought c) (consV true (ixF true (varF 2) (cF (.int 0))) (consV true (varF 11) (consV true (varF 16) nilV))))) (asgF (asgE 9) (bin2 true oAdd (varF 9) (varF 17)))) (seqF (asgF (unpE 2 (gConsE (asgE 12) (gConsE (asgE 17) gNilE))) (callD (f_l_sought c) (consV true (ixF true (varF 2) (cF (.int 1))) (consV true (varF 12) (consV true (varF 15) nilV))))) (asgF (asgE 9) (bin2 true oAdd (varF 9) (varF 17))))))) nxF))
noncomputable def t8 (c : Cs) : Mo.Env → SRes := (ifS (orF (notF (truF (callD (cf_same_at 5) (consV true (callD (f_met c) (consV true (ixF true (varF 2) (cF (.int 0))) (consV true (ixF true (varF 2) (cF (.int 1))) nilV))) (consV true (tupF (consV true (callF bTuple (consV true (varF 10) nilV)) (consV true (varF 9) nilV))) nilV))))) (notF (truF (callD (cf_same_at 5) (consV true (callD (f_met c) (consV true (ixF true (varF 2) (cF (.int 1))) (consV true (ixF true (varF 2) (cF (.int 0))) nilV))) (consV true (tupF (consV true (callF bTuple (consV true (varF 10) nilV)) (consV true (varF 9) nilV))) nilV)))))) (retF (cF (.bool false))) nxF)
noncomputable def t9 (c : Cs) : Mo.Env → SRes := (ifS (orF (notF (truF (callD (cf_same_at 5) (consV true (callD (f_met c) (consV true (varF 3) (consV true (varF 3) nilV))) (consV true (tupF (consV true (varF 3) (consV true (cF (.int 0)) nilV))) nilV))))) (notF (truF (callD (cf_same_at 5) (consV false (callD (f_both c) (consV true (varF 3) (consV true (ixF true (varF 2) (cF (.int 1))) nilV))) (consV true (callF bTuple (consV true (frzO (compF [18] (itF (varF 3)) (asgE 18) (boolF (bin2 true oInG (varF 18) (ixF true (varF 2) (cF (.int 1))))) (lfF (varF 18)))) nilV)) nilV)))))) (retF (cF (.bool false))) nxF)
noncomputable def t10 (c : Cs) : Mo.Env → SRes := (ifS (orF (boolF (bin2 true oNotB (callD (f_judge_met c) (consV true (ixF true (varF 2) (cF (.int 0))) (consV true (ixF true (varF 2) (cF (.int 1))) (consV true (callF bTuple (consV true (varF 10) nilV)) nilV)))) (cF (.bool true)))) (andF (boolF (bin2 true oNe (varF 10) (frzO (lstF nilV)))) (boolF (bin2 true oNotB (callD (f_judge_met c) (consV true (ixF true (varF 2) (cF (.int 0))) (consV true (ixF true (varF 2) (cF (.int 1))) (consV true (callF bTuple (consV true (slF true true (varF 10) (someP (cF (.int 1))) noP) nilV)) nilV)))) (cF (.bool false)))))) (retF (cF (.bool false))) nxF)
noncomputable def t11 (c : Cs) : Mo.Env → SRes := (forF (argF rg1 (consV true (callF bLen (consV true (varF 3) nilV)) nilV)) (asgE 7) (ifS (orF (boolF (bin2 true oNe (callD (f_place_in c) (consV true (varF 3) (consV true (ixF true (varF 3) (varF 7)) nilV))) (varF 7))) (orF (notF (truF (callD (cf_same_at 5) (consV true (callD (f_part c) (consV true (varF 3) (consV true (ixF true (varF 3) (varF 7)) (consV true (ixF true (varF 3) (un1 oNeg (cF (.int 1)))) nilV)))) (consV true (slF true true (varF 3) (someP (varF 7)) noP) nilV))))) (notF (truF (callD (cf_same_at 5) (consV true (callD (f_without c) (consV true (varF 3) (consV true (slF true true (varF 3) (someP (varF 7)) noP) nilV))) (consV true (slF true true (varF 3) noP (someP (varF 7))) nilV))))))) (retF (cF (.bool false))) nxF))
noncomputable def t12 (c : Cs) : Mo.Env → SRes := (retF (bin2 true oEq (callD (f_seek c) (consV true (tupF nilV) (consV true (cF (.int 0)) (consV true (cF (.int 5)) nilV)))) (tupF (consV true (cF (.int 0)) (consV true (cF (.int 0)) nilV)))))
theorem law_eq (c : Cs) : g_law c = (seqF (t1 c) (seqF (t2 c) (seqF (t3 c) (seqF (t4 c) (seqF (t5 c) (seqF (t6 c) (seqF (t7 c) (seqF (t8 c) (seqF (t9 c) (seqF (t10 c) (seqF (t11 c) (t12 c)))))))))))) := by
  have h : f_l_same c = cf_same_at 5 := same_eq c 5
  unfold g_law
  rw [h]
  rfl
end K88

/-! A88: rows, seeking, meeting: plain arithmetic. -/
namespace K88
def gt (l : List Nat) (i : Nat) : Nat := l.getD i 0
theorem gt_at {l : List Nat} {i : Nat} (h : i < l.length) : l[i]? = some (gt l i) := by
  unfold gt
  rw [List.getD_eq_getElem?_getD, List.getElem?_eq_getElem h]
  rfl
def leaps (l : List Nat) (g : Nat) : Nat → Nat → Nat → Nat → Nat × Nat × Nat
  | 0, low, leap, st => (low, leap, st)
  | n + 1, low, leap, st => if low + leap - 1 < l.length then (if g ≤ gt l (low + leap - 1) then (low, leap, st + 1) else leaps l g n (low + leap) (leap * 2) (st + 1)) else (low, leap, st)
def halves (l : List Nat) (g : Nat) : Nat → Nat → Nat → Nat → Nat × Nat
  | 0, low, _, st => (low, st)
  | n + 1, low, high, st => if low < high then (if g ≤ gt l ((low + high) / 2) then halves l g n low ((low + high) / 2) (st + 1) else halves l g n ((low + high) / 2 + 1) high (st + 1)) else (low, st)
def lp (l : List Nat) (start g : Nat) : Nat × Nat × Nat := leaps l g 59 start 1 0
def hi (l : List Nat) (start g : Nat) : Nat := min ((lp l start g).1 + (lp l start g).2.1 - 1) l.length
def seekM (l : List Nat) (start g : Nat) : Nat × Nat := halves l g 60 (lp l start g).1 (hi l start g) (lp l start g).2.2
/-- d is the place of the first number that is not less than g -/
structure Cut (l : List Nat) (g d : Nat) : Prop where
  le : d ≤ l.length
  iff : ∀ i, i < l.length → (gt l i < g ↔ i < d)
/-- the same from a place on -/
structure CutS (l : List Nat) (g d s : Nat) : Prop where
  le : d ≤ l.length
  iff : ∀ i, s ≤ i → i < l.length → (gt l i < g ↔ i < d)
theorem halves_ok {l : List Nat} {g d s : Nat} (c : CutS l g d s) : ∀ (n low high st j : Nat), s ≤ low → low ≤ d → d ≤ high → high ≤ l.length → high - low ≤ n → high - low < 2 ^ j → (halves l g n low high st).1 = d ∧ (halves l g n low high st).2 ≤ st + j
  | 0, low, high, st, j, h0, h1, h2, h3, h4, h5 => ⟨by show low = d; omega, Nat.le_add_right _ _⟩
  | n + 1, low, high, st, j, h0, h1, h2, h3, h4, h5 => by
    unfold halves
    by_cases h : low < high
    · rw [if_pos h]
      have hm : (low + high) / 2 < l.length := by omega
      have ci := c.iff _ (by omega) hm
      cases j with
      | zero => simp at h5; omega
      | succ j =>
        rw [Nat.pow_succ] at h5
        by_cases q : g ≤ gt l ((low + high) / 2)
        · rw [if_pos q]
          have : ¬ ((low + high) / 2 < d) := fun z => by
            have := ci.mpr z
            omega
          have := halves_ok c n low ((low + high) / 2) (st + 1) j h0 h1 (by omega) (by omega) (by omega) (by omega)
          exact ⟨this.1, by omega⟩
        · rw [if_neg q]
          have : (low + high) / 2 < d := ci.mp (by omega)
          have := halves_ok c n ((low + high) / 2 + 1) high (st + 1) j (by omega) (by omega) h2 h3 (by omega) (by omega)
          exact ⟨this.1, by omega⟩
    · rw [if_neg h]
      exact ⟨by show low = d; omega, Nat.le_add_right _ _⟩
theorem leaps_ok {l : List Nat} {g d start : Nat} (c : CutS l g d start) : ∀ (n low st i : Nat), low ≤ d → low + 1 = start + 2 ^ i → st = i → l.length + 1 ≤ low + 2 ^ i + n →
    ∃ j, (leaps l g n low (2 ^ i) st).2.1 = 2 ^ j ∧ (leaps l g n low (2 ^ i) st).1 + 1 = start + 2 ^ j ∧ (leaps l g n low (2 ^ i) st).2.2 ≤ j + 1 ∧ (leaps l g n low (2 ^ i) st).1 ≤ d ∧ d ≤ (leaps l g n low (2 ^ i) st).1 + 2 ^ j - 1
  | 0, low, st, i, h1, h2, h3, h4 => ⟨i, rfl, h2, by show st ≤ i + 1; omega, h1, by
      have := c.le
      show d ≤ low + 2 ^ i - 1
      omega⟩
  | n + 1, low, st, i, h1, h2, h3, h4 => by
    have hp : 0 < 2 ^ i := Nat.pos_of_ne_zero (by simp)
    unfold leaps
    by_cases h : low + 2 ^ i - 1 < l.length
    · rw [if_pos h]
      have ci := c.iff _ (by omega) h
      by_cases q : g ≤ gt l (low + 2 ^ i - 1)
      · rw [if_pos q]
        have : ¬ (low + 2 ^ i - 1 < d) := fun z => by
          have := ci.mpr z
          omega
        exact ⟨i, rfl, h2, by show st + 1 ≤ i + 1; omega, h1, by show d ≤ low + 2 ^ i - 1; omega⟩
      · rw [if_neg q]
        have : low + 2 ^ i - 1 < d := ci.mp (by omega)
        have e : 2 ^ i * 2 = 2 ^ (i + 1) := (Nat.pow_succ ..).symm
        rw [e]
        refine leaps_ok c n (low + 2 ^ i) (st + 1) (i + 1) (by omega) ?_ (by omega) ?_
        · rw [← e]; omega
        · rw [← e]; omega
    · rw [if_neg h]
      have := c.le
      exact ⟨i, rfl, h2, by show st ≤ i + 1; omega, h1, by show d ≤ low + 2 ^ i - 1; omega⟩
theorem seek_okS {l : List Nat} {g d start : Nat} (c : CutS l g d start) (hl : l.length ≤ 40) (h : start ≤ d) : (seekM l start g).1 = d ∧ ∃ j, 2 ^ j ≤ d - start + 1 ∧ (seekM l start g).2 ≤ 2 * j + 1 := by
  obtain ⟨j, e1, e2, e3, e4, e5⟩ := leaps_ok (start := start) c 59 start 0 0 h (by simp) rfl (by simp; omega)
  have le := c.le
  have p : 0 < 2 ^ j := Nat.pos_of_ne_zero (by simp)
  have r1 : (lp l start g).2.1 = 2 ^ j := e1
  have r2 : (lp l start g).1 + 1 = start + 2 ^ j := e2
  have r3 : (lp l start g).2.2 ≤ j + 1 := e3
  have r4 : (lp l start g).1 ≤ d := e4
  have r5 : d ≤ (lp l start g).1 + 2 ^ j - 1 := e5
  have hh : hi l start g ≤ l.length := Nat.min_le_right _ _
  have hd : d ≤ hi l start g := by
    unfold hi
    rw [r1]
    exact Nat.le_min.mpr ⟨r5, le⟩
  have hw : hi l start g - (lp l start g).1 < 2 ^ j := by
    have : hi l start g ≤ (lp l start g).1 + (lp l start g).2.1 - 1 := Nat.min_le_left _ _
    rw [r1] at this
    omega
  have k := halves_ok c 60 (lp l start g).1 (hi l start g) (lp l start g).2.2 j (by omega) r4 hd hh (by omega) hw
  refine ⟨k.1, j, by omega, ?_⟩
  have := k.2
  show (halves l g 60 (lp l start g).1 (hi l start g) (lp l start g).2.2).2 ≤ _
  omega
theorem seek_ok {l : List Nat} {g d start : Nat} (c : Cut l g d) (hl : l.length ≤ 40) (h : start ≤ d) : (seekM l start g).1 = d ∧ ∃ j, 2 ^ j ≤ d - start + 1 ∧ (seekM l start g).2 ≤ 2 * j + 1 :=
  seek_okS ⟨c.le, fun i _ hi => c.iff i hi⟩ hl h
/-! ### ascending rows -/
def Asc (l : List Nat) : Prop := l.Pairwise (· < ·)
def dues (l : List Nat) (g : Nat) : Nat := (l.filter (· < g)).length
theorem asc_gt {l : List Nat} (a : Asc l) {i j : Nat} (h : i < j) (hj : j < l.length) : gt l i < gt l j := by
  have hi : i < l.length := Nat.lt_trans h hj
  unfold gt
  rw [List.getD_eq_getElem?_getD, List.getD_eq_getElem?_getD, List.getElem?_eq_getElem hi, List.getElem?_eq_getElem hj]
  exact List.pairwise_iff_getElem.mp a i j hi hj h
theorem gt_cons_succ (x : Nat) (l : List Nat) (i : Nat) : gt (x :: l) (i + 1) = gt l i := by simp [gt]
theorem cut_of : ∀ {l : List Nat} (g : Nat), Asc l → Cut l g (dues l g)
  | [], g, _ => ⟨Nat.le_refl _, fun i h => absurd h (Nat.not_lt_zero _)⟩
  | x :: l, g, a => by
    have a' := List.pairwise_cons.mp a
    have c := cut_of g a'.2
    by_cases h : x < g
    · have e : dues (x :: l) g = dues l g + 1 := by simp [dues, h]
      rw [e]
      refine ⟨Nat.succ_le_succ c.le, fun i hi => ?_⟩
      cases i with
      | zero => simp [gt, h]
      | succ i =>
        rw [gt_cons_succ]
        have := c.iff i (by simpa using hi)
        omega
    · have e0 : l.filter (· < g) = [] := List.filter_eq_nil_iff.mpr fun y hy => by
        have := a'.1 y hy
        simp
        omega
      have e : dues (x :: l) g = 0 := by simp [dues, h, e0]
      rw [e]
      refine ⟨Nat.zero_le _, fun i hi => ⟨fun z => ?_, fun z => absurd z (Nat.not_lt_zero _)⟩⟩
      cases i with
      | zero => simp [gt] at z; omega
      | succ i =>
        have : gt (x :: l) 0 < gt (x :: l) (i + 1) := asc_gt a (Nat.succ_pos i) hi
        have e1 : gt (x :: l) 0 = x := by simp [gt]
        omega
theorem cut_eq {l : List Nat} {g d e : Nat} (c : Cut l g d) (c' : Cut l g e) : d = e := by
  have h1 := c.le
  have h2 := c'.le
  rcases Nat.lt_trichotomy d e with h | h | h
  · have := (c'.iff d (by omega)).mpr h
    have := (c.iff d (by omega)).mp this
    omega
  · exact h
  · have := (c.iff e (by omega)).mpr h
    have := (c'.iff e (by omega)).mp this
    omega
end K88

/-! B88: two rows met, plain. -/
namespace K88
theorem take_succ_gt {l : List Nat} {i : Nat} (h : i < l.length) : l.take (i + 1) = l.take i ++ [gt l i] := by
  rw [List.take_add_one, gt_at h]
  rfl
theorem mem_gt {l : List Nat} {x : Nat} : x ∈ l ↔ ∃ i, i < l.length ∧ gt l i = x := by
  constructor
  · intro h
    obtain ⟨i, hi, e⟩ := List.getElem_of_mem h
    refine ⟨i, hi, ?_⟩
    unfold gt
    rw [List.getD_eq_getElem?_getD, List.getElem?_eq_getElem hi]
    exact e
  · intro ⟨i, hi, e⟩
    subst e
    exact List.mem_of_getElem? (gt_at hi)
theorem filter_ext {l : List Nat} {p : Nat → Bool} {h : Nat} : ∀ k, (∀ i, h ≤ i → i < h + k → i < l.length ∧ p (gt l i) = false) → (l.take (h + k)).filter p = (l.take h).filter p
  | 0, _ => rfl
  | k + 1, q => by
    have := q (h + k) (by omega) (by omega)
    rw [← Nat.add_assoc, take_succ_gt this.1, List.filter_append, filter_ext k fun i h1 h2 => q i h1 (by omega)]
    simp [this.2]
abbrev M : Type := List Nat × Nat × Nat × Nat
def mst (a b : List Nat) : M → M := fun (f, st, h, t) => if h < a.length ∧ t < b.length then
    (if gt a h = gt b t then (f ++ [gt a h], st, h + 1, t + 1)
    else if gt a h < gt b t then (f, st + (seekM a h (gt b t)).2, (seekM a h (gt b t)).1, t)
    else (f, st + (seekM b t (gt a h)).2, h, (seekM b t (gt a h)).1))
  else (f, st, h, t)
def itM (a b : List Nat) : Nat → M → M
  | 0, s => s
  | n + 1, s => itM a b n (mst a b s)
def fin (a b : List Nat) : M → Prop := fun (_, _, h, t) => ¬ (h < a.length ∧ t < b.length)
instance (a b : List Nat) (s : M) : Decidable (fin a b s) := by
  obtain ⟨f, st, h, t⟩ := s
  unfold fin
  infer_instance
structure IM (a b : List Nat) (s : M) : Prop where
  f : s.1 = (a.take s.2.2.1).filter (· ∈ b)
  h : s.2.2.1 ≤ a.length
  t : s.2.2.2 ≤ b.length
  j : ∀ j, j < s.2.2.2 → ∀ i, s.2.2.1 ≤ i → i < a.length → gt b j ≠ gt a i
theorem asc_ge {l : List Nat} (a : Asc l) {i j : Nat} (h : i ≤ j) (hj : j < l.length) : gt l i ≤ gt l j := by
  rcases Nat.lt_or_eq_of_le h with q | q
  · exact Nat.le_of_lt (asc_gt a q hj)
  · rw [q]; exact Nat.le_refl _
theorem dues_gt {l : List Nat} (a : Asc l) {h g : Nat} (hh : h < l.length) (q : gt l h < g) : h < dues l g := ((cut_of g a).iff h hh).mp q
theorem mst_ok {a b : List Nat} (ha : Asc a) (hb : Asc b) (la : a.length ≤ 40) (lb : b.length ≤ 40) {s : M} (I : IM a b s) : IM a b (mst a b s) ∧ (¬ fin a b s → s.2.2.1 + s.2.2.2 < (mst a b s).2.2.1 + (mst a b s).2.2.2) := by
  obtain ⟨f, st, h, t⟩ := s
  obtain ⟨e1, e2, e3, e4⟩ := I
  simp only at e1 e2 e3 e4
  unfold mst
  by_cases c : h < a.length ∧ t < b.length
  · simp only [if_pos c]
    by_cases q : gt a h = gt b t
    · simp only [if_pos q]
      refine ⟨⟨?_, c.1, c.2, fun j hj i hi hil => ?_⟩, fun _ => by show h + t < h + 1 + (t + 1); omega⟩
      · simp only
        rw [take_succ_gt c.1, List.filter_append, ← e1]
        have : gt a h ∈ b := mem_gt.mpr ⟨t, c.2, q.symm⟩
        simp [this]
      · simp only at hj hi
        rcases Nat.lt_or_eq_of_le (Nat.lt_succ_iff.mp hj) with z | z
        · exact e4 j z i (by omega) hil
        · rw [z, ← q]
          have := asc_gt ha (show h < i by omega) hil
          omega
    · simp only [if_neg q]
      by_cases r : gt a h < gt b t
      · simp only [if_pos r]
        have d1 := dues_gt ha c.1 r
        have cu := cut_of (gt b t) ha
        have sk := (seek_ok (start := h) cu la (Nat.le_of_lt d1)).1
        rw [sk]
        refine ⟨⟨?_, cu.le, e3, fun j hj i hi hil => e4 j hj i (Nat.le_trans (Nat.le_of_lt d1) hi) hil⟩, fun _ => by show h + t < dues a (gt b t) + t; omega⟩
        simp only
        obtain ⟨k, ek⟩ := Nat.exists_eq_add_of_le (Nat.le_of_lt d1)
        rw [ek, filter_ext k fun i h1 h2 => ?_, e1]
        have hil : i < a.length := by have := cu.le; omega
        refine ⟨hil, ?_⟩
        rw [decide_eq_false_iff_not]
        intro m
        obtain ⟨j, hj, e⟩ := mem_gt.mp m
        rcases Nat.lt_or_ge j t with z | z
        · exact e4 j z i h1 hil e
        · have g1 := asc_ge hb z hj
          have g2 := (cu.iff i hil).mpr (by omega)
          omega
      · simp only [if_neg r]
        have r' : gt b t < gt a h := by omega
        have d1 := dues_gt hb c.2 r'
        have cu := cut_of (gt a h) hb
        have sk := (seek_ok (start := t) cu lb (Nat.le_of_lt d1)).1
        rw [sk]
        refine ⟨⟨e1, e2, cu.le, fun j hj i hi hil => ?_⟩, fun _ => by show h + t < h + dues b (gt a h); omega⟩
        simp only at hj hi
        have g1 := (cu.iff j (Nat.lt_of_lt_of_le hj cu.le)).mpr hj
        have g2 := asc_ge ha hi hil
        omega
  · simp only [if_neg c]
    exact ⟨⟨e1, e2, e3, e4⟩, fun n => absurd c n⟩
theorem mst_fin {a b : List Nat} {s : M} (h : fin a b s) : mst a b s = s := by
  obtain ⟨f, st, h', t⟩ := s
  unfold mst
  exact if_neg h
theorem itM_fin {a b : List Nat} : ∀ (n : Nat) {s : M}, fin a b s → itM a b n s = s
  | 0, s, h => rfl
  | n + 1, s, h => by
    unfold itM
    rw [mst_fin h]
    exact itM_fin n h
theorem itM_ok {a b : List Nat} (ha : Asc a) (hb : Asc b) (la : a.length ≤ 40) (lb : b.length ≤ 40) : ∀ (n : Nat) {s : M}, IM a b s → a.length + b.length ≤ s.2.2.1 + s.2.2.2 + n → IM a b (itM a b n s) ∧ fin a b (itM a b n s)
  | 0, s, I, h => ⟨I, by
    obtain ⟨f, st, h', t⟩ := s
    show ¬ (h' < a.length ∧ t < b.length)
    simp at h
    omega⟩
  | n + 1, s, I, h => by
    by_cases q : fin a b s
    · rw [itM_fin _ q]
      exact ⟨I, q⟩
    · have k := mst_ok ha hb la lb I
      unfold itM
      exact itM_ok ha hb la lb n k.1 (by have := k.2 q; omega)
def metM (a b : List Nat) : M := itM a b (a.length + b.length + 1) ([], 0, 0, 0)
def com (a b : List Nat) : List Nat := a.filter (· ∈ b)
theorem met_ok {a b : List Nat} (ha : Asc a) (hb : Asc b) (la : a.length ≤ 40) (lb : b.length ≤ 40) : (metM a b).1 = com a b ∧ fin a b (metM a b) := by
  have k := itM_ok ha hb la lb (a.length + b.length + 1) (s := ([], 0, 0, 0)) ⟨by simp, Nat.zero_le _, Nat.zero_le _, fun j hj => absurd hj (Nat.not_lt_zero _)⟩ (by show a.length + b.length ≤ 0 + 0 + (a.length + b.length + 1); omega)
  refine ⟨?_, k.2⟩
  show (itM a b (a.length + b.length + 1) ([], 0, 0, 0)).1 = _
  obtain ⟨⟨e1, e2, e3, e4⟩, e5⟩ := k
  generalize itM a b (a.length + b.length + 1) ([], 0, 0, 0) = s at *
  obtain ⟨f, st, h, t⟩ := s
  simp only at e1 e2 e3 e4
  have e5 : ¬ (h < a.length ∧ t < b.length) := e5
  show f = com a b
  rw [e1]
  unfold com
  obtain ⟨k, ek⟩ := Nat.exists_eq_add_of_le e2
  have : (a.take (h + k)).filter (· ∈ b) = (a.take h).filter (· ∈ b) := filter_ext k fun i h1 h2 => by
    refine ⟨by omega, ?_⟩
    rw [decide_eq_false_iff_not]
    intro m
    obtain ⟨j, hj, e⟩ := mem_gt.mp m
    exact e4 j (by omega) i h1 (by omega) e
  rw [← this, ← ek, List.take_length]
def swp : M → M := fun (f, st, h, t) => (f, st, t, h)
theorem mst_swp (a b : List Nat) (s : M) : mst b a (swp s) = swp (mst a b s) := by
  obtain ⟨f, st, h, t⟩ := s
  unfold mst swp
  by_cases c : h < a.length ∧ t < b.length
  · have c' : t < b.length ∧ h < a.length := ⟨c.2, c.1⟩
    simp only [if_pos c, if_pos c']
    by_cases q : gt a h = gt b t
    · rw [if_pos q, if_pos q.symm, q]
    · have q' : ¬ gt b t = gt a h := fun z => q z.symm
      simp only [if_neg q, if_neg q']
      by_cases r : gt a h < gt b t
      · have r' : ¬ gt b t < gt a h := by omega
        simp only [if_pos r, if_neg r']
      · have r' : gt b t < gt a h := by omega
        simp only [if_neg r, if_pos r']
  · have c' : ¬ (t < b.length ∧ h < a.length) := fun z => c ⟨z.2, z.1⟩
    simp only [if_neg c, if_neg c']
theorem itM_swp (a b : List Nat) : ∀ (n : Nat) (s : M), itM b a n (swp s) = swp (itM a b n s)
  | 0, s => rfl
  | n + 1, s => by
    unfold itM
    rw [mst_swp]
    exact itM_swp a b n _
theorem met_swp (a b : List Nat) : metM b a = swp (metM a b) := by
  unfold metM
  rw [Nat.add_comm b.length]
  exact itM_swp a b _ ([], 0, 0, 0)
/-- a row with itself: no step -/
theorem itM_self (a : List Nat) : ∀ (n k : Nat), k + n ≤ a.length → itM a a n (a.take k, 0, k, k) = (a.take (k + n), 0, k + n, k + n)
  | 0, k, _ => rfl
  | n + 1, k, h => by
    unfold itM mst
    have c : k < a.length ∧ k < a.length := ⟨by omega, by omega⟩
    simp only [if_pos c, if_true]
    rw [← take_succ_gt c.1, itM_self a n (k + 1) (by omega), show k + 1 + n = k + (n + 1) from by omega]
theorem itM_add (a b : List Nat) : ∀ (m n : Nat) (s : M), itM a b (m + n) s = itM a b n (itM a b m s)
  | 0, n, s => by rw [Nat.zero_add]; rfl
  | m + 1, n, s => by
    rw [Nat.add_right_comm]
    exact itM_add a b m n (mst a b s)
theorem met_self (a : List Nat) : metM a a = (a, 0, a.length, a.length) := by
  unfold metM
  rw [Nat.add_assoc, itM_add]
  have := itM_self a a.length 0 (by omega)
  simp only [List.take_zero, Nat.zero_add, List.take_length] at this
  rw [this]
  exact itM_fin _ (fun z => Nat.lt_irrefl _ z.1)
end K88

/-! M88: what a row has not; how often a number can be halved. -/
namespace K88
theorem dues_mem {b : List Nat} (hb : Asc b) {x : Nat} : (dues b x = b.length ∨ gt b (dues b x) ≠ x) ↔ x ∉ b := by
  have cu := cut_of x hb
  constructor
  · intro h m
    obtain ⟨i, hi, e⟩ := mem_gt.mp m
    have n1 : ¬ i < dues b x := fun z => by
      have := (cu.iff i hi).mpr z
      omega
    rcases h with h | h
    · omega
    · rcases Nat.lt_or_eq_of_le (Nat.le_of_not_lt n1) with z | z
      · have g1 := asc_gt hb z hi
        have := (cu.iff _ (Nat.lt_trans z hi)).mp (by omega)
        exact Nat.lt_irrefl _ this
      · rw [z] at h; exact h e
  · intro m
    by_cases h : dues b x = b.length
    · exact .inl h
    · refine .inr fun e => m (mem_gt.mpr ⟨dues b x, ?_, e⟩)
      have := cu.le
      omega
theorem dues_mono {b : List Nat} (hb : Asc b) {x y : Nat} (h : x ≤ y) : dues b x ≤ dues b y := by
  have c1 := cut_of x hb
  have c2 := cut_of y hb
  rcases Nat.lt_or_ge (dues b y) (dues b x) with z | z
  · have hl : dues b y < b.length := Nat.lt_of_lt_of_le z c1.le
    have := (c1.iff _ hl).mpr z
    have := (c2.iff _ hl).mp (by omega)
    omega
  · exact z
def woM (b : List Nat) : List Nat → Nat → List Nat
  | [], _ => []
  | x :: r, t => (if (seekM b t x).1 = b.length ∨ gt b (seekM b t x).1 ≠ x then [x] else []) ++ woM b r (seekM b t x).1
def has (b : List Nat) (x : Nat) : Bool := decide (x ∈ b)
theorem woM_ok {b : List Nat} (hb : Asc b) (lb : b.length ≤ 40) : ∀ {a : List Nat} (t : Nat), Asc a → (∀ x ∈ a, t ≤ dues b x) → woM b a t = a.filter (fun x => !(has b x))
  | [], t, _, _ => rfl
  | x :: r, t, ha, ht => by
    have ha' := List.pairwise_cons.mp ha
    have sk := (seek_ok (start := t) (cut_of x hb) lb (ht x (by simp))).1
    unfold woM
    rw [sk, woM_ok hb lb (dues b x) ha'.2 fun y hy => dues_mono hb (Nat.le_of_lt (ha'.1 y hy))]
    by_cases m : x ∈ b
    · have n1 : ¬ (dues b x = b.length ∨ gt b (dues b x) ≠ x) := fun z => (dues_mem hb).mp z m
      rw [if_neg n1]
      simp [has, m]
    · rw [if_pos ((dues_mem hb).mpr m)]
      simp [has, m]
def powM : Nat → Nat → Nat → Nat
  | 0, f, _ => f
  | n + 1, f, m => if 0 < m then powM n (f + 1) (m / 2) else powM n f m
theorem powM_ge : ∀ (n f m : Nat), f ≤ powM n f m
  | 0, f, m => Nat.le_refl _
  | n + 1, f, m => by
    unfold powM
    by_cases h : 0 < m
    · rw [if_pos h]; exact Nat.le_trans (Nat.le_succ f) (powM_ge n _ _)
    · rw [if_neg h]; exact powM_ge n _ _
theorem powM_pow : ∀ (n j f m : Nat), 2 ^ j ≤ m → j < n → f + j + 1 ≤ powM n f m
  | 0, j, f, m, _, h => absurd h (Nat.not_lt_zero _)
  | n + 1, j, f, m, h, hj => by
    have hp : 0 < 2 ^ j := Nat.pos_of_ne_zero (by simp)
    unfold powM
    rw [if_pos (by omega)]
    cases j with
    | zero => exact powM_ge n (f + 1) _
    | succ j =>
      rw [Nat.pow_succ] at h
      have := powM_pow n j (f + 1) (m / 2) (by omega) (by omega)
      omega
theorem cutS_of {l : List Nat} (a : Asc l) {s g : Nat} (hs : s ≤ l.length) : CutS l g (max s (dues l g)) s :=
  ⟨Nat.max_le.mpr ⟨hs, (cut_of g a).le⟩, fun i h hi => by
    have := (cut_of g a).iff i hi
    omega⟩
theorem steps_ok {l : List Nat} (a : Asc l) (hl : l.length ≤ 40) {s g : Nat} (hs : s ≤ l.length) : (seekM l s g).1 = max s (dues l g) ∧ ¬ (2 * powM 40 0 (max s (dues l g) - s + 1) + 1 < (seekM l s g).2) := by
  have k := seek_okS (cutS_of (g := g) a hs) hl (Nat.le_max_left _ _)
  refine ⟨k.1, ?_⟩
  obtain ⟨j, h1, h2⟩ := k.2
  have le := (cutS_of (g := g) a hs).le
  have hj : j < 40 := by
    rcases Nat.lt_or_ge j 40 with z | z
    · exact z
    · have : 2 ^ 40 ≤ 2 ^ j := Nat.pow_le_pow_right (by omega) z
      have e : (2 : Nat) ^ 40 = 1099511627776 := by decide
      omega
  have := powM_pow 40 j 0 _ h1 hj
  omega
/-- how many from a place on are less -/
theorem dues_drop {l : List Nat} (a : Asc l) {s g : Nat} (hs : s ≤ l.length) : s + ((l.drop s).filter (· < g)).length = max s (dues l g) := by
  have e : dues l g = ((l.take s).filter (· < g)).length + ((l.drop s).filter (· < g)).length := by
    show (l.filter (· < g)).length = _
    rw [← List.length_append, ← List.filter_append, List.take_append_drop]
  have cu := cut_of g a
  have len : (l.take s).length = s := by rw [List.length_take]; omega
  rcases Nat.lt_or_ge (dues l g) s with z | z
  · -- all from s on are not less
    have : (l.drop s).filter (· < g) = [] := List.filter_eq_nil_iff.mpr fun x hx => by
      obtain ⟨i, hi, ex⟩ := List.getElem_of_mem hx
      rw [List.length_drop] at hi
      rw [List.getElem_drop] at ex
      have hl : s + i < l.length := by omega
      have eg : gt l (s + i) = x := by
        have := gt_at hl
        rw [List.getElem?_eq_getElem hl] at this
        rw [← Option.some.inj this]; exact ex
      have := mt (cu.iff (s + i) hl).mp (by omega)
      simp
      omega
    rw [this]
    simp
    omega
  · have : (l.take s).filter (· < g) = l.take s := List.filter_eq_self.mpr fun x hx => by
      obtain ⟨i, hi, ex⟩ := List.getElem_of_mem hx
      rw [len] at hi
      rw [List.getElem_take] at ex
      have hl : i < l.length := by omega
      have eg : gt l i = x := by
        have := gt_at hl
        rw [List.getElem?_eq_getElem hl] at this
        rw [← Option.some.inj this]; exact ex
      have := (cu.iff i hl).mpr (by omega)
      simp
      omega
    rw [this, len] at e
    omega
end K88

/-! Se88: seek told. -/
namespace K88
open PySem PySem.Spec PyProof.Rows L2 Mo
def R (l : List Nat) : PyData := .tuple (l.map fun n => .int (n : Nat))
theorem len_R (l : List Nat) : bLen [R l] = some (.int (l.length : Nat)) := by simp [bLen, R]
theorem item_R {l : List Nat} {i : Nat} (h : i < l.length) : oItem (R l) (.int (i : Nat)) = some (.int (gt l i : Nat)) := by
  show atI (l.map fun n => PyData.int (n : Nat)) (i : Int) = _
  rw [atI_n, List.getElem?_map, gt_at h]
  rfl
section
variable {t : Mo.Env → Res Bool} {b : Mo.Env → SRes} {ρ ρ1 ρ2 : Mo.Env} {d : PyData}
theorem while_t (h : t ρ = .ok true ρ1) (e : b ρ1 = .nx ρ2) : whileF t b ρ = whileF t b ρ2 := by
  rw [whileF_eq, h]
  show (match b ρ1 with | .nx ρ2 => whileF t b ρ2 | .ct ρ2 => whileF t b ρ2 | .bk ρ2 => .nx ρ2 | .rt d ρ2 => .rt d ρ2 | .ex C ρ2 => .ex C ρ2 | .bad => .bad) = _
  rw [e]
theorem while_b (h : t ρ = .ok true ρ1) (e : b ρ1 = .bk ρ2) : whileF t b ρ = .nx ρ2 := by
  rw [whileF_eq, h]
  show (match b ρ1 with | .nx ρ2 => whileF t b ρ2 | .ct ρ2 => whileF t b ρ2 | .bk ρ2 => .nx ρ2 | .rt d ρ2 => .rt d ρ2 | .ex C ρ2 => .ex C ρ2 | .bad => .bad) = _
  rw [e]
theorem while_f (h : t ρ = .ok false ρ1) : whileF t b ρ = .nx ρ1 := by
  rw [whileF_eq, h]; rfl
end
noncomputable def sT1 : Mo.Env → Res Bool := (boolF (bin2 true oLt (bin2 true oSub (bin2 true oAdd (varF 6) (varF 5)) (cF (.int 1))) (callF bLen (consV true (varF 0) nilV))))
noncomputable def sB1 : Mo.Env → SRes := (seqF (augF 4 oIadd (cF (.int 1)))
    (seqF (ifS (boolF (bin2 true oGe (ixF true (varF 0) (bin2 true oSub (bin2 true oAdd (varF 6) (varF 5)) (cF (.int 1)))) (varF 2))) bkF nxF)
    (parF [6, 5] (consW (lfF (bin2 true oAdd (varF 6) (varF 5))) (consW (lfF (bin2 true oMul (varF 5) (cF (.int 2)))) nilW)))))
noncomputable def sT2 : Mo.Env → Res Bool := (boolF (bin2 true oLt (varF 6) (varF 3)))
noncomputable def sB2 : Mo.Env → SRes := (seqF (asgF (asgE 7) (bin2 true oFdiv (bin2 true oAdd (varF 6) (varF 3)) (cF (.int 2))))
    (seqF (augF 4 oIadd (cF (.int 1)))
    (ifS (boolF (bin2 true oGe (ixF true (varF 0) (varF 7)) (varF 2))) (asgF (asgE 3) (varF 7)) (asgF (asgE 6) (bin2 true oAdd (varF 7) (cF (.int 1)))))))
abbrev E1 (l : List Nat) (a g : Nat) (st leap low : Nat) : Mo.Env := [.v (.lf (R l)), .v (.lf (.int (a : Nat))), .v (.lf (.int (g : Nat))), .un, .v (.lf (.int (st : Nat))), .v (.lf (.int (leap : Nat))), .v (.lf (.int (low : Nat))), .un]
abbrev E2 (l : List Nat) (a g : Nat) (high st leap low : Nat) (s7 : Slot) : Mo.Env := [.v (.lf (R l)), .v (.lf (.int (a : Nat))), .v (.lf (.int (g : Nat))), .v (.lf (.int (high : Nat))), .v (.lf (.int (st : Nat))), .v (.lf (.int (leap : Nat))), .v (.lf (.int (low : Nat))), s7]
theorem mul_s {x y : Nat} (hx : x ≤ 1000000) (hy : y ≤ 1000000) : oMul (.int (x : Nat)) (.int (y : Nat)) = some (.int ((x * y : Nat) : Int)) := by
  have h1 := log_small (x := (x : Int)) (by show x < 2 ^ 100; have : (2:Nat)^100 = 1267650600228229401496703205376 := by decide
                                            omega)
  have h2 := log_small (x := (y : Int)) (by show y < 2 ^ 100; have : (2:Nat)^100 = 1267650600228229401496703205376 := by decide
                                            omega)
  exact if_pos (by omega)
theorem sT1_is {l : List Nat} {a g st leap low : Nat} (h : 1 ≤ leap) : sT1 (E1 l a g st leap low) = .ok (decide (low + leap - 1 < l.length)) (E1 l a g st leap low) := by
  have e : (decide ((low : Int) + (leap : Int) - 1 < (l.length : Int))) = decide (low + leap - 1 < l.length) := decide_eq_decide.mpr (by omega)
  unfold sT1
  simp -implicitDefEqProofs only [Mo.show_LS, Mo.view_LS, ↓Mo.bind_bn, ↓Mo.tos_tn, ↓Mo.sthen_sn, ↓Mo.sel_sl, Mo.bn_ok, Mo.bn_ex, Mo.tn_ok, Mo.tn_ex, Mo.sn_nx, Mo.sn_rt, Mo.sn_bk, Mo.sn_ct, Mo.sn_ex, Mo.sl_t, Mo.sl_f, Mo.vw_d, Mo.vw_w, Mo.vw_r, Mo.vwR_LS, Mo.vwR_io, Mo.vwR_lf, Mo.stays_d, Mo.stays_r, Mo.stays_t, Mo.varF_ap, Mo.varR_lf, Mo.varR_LS, Mo.varR_io, Mo.varR_ls, Mo.cF_ap, Mo.ofO_s, Mo.binV_s, Mo.bin2_ap, Mo.unV_s, Mo.un1_ap, Mo.fzE_d, Mo.fzE_r, Mo.fzR_LS, Mo.fzR_ls, Mo.fzs_n, Mo.fzs_c, Mo.vws_n, Mo.vws_c, Mo.vwsC_s, Mo.nilV_ap, Mo.stay1_t, Mo.consV_ap, Mo.okIf_T, Mo.tupF_ap, Mo.lstF_ap, Mo.frzO_ap, Mo.lfF_ap, Mo.callV_s, Mo.callF_ap, Mo.outV_r, Mo.outV_x, Mo.callD_ap, Mo.ixV_s, Mo.ixV_n, Mo.ixF_ap, Mo.noP_ap, Mo.intV_i, Mo.someP_ap, Mo.slV_s, Mo.slF_ap, Mo.boolV_b, Mo.boolF_ap, Mo.truW_s, Mo.truV_s, Mo.truF_ap, Mo.truD_b, Mo.truD_i, Mo.okB_ap, Mo.andF_ap, Mo.orF_ap, Mo.notF_ap, Mo.okV_ap, Mo.selV_b, Mo.andV_ap, Mo.orV_ap, Mo.ifF_ap, Mo.seqF_ap, Mo.nxF_ap, Mo.bkF_ap, Mo.retF_ap, Mo.exprF_ap, Mo.ofE_s, Mo.asgF_ap, Mo.asgE_ap, Mo.asgR_un, Mo.asgR_v, Mo.asgR_raw, Mo.setO_ap, Mo.ifS_ap, Mo.gNil_ap, Mo.nextE_s, Mo.gCons_ap, Mo.lsAt_ap, Mo.lsR_LS, Mo.lsR_io, Mo.lsR_ls, Mo.appF_ap, Mo.appG_s, Mo.appK_LS, Mo.okIf_le, Mo.okIf_lt, Mo.outS_nx, Mo.outS_rt, Mo.outS_ex, Mo.outI_rt, Mo.outI_nx, Mo.bTup_l, Mo.bTup_t, Mo.bInt_b, Mo.bInt_i, Mo.dropE_n, Mo.dropE_c, Mo.dropN_s, Mo.drop1R_un, Mo.drop1R_lf, Mo.restE_n, Mo.restE_c, Mo.restR_s, Mo.forF_ap, Mo.itV_s, Mo.itF_ap, Mo.argF_ap, Mo.items_l, Mo.items_t, Mo.yesF_ap, Mo.repO_ap, Mo.nilW_ap, Mo.consW_ap, Mo.parF_ap, Mo.parN_s, Mo.parE_n, Mo.parE_c, Mo.ioK_v, Mo.ioK_io, Mo.ioH_s, Mo.ioG_s, Mo.ioArg_r, Mo.joinF_ap, Mo.insF_ap, Mo.insG_s, Mo.insArg_s, Mo.insH_s, Mo.extF_ap, Mo.extG_s, Mo.extH_s, Mo.tryF_ap, Mo.tryK_nx, Mo.tryK_rt, Mo.tryK_ex, Mo.raiseF_ap, Mo.lr2F_ap, Mo.lr1F_ap, Mo.lrPi_ap, Mo.okI_tr, oAdd_i, oSub_i, oLt_i, oLe_i, oGt_i, oGe_i, oEq_i, oNe_i, len_S, List.getElem?_cons_zero, List.getElem?_cons_succ, List.set_cons_zero, List.set_cons_succ, List.map_cons, List.map_nil, List.replicate_succ, List.replicate_zero, List.cons_append, List.nil_append, List.length_cons, List.length_nil, Nat.reduceLeDiff, Nat.reduceAdd, Nat.reduceSub, Nat.zero_le, Nat.add_one_sub_one, Nat.sub_self, Nat.zero_add, decide_true, decide_false, Bool.not_true, Bool.not_false, Bool.and_self, Bool.true_and, Bool.and_true, len_R, e]
theorem sB1_b {l : List Nat} {a g st leap low : Nat} (h : 1 ≤ leap) (hl : low + leap - 1 < l.length) (q : g ≤ gt l (low + leap - 1)) : sB1 (E1 l a g st leap low) = .bk (E1 l a g (st + 1) leap low) := by
  have it : oItem (R l) (.int ((low : Int) + (leap : Int) - 1)) = some (.int (gt l (low + leap - 1) : Nat)) := by
    rw [← item_R hl]
    congr 2
    omega
  have e : decide ((g : Int) ≤ (gt l (low + leap - 1) : Nat)) = true := decide_eq_true (by omega)
  have au : augF 4 oIadd (cF (.int 1)) (E1 l a g st leap low) = .nx (E1 l a g (st + 1) leap low) := rfl
  unfold sB1
  simp -implicitDefEqProofs only [Mo.show_LS, Mo.view_LS, ↓Mo.bind_bn, ↓Mo.tos_tn, ↓Mo.sthen_sn, ↓Mo.sel_sl, Mo.bn_ok, Mo.bn_ex, Mo.tn_ok, Mo.tn_ex, Mo.sn_nx, Mo.sn_rt, Mo.sn_bk, Mo.sn_ct, Mo.sn_ex, Mo.sl_t, Mo.sl_f, Mo.vw_d, Mo.vw_w, Mo.vw_r, Mo.vwR_LS, Mo.vwR_io, Mo.vwR_lf, Mo.stays_d, Mo.stays_r, Mo.stays_t, Mo.varF_ap, Mo.varR_lf, Mo.varR_LS, Mo.varR_io, Mo.varR_ls, Mo.cF_ap, Mo.ofO_s, Mo.binV_s, Mo.bin2_ap, Mo.unV_s, Mo.un1_ap, Mo.fzE_d, Mo.fzE_r, Mo.fzR_LS, Mo.fzR_ls, Mo.fzs_n, Mo.fzs_c, Mo.vws_n, Mo.vws_c, Mo.vwsC_s, Mo.nilV_ap, Mo.stay1_t, Mo.consV_ap, Mo.okIf_T, Mo.tupF_ap, Mo.lstF_ap, Mo.frzO_ap, Mo.lfF_ap, Mo.callV_s, Mo.callF_ap, Mo.outV_r, Mo.outV_x, Mo.callD_ap, Mo.ixV_s, Mo.ixV_n, Mo.ixF_ap, Mo.noP_ap, Mo.intV_i, Mo.someP_ap, Mo.slV_s, Mo.slF_ap, Mo.boolV_b, Mo.boolF_ap, Mo.truW_s, Mo.truV_s, Mo.truF_ap, Mo.truD_b, Mo.truD_i, Mo.okB_ap, Mo.andF_ap, Mo.orF_ap, Mo.notF_ap, Mo.okV_ap, Mo.selV_b, Mo.andV_ap, Mo.orV_ap, Mo.ifF_ap, Mo.seqF_ap, Mo.nxF_ap, Mo.bkF_ap, Mo.retF_ap, Mo.exprF_ap, Mo.ofE_s, Mo.asgF_ap, Mo.asgE_ap, Mo.asgR_un, Mo.asgR_v, Mo.asgR_raw, Mo.setO_ap, Mo.ifS_ap, Mo.gNil_ap, Mo.nextE_s, Mo.gCons_ap, Mo.lsAt_ap, Mo.lsR_LS, Mo.lsR_io, Mo.lsR_ls, Mo.appF_ap, Mo.appG_s, Mo.appK_LS, Mo.okIf_le, Mo.okIf_lt, Mo.outS_nx, Mo.outS_rt, Mo.outS_ex, Mo.outI_rt, Mo.outI_nx, Mo.bTup_l, Mo.bTup_t, Mo.bInt_b, Mo.bInt_i, Mo.dropE_n, Mo.dropE_c, Mo.dropN_s, Mo.drop1R_un, Mo.drop1R_lf, Mo.restE_n, Mo.restE_c, Mo.restR_s, Mo.forF_ap, Mo.itV_s, Mo.itF_ap, Mo.argF_ap, Mo.items_l, Mo.items_t, Mo.yesF_ap, Mo.repO_ap, Mo.nilW_ap, Mo.consW_ap, Mo.parF_ap, Mo.parN_s, Mo.parE_n, Mo.parE_c, Mo.ioK_v, Mo.ioK_io, Mo.ioH_s, Mo.ioG_s, Mo.ioArg_r, Mo.joinF_ap, Mo.insF_ap, Mo.insG_s, Mo.insArg_s, Mo.insH_s, Mo.extF_ap, Mo.extG_s, Mo.extH_s, Mo.tryF_ap, Mo.tryK_nx, Mo.tryK_rt, Mo.tryK_ex, Mo.raiseF_ap, Mo.lr2F_ap, Mo.lr1F_ap, Mo.lrPi_ap, Mo.okI_tr, oAdd_i, oSub_i, oLt_i, oLe_i, oGt_i, oGe_i, oEq_i, oNe_i, len_S, List.getElem?_cons_zero, List.getElem?_cons_succ, List.set_cons_zero, List.set_cons_succ, List.map_cons, List.map_nil, List.replicate_succ, List.replicate_zero, List.cons_append, List.nil_append, List.length_cons, List.length_nil, Nat.reduceLeDiff, Nat.reduceAdd, Nat.reduceSub, Nat.zero_le, Nat.add_one_sub_one, Nat.sub_self, Nat.zero_add, decide_true, decide_false, Bool.not_true, Bool.not_false, Bool.and_self, Bool.true_and, Bool.and_true, au, it, e]
theorem sB1_n {l : List Nat} {a g st leap low : Nat} (h : 1 ≤ leap) (h2 : leap ≤ 100000) (hl : low + leap - 1 < l.length) (q : ¬ g ≤ gt l (low + leap - 1)) : sB1 (E1 l a g st leap low) = .nx (E1 l a g (st + 1) (leap * 2) (low + leap)) := by
  have it : oItem (R l) (.int ((low : Int) + (leap : Int) - 1)) = some (.int (gt l (low + leap - 1) : Nat)) := by
    rw [← item_R hl]
    congr 2
    omega
  have e : decide ((g : Int) ≤ (gt l (low + leap - 1) : Nat)) = false := decide_eq_false (by omega)
  have m : oMul (.int (leap : Int)) (.int 2) = some (.int ((leap * 2 : Nat) : Int)) := mul_s (y := 2) (by omega) (by omega)
  have au : augF 4 oIadd (cF (.int 1)) (E1 l a g st leap low) = .nx (E1 l a g (st + 1) leap low) := rfl
  unfold sB1
  simp -implicitDefEqProofs only [Mo.show_LS, Mo.view_LS, ↓Mo.bind_bn, ↓Mo.tos_tn, ↓Mo.sthen_sn, ↓Mo.sel_sl, Mo.bn_ok, Mo.bn_ex, Mo.tn_ok, Mo.tn_ex, Mo.sn_nx, Mo.sn_rt, Mo.sn_bk, Mo.sn_ct, Mo.sn_ex, Mo.sl_t, Mo.sl_f, Mo.vw_d, Mo.vw_w, Mo.vw_r, Mo.vwR_LS, Mo.vwR_io, Mo.vwR_lf, Mo.stays_d, Mo.stays_r, Mo.stays_t, Mo.varF_ap, Mo.varR_lf, Mo.varR_LS, Mo.varR_io, Mo.varR_ls, Mo.cF_ap, Mo.ofO_s, Mo.binV_s, Mo.bin2_ap, Mo.unV_s, Mo.un1_ap, Mo.fzE_d, Mo.fzE_r, Mo.fzR_LS, Mo.fzR_ls, Mo.fzs_n, Mo.fzs_c, Mo.vws_n, Mo.vws_c, Mo.vwsC_s, Mo.nilV_ap, Mo.stay1_t, Mo.consV_ap, Mo.okIf_T, Mo.tupF_ap, Mo.lstF_ap, Mo.frzO_ap, Mo.lfF_ap, Mo.callV_s, Mo.callF_ap, Mo.outV_r, Mo.outV_x, Mo.callD_ap, Mo.ixV_s, Mo.ixV_n, Mo.ixF_ap, Mo.noP_ap, Mo.intV_i, Mo.someP_ap, Mo.slV_s, Mo.slF_ap, Mo.boolV_b, Mo.boolF_ap, Mo.truW_s, Mo.truV_s, Mo.truF_ap, Mo.truD_b, Mo.truD_i, Mo.okB_ap, Mo.andF_ap, Mo.orF_ap, Mo.notF_ap, Mo.okV_ap, Mo.selV_b, Mo.andV_ap, Mo.orV_ap, Mo.ifF_ap, Mo.seqF_ap, Mo.nxF_ap, Mo.bkF_ap, Mo.retF_ap, Mo.exprF_ap, Mo.ofE_s, Mo.asgF_ap, Mo.asgE_ap, Mo.asgR_un, Mo.asgR_v, Mo.asgR_raw, Mo.setO_ap, Mo.ifS_ap, Mo.gNil_ap, Mo.nextE_s, Mo.gCons_ap, Mo.lsAt_ap, Mo.lsR_LS, Mo.lsR_io, Mo.lsR_ls, Mo.appF_ap, Mo.appG_s, Mo.appK_LS, Mo.okIf_le, Mo.okIf_lt, Mo.outS_nx, Mo.outS_rt, Mo.outS_ex, Mo.outI_rt, Mo.outI_nx, Mo.bTup_l, Mo.bTup_t, Mo.bInt_b, Mo.bInt_i, Mo.dropE_n, Mo.dropE_c, Mo.dropN_s, Mo.drop1R_un, Mo.drop1R_lf, Mo.restE_n, Mo.restE_c, Mo.restR_s, Mo.forF_ap, Mo.itV_s, Mo.itF_ap, Mo.argF_ap, Mo.items_l, Mo.items_t, Mo.yesF_ap, Mo.repO_ap, Mo.nilW_ap, Mo.consW_ap, Mo.parF_ap, Mo.parN_s, Mo.parE_n, Mo.parE_c, Mo.ioK_v, Mo.ioK_io, Mo.ioH_s, Mo.ioG_s, Mo.ioArg_r, Mo.joinF_ap, Mo.insF_ap, Mo.insG_s, Mo.insArg_s, Mo.insH_s, Mo.extF_ap, Mo.extG_s, Mo.extH_s, Mo.tryF_ap, Mo.tryK_nx, Mo.tryK_rt, Mo.tryK_ex, Mo.raiseF_ap, Mo.lr2F_ap, Mo.lr1F_ap, Mo.lrPi_ap, Mo.okI_tr, oAdd_i, oSub_i, oLt_i, oLe_i, oGt_i, oGe_i, oEq_i, oNe_i, len_S, List.getElem?_cons_zero, List.getElem?_cons_succ, List.set_cons_zero, List.set_cons_succ, List.map_cons, List.map_nil, List.replicate_succ, List.replicate_zero, List.cons_append, List.nil_append, List.length_cons, List.length_nil, Nat.reduceLeDiff, Nat.reduceAdd, Nat.reduceSub, Nat.zero_le, Nat.add_one_sub_one, Nat.sub_self, Nat.zero_add, decide_true, decide_false, Bool.not_true, Bool.not_false, Bool.and_self, Bool.true_and, Bool.and_true, au, it, e, m]
  rfl

theorem leap_w {l : List Nat} {a g : Nat} (hl : l.length ≤ 1000) : ∀ (n low leap st : Nat), 1 ≤ leap → l.length + 1 ≤ low + leap + n →
    whileF sT1 sB1 (E1 l a g st leap low) = .nx (E1 l a g (leaps l g n low leap st).2.2 (leaps l g n low leap st).2.1 (leaps l g n low leap st).1)
  | 0, low, leap, st, h1, h2 => by
    have e : decide (low + leap - 1 < l.length) = false := decide_eq_false (by omega)
    have t := sT1_is (l := l) (a := a) (g := g) (st := st) (low := low) h1
    rw [e] at t
    exact while_f t
  | n + 1, low, leap, st, h1, h2 => by
    have t := sT1_is (l := l) (a := a) (g := g) (st := st) (low := low) h1
    unfold leaps
    by_cases h : low + leap - 1 < l.length
    · rw [decide_eq_true h] at t
      rw [if_pos h]
      by_cases q : g ≤ gt l (low + leap - 1)
      · rw [if_pos q]
        exact while_b t (sB1_b h1 h q)
      · rw [if_neg q, while_t t (sB1_n h1 (by omega) h q)]
        exact leap_w hl n (low + leap) (leap * 2) (st + 1) (by omega) (by omega)
    · rw [decide_eq_false h] at t
      rw [if_neg h]
      exact while_f t
theorem sT2_is {l : List Nat} {a g high st leap low : Nat} {s7 : Slot} : sT2 (E2 l a g high st leap low s7) = .ok (decide (low < high)) (E2 l a g high st leap low s7) := by
  have e : (decide ((low : Int) < (high : Int))) = decide (low < high) := decide_eq_decide.mpr (by omega)
  unfold sT2
  simp -implicitDefEqProofs only [Mo.show_LS, Mo.view_LS, ↓Mo.bind_bn, ↓Mo.tos_tn, ↓Mo.sthen_sn, ↓Mo.sel_sl, Mo.bn_ok, Mo.bn_ex, Mo.tn_ok, Mo.tn_ex, Mo.sn_nx, Mo.sn_rt, Mo.sn_bk, Mo.sn_ct, Mo.sn_ex, Mo.sl_t, Mo.sl_f, Mo.vw_d, Mo.vw_w, Mo.vw_r, Mo.vwR_LS, Mo.vwR_io, Mo.vwR_lf, Mo.stays_d, Mo.stays_r, Mo.stays_t, Mo.varF_ap, Mo.varR_lf, Mo.varR_LS, Mo.varR_io, Mo.varR_ls, Mo.cF_ap, Mo.ofO_s, Mo.binV_s, Mo.bin2_ap, Mo.unV_s, Mo.un1_ap, Mo.fzE_d, Mo.fzE_r, Mo.fzR_LS, Mo.fzR_ls, Mo.fzs_n, Mo.fzs_c, Mo.vws_n, Mo.vws_c, Mo.vwsC_s, Mo.nilV_ap, Mo.stay1_t, Mo.consV_ap, Mo.okIf_T, Mo.tupF_ap, Mo.lstF_ap, Mo.frzO_ap, Mo.lfF_ap, Mo.callV_s, Mo.callF_ap, Mo.outV_r, Mo.outV_x, Mo.callD_ap, Mo.ixV_s, Mo.ixV_n, Mo.ixF_ap, Mo.noP_ap, Mo.intV_i, Mo.someP_ap, Mo.slV_s, Mo.slF_ap, Mo.boolV_b, Mo.boolF_ap, Mo.truW_s, Mo.truV_s, Mo.truF_ap, Mo.truD_b, Mo.truD_i, Mo.okB_ap, Mo.andF_ap, Mo.orF_ap, Mo.notF_ap, Mo.okV_ap, Mo.selV_b, Mo.andV_ap, Mo.orV_ap, Mo.ifF_ap, Mo.seqF_ap, Mo.nxF_ap, Mo.bkF_ap, Mo.retF_ap, Mo.exprF_ap, Mo.ofE_s, Mo.asgF_ap, Mo.asgE_ap, Mo.asgR_un, Mo.asgR_v, Mo.asgR_raw, Mo.setO_ap, Mo.ifS_ap, Mo.gNil_ap, Mo.nextE_s, Mo.gCons_ap, Mo.lsAt_ap, Mo.lsR_LS, Mo.lsR_io, Mo.lsR_ls, Mo.appF_ap, Mo.appG_s, Mo.appK_LS, Mo.okIf_le, Mo.okIf_lt, Mo.outS_nx, Mo.outS_rt, Mo.outS_ex, Mo.outI_rt, Mo.outI_nx, Mo.bTup_l, Mo.bTup_t, Mo.bInt_b, Mo.bInt_i, Mo.dropE_n, Mo.dropE_c, Mo.dropN_s, Mo.drop1R_un, Mo.drop1R_lf, Mo.restE_n, Mo.restE_c, Mo.restR_s, Mo.forF_ap, Mo.itV_s, Mo.itF_ap, Mo.argF_ap, Mo.items_l, Mo.items_t, Mo.yesF_ap, Mo.repO_ap, Mo.nilW_ap, Mo.consW_ap, Mo.parF_ap, Mo.parN_s, Mo.parE_n, Mo.parE_c, Mo.ioK_v, Mo.ioK_io, Mo.ioH_s, Mo.ioG_s, Mo.ioArg_r, Mo.joinF_ap, Mo.insF_ap, Mo.insG_s, Mo.insArg_s, Mo.insH_s, Mo.extF_ap, Mo.extG_s, Mo.extH_s, Mo.tryF_ap, Mo.tryK_nx, Mo.tryK_rt, Mo.tryK_ex, Mo.raiseF_ap, Mo.lr2F_ap, Mo.lr1F_ap, Mo.lrPi_ap, Mo.okI_tr, oAdd_i, oSub_i, oLt_i, oLe_i, oGt_i, oGe_i, oEq_i, oNe_i, len_S, List.getElem?_cons_zero, List.getElem?_cons_succ, List.set_cons_zero, List.set_cons_succ, List.map_cons, List.map_nil, List.replicate_succ, List.replicate_zero, List.cons_append, List.nil_append, List.length_cons, List.length_nil, Nat.reduceLeDiff, Nat.reduceAdd, Nat.reduceSub, Nat.zero_le, Nat.add_one_sub_one, Nat.sub_self, Nat.zero_add, decide_true, decide_false, Bool.not_true, Bool.not_false, Bool.and_self, Bool.true_and, Bool.and_true, e]
theorem sB2_is {l : List Nat} {a g high st leap low : Nat} {s7 : Slot} (l7 : Lt s7) (h1 : low < high) (h2 : high ≤ l.length) :
    sB2 (E2 l a g high st leap low s7) = .nx (if g ≤ gt l ((low + high) / 2) then E2 l a g ((low + high) / 2) (st + 1) leap low (.v (.lf (.int (((low + high) / 2 : Nat) : Int)))) else E2 l a g high (st + 1) leap ((low + high) / 2 + 1) (.v (.lf (.int (((low + high) / 2 : Nat) : Int))))) := by
  have fd : oFdiv (.int ((low : Int) + (high : Int))) (.int 2) = some (.int (((low + high) / 2 : Nat) : Int)) := by
    have h2 := log_small (x := (2 : Int)) (by show 2 < 2 ^ 100; have : (2:Nat)^100 = 1267650600228229401496703205376 := by decide
                                              omega)
    have e : ((low : Int) + (high : Int)) / 2 = (((low + high) / 2 : Nat) : Int) := by omega
    rw [← e]
    show (if 0 < (2 : Int) ∧ (2 : Int).natAbs.log2 < 9000 then some (PyData.int (((low : Int) + (high : Int)) / 2)) else none) = _
    exact if_pos ⟨by decide, by omega⟩
  have it := item_R (l := l) (i := (low + high) / 2) (by omega)
  have au : augF 4 oIadd (cF (.int 1)) (E2 l a g high st leap low (.v (.lf (.int (((low + high) / 2 : Nat) : Int))))) = .nx (E2 l a g high (st + 1) leap low (.v (.lf (.int (((low + high) / 2 : Nat) : Int))))) := rfl
  unfold sB2
  by_cases q : g ≤ gt l ((low + high) / 2)
  · have e : decide ((g : Int) ≤ (gt l ((low + high) / 2) : Nat)) = true := decide_eq_true (by omega)
    rw [if_pos q]
    rcases l7 with rfl | ⟨_, rfl⟩ <;> simp -implicitDefEqProofs only [Mo.show_LS, Mo.view_LS, ↓Mo.bind_bn, ↓Mo.tos_tn, ↓Mo.sthen_sn, ↓Mo.sel_sl, Mo.bn_ok, Mo.bn_ex, Mo.tn_ok, Mo.tn_ex, Mo.sn_nx, Mo.sn_rt, Mo.sn_bk, Mo.sn_ct, Mo.sn_ex, Mo.sl_t, Mo.sl_f, Mo.vw_d, Mo.vw_w, Mo.vw_r, Mo.vwR_LS, Mo.vwR_io, Mo.vwR_lf, Mo.stays_d, Mo.stays_r, Mo.stays_t, Mo.varF_ap, Mo.varR_lf, Mo.varR_LS, Mo.varR_io, Mo.varR_ls, Mo.cF_ap, Mo.ofO_s, Mo.binV_s, Mo.bin2_ap, Mo.unV_s, Mo.un1_ap, Mo.fzE_d, Mo.fzE_r, Mo.fzR_LS, Mo.fzR_ls, Mo.fzs_n, Mo.fzs_c, Mo.vws_n, Mo.vws_c, Mo.vwsC_s, Mo.nilV_ap, Mo.stay1_t, Mo.consV_ap, Mo.okIf_T, Mo.tupF_ap, Mo.lstF_ap, Mo.frzO_ap, Mo.lfF_ap, Mo.callV_s, Mo.callF_ap, Mo.outV_r, Mo.outV_x, Mo.callD_ap, Mo.ixV_s, Mo.ixV_n, Mo.ixF_ap, Mo.noP_ap, Mo.intV_i, Mo.someP_ap, Mo.slV_s, Mo.slF_ap, Mo.boolV_b, Mo.boolF_ap, Mo.truW_s, Mo.truV_s, Mo.truF_ap, Mo.truD_b, Mo.truD_i, Mo.okB_ap, Mo.andF_ap, Mo.orF_ap, Mo.notF_ap, Mo.okV_ap, Mo.selV_b, Mo.andV_ap, Mo.orV_ap, Mo.ifF_ap, Mo.seqF_ap, Mo.nxF_ap, Mo.bkF_ap, Mo.retF_ap, Mo.exprF_ap, Mo.ofE_s, Mo.asgF_ap, Mo.asgE_ap, Mo.asgR_un, Mo.asgR_v, Mo.asgR_raw, Mo.setO_ap, Mo.ifS_ap, Mo.gNil_ap, Mo.nextE_s, Mo.gCons_ap, Mo.lsAt_ap, Mo.lsR_LS, Mo.lsR_io, Mo.lsR_ls, Mo.appF_ap, Mo.appG_s, Mo.appK_LS, Mo.okIf_le, Mo.okIf_lt, Mo.outS_nx, Mo.outS_rt, Mo.outS_ex, Mo.outI_rt, Mo.outI_nx, Mo.bTup_l, Mo.bTup_t, Mo.bInt_b, Mo.bInt_i, Mo.dropE_n, Mo.dropE_c, Mo.dropN_s, Mo.drop1R_un, Mo.drop1R_lf, Mo.restE_n, Mo.restE_c, Mo.restR_s, Mo.forF_ap, Mo.itV_s, Mo.itF_ap, Mo.argF_ap, Mo.items_l, Mo.items_t, Mo.yesF_ap, Mo.repO_ap, Mo.nilW_ap, Mo.consW_ap, Mo.parF_ap, Mo.parN_s, Mo.parE_n, Mo.parE_c, Mo.ioK_v, Mo.ioK_io, Mo.ioH_s, Mo.ioG_s, Mo.ioArg_r, Mo.joinF_ap, Mo.insF_ap, Mo.insG_s, Mo.insArg_s, Mo.insH_s, Mo.extF_ap, Mo.extG_s, Mo.extH_s, Mo.tryF_ap, Mo.tryK_nx, Mo.tryK_rt, Mo.tryK_ex, Mo.raiseF_ap, Mo.lr2F_ap, Mo.lr1F_ap, Mo.lrPi_ap, Mo.okI_tr, oAdd_i, oSub_i, oLt_i, oLe_i, oGt_i, oGe_i, oEq_i, oNe_i, len_S, List.getElem?_cons_zero, List.getElem?_cons_succ, List.set_cons_zero, List.set_cons_succ, List.map_cons, List.map_nil, List.replicate_succ, List.replicate_zero, List.cons_append, List.nil_append, List.length_cons, List.length_nil, Nat.reduceLeDiff, Nat.reduceAdd, Nat.reduceSub, Nat.zero_le, Nat.add_one_sub_one, Nat.sub_self, Nat.zero_add, decide_true, decide_false, Bool.not_true, Bool.not_false, Bool.and_self, Bool.true_and, Bool.and_true, fd, au, it, e]
  · have e : decide ((g : Int) ≤ (gt l ((low + high) / 2) : Nat)) = false := decide_eq_false (by omega)
    rw [if_neg q]
    rcases l7 with rfl | ⟨_, rfl⟩ <;> simp -implicitDefEqProofs only [Mo.show_LS, Mo.view_LS, ↓Mo.bind_bn, ↓Mo.tos_tn, ↓Mo.sthen_sn, ↓Mo.sel_sl, Mo.bn_ok, Mo.bn_ex, Mo.tn_ok, Mo.tn_ex, Mo.sn_nx, Mo.sn_rt, Mo.sn_bk, Mo.sn_ct, Mo.sn_ex, Mo.sl_t, Mo.sl_f, Mo.vw_d, Mo.vw_w, Mo.vw_r, Mo.vwR_LS, Mo.vwR_io, Mo.vwR_lf, Mo.stays_d, Mo.stays_r, Mo.stays_t, Mo.varF_ap, Mo.varR_lf, Mo.varR_LS, Mo.varR_io, Mo.varR_ls, Mo.cF_ap, Mo.ofO_s, Mo.binV_s, Mo.bin2_ap, Mo.unV_s, Mo.un1_ap, Mo.fzE_d, Mo.fzE_r, Mo.fzR_LS, Mo.fzR_ls, Mo.fzs_n, Mo.fzs_c, Mo.vws_n, Mo.vws_c, Mo.vwsC_s, Mo.nilV_ap, Mo.stay1_t, Mo.consV_ap, Mo.okIf_T, Mo.tupF_ap, Mo.lstF_ap, Mo.frzO_ap, Mo.lfF_ap, Mo.callV_s, Mo.callF_ap, Mo.outV_r, Mo.outV_x, Mo.callD_ap, Mo.ixV_s, Mo.ixV_n, Mo.ixF_ap, Mo.noP_ap, Mo.intV_i, Mo.someP_ap, Mo.slV_s, Mo.slF_ap, Mo.boolV_b, Mo.boolF_ap, Mo.truW_s, Mo.truV_s, Mo.truF_ap, Mo.truD_b, Mo.truD_i, Mo.okB_ap, Mo.andF_ap, Mo.orF_ap, Mo.notF_ap, Mo.okV_ap, Mo.selV_b, Mo.andV_ap, Mo.orV_ap, Mo.ifF_ap, Mo.seqF_ap, Mo.nxF_ap, Mo.bkF_ap, Mo.retF_ap, Mo.exprF_ap, Mo.ofE_s, Mo.asgF_ap, Mo.asgE_ap, Mo.asgR_un, Mo.asgR_v, Mo.asgR_raw, Mo.setO_ap, Mo.ifS_ap, Mo.gNil_ap, Mo.nextE_s, Mo.gCons_ap, Mo.lsAt_ap, Mo.lsR_LS, Mo.lsR_io, Mo.lsR_ls, Mo.appF_ap, Mo.appG_s, Mo.appK_LS, Mo.okIf_le, Mo.okIf_lt, Mo.outS_nx, Mo.outS_rt, Mo.outS_ex, Mo.outI_rt, Mo.outI_nx, Mo.bTup_l, Mo.bTup_t, Mo.bInt_b, Mo.bInt_i, Mo.dropE_n, Mo.dropE_c, Mo.dropN_s, Mo.drop1R_un, Mo.drop1R_lf, Mo.restE_n, Mo.restE_c, Mo.restR_s, Mo.forF_ap, Mo.itV_s, Mo.itF_ap, Mo.argF_ap, Mo.items_l, Mo.items_t, Mo.yesF_ap, Mo.repO_ap, Mo.nilW_ap, Mo.consW_ap, Mo.parF_ap, Mo.parN_s, Mo.parE_n, Mo.parE_c, Mo.ioK_v, Mo.ioK_io, Mo.ioH_s, Mo.ioG_s, Mo.ioArg_r, Mo.joinF_ap, Mo.insF_ap, Mo.insG_s, Mo.insArg_s, Mo.insH_s, Mo.extF_ap, Mo.extG_s, Mo.extH_s, Mo.tryF_ap, Mo.tryK_nx, Mo.tryK_rt, Mo.tryK_ex, Mo.raiseF_ap, Mo.lr2F_ap, Mo.lr1F_ap, Mo.lrPi_ap, Mo.okI_tr, oAdd_i, oSub_i, oLt_i, oLe_i, oGt_i, oGe_i, oEq_i, oNe_i, len_S, List.getElem?_cons_zero, List.getElem?_cons_succ, List.set_cons_zero, List.set_cons_succ, List.map_cons, List.map_nil, List.replicate_succ, List.replicate_zero, List.cons_append, List.nil_append, List.length_cons, List.length_nil, Nat.reduceLeDiff, Nat.reduceAdd, Nat.reduceSub, Nat.zero_le, Nat.add_one_sub_one, Nat.sub_self, Nat.zero_add, decide_true, decide_false, Bool.not_true, Bool.not_false, Bool.and_self, Bool.true_and, Bool.and_true, fd, au, it, e] <;> rfl
theorem halve_w {l : List Nat} {a g leap : Nat} : ∀ (n low high st : Nat) (s7 : Slot), Lt s7 → high ≤ l.length → high - low ≤ n →
    ∃ high' t7, whileF sT2 sB2 (E2 l a g high st leap low s7) = .nx (E2 l a g high' (halves l g n low high st).2 leap (halves l g n low high st).1 t7)
  | 0, low, high, st, s7, l7, h1, h2 => by
    have t := sT2_is (l := l) (a := a) (g := g) (st := st) (low := low) (high := high) (leap := leap) (s7 := s7)
    rw [decide_eq_false (by omega)] at t
    exact ⟨high, s7, while_f t⟩
  | n + 1, low, high, st, s7, l7, h1, h2 => by
    have t := sT2_is (l := l) (a := a) (g := g) (st := st) (low := low) (high := high) (leap := leap) (s7 := s7)
    unfold halves
    by_cases h : low < high
    · rw [decide_eq_true h] at t
      rw [if_pos h]
      rw [while_t t (sB2_is l7 h h1)]
      by_cases q : g ≤ gt l ((low + high) / 2)
      · rw [if_pos q, if_pos q]
        exact halve_w n low ((low + high) / 2) (st + 1) _ .v (by omega) (by omega)
      · rw [if_neg q, if_neg q]
        exact halve_w n ((low + high) / 2 + 1) high (st + 1) _ .v h1 (by omega)
    · rw [decide_eq_false h] at t
      rw [if_neg h]
      exact ⟨high, s7, while_f t⟩
theorem leaps_pos {l : List Nat} {g : Nat} : ∀ (n low leap st : Nat), 1 ≤ leap → 1 ≤ (leaps l g n low leap st).2.1
  | 0, _, _, _, h => h
  | n + 1, low, leap, st, h => by
    unfold leaps
    split
    · split
      · exact h
      · exact leaps_pos n _ _ _ (by omega)
    · exact h
theorem seek_is {c : Cs} {l : List Nat} {a g : Nat} (hl : l.length ≤ 40) : f_seek c [R l, .int (a : Nat), .int (g : Nat)] = .ret (.tuple [.int ((seekM l a g).1 : Nat), .int ((seekM l a g).2 : Nat)]) := by
  have w1 := leap_w (l := l) (a := a) (g := g) (by omega) 59 a 1 0 (Nat.le_refl _) (by omega)
  have hh : hi l a g ≤ l.length := Nat.min_le_right _ _
  obtain ⟨h', t7, w2⟩ := halve_w (l := l) (a := a) (g := g) (leap   := (lp l a g).2.1) 60 (lp l a g).1 (hi l a g) (lp l a g).2.2 .un .un hh (by omega)
  have ge1 : 1 ≤ (lp l a g).2.1 := leaps_pos 59 a 1 0 (Nat.le_refl _)
  have w1' : whileF sT1 sB1 [.v (.lf (R l)), .v (.lf (.int (a : Nat))), .v (.lf (.int (g : Nat))), .un, .v (.lf (.int 0)), .v (.lf (.int 1)), .v (.lf (.int (a : Nat))), .un] = .nx (E1 l a g (lp l a g).2.2 (lp l a g).2.1 (lp l a g).1) := w1
  have mn : bMin [.int (((lp l a g).1 : Int) + ((lp l a g).2.1 : Int) - 1), .int (l.length : Nat)] = some (.int (hi l a g : Nat)) := by
    show some (PyData.int (if (l.length : Int) < ((lp l a g).1 : Int) + ((lp l a g).2.1 : Int) - 1 then (l.length : Int) else ((lp l a g).1 : Int) + ((lp l a g).2.1 : Int) - 1)) = _
    unfold hi
    congr 2
    split <;> omega
  have eg : g_seek c = seqF (parF [4, 5, 6] (consW (lfF (cF (.int 0))) (consW (lfF (cF (.int 1))) (consW (lfF (varF 1)) nilW)))) (seqF (whileF sT1 sB1) (seqF (asgF (asgE 3) (callF bMin (consV true (bin2 true oSub (bin2 true oAdd (varF 6) (varF 5)) (cF (.int 1))) (consV true (callF bLen (consV true (varF 0) nilV)) nilV)))) (seqF (whileF sT2 sB2) (retF (tupF (consV true (varF 6) (consV true (varF 4) nilV))))))) := rfl
  unfold f_seek
  rw [eg]
  refine (funF_ap rfl).trans ?_
  simp -implicitDefEqProofs only [Mo.show_LS, Mo.view_LS, ↓Mo.bind_bn, ↓Mo.tos_tn, ↓Mo.sthen_sn, ↓Mo.sel_sl, Mo.bn_ok, Mo.bn_ex, Mo.tn_ok, Mo.tn_ex, Mo.sn_nx, Mo.sn_rt, Mo.sn_bk, Mo.sn_ct, Mo.sn_ex, Mo.sl_t, Mo.sl_f, Mo.vw_d, Mo.vw_w, Mo.vw_r, Mo.vwR_LS, Mo.vwR_io, Mo.vwR_lf, Mo.stays_d, Mo.stays_r, Mo.stays_t, Mo.varF_ap, Mo.varR_lf, Mo.varR_LS, Mo.varR_io, Mo.varR_ls, Mo.cF_ap, Mo.ofO_s, Mo.binV_s, Mo.bin2_ap, Mo.unV_s, Mo.un1_ap, Mo.fzE_d, Mo.fzE_r, Mo.fzR_LS, Mo.fzR_ls, Mo.fzs_n, Mo.fzs_c, Mo.vws_n, Mo.vws_c, Mo.vwsC_s, Mo.nilV_ap, Mo.stay1_t, Mo.consV_ap, Mo.okIf_T, Mo.tupF_ap, Mo.lstF_ap, Mo.frzO_ap, Mo.lfF_ap, Mo.callV_s, Mo.callF_ap, Mo.outV_r, Mo.outV_x, Mo.callD_ap, Mo.ixV_s, Mo.ixV_n, Mo.ixF_ap, Mo.noP_ap, Mo.intV_i, Mo.someP_ap, Mo.slV_s, Mo.slF_ap, Mo.boolV_b, Mo.boolF_ap, Mo.truW_s, Mo.truV_s, Mo.truF_ap, Mo.truD_b, Mo.truD_i, Mo.okB_ap, Mo.andF_ap, Mo.orF_ap, Mo.notF_ap, Mo.okV_ap, Mo.selV_b, Mo.andV_ap, Mo.orV_ap, Mo.ifF_ap, Mo.seqF_ap, Mo.nxF_ap, Mo.bkF_ap, Mo.retF_ap, Mo.exprF_ap, Mo.ofE_s, Mo.asgF_ap, Mo.asgE_ap, Mo.asgR_un, Mo.asgR_v, Mo.asgR_raw, Mo.setO_ap, Mo.ifS_ap, Mo.gNil_ap, Mo.nextE_s, Mo.gCons_ap, Mo.lsAt_ap, Mo.lsR_LS, Mo.lsR_io, Mo.lsR_ls, Mo.appF_ap, Mo.appG_s, Mo.appK_LS, Mo.okIf_le, Mo.okIf_lt, Mo.outS_nx, Mo.outS_rt, Mo.outS_ex, Mo.outI_rt, Mo.outI_nx, Mo.bTup_l, Mo.bTup_t, Mo.bInt_b, Mo.bInt_i, Mo.dropE_n, Mo.dropE_c, Mo.dropN_s, Mo.drop1R_un, Mo.drop1R_lf, Mo.restE_n, Mo.restE_c, Mo.restR_s, Mo.forF_ap, Mo.itV_s, Mo.itF_ap, Mo.argF_ap, Mo.items_l, Mo.items_t, Mo.yesF_ap, Mo.repO_ap, Mo.nilW_ap, Mo.consW_ap, Mo.parF_ap, Mo.parN_s, Mo.parE_n, Mo.parE_c, Mo.ioK_v, Mo.ioK_io, Mo.ioH_s, Mo.ioG_s, Mo.ioArg_r, Mo.joinF_ap, Mo.insF_ap, Mo.insG_s, Mo.insArg_s, Mo.insH_s, Mo.extF_ap, Mo.extG_s, Mo.extH_s, Mo.tryF_ap, Mo.tryK_nx, Mo.tryK_rt, Mo.tryK_ex, Mo.raiseF_ap, Mo.lr2F_ap, Mo.lr1F_ap, Mo.lrPi_ap, Mo.okI_tr, oAdd_i, oSub_i, oLt_i, oLe_i, oGt_i, oGe_i, oEq_i, oNe_i, len_S, List.getElem?_cons_zero, List.getElem?_cons_succ, List.set_cons_zero, List.set_cons_succ, List.map_cons, List.map_nil, List.replicate_succ, List.replicate_zero, List.cons_append, List.nil_append, List.length_cons, List.length_nil, Nat.reduceLeDiff, Nat.reduceAdd, Nat.reduceSub, Nat.zero_le, Nat.add_one_sub_one, Nat.sub_self, Nat.zero_add, decide_true, decide_false, Bool.not_true, Bool.not_false, Bool.and_self, Bool.true_and, Bool.and_true, w1', len_R, mn, w2]
  rfl
end K88

/-! So88: the law's own seek, told. -/
namespace K88
open PySem PySem.Spec PyProof.Rows L2 Mo
noncomputable def oB1 : Mo.Env → SRes := (ifS (andF (boolF (bin2 true oIs (varF 7) (cF .none))) (boolF (bin2 true oGe (bin2 true oSub (bin2 true oAdd (varF 5) (varF 6)) (cF (.int 1))) (callF bLen (consV true (varF 0) nilV))))) (asgF (asgE 7) (callF bLen (consV true (varF 0) nilV))) (ifS (boolF (bin2 true oIs (varF 7) (cF .none))) (seqF (asgF (asgE 4) (bin2 true oAdd (varF 4) (cF (.int 1))))
    (ifS (boolF (bin2 true oGe (ixF true (varF 0) (bin2 true oSub (bin2 true oAdd (varF 5) (varF 6)) (cF (.int 1)))) (varF 2))) (asgF (asgE 7) (bin2 true oSub (bin2 true oAdd (varF 5) (varF 6)) (cF (.int 1)))) (parF [5, 6] (consW (lfF (bin2 true oAdd (varF 5) (varF 6))) (consW (lfF (bin2 true oMul (cF (.int 2)) (varF 6))) nilW))))) nxF))
noncomputable def oB2 : Mo.Env → SRes := (ifS (boolF (bin2 true oLt (varF 5) (varF 7))) (seqF (parF [4, 8] (consW (lfF (bin2 true oAdd (varF 4) (cF (.int 1)))) (consW (lfF (bin2 true oFdiv (bin2 true oAdd (varF 5) (varF 7)) (cF (.int 2)))) nilW)))
    (asgF (unpE 2 (gConsE (asgE 5) (gConsE (asgE 7) gNilE))) (ifF (boolF (bin2 true oGe (ixF true (varF 0) (varF 8)) (varF 2))) (tupF (consV true (varF 5) (consV true (varF 8) nilV))) (tupF (consV true (bin2 true oAdd (varF 8) (cF (.int 1))) (consV true (varF 7) nilV)))))) nxF)
abbrev E3 (l : List Nat) (a g : Nat) (s3 : Slot) (st low leap : Nat) (e : PyData) (s8 : Slot) : Mo.Env := [.v (.lf (R l)), .v (.lf (.int (a : Nat))), .v (.lf (.int (g : Nat))), s3, .v (.lf (.int (st : Nat))), .v (.lf (.int (low : Nat))), .v (.lf (.int (leap : Nat))), .v (.lf e), s8]
theorem is_nn : oIs .none .none = some (.bool true) := rfl
theorem is_in {i : Int} : oIs (.int i) .none = some (.bool false) := rfl
section
variable {l : List Nat} {a g st low leap : Nat} {d : PyData} {s8 : Slot}
theorem oB1_end {e : Nat} : oB1 (E3 l a g (.v (.lf d)) st low leap (.int (e : Nat)) s8) = .nx (E3 l a g (.v (.lf d)) st low leap (.int (e : Nat)) s8) := by
  unfold oB1
  simp -implicitDefEqProofs only [Mo.show_LS, Mo.view_LS, ↓Mo.bind_bn, ↓Mo.tos_tn, ↓Mo.sthen_sn, ↓Mo.sel_sl, Mo.bn_ok, Mo.bn_ex, Mo.tn_ok, Mo.tn_ex, Mo.sn_nx, Mo.sn_rt, Mo.sn_bk, Mo.sn_ct, Mo.sn_ex, Mo.sl_t, Mo.sl_f, Mo.vw_d, Mo.vw_w, Mo.vw_r, Mo.vwR_LS, Mo.vwR_io, Mo.vwR_lf, Mo.stays_d, Mo.stays_r, Mo.stays_t, Mo.varF_ap, Mo.varR_lf, Mo.varR_LS, Mo.varR_io, Mo.varR_ls, Mo.cF_ap, Mo.ofO_s, Mo.binV_s, Mo.bin2_ap, Mo.unV_s, Mo.un1_ap, Mo.fzE_d, Mo.fzE_r, Mo.fzR_LS, Mo.fzR_ls, Mo.fzs_n, Mo.fzs_c, Mo.vws_n, Mo.vws_c, Mo.vwsC_s, Mo.nilV_ap, Mo.stay1_t, Mo.consV_ap, Mo.okIf_T, Mo.tupF_ap, Mo.lstF_ap, Mo.frzO_ap, Mo.lfF_ap, Mo.callV_s, Mo.callF_ap, Mo.outV_r, Mo.outV_x, Mo.callD_ap, Mo.ixV_s, Mo.ixV_n, Mo.ixF_ap, Mo.noP_ap, Mo.intV_i, Mo.someP_ap, Mo.slV_s, Mo.slF_ap, Mo.boolV_b, Mo.boolF_ap, Mo.truW_s, Mo.truV_s, Mo.truF_ap, Mo.truD_b, Mo.truD_i, Mo.okB_ap, Mo.andF_ap, Mo.orF_ap, Mo.notF_ap, Mo.okV_ap, Mo.selV_b, Mo.andV_ap, Mo.orV_ap, Mo.ifF_ap, Mo.seqF_ap, Mo.nxF_ap, Mo.bkF_ap, Mo.retF_ap, Mo.exprF_ap, Mo.ofE_s, Mo.asgF_ap, Mo.asgE_ap, Mo.asgR_un, Mo.asgR_v, Mo.asgR_raw, Mo.setO_ap, Mo.ifS_ap, Mo.gNil_ap, Mo.nextE_s, Mo.gCons_ap, Mo.lsAt_ap, Mo.lsR_LS, Mo.lsR_io, Mo.lsR_ls, Mo.appF_ap, Mo.appG_s, Mo.appK_LS, Mo.okIf_le, Mo.okIf_lt, Mo.outS_nx, Mo.outS_rt, Mo.outS_ex, Mo.outI_rt, Mo.outI_nx, Mo.bTup_l, Mo.bTup_t, Mo.bInt_b, Mo.bInt_i, Mo.dropE_n, Mo.dropE_c, Mo.dropN_s, Mo.drop1R_un, Mo.drop1R_lf, Mo.restE_n, Mo.restE_c, Mo.restR_s, Mo.forF_ap, Mo.itV_s, Mo.itF_ap, Mo.argF_ap, Mo.items_l, Mo.items_t, Mo.yesF_ap, Mo.repO_ap, Mo.nilW_ap, Mo.consW_ap, Mo.parF_ap, Mo.parN_s, Mo.parE_n, Mo.parE_c, Mo.ioK_v, Mo.ioK_io, Mo.ioH_s, Mo.ioG_s, Mo.ioArg_r, Mo.joinF_ap, Mo.insF_ap, Mo.insG_s, Mo.insArg_s, Mo.insH_s, Mo.extF_ap, Mo.extG_s, Mo.extH_s, Mo.tryF_ap, Mo.tryK_nx, Mo.tryK_rt, Mo.tryK_ex, Mo.raiseF_ap, Mo.lr2F_ap, Mo.lr1F_ap, Mo.lrPi_ap, Mo.okI_tr, oAdd_i, oSub_i, oLt_i, oLe_i, oGt_i, oGe_i, oEq_i, oNe_i, len_S, List.getElem?_cons_zero, List.getElem?_cons_succ, List.set_cons_zero, List.set_cons_succ, List.map_cons, List.map_nil, List.replicate_succ, List.replicate_zero, List.cons_append, List.nil_append, List.length_cons, List.length_nil, Nat.reduceLeDiff, Nat.reduceAdd, Nat.reduceSub, Nat.zero_le, Nat.add_one_sub_one, Nat.sub_self, Nat.zero_add, decide_true, decide_false, Bool.not_true, Bool.not_false, Bool.and_self, Bool.true_and, Bool.and_true, is_in]
theorem oB1_out (h : 1 ≤ leap) (hl : ¬ low + leap - 1 < l.length) : oB1 (E3 l a g (.v (.lf d)) st low leap .none s8) = .nx (E3 l a g (.v (.lf d)) st low leap (.int (l.length : Nat)) s8) := by
  have e : decide ((l.length : Int) ≤ (low : Int) + (leap : Int) - 1) = true := decide_eq_true (by omega)
  unfold oB1
  simp -implicitDefEqProofs only [Mo.show_LS, Mo.view_LS, ↓Mo.bind_bn, ↓Mo.tos_tn, ↓Mo.sthen_sn, ↓Mo.sel_sl, Mo.bn_ok, Mo.bn_ex, Mo.tn_ok, Mo.tn_ex, Mo.sn_nx, Mo.sn_rt, Mo.sn_bk, Mo.sn_ct, Mo.sn_ex, Mo.sl_t, Mo.sl_f, Mo.vw_d, Mo.vw_w, Mo.vw_r, Mo.vwR_LS, Mo.vwR_io, Mo.vwR_lf, Mo.stays_d, Mo.stays_r, Mo.stays_t, Mo.varF_ap, Mo.varR_lf, Mo.varR_LS, Mo.varR_io, Mo.varR_ls, Mo.cF_ap, Mo.ofO_s, Mo.binV_s, Mo.bin2_ap, Mo.unV_s, Mo.un1_ap, Mo.fzE_d, Mo.fzE_r, Mo.fzR_LS, Mo.fzR_ls, Mo.fzs_n, Mo.fzs_c, Mo.vws_n, Mo.vws_c, Mo.vwsC_s, Mo.nilV_ap, Mo.stay1_t, Mo.consV_ap, Mo.okIf_T, Mo.tupF_ap, Mo.lstF_ap, Mo.frzO_ap, Mo.lfF_ap, Mo.callV_s, Mo.callF_ap, Mo.outV_r, Mo.outV_x, Mo.callD_ap, Mo.ixV_s, Mo.ixV_n, Mo.ixF_ap, Mo.noP_ap, Mo.intV_i, Mo.someP_ap, Mo.slV_s, Mo.slF_ap, Mo.boolV_b, Mo.boolF_ap, Mo.truW_s, Mo.truV_s, Mo.truF_ap, Mo.truD_b, Mo.truD_i, Mo.okB_ap, Mo.andF_ap, Mo.orF_ap, Mo.notF_ap, Mo.okV_ap, Mo.selV_b, Mo.andV_ap, Mo.orV_ap, Mo.ifF_ap, Mo.seqF_ap, Mo.nxF_ap, Mo.bkF_ap, Mo.retF_ap, Mo.exprF_ap, Mo.ofE_s, Mo.asgF_ap, Mo.asgE_ap, Mo.asgR_un, Mo.asgR_v, Mo.asgR_raw, Mo.setO_ap, Mo.ifS_ap, Mo.gNil_ap, Mo.nextE_s, Mo.gCons_ap, Mo.lsAt_ap, Mo.lsR_LS, Mo.lsR_io, Mo.lsR_ls, Mo.appF_ap, Mo.appG_s, Mo.appK_LS, Mo.okIf_le, Mo.okIf_lt, Mo.outS_nx, Mo.outS_rt, Mo.outS_ex, Mo.outI_rt, Mo.outI_nx, Mo.bTup_l, Mo.bTup_t, Mo.bInt_b, Mo.bInt_i, Mo.dropE_n, Mo.dropE_c, Mo.dropN_s, Mo.drop1R_un, Mo.drop1R_lf, Mo.restE_n, Mo.restE_c, Mo.restR_s, Mo.forF_ap, Mo.itV_s, Mo.itF_ap, Mo.argF_ap, Mo.items_l, Mo.items_t, Mo.yesF_ap, Mo.repO_ap, Mo.nilW_ap, Mo.consW_ap, Mo.parF_ap, Mo.parN_s, Mo.parE_n, Mo.parE_c, Mo.ioK_v, Mo.ioK_io, Mo.ioH_s, Mo.ioG_s, Mo.ioArg_r, Mo.joinF_ap, Mo.insF_ap, Mo.insG_s, Mo.insArg_s, Mo.insH_s, Mo.extF_ap, Mo.extG_s, Mo.extH_s, Mo.tryF_ap, Mo.tryK_nx, Mo.tryK_rt, Mo.tryK_ex, Mo.raiseF_ap, Mo.lr2F_ap, Mo.lr1F_ap, Mo.lrPi_ap, Mo.okI_tr, oAdd_i, oSub_i, oLt_i, oLe_i, oGt_i, oGe_i, oEq_i, oNe_i, len_S, List.getElem?_cons_zero, List.getElem?_cons_succ, List.set_cons_zero, List.set_cons_succ, List.map_cons, List.map_nil, List.replicate_succ, List.replicate_zero, List.cons_append, List.nil_append, List.length_cons, List.length_nil, Nat.reduceLeDiff, Nat.reduceAdd, Nat.reduceSub, Nat.zero_le, Nat.add_one_sub_one, Nat.sub_self, Nat.zero_add, decide_true, decide_false, Bool.not_true, Bool.not_false, Bool.and_self, Bool.true_and, Bool.and_true, is_nn, len_R, e]
theorem oB1_hit (h : 1 ≤ leap) (hl : low + leap - 1 < l.length) (q : g ≤ gt l (low + leap - 1)) : oB1 (E3 l a g (.v (.lf d)) st low leap .none s8) = .nx (E3 l a g (.v (.lf d)) (st + 1) low leap (.int ((low + leap - 1 : Nat) : Int)) s8) := by
  have e : decide ((l.length : Int) ≤ (low : Int) + (leap : Int) - 1) = false := decide_eq_false (by omega)
  have it : oItem (R l) (.int ((low : Int) + (leap : Int) - 1)) = some (.int (gt l (low + leap - 1) : Nat)) := by
    rw [← item_R hl]
    congr 2
    omega
  have e2 : decide ((g : Int) ≤ (gt l (low + leap - 1) : Nat)) = true := decide_eq_true (by omega)
  have e3 : (low : Int) + (leap : Int) - 1 = ((low + leap - 1 : Nat) : Int) := by omega
  unfold oB1
  simp -implicitDefEqProofs only [Mo.show_LS, Mo.view_LS, ↓Mo.bind_bn, ↓Mo.tos_tn, ↓Mo.sthen_sn, ↓Mo.sel_sl, Mo.bn_ok, Mo.bn_ex, Mo.tn_ok, Mo.tn_ex, Mo.sn_nx, Mo.sn_rt, Mo.sn_bk, Mo.sn_ct, Mo.sn_ex, Mo.sl_t, Mo.sl_f, Mo.vw_d, Mo.vw_w, Mo.vw_r, Mo.vwR_LS, Mo.vwR_io, Mo.vwR_lf, Mo.stays_d, Mo.stays_r, Mo.stays_t, Mo.varF_ap, Mo.varR_lf, Mo.varR_LS, Mo.varR_io, Mo.varR_ls, Mo.cF_ap, Mo.ofO_s, Mo.binV_s, Mo.bin2_ap, Mo.unV_s, Mo.un1_ap, Mo.fzE_d, Mo.fzE_r, Mo.fzR_LS, Mo.fzR_ls, Mo.fzs_n, Mo.fzs_c, Mo.vws_n, Mo.vws_c, Mo.vwsC_s, Mo.nilV_ap, Mo.stay1_t, Mo.consV_ap, Mo.okIf_T, Mo.tupF_ap, Mo.lstF_ap, Mo.frzO_ap, Mo.lfF_ap, Mo.callV_s, Mo.callF_ap, Mo.outV_r, Mo.outV_x, Mo.callD_ap, Mo.ixV_s, Mo.ixV_n, Mo.ixF_ap, Mo.noP_ap, Mo.intV_i, Mo.someP_ap, Mo.slV_s, Mo.slF_ap, Mo.boolV_b, Mo.boolF_ap, Mo.truW_s, Mo.truV_s, Mo.truF_ap, Mo.truD_b, Mo.truD_i, Mo.okB_ap, Mo.andF_ap, Mo.orF_ap, Mo.notF_ap, Mo.okV_ap, Mo.selV_b, Mo.andV_ap, Mo.orV_ap, Mo.ifF_ap, Mo.seqF_ap, Mo.nxF_ap, Mo.bkF_ap, Mo.retF_ap, Mo.exprF_ap, Mo.ofE_s, Mo.asgF_ap, Mo.asgE_ap, Mo.asgR_un, Mo.asgR_v, Mo.asgR_raw, Mo.setO_ap, Mo.ifS_ap, Mo.gNil_ap, Mo.nextE_s, Mo.gCons_ap, Mo.lsAt_ap, Mo.lsR_LS, Mo.lsR_io, Mo.lsR_ls, Mo.appF_ap, Mo.appG_s, Mo.appK_LS, Mo.okIf_le, Mo.okIf_lt, Mo.outS_nx, Mo.outS_rt, Mo.outS_ex, Mo.outI_rt, Mo.outI_nx, Mo.bTup_l, Mo.bTup_t, Mo.bInt_b, Mo.bInt_i, Mo.dropE_n, Mo.dropE_c, Mo.dropN_s, Mo.drop1R_un, Mo.drop1R_lf, Mo.restE_n, Mo.restE_c, Mo.restR_s, Mo.forF_ap, Mo.itV_s, Mo.itF_ap, Mo.argF_ap, Mo.items_l, Mo.items_t, Mo.yesF_ap, Mo.repO_ap, Mo.nilW_ap, Mo.consW_ap, Mo.parF_ap, Mo.parN_s, Mo.parE_n, Mo.parE_c, Mo.ioK_v, Mo.ioK_io, Mo.ioH_s, Mo.ioG_s, Mo.ioArg_r, Mo.joinF_ap, Mo.insF_ap, Mo.insG_s, Mo.insArg_s, Mo.insH_s, Mo.extF_ap, Mo.extG_s, Mo.extH_s, Mo.tryF_ap, Mo.tryK_nx, Mo.tryK_rt, Mo.tryK_ex, Mo.raiseF_ap, Mo.lr2F_ap, Mo.lr1F_ap, Mo.lrPi_ap, Mo.okI_tr, oAdd_i, oSub_i, oLt_i, oLe_i, oGt_i, oGe_i, oEq_i, oNe_i, len_S, List.getElem?_cons_zero, List.getElem?_cons_succ, List.set_cons_zero, List.set_cons_succ, List.map_cons, List.map_nil, List.replicate_succ, List.replicate_zero, List.cons_append, List.nil_append, List.length_cons, List.length_nil, Nat.reduceLeDiff, Nat.reduceAdd, Nat.reduceSub, Nat.zero_le, Nat.add_one_sub_one, Nat.sub_self, Nat.zero_add, decide_true, decide_false, Bool.not_true, Bool.not_false, Bool.and_self, Bool.true_and, Bool.and_true, is_nn, len_R, e, it, e2]
  rw [e3]
  rfl
theorem oB1_on (h : 1 ≤ leap) (h2 : leap ≤ 100000) (hl : low + leap - 1 < l.length) (q : ¬ g ≤ gt l (low + leap - 1)) : oB1 (E3 l a g (.v (.lf d)) st low leap .none s8) = .nx (E3 l a g (.v (.lf d)) (st + 1) (low + leap) (leap * 2) .none s8) := by
  have e : decide ((l.length : Int) ≤ (low : Int) + (leap : Int) - 1) = false := decide_eq_false (by omega)
  have it : oItem (R l) (.int ((low : Int) + (leap : Int) - 1)) = some (.int (gt l (low + leap - 1) : Nat)) := by
    rw [← item_R hl]
    congr 2
    omega
  have e2 : decide ((g : Int) ≤ (gt l (low + leap - 1) : Nat)) = false := decide_eq_false (by omega)
  have m : oMul (.int 2) (.int (leap : Int)) = some (.int ((leap * 2 : Nat) : Int)) := by
    rw [Nat.mul_comm]
    exact mul_s (x := 2) (by omega) (by omega)
  unfold oB1
  simp -implicitDefEqProofs only [Mo.show_LS, Mo.view_LS, ↓Mo.bind_bn, ↓Mo.tos_tn, ↓Mo.sthen_sn, ↓Mo.sel_sl, Mo.bn_ok, Mo.bn_ex, Mo.tn_ok, Mo.tn_ex, Mo.sn_nx, Mo.sn_rt, Mo.sn_bk, Mo.sn_ct, Mo.sn_ex, Mo.sl_t, Mo.sl_f, Mo.vw_d, Mo.vw_w, Mo.vw_r, Mo.vwR_LS, Mo.vwR_io, Mo.vwR_lf, Mo.stays_d, Mo.stays_r, Mo.stays_t, Mo.varF_ap, Mo.varR_lf, Mo.varR_LS, Mo.varR_io, Mo.varR_ls, Mo.cF_ap, Mo.ofO_s, Mo.binV_s, Mo.bin2_ap, Mo.unV_s, Mo.un1_ap, Mo.fzE_d, Mo.fzE_r, Mo.fzR_LS, Mo.fzR_ls, Mo.fzs_n, Mo.fzs_c, Mo.vws_n, Mo.vws_c, Mo.vwsC_s, Mo.nilV_ap, Mo.stay1_t, Mo.consV_ap, Mo.okIf_T, Mo.tupF_ap, Mo.lstF_ap, Mo.frzO_ap, Mo.lfF_ap, Mo.callV_s, Mo.callF_ap, Mo.outV_r, Mo.outV_x, Mo.callD_ap, Mo.ixV_s, Mo.ixV_n, Mo.ixF_ap, Mo.noP_ap, Mo.intV_i, Mo.someP_ap, Mo.slV_s, Mo.slF_ap, Mo.boolV_b, Mo.boolF_ap, Mo.truW_s, Mo.truV_s, Mo.truF_ap, Mo.truD_b, Mo.truD_i, Mo.okB_ap, Mo.andF_ap, Mo.orF_ap, Mo.notF_ap, Mo.okV_ap, Mo.selV_b, Mo.andV_ap, Mo.orV_ap, Mo.ifF_ap, Mo.seqF_ap, Mo.nxF_ap, Mo.bkF_ap, Mo.retF_ap, Mo.exprF_ap, Mo.ofE_s, Mo.asgF_ap, Mo.asgE_ap, Mo.asgR_un, Mo.asgR_v, Mo.asgR_raw, Mo.setO_ap, Mo.ifS_ap, Mo.gNil_ap, Mo.nextE_s, Mo.gCons_ap, Mo.lsAt_ap, Mo.lsR_LS, Mo.lsR_io, Mo.lsR_ls, Mo.appF_ap, Mo.appG_s, Mo.appK_LS, Mo.okIf_le, Mo.okIf_lt, Mo.outS_nx, Mo.outS_rt, Mo.outS_ex, Mo.outI_rt, Mo.outI_nx, Mo.bTup_l, Mo.bTup_t, Mo.bInt_b, Mo.bInt_i, Mo.dropE_n, Mo.dropE_c, Mo.dropN_s, Mo.drop1R_un, Mo.drop1R_lf, Mo.restE_n, Mo.restE_c, Mo.restR_s, Mo.forF_ap, Mo.itV_s, Mo.itF_ap, Mo.argF_ap, Mo.items_l, Mo.items_t, Mo.yesF_ap, Mo.repO_ap, Mo.nilW_ap, Mo.consW_ap, Mo.parF_ap, Mo.parN_s, Mo.parE_n, Mo.parE_c, Mo.ioK_v, Mo.ioK_io, Mo.ioH_s, Mo.ioG_s, Mo.ioArg_r, Mo.joinF_ap, Mo.insF_ap, Mo.insG_s, Mo.insArg_s, Mo.insH_s, Mo.extF_ap, Mo.extG_s, Mo.extH_s, Mo.tryF_ap, Mo.tryK_nx, Mo.tryK_rt, Mo.tryK_ex, Mo.raiseF_ap, Mo.lr2F_ap, Mo.lr1F_ap, Mo.lrPi_ap, Mo.okI_tr, oAdd_i, oSub_i, oLt_i, oLe_i, oGt_i, oGe_i, oEq_i, oNe_i, len_S, List.getElem?_cons_zero, List.getElem?_cons_succ, List.set_cons_zero, List.set_cons_succ, List.map_cons, List.map_nil, List.replicate_succ, List.replicate_zero, List.cons_append, List.nil_append, List.length_cons, List.length_nil, Nat.reduceLeDiff, Nat.reduceAdd, Nat.reduceSub, Nat.zero_le, Nat.add_one_sub_one, Nat.sub_self, Nat.zero_add, decide_true, decide_false, Bool.not_true, Bool.not_false, Bool.and_self, Bool.true_and, Bool.and_true, is_nn, len_R, e, it, e2, m]
  rfl
theorem tg3 {s3 : Slot} {e : PyData} (l3 : Lt s3) : asgE 3 d (E3 l a g s3 st low leap e s8) = some (E3 l a g (.v (.lf d)) st low leap e s8) := by
  rcases l3 with rfl | ⟨_, rfl⟩ <;> rfl
end
theorem so_end {l : List Nat} {a g st low leap e : Nat} {s8 : Slot} : ∀ (ds : List PyData) (s3 : Slot), Lt s3 → ∃ t3, Lt t3 ∧ forGo (asgE 3) oB1 ds (E3 l a g s3 st low leap (.int (e : Nat)) s8) = .nx (E3 l a g t3 st low leap (.int (e : Nat)) s8)
  | [], s3, l3 => ⟨s3, l3, forGo_nil⟩
  | d :: ds, s3, l3 => by
    rw [forGo_nx (tg3 l3) oB1_end]
    exact so_end ds _ .v
theorem so_one {l : List Nat} {a g : Nat} {s8 : Slot} (hl : l.length ≤ 1000) : ∀ (m : Nat) (ds : List PyData) (low leap st : Nat) (s3 : Slot), Lt s3 → 1 ≤ leap → l.length + 1 ≤ low + leap + m → ds.length = m + 1 →
    ∃ t3, Lt t3 ∧ forGo (asgE 3) oB1 ds (E3 l a g s3 st low leap .none s8) = .nx (E3 l a g t3 (leaps l g m low leap st).2.2 (leaps l g m low leap st).1 (leaps l g m low leap st).2.1 (.int (min ((leaps l g m low leap st).1 + (leaps l g m low leap st).2.1 - 1) l.length : Nat)) s8)
  | m, [], _, _, _, _, _, _, _, h => by simp at h
  | 0, d :: ds, low, leap, st, s3, l3, h1, h2, h3 => by
    have n : ¬ low + leap - 1 < l.length := by omega
    rw [forGo_nx (tg3 l3) (oB1_out h1 n)]
    have e : min (low + leap - 1) l.length = l.length := by omega
    show ∃ t3, Lt t3 ∧ _ = SRes.nx (E3 l a g t3 st low leap (.int (min (low + leap - 1) l.length : Nat)) s8)
    rw [e]
    exact so_end ds _ .v
  | m + 1, d :: ds, low, leap, st, s3, l3, h1, h2, h3 => by
    have h3' : ds.length = m + 1 := by simpa using h3
    unfold leaps
    by_cases h : low + leap - 1 < l.length
    · rw [if_pos h]
      by_cases q : g ≤ gt l (low + leap - 1)
      · rw [if_pos q, forGo_nx (tg3 l3) (oB1_hit h1 h q)]
        have e : min (low + leap - 1) l.length = low + leap - 1 := by omega
        show ∃ t3, Lt t3 ∧ _ = SRes.nx (E3 l a g t3 (st + 1) low leap (.int (min (low + leap - 1) l.length : Nat)) s8)
        rw [e]
        exact so_end ds _ .v
      · rw [if_neg q, forGo_nx (tg3 l3) (oB1_on h1 (by omega) h q)]
        exact so_one hl m ds (low + leap) (leap * 2) (st + 1) _ .v (by omega) (by omega) h3'
    · rw [if_neg h, forGo_nx (tg3 l3) (oB1_out h1 h)]
      have e : min (low + leap - 1) l.length = l.length := by omega
      show ∃ t3, Lt t3 ∧ _ = SRes.nx (E3 l a g t3 st low leap (.int (min (low + leap - 1) l.length : Nat)) s8)
      rw [e]
      exact so_end ds _ .v
section
variable {l : List Nat} {a g st low leap high : Nat} {d : PyData} {s8 : Slot}
theorem oB2_no (h : ¬ low < high) : oB2 (E3 l a g (.v (.lf d)) st low leap (.int (high : Nat)) s8) = .nx (E3 l a g (.v (.lf d)) st low leap (.int (high : Nat)) s8) := by
  have e : decide ((low : Int) < (high : Int)) = false := decide_eq_false (by omega)
  unfold oB2
  simp -implicitDefEqProofs only [Mo.show_LS, Mo.view_LS, ↓Mo.bind_bn, ↓Mo.tos_tn, ↓Mo.sthen_sn, ↓Mo.sel_sl, Mo.bn_ok, Mo.bn_ex, Mo.tn_ok, Mo.tn_ex, Mo.sn_nx, Mo.sn_rt, Mo.sn_bk, Mo.sn_ct, Mo.sn_ex, Mo.sl_t, Mo.sl_f, Mo.vw_d, Mo.vw_w, Mo.vw_r, Mo.vwR_LS, Mo.vwR_io, Mo.vwR_lf, Mo.stays_d, Mo.stays_r, Mo.stays_t, Mo.varF_ap, Mo.varR_lf, Mo.varR_LS, Mo.varR_io, Mo.varR_ls, Mo.cF_ap, Mo.ofO_s, Mo.binV_s, Mo.bin2_ap, Mo.unV_s, Mo.un1_ap, Mo.fzE_d, Mo.fzE_r, Mo.fzR_LS, Mo.fzR_ls, Mo.fzs_n, Mo.fzs_c, Mo.vws_n, Mo.vws_c, Mo.vwsC_s, Mo.nilV_ap, Mo.stay1_t, Mo.consV_ap, Mo.okIf_T, Mo.tupF_ap, Mo.lstF_ap, Mo.frzO_ap, Mo.lfF_ap, Mo.callV_s, Mo.callF_ap, Mo.outV_r, Mo.outV_x, Mo.callD_ap, Mo.ixV_s, Mo.ixV_n, Mo.ixF_ap, Mo.noP_ap, Mo.intV_i, Mo.someP_ap, Mo.slV_s, Mo.slF_ap, Mo.boolV_b, Mo.boolF_ap, Mo.truW_s, Mo.truV_s, Mo.truF_ap, Mo.truD_b, Mo.truD_i, Mo.okB_ap, Mo.andF_ap, Mo.orF_ap, Mo.notF_ap, Mo.okV_ap, Mo.selV_b, Mo.andV_ap, Mo.orV_ap, Mo.ifF_ap, Mo.seqF_ap, Mo.nxF_ap, Mo.bkF_ap, Mo.retF_ap, Mo.exprF_ap, Mo.ofE_s, Mo.asgF_ap, Mo.asgE_ap, Mo.asgR_un, Mo.asgR_v, Mo.asgR_raw, Mo.setO_ap, Mo.ifS_ap, Mo.gNil_ap, Mo.nextE_s, Mo.gCons_ap, Mo.lsAt_ap, Mo.lsR_LS, Mo.lsR_io, Mo.lsR_ls, Mo.appF_ap, Mo.appG_s, Mo.appK_LS, Mo.okIf_le, Mo.okIf_lt, Mo.outS_nx, Mo.outS_rt, Mo.outS_ex, Mo.outI_rt, Mo.outI_nx, Mo.bTup_l, Mo.bTup_t, Mo.bInt_b, Mo.bInt_i, Mo.dropE_n, Mo.dropE_c, Mo.dropN_s, Mo.drop1R_un, Mo.drop1R_lf, Mo.restE_n, Mo.restE_c, Mo.restR_s, Mo.forF_ap, Mo.itV_s, Mo.itF_ap, Mo.argF_ap, Mo.items_l, Mo.items_t, Mo.yesF_ap, Mo.repO_ap, Mo.nilW_ap, Mo.consW_ap, Mo.parF_ap, Mo.parN_s, Mo.parE_n, Mo.parE_c, Mo.ioK_v, Mo.ioK_io, Mo.ioH_s, Mo.ioG_s, Mo.ioArg_r, Mo.joinF_ap, Mo.insF_ap, Mo.insG_s, Mo.insArg_s, Mo.insH_s, Mo.extF_ap, Mo.extG_s, Mo.extH_s, Mo.tryF_ap, Mo.tryK_nx, Mo.tryK_rt, Mo.tryK_ex, Mo.raiseF_ap, Mo.lr2F_ap, Mo.lr1F_ap, Mo.lrPi_ap, Mo.okI_tr, oAdd_i, oSub_i, oLt_i, oLe_i, oGt_i, oGe_i, oEq_i, oNe_i, len_S, List.getElem?_cons_zero, List.getElem?_cons_succ, List.set_cons_zero, List.set_cons_succ, List.map_cons, List.map_nil, List.replicate_succ, List.replicate_zero, List.cons_append, List.nil_append, List.length_cons, List.length_nil, Nat.reduceLeDiff, Nat.reduceAdd, Nat.reduceSub, Nat.zero_le, Nat.add_one_sub_one, Nat.sub_self, Nat.zero_add, decide_true, decide_false, Bool.not_true, Bool.not_false, Bool.and_self, Bool.true_and, Bool.and_true, e]
theorem fd2 {low high : Nat} : oFdiv (.int ((low : Int) + (high : Int))) (.int 2) = some (.int (((low + high) / 2 : Nat) : Int)) := by
  have h2 := log_small (x := (2 : Int)) (by show 2 < 2 ^ 100; have : (2:Nat)^100 = 1267650600228229401496703205376 := by decide
                                            omega)
  have e : ((low : Int) + (high : Int)) / 2 = (((low + high) / 2 : Nat) : Int) := by omega
  rw [← e]
  show (if 0 < (2 : Int) ∧ (2 : Int).natAbs.log2 < 9000 then some (PyData.int (((low : Int) + (high : Int)) / 2)) else none) = _
  exact if_pos ⟨by decide, by omega⟩
theorem oB2_yes (l8 : Lt s8) (h : low < high) (hh : high ≤ l.length) (q : g ≤ gt l ((low + high) / 2)) : oB2 (E3 l a g (.v (.lf d)) st low leap (.int (high : Nat)) s8) = .nx (E3 l a g (.v (.lf d)) (st + 1) low leap (.int (((low + high) / 2 : Nat) : Int)) (.v (.lf (.int (((low + high) / 2 : Nat) : Int))))) := by
  have e : decide ((low : Int) < (high : Int)) = true := decide_eq_true (by omega)
  have it := item_R (l := l) (i := (low + high) / 2) (by omega)
  have e2 : decide ((g : Int) ≤ (gt l ((low + high) / 2) : Nat)) = true := decide_eq_true (by omega)
  unfold oB2
  rcases l8 with rfl | ⟨_, rfl⟩ <;> simp -implicitDefEqProofs only [Mo.show_LS, Mo.view_LS, ↓Mo.bind_bn, ↓Mo.tos_tn, ↓Mo.sthen_sn, ↓Mo.sel_sl, Mo.bn_ok, Mo.bn_ex, Mo.tn_ok, Mo.tn_ex, Mo.sn_nx, Mo.sn_rt, Mo.sn_bk, Mo.sn_ct, Mo.sn_ex, Mo.sl_t, Mo.sl_f, Mo.vw_d, Mo.vw_w, Mo.vw_r, Mo.vwR_LS, Mo.vwR_io, Mo.vwR_lf, Mo.stays_d, Mo.stays_r, Mo.stays_t, Mo.varF_ap, Mo.varR_lf, Mo.varR_LS, Mo.varR_io, Mo.varR_ls, Mo.cF_ap, Mo.ofO_s, Mo.binV_s, Mo.bin2_ap, Mo.unV_s, Mo.un1_ap, Mo.fzE_d, Mo.fzE_r, Mo.fzR_LS, Mo.fzR_ls, Mo.fzs_n, Mo.fzs_c, Mo.vws_n, Mo.vws_c, Mo.vwsC_s, Mo.nilV_ap, Mo.stay1_t, Mo.consV_ap, Mo.okIf_T, Mo.tupF_ap, Mo.lstF_ap, Mo.frzO_ap, Mo.lfF_ap, Mo.callV_s, Mo.callF_ap, Mo.outV_r, Mo.outV_x, Mo.callD_ap, Mo.ixV_s, Mo.ixV_n, Mo.ixF_ap, Mo.noP_ap, Mo.intV_i, Mo.someP_ap, Mo.slV_s, Mo.slF_ap, Mo.boolV_b, Mo.boolF_ap, Mo.truW_s, Mo.truV_s, Mo.truF_ap, Mo.truD_b, Mo.truD_i, Mo.okB_ap, Mo.andF_ap, Mo.orF_ap, Mo.notF_ap, Mo.okV_ap, Mo.selV_b, Mo.andV_ap, Mo.orV_ap, Mo.ifF_ap, Mo.seqF_ap, Mo.nxF_ap, Mo.bkF_ap, Mo.retF_ap, Mo.exprF_ap, Mo.ofE_s, Mo.asgF_ap, Mo.asgE_ap, Mo.asgR_un, Mo.asgR_v, Mo.asgR_raw, Mo.setO_ap, Mo.ifS_ap, Mo.gNil_ap, Mo.nextE_s, Mo.gCons_ap, Mo.lsAt_ap, Mo.lsR_LS, Mo.lsR_io, Mo.lsR_ls, Mo.appF_ap, Mo.appG_s, Mo.appK_LS, Mo.okIf_le, Mo.okIf_lt, Mo.outS_nx, Mo.outS_rt, Mo.outS_ex, Mo.outI_rt, Mo.outI_nx, Mo.bTup_l, Mo.bTup_t, Mo.bInt_b, Mo.bInt_i, Mo.dropE_n, Mo.dropE_c, Mo.dropN_s, Mo.drop1R_un, Mo.drop1R_lf, Mo.restE_n, Mo.restE_c, Mo.restR_s, Mo.forF_ap, Mo.itV_s, Mo.itF_ap, Mo.argF_ap, Mo.items_l, Mo.items_t, Mo.yesF_ap, Mo.repO_ap, Mo.nilW_ap, Mo.consW_ap, Mo.parF_ap, Mo.parN_s, Mo.parE_n, Mo.parE_c, Mo.ioK_v, Mo.ioK_io, Mo.ioH_s, Mo.ioG_s, Mo.ioArg_r, Mo.joinF_ap, Mo.insF_ap, Mo.insG_s, Mo.insArg_s, Mo.insH_s, Mo.extF_ap, Mo.extG_s, Mo.extH_s, Mo.tryF_ap, Mo.tryK_nx, Mo.tryK_rt, Mo.tryK_ex, Mo.raiseF_ap, Mo.lr2F_ap, Mo.lr1F_ap, Mo.lrPi_ap, Mo.okI_tr, oAdd_i, oSub_i, oLt_i, oLe_i, oGt_i, oGe_i, oEq_i, oNe_i, len_S, List.getElem?_cons_zero, List.getElem?_cons_succ, List.set_cons_zero, List.set_cons_succ, List.map_cons, List.map_nil, List.replicate_succ, List.replicate_zero, List.cons_append, List.nil_append, List.length_cons, List.length_nil, Nat.reduceLeDiff, Nat.reduceAdd, Nat.reduceSub, Nat.zero_le, Nat.add_one_sub_one, Nat.sub_self, Nat.zero_add, decide_true, decide_false, Bool.not_true, Bool.not_false, Bool.and_self, Bool.true_and, Bool.and_true, e, fd2, it, e2] <;> rfl
theorem oB2_on (l8 : Lt s8) (h : low < high) (hh : high ≤ l.length) (q : ¬ g ≤ gt l ((low + high) / 2)) : oB2 (E3 l a g (.v (.lf d)) st low leap (.int (high : Nat)) s8) = .nx (E3 l a g (.v (.lf d)) (st + 1) ((low + high) / 2 + 1) leap (.int (high : Nat)) (.v (.lf (.int (((low + high) / 2 : Nat) : Int))))) := by
  have e : decide ((low : Int) < (high : Int)) = true := decide_eq_true (by omega)
  have it := item_R (l := l) (i := (low + high) / 2) (by omega)
  have e2 : decide ((g : Int) ≤ (gt l ((low + high) / 2) : Nat)) = false := decide_eq_false (by omega)
  unfold oB2
  rcases l8 with rfl | ⟨_, rfl⟩ <;> simp -implicitDefEqProofs only [Mo.show_LS, Mo.view_LS, ↓Mo.bind_bn, ↓Mo.tos_tn, ↓Mo.sthen_sn, ↓Mo.sel_sl, Mo.bn_ok, Mo.bn_ex, Mo.tn_ok, Mo.tn_ex, Mo.sn_nx, Mo.sn_rt, Mo.sn_bk, Mo.sn_ct, Mo.sn_ex, Mo.sl_t, Mo.sl_f, Mo.vw_d, Mo.vw_w, Mo.vw_r, Mo.vwR_LS, Mo.vwR_io, Mo.vwR_lf, Mo.stays_d, Mo.stays_r, Mo.stays_t, Mo.varF_ap, Mo.varR_lf, Mo.varR_LS, Mo.varR_io, Mo.varR_ls, Mo.cF_ap, Mo.ofO_s, Mo.binV_s, Mo.bin2_ap, Mo.unV_s, Mo.un1_ap, Mo.fzE_d, Mo.fzE_r, Mo.fzR_LS, Mo.fzR_ls, Mo.fzs_n, Mo.fzs_c, Mo.vws_n, Mo.vws_c, Mo.vwsC_s, Mo.nilV_ap, Mo.stay1_t, Mo.consV_ap, Mo.okIf_T, Mo.tupF_ap, Mo.lstF_ap, Mo.frzO_ap, Mo.lfF_ap, Mo.callV_s, Mo.callF_ap, Mo.outV_r, Mo.outV_x, Mo.callD_ap, Mo.ixV_s, Mo.ixV_n, Mo.ixF_ap, Mo.noP_ap, Mo.intV_i, Mo.someP_ap, Mo.slV_s, Mo.slF_ap, Mo.boolV_b, Mo.boolF_ap, Mo.truW_s, Mo.truV_s, Mo.truF_ap, Mo.truD_b, Mo.truD_i, Mo.okB_ap, Mo.andF_ap, Mo.orF_ap, Mo.notF_ap, Mo.okV_ap, Mo.selV_b, Mo.andV_ap, Mo.orV_ap, Mo.ifF_ap, Mo.seqF_ap, Mo.nxF_ap, Mo.bkF_ap, Mo.retF_ap, Mo.exprF_ap, Mo.ofE_s, Mo.asgF_ap, Mo.asgE_ap, Mo.asgR_un, Mo.asgR_v, Mo.asgR_raw, Mo.setO_ap, Mo.ifS_ap, Mo.gNil_ap, Mo.nextE_s, Mo.gCons_ap, Mo.lsAt_ap, Mo.lsR_LS, Mo.lsR_io, Mo.lsR_ls, Mo.appF_ap, Mo.appG_s, Mo.appK_LS, Mo.okIf_le, Mo.okIf_lt, Mo.outS_nx, Mo.outS_rt, Mo.outS_ex, Mo.outI_rt, Mo.outI_nx, Mo.bTup_l, Mo.bTup_t, Mo.bInt_b, Mo.bInt_i, Mo.dropE_n, Mo.dropE_c, Mo.dropN_s, Mo.drop1R_un, Mo.drop1R_lf, Mo.restE_n, Mo.restE_c, Mo.restR_s, Mo.forF_ap, Mo.itV_s, Mo.itF_ap, Mo.argF_ap, Mo.items_l, Mo.items_t, Mo.yesF_ap, Mo.repO_ap, Mo.nilW_ap, Mo.consW_ap, Mo.parF_ap, Mo.parN_s, Mo.parE_n, Mo.parE_c, Mo.ioK_v, Mo.ioK_io, Mo.ioH_s, Mo.ioG_s, Mo.ioArg_r, Mo.joinF_ap, Mo.insF_ap, Mo.insG_s, Mo.insArg_s, Mo.insH_s, Mo.extF_ap, Mo.extG_s, Mo.extH_s, Mo.tryF_ap, Mo.tryK_nx, Mo.tryK_rt, Mo.tryK_ex, Mo.raiseF_ap, Mo.lr2F_ap, Mo.lr1F_ap, Mo.lrPi_ap, Mo.okI_tr, oAdd_i, oSub_i, oLt_i, oLe_i, oGt_i, oGe_i, oEq_i, oNe_i, len_S, List.getElem?_cons_zero, List.getElem?_cons_succ, List.set_cons_zero, List.set_cons_succ, List.map_cons, List.map_nil, List.replicate_succ, List.replicate_zero, List.cons_append, List.nil_append, List.length_cons, List.length_nil, Nat.reduceLeDiff, Nat.reduceAdd, Nat.reduceSub, Nat.zero_le, Nat.add_one_sub_one, Nat.sub_self, Nat.zero_add, decide_true, decide_false, Bool.not_true, Bool.not_false, Bool.and_self, Bool.true_and, Bool.and_true, e, fd2, it, e2] <;> rfl
end
theorem so_done {l : List Nat} {a g st low leap high : Nat} {s8 : Slot} (h : ¬ low < high) : ∀ (ds : List PyData) (s3 : Slot), Lt s3 → ∃ t3, Lt t3 ∧ forGo (asgE 3) oB2 ds (E3 l a g s3 st low leap (.int (high : Nat)) s8) = .nx (E3 l a g t3 st low leap (.int (high : Nat)) s8)
  | [], s3, l3 => ⟨s3, l3, forGo_nil⟩
  | d :: ds, s3, l3 => by
    rw [forGo_nx (tg3 l3) (oB2_no h)]
    exact so_done h ds _ .v
theorem so_two {l : List Nat} {a g leap : Nat} : ∀ (n : Nat) (ds : List PyData) (low high st : Nat) (s3 s8 : Slot), Lt s3 → Lt s8 → high ≤ l.length → high - low ≤ n → ds.length = n →
    ∃ t3 t8 h', forGo (asgE 3) oB2 ds (E3 l a g s3 st low leap (.int (high : Nat)) s8) = .nx (E3 l a g t3 (halves l g n low high st).2 (halves l g n low high st).1 leap (.int (h' : Nat)) t8)
  | 0, ds, low, high, st, s3, s8, l3, l8, h1, h2, h3 => by
    have : ds = [] := List.length_eq_zero_iff.mp h3
    subst this
    exact ⟨s3, s8, high, forGo_nil⟩
  | n + 1, [], _, _, _, _, _, _, _, _, _, h3 => by simp at h3
  | n + 1, d :: ds, low, high, st, s3, s8, l3, l8, h1, h2, h3 => by
    have h3' : ds.length = n := by simpa using h3
    unfold halves
    by_cases h : low < high
    · rw [if_pos h]
      by_cases q : g ≤ gt l ((low + high) / 2)
      · rw [if_pos q, forGo_nx (tg3 l3) (oB2_yes l8 h h1 q)]
        exact so_two n ds low ((low + high) / 2) (st + 1) _ _ .v .v (by omega) (by omega) h3'
      · rw [if_neg q, forGo_nx (tg3 l3) (oB2_on l8 h h1 q)]
        exact so_two n ds ((low + high) / 2 + 1) high (st + 1) _ _ .v .v h1 (by omega) h3'
    · rw [if_neg h]
      obtain ⟨t3, _, e⟩ := so_done (l := l) (a := a) (g := g) (st := st) (leap := leap) (s8 := s8) h (d :: ds) s3 l3
      exact ⟨t3, s8, high, e⟩
theorem sought_is {c : Cs} {l : List Nat} {a g : Nat} (hl : l.length ≤ 40) : f_l_sought c [R l, .int (a : Nat), .int (g : Nat)] = .ret (.tuple [.int ((seekM l a g).1 : Nat), .int ((seekM l a g).2 : Nat)]) := by
  obtain ⟨t3, lt3, w1⟩ := so_one (l := l) (a := a) (g := g) (s8 := .un) (by omega) 59 (rngD 0 60) a 1 0 .un .un (Nat.le_refl _) (by omega) (by simp [rngD])
  have hh : hi l a g ≤ l.length := Nat.min_le_right _ _
  obtain ⟨u3, u8, h', w2⟩ := so_two (l := l) (a := a) (g := g) (leap := (lp l a g).2.1) 60 (rngD 0 60) (lp l a g).1 (hi l a g) (lp l a g).2.2 t3 .un lt3 .un hh (by omega) (by simp [rngD])
  have w1' : forGo (asgE 3) oB1 (rngD 0 60) [.v (.lf (R l)), .v (.lf (.int (a : Nat))), .v (.lf (.int (g : Nat))), .un, .v (.lf (.int 0)), .v (.lf (.int (a : Nat))), .v (.lf (.int 1)), .v (.lf .none), .un] = .nx (E3 l a g t3 (lp l a g).2.2 (lp l a g).1 (lp l a g).2.1 (.int (hi l a g : Nat)) .un) := w1
  have rg : rg1 [.int 60] = some (rngD 0 60) := rfl
  have eg : g_l_sought c = seqF (parF [4, 5, 6, 7] (consW (lfF (cF (.int 0))) (consW (lfF (varF 1)) (consW (lfF (cF (.int 1))) (consW (lfF (cF .none)) nilW))))) (seqF (forF (argF rg1 (consV true (cF (.int 60)) nilV)) (asgE 3) oB1) (seqF (forF (argF rg1 (consV true (cF (.int 60)) nilV)) (asgE 3) oB2) (retF (tupF (consV true (varF 5) (consV true (varF 4) nilV)))))) := rfl
  unfold f_l_sought
  rw [eg]
  refine (funF_ap rfl).trans ?_
  simp -implicitDefEqProofs only [Mo.show_LS, Mo.view_LS, ↓Mo.bind_bn, ↓Mo.tos_tn, ↓Mo.sthen_sn, ↓Mo.sel_sl, Mo.bn_ok, Mo.bn_ex, Mo.tn_ok, Mo.tn_ex, Mo.sn_nx, Mo.sn_rt, Mo.sn_bk, Mo.sn_ct, Mo.sn_ex, Mo.sl_t, Mo.sl_f, Mo.vw_d, Mo.vw_w, Mo.vw_r, Mo.vwR_LS, Mo.vwR_io, Mo.vwR_lf, Mo.stays_d, Mo.stays_r, Mo.stays_t, Mo.varF_ap, Mo.varR_lf, Mo.varR_LS, Mo.varR_io, Mo.varR_ls, Mo.cF_ap, Mo.ofO_s, Mo.binV_s, Mo.bin2_ap, Mo.unV_s, Mo.un1_ap, Mo.fzE_d, Mo.fzE_r, Mo.fzR_LS, Mo.fzR_ls, Mo.fzs_n, Mo.fzs_c, Mo.vws_n, Mo.vws_c, Mo.vwsC_s, Mo.nilV_ap, Mo.stay1_t, Mo.consV_ap, Mo.okIf_T, Mo.tupF_ap, Mo.lstF_ap, Mo.frzO_ap, Mo.lfF_ap, Mo.callV_s, Mo.callF_ap, Mo.outV_r, Mo.outV_x, Mo.callD_ap, Mo.ixV_s, Mo.ixV_n, Mo.ixF_ap, Mo.noP_ap, Mo.intV_i, Mo.someP_ap, Mo.slV_s, Mo.slF_ap, Mo.boolV_b, Mo.boolF_ap, Mo.truW_s, Mo.truV_s, Mo.truF_ap, Mo.truD_b, Mo.truD_i, Mo.okB_ap, Mo.andF_ap, Mo.orF_ap, Mo.notF_ap, Mo.okV_ap, Mo.selV_b, Mo.andV_ap, Mo.orV_ap, Mo.ifF_ap, Mo.seqF_ap, Mo.nxF_ap, Mo.bkF_ap, Mo.retF_ap, Mo.exprF_ap, Mo.ofE_s, Mo.asgF_ap, Mo.asgE_ap, Mo.asgR_un, Mo.asgR_v, Mo.asgR_raw, Mo.setO_ap, Mo.ifS_ap, Mo.gNil_ap, Mo.nextE_s, Mo.gCons_ap, Mo.lsAt_ap, Mo.lsR_LS, Mo.lsR_io, Mo.lsR_ls, Mo.appF_ap, Mo.appG_s, Mo.appK_LS, Mo.okIf_le, Mo.okIf_lt, Mo.outS_nx, Mo.outS_rt, Mo.outS_ex, Mo.outI_rt, Mo.outI_nx, Mo.bTup_l, Mo.bTup_t, Mo.bInt_b, Mo.bInt_i, Mo.dropE_n, Mo.dropE_c, Mo.dropN_s, Mo.drop1R_un, Mo.drop1R_lf, Mo.restE_n, Mo.restE_c, Mo.restR_s, Mo.forF_ap, Mo.itV_s, Mo.itF_ap, Mo.argF_ap, Mo.items_l, Mo.items_t, Mo.yesF_ap, Mo.repO_ap, Mo.nilW_ap, Mo.consW_ap, Mo.parF_ap, Mo.parN_s, Mo.parE_n, Mo.parE_c, Mo.ioK_v, Mo.ioK_io, Mo.ioH_s, Mo.ioG_s, Mo.ioArg_r, Mo.joinF_ap, Mo.insF_ap, Mo.insG_s, Mo.insArg_s, Mo.insH_s, Mo.extF_ap, Mo.extG_s, Mo.extH_s, Mo.tryF_ap, Mo.tryK_nx, Mo.tryK_rt, Mo.tryK_ex, Mo.raiseF_ap, Mo.lr2F_ap, Mo.lr1F_ap, Mo.lrPi_ap, Mo.okI_tr, oAdd_i, oSub_i, oLt_i, oLe_i, oGt_i, oGe_i, oEq_i, oNe_i, len_S, List.getElem?_cons_zero, List.getElem?_cons_succ, List.set_cons_zero, List.set_cons_succ, List.map_cons, List.map_nil, List.replicate_succ, List.replicate_zero, List.cons_append, List.nil_append, List.length_cons, List.length_nil, Nat.reduceLeDiff, Nat.reduceAdd, Nat.reduceSub, Nat.zero_le, Nat.add_one_sub_one, Nat.sub_self, Nat.zero_add, decide_true, decide_false, Bool.not_true, Bool.not_false, Bool.and_self, Bool.true_and, Bool.and_true, rg, w1', w2]
  rfl
end K88

/-! Me88: met, both, the power told. -/
namespace K88
open PySem PySem.Spec PyProof.Rows L2 Mo
def en (n : Nat) : PyData := .int (n : Nat)
theorem R_is (l : List Nat) : R l = .tuple (l.map en) := rfl
noncomputable def mT : Mo.Env → Res Bool := (andF (boolF (bin2 true oLt (varF 4) (callF bLen (consV true (varF 0) nilV)))) (boolF (bin2 true oLt (varF 5) (callF bLen (consV true (varF 1) nilV)))))
noncomputable def mB (c : Cs) : Mo.Env → SRes := (ifS (boolF (bin2 true oEq (ixF true (varF 0) (varF 4)) (ixF true (varF 1) (varF 5)))) (seqF (exprF (appF 2 (lfF (ixF true (varF 0) (varF 4)))))
    (parF [4, 5] (consW (lfF (bin2 true oAdd (varF 4) (cF (.int 1)))) (consW (lfF (bin2 true oAdd (varF 5) (cF (.int 1)))) nilW)))) (ifS (boolF (bin2 true oLt (ixF true (varF 0) (varF 4)) (ixF true (varF 1) (varF 5)))) (seqF (asgF (unpE 2 (gConsE (asgE 4) (gConsE (asgE 6) gNilE))) (callD (f_seek c) (consV true (varF 0) (consV true (varF 4) (consV true (ixF true (varF 1) (varF 5)) nilV)))))
    (augF 3 oIadd (varF 6))) (seqF (asgF (unpE 2 (gConsE (asgE 5) (gConsE (asgE 6) gNilE))) (callD (f_seek c) (consV true (varF 1) (consV true (varF 5) (consV true (ixF true (varF 0) (varF 4)) nilV)))))
    (augF 3 oIadd (varF 6)))))
abbrev EM (a b : List Nat) (s : M) (s6 : Slot) : Mo.Env := [.v (.lf (R a)), .v (.lf (R b)), .v (LS (s.1.map en)), .v (.lf (.int (s.2.1 : Nat))), .v (.lf (.int (s.2.2.1 : Nat))), .v (.lf (.int (s.2.2.2 : Nat))), s6]
theorem mT_is {a b : List Nat} {f : List Nat} {st h t : Nat} {s6 : Slot} : mT (EM a b (f, st, h, t) s6) = .ok (decide (h < a.length ∧ t < b.length)) (EM a b (f, st, h, t) s6) := by
  have e1 : decide ((h : Int) < (a.length : Int)) = decide (h < a.length) := decide_eq_decide.mpr (by omega)
  have e2 : decide ((t : Int) < (b.length : Int)) = decide (t < b.length) := decide_eq_decide.mpr (by omega)
  unfold mT
  by_cases c1 : h < a.length
  · by_cases c2 : t < b.length
    · rw [decide_eq_true c1] at e1
      rw [decide_eq_true c2] at e2
      rw [decide_eq_true (show h < a.length ∧ t < b.length from ⟨c1, c2⟩)]
      simp -implicitDefEqProofs only [Mo.show_LS, Mo.view_LS, ↓Mo.bind_bn, ↓Mo.tos_tn, ↓Mo.sthen_sn, ↓Mo.sel_sl, Mo.bn_ok, Mo.bn_ex, Mo.tn_ok, Mo.tn_ex, Mo.sn_nx, Mo.sn_rt, Mo.sn_bk, Mo.sn_ct, Mo.sn_ex, Mo.sl_t, Mo.sl_f, Mo.vw_d, Mo.vw_w, Mo.vw_r, Mo.vwR_LS, Mo.vwR_io, Mo.vwR_lf, Mo.stays_d, Mo.stays_r, Mo.stays_t, Mo.varF_ap, Mo.varR_lf, Mo.varR_LS, Mo.varR_io, Mo.varR_ls, Mo.cF_ap, Mo.ofO_s, Mo.binV_s, Mo.bin2_ap, Mo.unV_s, Mo.un1_ap, Mo.fzE_d, Mo.fzE_r, Mo.fzR_LS, Mo.fzR_ls, Mo.fzs_n, Mo.fzs_c, Mo.vws_n, Mo.vws_c, Mo.vwsC_s, Mo.nilV_ap, Mo.stay1_t, Mo.consV_ap, Mo.okIf_T, Mo.tupF_ap, Mo.lstF_ap, Mo.frzO_ap, Mo.lfF_ap, Mo.callV_s, Mo.callF_ap, Mo.outV_r, Mo.outV_x, Mo.callD_ap, Mo.ixV_s, Mo.ixV_n, Mo.ixF_ap, Mo.noP_ap, Mo.intV_i, Mo.someP_ap, Mo.slV_s, Mo.slF_ap, Mo.boolV_b, Mo.boolF_ap, Mo.truW_s, Mo.truV_s, Mo.truF_ap, Mo.truD_b, Mo.truD_i, Mo.okB_ap, Mo.andF_ap, Mo.orF_ap, Mo.notF_ap, Mo.okV_ap, Mo.selV_b, Mo.andV_ap, Mo.orV_ap, Mo.ifF_ap, Mo.seqF_ap, Mo.nxF_ap, Mo.bkF_ap, Mo.retF_ap, Mo.exprF_ap, Mo.ofE_s, Mo.asgF_ap, Mo.asgE_ap, Mo.asgR_un, Mo.asgR_v, Mo.asgR_raw, Mo.setO_ap, Mo.ifS_ap, Mo.gNil_ap, Mo.nextE_s, Mo.gCons_ap, Mo.lsAt_ap, Mo.lsR_LS, Mo.lsR_io, Mo.lsR_ls, Mo.appF_ap, Mo.appG_s, Mo.appK_LS, Mo.okIf_le, Mo.okIf_lt, Mo.outS_nx, Mo.outS_rt, Mo.outS_ex, Mo.outI_rt, Mo.outI_nx, Mo.bTup_l, Mo.bTup_t, Mo.bInt_b, Mo.bInt_i, Mo.dropE_n, Mo.dropE_c, Mo.dropN_s, Mo.drop1R_un, Mo.drop1R_lf, Mo.restE_n, Mo.restE_c, Mo.restR_s, Mo.forF_ap, Mo.itV_s, Mo.itF_ap, Mo.argF_ap, Mo.items_l, Mo.items_t, Mo.yesF_ap, Mo.repO_ap, Mo.nilW_ap, Mo.consW_ap, Mo.parF_ap, Mo.parN_s, Mo.parE_n, Mo.parE_c, Mo.ioK_v, Mo.ioK_io, Mo.ioH_s, Mo.ioG_s, Mo.ioArg_r, Mo.joinF_ap, Mo.insF_ap, Mo.insG_s, Mo.insArg_s, Mo.insH_s, Mo.extF_ap, Mo.extG_s, Mo.extH_s, Mo.tryF_ap, Mo.tryK_nx, Mo.tryK_rt, Mo.tryK_ex, Mo.raiseF_ap, Mo.lr2F_ap, Mo.lr1F_ap, Mo.lrPi_ap, Mo.okI_tr, oAdd_i, oSub_i, oLt_i, oLe_i, oGt_i, oGe_i, oEq_i, oNe_i, len_S, List.getElem?_cons_zero, List.getElem?_cons_succ, List.set_cons_zero, List.set_cons_succ, List.map_cons, List.map_nil, List.replicate_succ, List.replicate_zero, List.cons_append, List.nil_append, List.length_cons, List.length_nil, Nat.reduceLeDiff, Nat.reduceAdd, Nat.reduceSub, Nat.zero_le, Nat.add_one_sub_one, Nat.sub_self, Nat.zero_add, decide_true, decide_false, Bool.not_true, Bool.not_false, Bool.and_self, Bool.true_and, Bool.and_true, len_R, e1, e2]
    · rw [decide_eq_true c1] at e1
      rw [decide_eq_false c2] at e2
      rw [decide_eq_false (show ¬ (h < a.length ∧ t < b.length) from fun z => c2 z.2)]
      simp -implicitDefEqProofs only [Mo.show_LS, Mo.view_LS, ↓Mo.bind_bn, ↓Mo.tos_tn, ↓Mo.sthen_sn, ↓Mo.sel_sl, Mo.bn_ok, Mo.bn_ex, Mo.tn_ok, Mo.tn_ex, Mo.sn_nx, Mo.sn_rt, Mo.sn_bk, Mo.sn_ct, Mo.sn_ex, Mo.sl_t, Mo.sl_f, Mo.vw_d, Mo.vw_w, Mo.vw_r, Mo.vwR_LS, Mo.vwR_io, Mo.vwR_lf, Mo.stays_d, Mo.stays_r, Mo.stays_t, Mo.varF_ap, Mo.varR_lf, Mo.varR_LS, Mo.varR_io, Mo.varR_ls, Mo.cF_ap, Mo.ofO_s, Mo.binV_s, Mo.bin2_ap, Mo.unV_s, Mo.un1_ap, Mo.fzE_d, Mo.fzE_r, Mo.fzR_LS, Mo.fzR_ls, Mo.fzs_n, Mo.fzs_c, Mo.vws_n, Mo.vws_c, Mo.vwsC_s, Mo.nilV_ap, Mo.stay1_t, Mo.consV_ap, Mo.okIf_T, Mo.tupF_ap, Mo.lstF_ap, Mo.frzO_ap, Mo.lfF_ap, Mo.callV_s, Mo.callF_ap, Mo.outV_r, Mo.outV_x, Mo.callD_ap, Mo.ixV_s, Mo.ixV_n, Mo.ixF_ap, Mo.noP_ap, Mo.intV_i, Mo.someP_ap, Mo.slV_s, Mo.slF_ap, Mo.boolV_b, Mo.boolF_ap, Mo.truW_s, Mo.truV_s, Mo.truF_ap, Mo.truD_b, Mo.truD_i, Mo.okB_ap, Mo.andF_ap, Mo.orF_ap, Mo.notF_ap, Mo.okV_ap, Mo.selV_b, Mo.andV_ap, Mo.orV_ap, Mo.ifF_ap, Mo.seqF_ap, Mo.nxF_ap, Mo.bkF_ap, Mo.retF_ap, Mo.exprF_ap, Mo.ofE_s, Mo.asgF_ap, Mo.asgE_ap, Mo.asgR_un, Mo.asgR_v, Mo.asgR_raw, Mo.setO_ap, Mo.ifS_ap, Mo.gNil_ap, Mo.nextE_s, Mo.gCons_ap, Mo.lsAt_ap, Mo.lsR_LS, Mo.lsR_io, Mo.lsR_ls, Mo.appF_ap, Mo.appG_s, Mo.appK_LS, Mo.okIf_le, Mo.okIf_lt, Mo.outS_nx, Mo.outS_rt, Mo.outS_ex, Mo.outI_rt, Mo.outI_nx, Mo.bTup_l, Mo.bTup_t, Mo.bInt_b, Mo.bInt_i, Mo.dropE_n, Mo.dropE_c, Mo.dropN_s, Mo.drop1R_un, Mo.drop1R_lf, Mo.restE_n, Mo.restE_c, Mo.restR_s, Mo.forF_ap, Mo.itV_s, Mo.itF_ap, Mo.argF_ap, Mo.items_l, Mo.items_t, Mo.yesF_ap, Mo.repO_ap, Mo.nilW_ap, Mo.consW_ap, Mo.parF_ap, Mo.parN_s, Mo.parE_n, Mo.parE_c, Mo.ioK_v, Mo.ioK_io, Mo.ioH_s, Mo.ioG_s, Mo.ioArg_r, Mo.joinF_ap, Mo.insF_ap, Mo.insG_s, Mo.insArg_s, Mo.insH_s, Mo.extF_ap, Mo.extG_s, Mo.extH_s, Mo.tryF_ap, Mo.tryK_nx, Mo.tryK_rt, Mo.tryK_ex, Mo.raiseF_ap, Mo.lr2F_ap, Mo.lr1F_ap, Mo.lrPi_ap, Mo.okI_tr, oAdd_i, oSub_i, oLt_i, oLe_i, oGt_i, oGe_i, oEq_i, oNe_i, len_S, List.getElem?_cons_zero, List.getElem?_cons_succ, List.set_cons_zero, List.set_cons_succ, List.map_cons, List.map_nil, List.replicate_succ, List.replicate_zero, List.cons_append, List.nil_append, List.length_cons, List.length_nil, Nat.reduceLeDiff, Nat.reduceAdd, Nat.reduceSub, Nat.zero_le, Nat.add_one_sub_one, Nat.sub_self, Nat.zero_add, decide_true, decide_false, Bool.not_true, Bool.not_false, Bool.and_self, Bool.true_and, Bool.and_true, len_R, e1, e2]
  · rw [decide_eq_false c1] at e1
    rw [decide_eq_false (show ¬ (h < a.length ∧ t < b.length) from fun z => c1 z.1)]
    simp -implicitDefEqProofs only [Mo.show_LS, Mo.view_LS, ↓Mo.bind_bn, ↓Mo.tos_tn, ↓Mo.sthen_sn, ↓Mo.sel_sl, Mo.bn_ok, Mo.bn_ex, Mo.tn_ok, Mo.tn_ex, Mo.sn_nx, Mo.sn_rt, Mo.sn_bk, Mo.sn_ct, Mo.sn_ex, Mo.sl_t, Mo.sl_f, Mo.vw_d, Mo.vw_w, Mo.vw_r, Mo.vwR_LS, Mo.vwR_io, Mo.vwR_lf, Mo.stays_d, Mo.stays_r, Mo.stays_t, Mo.varF_ap, Mo.varR_lf, Mo.varR_LS, Mo.varR_io, Mo.varR_ls, Mo.cF_ap, Mo.ofO_s, Mo.binV_s, Mo.bin2_ap, Mo.unV_s, Mo.un1_ap, Mo.fzE_d, Mo.fzE_r, Mo.fzR_LS, Mo.fzR_ls, Mo.fzs_n, Mo.fzs_c, Mo.vws_n, Mo.vws_c, Mo.vwsC_s, Mo.nilV_ap, Mo.stay1_t, Mo.consV_ap, Mo.okIf_T, Mo.tupF_ap, Mo.lstF_ap, Mo.frzO_ap, Mo.lfF_ap, Mo.callV_s, Mo.callF_ap, Mo.outV_r, Mo.outV_x, Mo.callD_ap, Mo.ixV_s, Mo.ixV_n, Mo.ixF_ap, Mo.noP_ap, Mo.intV_i, Mo.someP_ap, Mo.slV_s, Mo.slF_ap, Mo.boolV_b, Mo.boolF_ap, Mo.truW_s, Mo.truV_s, Mo.truF_ap, Mo.truD_b, Mo.truD_i, Mo.okB_ap, Mo.andF_ap, Mo.orF_ap, Mo.notF_ap, Mo.okV_ap, Mo.selV_b, Mo.andV_ap, Mo.orV_ap, Mo.ifF_ap, Mo.seqF_ap, Mo.nxF_ap, Mo.bkF_ap, Mo.retF_ap, Mo.exprF_ap, Mo.ofE_s, Mo.asgF_ap, Mo.asgE_ap, Mo.asgR_un, Mo.asgR_v, Mo.asgR_raw, Mo.setO_ap, Mo.ifS_ap, Mo.gNil_ap, Mo.nextE_s, Mo.gCons_ap, Mo.lsAt_ap, Mo.lsR_LS, Mo.lsR_io, Mo.lsR_ls, Mo.appF_ap, Mo.appG_s, Mo.appK_LS, Mo.okIf_le, Mo.okIf_lt, Mo.outS_nx, Mo.outS_rt, Mo.outS_ex, Mo.outI_rt, Mo.outI_nx, Mo.bTup_l, Mo.bTup_t, Mo.bInt_b, Mo.bInt_i, Mo.dropE_n, Mo.dropE_c, Mo.dropN_s, Mo.drop1R_un, Mo.drop1R_lf, Mo.restE_n, Mo.restE_c, Mo.restR_s, Mo.forF_ap, Mo.itV_s, Mo.itF_ap, Mo.argF_ap, Mo.items_l, Mo.items_t, Mo.yesF_ap, Mo.repO_ap, Mo.nilW_ap, Mo.consW_ap, Mo.parF_ap, Mo.parN_s, Mo.parE_n, Mo.parE_c, Mo.ioK_v, Mo.ioK_io, Mo.ioH_s, Mo.ioG_s, Mo.ioArg_r, Mo.joinF_ap, Mo.insF_ap, Mo.insG_s, Mo.insArg_s, Mo.insH_s, Mo.extF_ap, Mo.extG_s, Mo.extH_s, Mo.tryF_ap, Mo.tryK_nx, Mo.tryK_rt, Mo.tryK_ex, Mo.raiseF_ap, Mo.lr2F_ap, Mo.lr1F_ap, Mo.lrPi_ap, Mo.okI_tr, oAdd_i, oSub_i, oLt_i, oLe_i, oGt_i, oGe_i, oEq_i, oNe_i, len_S, List.getElem?_cons_zero, List.getElem?_cons_succ, List.set_cons_zero, List.set_cons_succ, List.map_cons, List.map_nil, List.replicate_succ, List.replicate_zero, List.cons_append, List.nil_append, List.length_cons, List.length_nil, Nat.reduceLeDiff, Nat.reduceAdd, Nat.reduceSub, Nat.zero_le, Nat.add_one_sub_one, Nat.sub_self, Nat.zero_add, decide_true, decide_false, Bool.not_true, Bool.not_false, Bool.and_self, Bool.true_and, Bool.and_true, len_R, e1]
theorem mB_is {c : Cs} {a b : List Nat} (la : a.length ≤ 40) (lb : b.length ≤ 40) {f : List Nat} {st h t : Nat} {s6 : Slot} (l6 : Lt s6) (hf : f.length ≤ 1000) (hc : h < a.length ∧ t < b.length) : ∃ t6, Lt t6 ∧ mB c (EM a b (f, st, h, t) s6) = .nx (EM a b (mst a b (f, st, h, t)) t6) := by
  have i1 := item_R hc.1
  have i2 := item_R hc.2
  have sk1 := seek_is (c := c) (l := a) (a := h) (g := gt b t) la
  have sk2 := seek_is (c := c) (l := b) (a := t) (g := gt a h) lb
  have ol : (f.map en).length ≤ 1000000 := by rw [List.length_map]; omega
  unfold mst
  simp only [if_pos hc]
  by_cases q : gt a h = gt b t
  · have e : decide (((gt a h : Nat) : Int) = (gt b t : Nat)) = true := decide_eq_true (by omega)
    rw [if_pos q]
    refine ⟨s6, l6, ?_⟩
    unfold mB
    simp -implicitDefEqProofs only [Mo.show_LS, Mo.view_LS, ↓Mo.bind_bn, ↓Mo.tos_tn, ↓Mo.sthen_sn, ↓Mo.sel_sl, Mo.bn_ok, Mo.bn_ex, Mo.tn_ok, Mo.tn_ex, Mo.sn_nx, Mo.sn_rt, Mo.sn_bk, Mo.sn_ct, Mo.sn_ex, Mo.sl_t, Mo.sl_f, Mo.vw_d, Mo.vw_w, Mo.vw_r, Mo.vwR_LS, Mo.vwR_io, Mo.vwR_lf, Mo.stays_d, Mo.stays_r, Mo.stays_t, Mo.varF_ap, Mo.varR_lf, Mo.varR_LS, Mo.varR_io, Mo.varR_ls, Mo.cF_ap, Mo.ofO_s, Mo.binV_s, Mo.bin2_ap, Mo.unV_s, Mo.un1_ap, Mo.fzE_d, Mo.fzE_r, Mo.fzR_LS, Mo.fzR_ls, Mo.fzs_n, Mo.fzs_c, Mo.vws_n, Mo.vws_c, Mo.vwsC_s, Mo.nilV_ap, Mo.stay1_t, Mo.consV_ap, Mo.okIf_T, Mo.tupF_ap, Mo.lstF_ap, Mo.frzO_ap, Mo.lfF_ap, Mo.callV_s, Mo.callF_ap, Mo.outV_r, Mo.outV_x, Mo.callD_ap, Mo.ixV_s, Mo.ixV_n, Mo.ixF_ap, Mo.noP_ap, Mo.intV_i, Mo.someP_ap, Mo.slV_s, Mo.slF_ap, Mo.boolV_b, Mo.boolF_ap, Mo.truW_s, Mo.truV_s, Mo.truF_ap, Mo.truD_b, Mo.truD_i, Mo.okB_ap, Mo.andF_ap, Mo.orF_ap, Mo.notF_ap, Mo.okV_ap, Mo.selV_b, Mo.andV_ap, Mo.orV_ap, Mo.ifF_ap, Mo.seqF_ap, Mo.nxF_ap, Mo.bkF_ap, Mo.retF_ap, Mo.exprF_ap, Mo.ofE_s, Mo.asgF_ap, Mo.asgE_ap, Mo.asgR_un, Mo.asgR_v, Mo.asgR_raw, Mo.setO_ap, Mo.ifS_ap, Mo.gNil_ap, Mo.nextE_s, Mo.gCons_ap, Mo.lsAt_ap, Mo.lsR_LS, Mo.lsR_io, Mo.lsR_ls, Mo.appF_ap, Mo.appG_s, Mo.appK_LS, Mo.okIf_le, Mo.okIf_lt, Mo.outS_nx, Mo.outS_rt, Mo.outS_ex, Mo.outI_rt, Mo.outI_nx, Mo.bTup_l, Mo.bTup_t, Mo.bInt_b, Mo.bInt_i, Mo.dropE_n, Mo.dropE_c, Mo.dropN_s, Mo.drop1R_un, Mo.drop1R_lf, Mo.restE_n, Mo.restE_c, Mo.restR_s, Mo.forF_ap, Mo.itV_s, Mo.itF_ap, Mo.argF_ap, Mo.items_l, Mo.items_t, Mo.yesF_ap, Mo.repO_ap, Mo.nilW_ap, Mo.consW_ap, Mo.parF_ap, Mo.parN_s, Mo.parE_n, Mo.parE_c, Mo.ioK_v, Mo.ioK_io, Mo.ioH_s, Mo.ioG_s, Mo.ioArg_r, Mo.joinF_ap, Mo.insF_ap, Mo.insG_s, Mo.insArg_s, Mo.insH_s, Mo.extF_ap, Mo.extG_s, Mo.extH_s, Mo.tryF_ap, Mo.tryK_nx, Mo.tryK_rt, Mo.tryK_ex, Mo.raiseF_ap, Mo.lr2F_ap, Mo.lr1F_ap, Mo.lrPi_ap, Mo.okI_tr, oAdd_i, oSub_i, oLt_i, oLe_i, oGt_i, oGe_i, oEq_i, oNe_i, len_S, List.getElem?_cons_zero, List.getElem?_cons_succ, List.set_cons_zero, List.set_cons_succ, List.map_cons, List.map_nil, List.replicate_succ, List.replicate_zero, List.cons_append, List.nil_append, List.length_cons, List.length_nil, Nat.reduceLeDiff, Nat.reduceAdd, Nat.reduceSub, Nat.zero_le, Nat.add_one_sub_one, Nat.sub_self, Nat.zero_add, decide_true, decide_false, Bool.not_true, Bool.not_false, Bool.and_self, Bool.true_and, Bool.and_true, i1, i2, e, okIf_lt ol]
    simp [en]
  · have e : decide (((gt a h : Nat) : Int) = (gt b t : Nat)) = false := decide_eq_false (by omega)
    rw [if_neg q]
    by_cases r : gt a h < gt b t
    · have e2 : decide (((gt a h : Nat) : Int) < (gt b t : Nat)) = true := decide_eq_true (by omega)
      rw [if_pos r]
      refine ⟨.v (.lf (.int ((seekM a h (gt b t)).2 : Nat))), .v, ?_⟩
      unfold mB
      have au : augF 3 oIadd (varF 6) [.v (.lf (R a)), .v (.lf (R b)), .v (LS (f.map en)), .v (.lf (.int (st : Nat))), .v (.lf (.int ((seekM a h (gt b t)).1 : Nat))), .v (.lf (.int (t : Nat))), .v (.lf (.int ((seekM a h (gt b t)).2 : Nat)))] = .nx [.v (.lf (R a)), .v (.lf (R b)), .v (LS (f.map en)), .v (.lf (.int ((st : Int) + ((seekM a h (gt b t)).2 : Nat)))), .v (.lf (.int ((seekM a h (gt b t)).1 : Nat))), .v (.lf (.int (t : Nat))), .v (.lf (.int ((seekM a h (gt b t)).2 : Nat)))] := rfl
      rcases l6 with rfl | ⟨_, rfl⟩ <;> simp -implicitDefEqProofs only [Mo.show_LS, Mo.view_LS, ↓Mo.bind_bn, ↓Mo.tos_tn, ↓Mo.sthen_sn, ↓Mo.sel_sl, Mo.bn_ok, Mo.bn_ex, Mo.tn_ok, Mo.tn_ex, Mo.sn_nx, Mo.sn_rt, Mo.sn_bk, Mo.sn_ct, Mo.sn_ex, Mo.sl_t, Mo.sl_f, Mo.vw_d, Mo.vw_w, Mo.vw_r, Mo.vwR_LS, Mo.vwR_io, Mo.vwR_lf, Mo.stays_d, Mo.stays_r, Mo.stays_t, Mo.varF_ap, Mo.varR_lf, Mo.varR_LS, Mo.varR_io, Mo.varR_ls, Mo.cF_ap, Mo.ofO_s, Mo.binV_s, Mo.bin2_ap, Mo.unV_s, Mo.un1_ap, Mo.fzE_d, Mo.fzE_r, Mo.fzR_LS, Mo.fzR_ls, Mo.fzs_n, Mo.fzs_c, Mo.vws_n, Mo.vws_c, Mo.vwsC_s, Mo.nilV_ap, Mo.stay1_t, Mo.consV_ap, Mo.okIf_T, Mo.tupF_ap, Mo.lstF_ap, Mo.frzO_ap, Mo.lfF_ap, Mo.callV_s, Mo.callF_ap, Mo.outV_r, Mo.outV_x, Mo.callD_ap, Mo.ixV_s, Mo.ixV_n, Mo.ixF_ap, Mo.noP_ap, Mo.intV_i, Mo.someP_ap, Mo.slV_s, Mo.slF_ap, Mo.boolV_b, Mo.boolF_ap, Mo.truW_s, Mo.truV_s, Mo.truF_ap, Mo.truD_b, Mo.truD_i, Mo.okB_ap, Mo.andF_ap, Mo.orF_ap, Mo.notF_ap, Mo.okV_ap, Mo.selV_b, Mo.andV_ap, Mo.orV_ap, Mo.ifF_ap, Mo.seqF_ap, Mo.nxF_ap, Mo.bkF_ap, Mo.retF_ap, Mo.exprF_ap, Mo.ofE_s, Mo.asgF_ap, Mo.asgE_ap, Mo.asgR_un, Mo.asgR_v, Mo.asgR_raw, Mo.setO_ap, Mo.ifS_ap, Mo.gNil_ap, Mo.nextE_s, Mo.gCons_ap, Mo.lsAt_ap, Mo.lsR_LS, Mo.lsR_io, Mo.lsR_ls, Mo.appF_ap, Mo.appG_s, Mo.appK_LS, Mo.okIf_le, Mo.okIf_lt, Mo.outS_nx, Mo.outS_rt, Mo.outS_ex, Mo.outI_rt, Mo.outI_nx, Mo.bTup_l, Mo.bTup_t, Mo.bInt_b, Mo.bInt_i, Mo.dropE_n, Mo.dropE_c, Mo.dropN_s, Mo.drop1R_un, Mo.drop1R_lf, Mo.restE_n, Mo.restE_c, Mo.restR_s, Mo.forF_ap, Mo.itV_s, Mo.itF_ap, Mo.argF_ap, Mo.items_l, Mo.items_t, Mo.yesF_ap, Mo.repO_ap, Mo.nilW_ap, Mo.consW_ap, Mo.parF_ap, Mo.parN_s, Mo.parE_n, Mo.parE_c, Mo.ioK_v, Mo.ioK_io, Mo.ioH_s, Mo.ioG_s, Mo.ioArg_r, Mo.joinF_ap, Mo.insF_ap, Mo.insG_s, Mo.insArg_s, Mo.insH_s, Mo.extF_ap, Mo.extG_s, Mo.extH_s, Mo.tryF_ap, Mo.tryK_nx, Mo.tryK_rt, Mo.tryK_ex, Mo.raiseF_ap, Mo.lr2F_ap, Mo.lr1F_ap, Mo.lrPi_ap, Mo.okI_tr, oAdd_i, oSub_i, oLt_i, oLe_i, oGt_i, oGe_i, oEq_i, oNe_i, len_S, List.getElem?_cons_zero, List.getElem?_cons_succ, List.set_cons_zero, List.set_cons_succ, List.map_cons, List.map_nil, List.replicate_succ, List.replicate_zero, List.cons_append, List.nil_append, List.length_cons, List.length_nil, Nat.reduceLeDiff, Nat.reduceAdd, Nat.reduceSub, Nat.zero_le, Nat.add_one_sub_one, Nat.sub_self, Nat.zero_add, decide_true, decide_false, Bool.not_true, Bool.not_false, Bool.and_self, Bool.true_and, Bool.and_true, i1, i2, e, e2, sk1, au, unpE] <;> rfl
    · have e2 : decide (((gt a h : Nat) : Int) < (gt b t : Nat)) = false := decide_eq_false (by omega)
      rw [if_neg r]
      refine ⟨.v (.lf (.int ((seekM b t (gt a h)).2 : Nat))), .v, ?_⟩
      unfold mB
      have au : augF 3 oIadd (varF 6) [.v (.lf (R a)), .v (.lf (R b)), .v (LS (f.map en)), .v (.lf (.int (st : Nat))), .v (.lf (.int (h : Nat))), .v (.lf (.int ((seekM b t (gt a h)).1 : Nat))), .v (.lf (.int ((seekM b t (gt a h)).2 : Nat)))] = .nx [.v (.lf (R a)), .v (.lf (R b)), .v (LS (f.map en)), .v (.lf (.int ((st : Int) + ((seekM b t (gt a h)).2 : Nat)))), .v (.lf (.int (h : Nat))), .v (.lf (.int ((seekM b t (gt a h)).1 : Nat))), .v (.lf (.int ((seekM b t (gt a h)).2 : Nat)))] := rfl
      rcases l6 with rfl | ⟨_, rfl⟩ <;> simp -implicitDefEqProofs only [Mo.show_LS, Mo.view_LS, ↓Mo.bind_bn, ↓Mo.tos_tn, ↓Mo.sthen_sn, ↓Mo.sel_sl, Mo.bn_ok, Mo.bn_ex, Mo.tn_ok, Mo.tn_ex, Mo.sn_nx, Mo.sn_rt, Mo.sn_bk, Mo.sn_ct, Mo.sn_ex, Mo.sl_t, Mo.sl_f, Mo.vw_d, Mo.vw_w, Mo.vw_r, Mo.vwR_LS, Mo.vwR_io, Mo.vwR_lf, Mo.stays_d, Mo.stays_r, Mo.stays_t, Mo.varF_ap, Mo.varR_lf, Mo.varR_LS, Mo.varR_io, Mo.varR_ls, Mo.cF_ap, Mo.ofO_s, Mo.binV_s, Mo.bin2_ap, Mo.unV_s, Mo.un1_ap, Mo.fzE_d, Mo.fzE_r, Mo.fzR_LS, Mo.fzR_ls, Mo.fzs_n, Mo.fzs_c, Mo.vws_n, Mo.vws_c, Mo.vwsC_s, Mo.nilV_ap, Mo.stay1_t, Mo.consV_ap, Mo.okIf_T, Mo.tupF_ap, Mo.lstF_ap, Mo.frzO_ap, Mo.lfF_ap, Mo.callV_s, Mo.callF_ap, Mo.outV_r, Mo.outV_x, Mo.callD_ap, Mo.ixV_s, Mo.ixV_n, Mo.ixF_ap, Mo.noP_ap, Mo.intV_i, Mo.someP_ap, Mo.slV_s, Mo.slF_ap, Mo.boolV_b, Mo.boolF_ap, Mo.truW_s, Mo.truV_s, Mo.truF_ap, Mo.truD_b, Mo.truD_i, Mo.okB_ap, Mo.andF_ap, Mo.orF_ap, Mo.notF_ap, Mo.okV_ap, Mo.selV_b, Mo.andV_ap, Mo.orV_ap, Mo.ifF_ap, Mo.seqF_ap, Mo.nxF_ap, Mo.bkF_ap, Mo.retF_ap, Mo.exprF_ap, Mo.ofE_s, Mo.asgF_ap, Mo.asgE_ap, Mo.asgR_un, Mo.asgR_v, Mo.asgR_raw, Mo.setO_ap, Mo.ifS_ap, Mo.gNil_ap, Mo.nextE_s, Mo.gCons_ap, Mo.lsAt_ap, Mo.lsR_LS, Mo.lsR_io, Mo.lsR_ls, Mo.appF_ap, Mo.appG_s, Mo.appK_LS, Mo.okIf_le, Mo.okIf_lt, Mo.outS_nx, Mo.outS_rt, Mo.outS_ex, Mo.outI_rt, Mo.outI_nx, Mo.bTup_l, Mo.bTup_t, Mo.bInt_b, Mo.bInt_i, Mo.dropE_n, Mo.dropE_c, Mo.dropN_s, Mo.drop1R_un, Mo.drop1R_lf, Mo.restE_n, Mo.restE_c, Mo.restR_s, Mo.forF_ap, Mo.itV_s, Mo.itF_ap, Mo.argF_ap, Mo.items_l, Mo.items_t, Mo.yesF_ap, Mo.repO_ap, Mo.nilW_ap, Mo.consW_ap, Mo.parF_ap, Mo.parN_s, Mo.parE_n, Mo.parE_c, Mo.ioK_v, Mo.ioK_io, Mo.ioH_s, Mo.ioG_s, Mo.ioArg_r, Mo.joinF_ap, Mo.insF_ap, Mo.insG_s, Mo.insArg_s, Mo.insH_s, Mo.extF_ap, Mo.extG_s, Mo.extH_s, Mo.tryF_ap, Mo.tryK_nx, Mo.tryK_rt, Mo.tryK_ex, Mo.raiseF_ap, Mo.lr2F_ap, Mo.lr1F_ap, Mo.lrPi_ap, Mo.okI_tr, oAdd_i, oSub_i, oLt_i, oLe_i, oGt_i, oGe_i, oEq_i, oNe_i, len_S, List.getElem?_cons_zero, List.getElem?_cons_succ, List.set_cons_zero, List.set_cons_succ, List.map_cons, List.map_nil, List.replicate_succ, List.replicate_zero, List.cons_append, List.nil_append, List.length_cons, List.length_nil, Nat.reduceLeDiff, Nat.reduceAdd, Nat.reduceSub, Nat.zero_le, Nat.add_one_sub_one, Nat.sub_self, Nat.zero_add, decide_true, decide_false, Bool.not_true, Bool.not_false, Bool.and_self, Bool.true_and, Bool.and_true, i1, i2, e, e2, sk2, au, unpE] <;> rfl
theorem mst_len (a b : List Nat) (s : M) : (mst a b s).1.length ≤ s.1.length + 1 := by
  obtain ⟨f, st, h, t⟩ := s
  unfold mst
  dsimp only
  split
  · split
    · simp
    · split
      · exact Nat.le_succ _
      · exact Nat.le_succ _
  · exact Nat.le_succ _
theorem met_w {c : Cs} {a b : List Nat} (la : a.length ≤ 40) (lb : b.length ≤ 40) : ∀ (n : Nat) (s : M) (s6 : Slot), Lt s6 → s.1.length + n ≤ 1000 → fin a b (itM a b n s) → ∃ t6, Lt t6 ∧ whileF mT (mB c) (EM a b s s6) = .nx (EM a b (itM a b n s) t6)
  | 0, (f, st, h, t), s6, l6, hl, hf => by
    have hf : ¬ (h < a.length ∧ t < b.length) := hf
    have e := mT_is (a := a) (b := b) (f := f) (st := st) (h := h) (t := t) (s6 := s6)
    rw [decide_eq_false hf] at e
    exact ⟨s6, l6, while_f e⟩
  | n + 1, (f, st, h, t), s6, l6, hl, hf => by
    have e := mT_is (a := a) (b := b) (f := f) (st := st) (h := h) (t := t) (s6 := s6)
    by_cases q : h < a.length ∧ t < b.length
    · rw [decide_eq_true q] at e
      obtain ⟨t6, lt6, e2⟩ := mB_is (c := c) la lb (f := f) (st := st) l6 (by simp at hl; omega) q
      rw [while_t e e2]
      have ln := mst_len a b (f, st, h, t)
      exact met_w la lb n (mst a b (f, st, h, t)) t6 lt6 (by simp at hl ln; omega) hf
    · rw [decide_eq_false q] at e
      have : fin a b (f, st, h, t) := q
      rw [itM_fin (n + 1) this]
      exact ⟨s6, l6, while_f e⟩
theorem met_is {c : Cs} {a b : List Nat} (ha : Asc a) (hb : Asc b) (la : a.length ≤ 40) (lb : b.length ≤ 40) : f_met c [R a, R b] = .ret (.tuple [R (com a b), .int ((metM a b).2.1 : Nat)]) := by
  obtain ⟨m1, m2⟩ := met_ok ha hb la lb
  obtain ⟨t6, lt6, w⟩ := met_w (c := c) la lb (a.length + b.length + 1) ([], 0, 0, 0) .un .un (by simp; omega) m2
  have w' : whileF mT (mB c) [.v (.lf (R a)), .v (.lf (R b)), .v (LS []), .v (.lf (.int 0)), .v (.lf (.int 0)), .v (.lf (.int 0)), .un] = .nx (EM a b (metM a b) t6) := w
  have eg : g_met c = seqF (parF [2, 3, 4, 5] (consW (lstF nilV) (consW (lfF (cF (.int 0))) (consW (lfF (cF (.int 0))) (consW (lfF (cF (.int 0))) nilW))))) (seqF (whileF mT (mB c)) (retF (tupF (consV true (callF bTuple (consV true (varF 2) nilV)) (consV true (varF 3) nilV))))) := rfl
  unfold f_met
  rw [eg]
  refine (funF_ap rfl).trans ?_
  rw [R_is (com a b), ← m1]
  simp -implicitDefEqProofs only [Mo.show_LS, Mo.view_LS, ↓Mo.bind_bn, ↓Mo.tos_tn, ↓Mo.sthen_sn, ↓Mo.sel_sl, Mo.bn_ok, Mo.bn_ex, Mo.tn_ok, Mo.tn_ex, Mo.sn_nx, Mo.sn_rt, Mo.sn_bk, Mo.sn_ct, Mo.sn_ex, Mo.sl_t, Mo.sl_f, Mo.vw_d, Mo.vw_w, Mo.vw_r, Mo.vwR_LS, Mo.vwR_io, Mo.vwR_lf, Mo.stays_d, Mo.stays_r, Mo.stays_t, Mo.varF_ap, Mo.varR_lf, Mo.varR_LS, Mo.varR_io, Mo.varR_ls, Mo.cF_ap, Mo.ofO_s, Mo.binV_s, Mo.bin2_ap, Mo.unV_s, Mo.un1_ap, Mo.fzE_d, Mo.fzE_r, Mo.fzR_LS, Mo.fzR_ls, Mo.fzs_n, Mo.fzs_c, Mo.vws_n, Mo.vws_c, Mo.vwsC_s, Mo.nilV_ap, Mo.stay1_t, Mo.consV_ap, Mo.okIf_T, Mo.tupF_ap, Mo.lstF_ap, Mo.frzO_ap, Mo.lfF_ap, Mo.callV_s, Mo.callF_ap, Mo.outV_r, Mo.outV_x, Mo.callD_ap, Mo.ixV_s, Mo.ixV_n, Mo.ixF_ap, Mo.noP_ap, Mo.intV_i, Mo.someP_ap, Mo.slV_s, Mo.slF_ap, Mo.boolV_b, Mo.boolF_ap, Mo.truW_s, Mo.truV_s, Mo.truF_ap, Mo.truD_b, Mo.truD_i, Mo.okB_ap, Mo.andF_ap, Mo.orF_ap, Mo.notF_ap, Mo.okV_ap, Mo.selV_b, Mo.andV_ap, Mo.orV_ap, Mo.ifF_ap, Mo.seqF_ap, Mo.nxF_ap, Mo.bkF_ap, Mo.retF_ap, Mo.exprF_ap, Mo.ofE_s, Mo.asgF_ap, Mo.asgE_ap, Mo.asgR_un, Mo.asgR_v, Mo.asgR_raw, Mo.setO_ap, Mo.ifS_ap, Mo.gNil_ap, Mo.nextE_s, Mo.gCons_ap, Mo.lsAt_ap, Mo.lsR_LS, Mo.lsR_io, Mo.lsR_ls, Mo.appF_ap, Mo.appG_s, Mo.appK_LS, Mo.okIf_le, Mo.okIf_lt, Mo.outS_nx, Mo.outS_rt, Mo.outS_ex, Mo.outI_rt, Mo.outI_nx, Mo.bTup_l, Mo.bTup_t, Mo.bInt_b, Mo.bInt_i, Mo.dropE_n, Mo.dropE_c, Mo.dropN_s, Mo.drop1R_un, Mo.drop1R_lf, Mo.restE_n, Mo.restE_c, Mo.restR_s, Mo.forF_ap, Mo.itV_s, Mo.itF_ap, Mo.argF_ap, Mo.items_l, Mo.items_t, Mo.yesF_ap, Mo.repO_ap, Mo.nilW_ap, Mo.consW_ap, Mo.parF_ap, Mo.parN_s, Mo.parE_n, Mo.parE_c, Mo.ioK_v, Mo.ioK_io, Mo.ioH_s, Mo.ioG_s, Mo.ioArg_r, Mo.joinF_ap, Mo.insF_ap, Mo.insG_s, Mo.insArg_s, Mo.insH_s, Mo.extF_ap, Mo.extG_s, Mo.extH_s, Mo.tryF_ap, Mo.tryK_nx, Mo.tryK_rt, Mo.tryK_ex, Mo.raiseF_ap, Mo.lr2F_ap, Mo.lr1F_ap, Mo.lrPi_ap, Mo.okI_tr, oAdd_i, oSub_i, oLt_i, oLe_i, oGt_i, oGe_i, oEq_i, oNe_i, len_S, List.getElem?_cons_zero, List.getElem?_cons_succ, List.set_cons_zero, List.set_cons_succ, List.map_cons, List.map_nil, List.replicate_succ, List.replicate_zero, List.cons_append, List.nil_append, List.length_cons, List.length_nil, Nat.reduceLeDiff, Nat.reduceAdd, Nat.reduceSub, Nat.zero_le, Nat.add_one_sub_one, Nat.sub_self, Nat.zero_add, decide_true, decide_false, Bool.not_true, Bool.not_false, Bool.and_self, Bool.true_and, Bool.and_true, w']
theorem both_is {c : Cs} {a b : List Nat} (ha : Asc a) (hb : Asc b) (la : a.length ≤ 40) (lb : b.length ≤ 40) : f_both c [R a, R b] = .ret (R (com a b)) := by
  have m := met_is (c := c) ha hb la lb
  have it : oItem (.tuple [R (com a b), .int ((metM a b).2.1 : Nat)]) (.int 0) = some (R (com a b)) := rfl
  unfold f_both g_both
  refine (funF_ap rfl).trans ?_
  simp -implicitDefEqProofs only [Mo.show_LS, Mo.view_LS, ↓Mo.bind_bn, ↓Mo.tos_tn, ↓Mo.sthen_sn, ↓Mo.sel_sl, Mo.bn_ok, Mo.bn_ex, Mo.tn_ok, Mo.tn_ex, Mo.sn_nx, Mo.sn_rt, Mo.sn_bk, Mo.sn_ct, Mo.sn_ex, Mo.sl_t, Mo.sl_f, Mo.vw_d, Mo.vw_w, Mo.vw_r, Mo.vwR_LS, Mo.vwR_io, Mo.vwR_lf, Mo.stays_d, Mo.stays_r, Mo.stays_t, Mo.varF_ap, Mo.varR_lf, Mo.varR_LS, Mo.varR_io, Mo.varR_ls, Mo.cF_ap, Mo.ofO_s, Mo.binV_s, Mo.bin2_ap, Mo.unV_s, Mo.un1_ap, Mo.fzE_d, Mo.fzE_r, Mo.fzR_LS, Mo.fzR_ls, Mo.fzs_n, Mo.fzs_c, Mo.vws_n, Mo.vws_c, Mo.vwsC_s, Mo.nilV_ap, Mo.stay1_t, Mo.consV_ap, Mo.okIf_T, Mo.tupF_ap, Mo.lstF_ap, Mo.frzO_ap, Mo.lfF_ap, Mo.callV_s, Mo.callF_ap, Mo.outV_r, Mo.outV_x, Mo.callD_ap, Mo.ixV_s, Mo.ixV_n, Mo.ixF_ap, Mo.noP_ap, Mo.intV_i, Mo.someP_ap, Mo.slV_s, Mo.slF_ap, Mo.boolV_b, Mo.boolF_ap, Mo.truW_s, Mo.truV_s, Mo.truF_ap, Mo.truD_b, Mo.truD_i, Mo.okB_ap, Mo.andF_ap, Mo.orF_ap, Mo.notF_ap, Mo.okV_ap, Mo.selV_b, Mo.andV_ap, Mo.orV_ap, Mo.ifF_ap, Mo.seqF_ap, Mo.nxF_ap, Mo.bkF_ap, Mo.retF_ap, Mo.exprF_ap, Mo.ofE_s, Mo.asgF_ap, Mo.asgE_ap, Mo.asgR_un, Mo.asgR_v, Mo.asgR_raw, Mo.setO_ap, Mo.ifS_ap, Mo.gNil_ap, Mo.nextE_s, Mo.gCons_ap, Mo.lsAt_ap, Mo.lsR_LS, Mo.lsR_io, Mo.lsR_ls, Mo.appF_ap, Mo.appG_s, Mo.appK_LS, Mo.okIf_le, Mo.okIf_lt, Mo.outS_nx, Mo.outS_rt, Mo.outS_ex, Mo.outI_rt, Mo.outI_nx, Mo.bTup_l, Mo.bTup_t, Mo.bInt_b, Mo.bInt_i, Mo.dropE_n, Mo.dropE_c, Mo.dropN_s, Mo.drop1R_un, Mo.drop1R_lf, Mo.restE_n, Mo.restE_c, Mo.restR_s, Mo.forF_ap, Mo.itV_s, Mo.itF_ap, Mo.argF_ap, Mo.items_l, Mo.items_t, Mo.yesF_ap, Mo.repO_ap, Mo.nilW_ap, Mo.consW_ap, Mo.parF_ap, Mo.parN_s, Mo.parE_n, Mo.parE_c, Mo.ioK_v, Mo.ioK_io, Mo.ioH_s, Mo.ioG_s, Mo.ioArg_r, Mo.joinF_ap, Mo.insF_ap, Mo.insG_s, Mo.insArg_s, Mo.insH_s, Mo.extF_ap, Mo.extG_s, Mo.extH_s, Mo.tryF_ap, Mo.tryK_nx, Mo.tryK_rt, Mo.tryK_ex, Mo.raiseF_ap, Mo.lr2F_ap, Mo.lr1F_ap, Mo.lrPi_ap, Mo.okI_tr, oAdd_i, oSub_i, oLt_i, oLe_i, oGt_i, oGe_i, oEq_i, oNe_i, len_S, List.getElem?_cons_zero, List.getElem?_cons_succ, List.set_cons_zero, List.set_cons_succ, List.map_cons, List.map_nil, List.replicate_succ, List.replicate_zero, List.cons_append, List.nil_append, List.length_cons, List.length_nil, Nat.reduceLeDiff, Nat.reduceAdd, Nat.reduceSub, Nat.zero_le, Nat.add_one_sub_one, Nat.sub_self, Nat.zero_add, decide_true, decide_false, Bool.not_true, Bool.not_false, Bool.and_self, Bool.true_and, Bool.and_true, m, it]
noncomputable def pB : Mo.Env → SRes := (asgF (unpE 2 (gConsE (asgE 1) (gConsE (asgE 0) gNilE))) (ifF (boolF (bin2 true oGt (varF 0) (cF (.int 0)))) (tupF (consV true (bin2 true oAdd (varF 1) (cF (.int 1))) (consV true (bin2 true oFdiv (varF 0) (cF (.int 2))) nilV))) (tupF (consV true (varF 1) (consV true (varF 0) nilV)))))
theorem fd1 {m : Nat} : oFdiv (.int (m : Nat)) (.int 2) = some (.int ((m / 2 : Nat) : Int)) := by
  have := fd2 (low := m) (high := 0)
  simpa using this
theorem pB_is {f m : Nat} {d : PyData} : pB [.v (.lf (.int (m : Nat))), .v (.lf (.int (f : Nat))), .v (.lf d)] = .nx (if 0 < m then [.v (.lf (.int ((m / 2 : Nat) : Int))), .v (.lf (.int ((f + 1 : Nat) : Int))), .v (.lf d)] else [.v (.lf (.int (m : Nat))), .v (.lf (.int (f : Nat))), .v (.lf d)]) := by
  unfold pB
  by_cases h : 0 < m
  · have e : decide ((0 : Int) < (m : Int)) = true := decide_eq_true (by omega)
    rw [if_pos h]
    simp -implicitDefEqProofs only [Mo.show_LS, Mo.view_LS, ↓Mo.bind_bn, ↓Mo.tos_tn, ↓Mo.sthen_sn, ↓Mo.sel_sl, Mo.bn_ok, Mo.bn_ex, Mo.tn_ok, Mo.tn_ex, Mo.sn_nx, Mo.sn_rt, Mo.sn_bk, Mo.sn_ct, Mo.sn_ex, Mo.sl_t, Mo.sl_f, Mo.vw_d, Mo.vw_w, Mo.vw_r, Mo.vwR_LS, Mo.vwR_io, Mo.vwR_lf, Mo.stays_d, Mo.stays_r, Mo.stays_t, Mo.varF_ap, Mo.varR_lf, Mo.varR_LS, Mo.varR_io, Mo.varR_ls, Mo.cF_ap, Mo.ofO_s, Mo.binV_s, Mo.bin2_ap, Mo.unV_s, Mo.un1_ap, Mo.fzE_d, Mo.fzE_r, Mo.fzR_LS, Mo.fzR_ls, Mo.fzs_n, Mo.fzs_c, Mo.vws_n, Mo.vws_c, Mo.vwsC_s, Mo.nilV_ap, Mo.stay1_t, Mo.consV_ap, Mo.okIf_T, Mo.tupF_ap, Mo.lstF_ap, Mo.frzO_ap, Mo.lfF_ap, Mo.callV_s, Mo.callF_ap, Mo.outV_r, Mo.outV_x, Mo.callD_ap, Mo.ixV_s, Mo.ixV_n, Mo.ixF_ap, Mo.noP_ap, Mo.intV_i, Mo.someP_ap, Mo.slV_s, Mo.slF_ap, Mo.boolV_b, Mo.boolF_ap, Mo.truW_s, Mo.truV_s, Mo.truF_ap, Mo.truD_b, Mo.truD_i, Mo.okB_ap, Mo.andF_ap, Mo.orF_ap, Mo.notF_ap, Mo.okV_ap, Mo.selV_b, Mo.andV_ap, Mo.orV_ap, Mo.ifF_ap, Mo.seqF_ap, Mo.nxF_ap, Mo.bkF_ap, Mo.retF_ap, Mo.exprF_ap, Mo.ofE_s, Mo.asgF_ap, Mo.asgE_ap, Mo.asgR_un, Mo.asgR_v, Mo.asgR_raw, Mo.setO_ap, Mo.ifS_ap, Mo.gNil_ap, Mo.nextE_s, Mo.gCons_ap, Mo.lsAt_ap, Mo.lsR_LS, Mo.lsR_io, Mo.lsR_ls, Mo.appF_ap, Mo.appG_s, Mo.appK_LS, Mo.okIf_le, Mo.okIf_lt, Mo.outS_nx, Mo.outS_rt, Mo.outS_ex, Mo.outI_rt, Mo.outI_nx, Mo.bTup_l, Mo.bTup_t, Mo.bInt_b, Mo.bInt_i, Mo.dropE_n, Mo.dropE_c, Mo.dropN_s, Mo.drop1R_un, Mo.drop1R_lf, Mo.restE_n, Mo.restE_c, Mo.restR_s, Mo.forF_ap, Mo.itV_s, Mo.itF_ap, Mo.argF_ap, Mo.items_l, Mo.items_t, Mo.yesF_ap, Mo.repO_ap, Mo.nilW_ap, Mo.consW_ap, Mo.parF_ap, Mo.parN_s, Mo.parE_n, Mo.parE_c, Mo.ioK_v, Mo.ioK_io, Mo.ioH_s, Mo.ioG_s, Mo.ioArg_r, Mo.joinF_ap, Mo.insF_ap, Mo.insG_s, Mo.insArg_s, Mo.insH_s, Mo.extF_ap, Mo.extG_s, Mo.extH_s, Mo.tryF_ap, Mo.tryK_nx, Mo.tryK_rt, Mo.tryK_ex, Mo.raiseF_ap, Mo.lr2F_ap, Mo.lr1F_ap, Mo.lrPi_ap, Mo.okI_tr, oAdd_i, oSub_i, oLt_i, oLe_i, oGt_i, oGe_i, oEq_i, oNe_i, len_S, List.getElem?_cons_zero, List.getElem?_cons_succ, List.set_cons_zero, List.set_cons_succ, List.map_cons, List.map_nil, List.replicate_succ, List.replicate_zero, List.cons_append, List.nil_append, List.length_cons, List.length_nil, Nat.reduceLeDiff, Nat.reduceAdd, Nat.reduceSub, Nat.zero_le, Nat.add_one_sub_one, Nat.sub_self, Nat.zero_add, decide_true, decide_false, Bool.not_true, Bool.not_false, Bool.and_self, Bool.true_and, Bool.and_true, e, fd1, unpE]
    rfl
  · have e : decide ((0 : Int) < (m : Int)) = false := decide_eq_false (by omega)
    rw [if_neg h]
    simp -implicitDefEqProofs only [Mo.show_LS, Mo.view_LS, ↓Mo.bind_bn, ↓Mo.tos_tn, ↓Mo.sthen_sn, ↓Mo.sel_sl, Mo.bn_ok, Mo.bn_ex, Mo.tn_ok, Mo.tn_ex, Mo.sn_nx, Mo.sn_rt, Mo.sn_bk, Mo.sn_ct, Mo.sn_ex, Mo.sl_t, Mo.sl_f, Mo.vw_d, Mo.vw_w, Mo.vw_r, Mo.vwR_LS, Mo.vwR_io, Mo.vwR_lf, Mo.stays_d, Mo.stays_r, Mo.stays_t, Mo.varF_ap, Mo.varR_lf, Mo.varR_LS, Mo.varR_io, Mo.varR_ls, Mo.cF_ap, Mo.ofO_s, Mo.binV_s, Mo.bin2_ap, Mo.unV_s, Mo.un1_ap, Mo.fzE_d, Mo.fzE_r, Mo.fzR_LS, Mo.fzR_ls, Mo.fzs_n, Mo.fzs_c, Mo.vws_n, Mo.vws_c, Mo.vwsC_s, Mo.nilV_ap, Mo.stay1_t, Mo.consV_ap, Mo.okIf_T, Mo.tupF_ap, Mo.lstF_ap, Mo.frzO_ap, Mo.lfF_ap, Mo.callV_s, Mo.callF_ap, Mo.outV_r, Mo.outV_x, Mo.callD_ap, Mo.ixV_s, Mo.ixV_n, Mo.ixF_ap, Mo.noP_ap, Mo.intV_i, Mo.someP_ap, Mo.slV_s, Mo.slF_ap, Mo.boolV_b, Mo.boolF_ap, Mo.truW_s, Mo.truV_s, Mo.truF_ap, Mo.truD_b, Mo.truD_i, Mo.okB_ap, Mo.andF_ap, Mo.orF_ap, Mo.notF_ap, Mo.okV_ap, Mo.selV_b, Mo.andV_ap, Mo.orV_ap, Mo.ifF_ap, Mo.seqF_ap, Mo.nxF_ap, Mo.bkF_ap, Mo.retF_ap, Mo.exprF_ap, Mo.ofE_s, Mo.asgF_ap, Mo.asgE_ap, Mo.asgR_un, Mo.asgR_v, Mo.asgR_raw, Mo.setO_ap, Mo.ifS_ap, Mo.gNil_ap, Mo.nextE_s, Mo.gCons_ap, Mo.lsAt_ap, Mo.lsR_LS, Mo.lsR_io, Mo.lsR_ls, Mo.appF_ap, Mo.appG_s, Mo.appK_LS, Mo.okIf_le, Mo.okIf_lt, Mo.outS_nx, Mo.outS_rt, Mo.outS_ex, Mo.outI_rt, Mo.outI_nx, Mo.bTup_l, Mo.bTup_t, Mo.bInt_b, Mo.bInt_i, Mo.dropE_n, Mo.dropE_c, Mo.dropN_s, Mo.drop1R_un, Mo.drop1R_lf, Mo.restE_n, Mo.restE_c, Mo.restR_s, Mo.forF_ap, Mo.itV_s, Mo.itF_ap, Mo.argF_ap, Mo.items_l, Mo.items_t, Mo.yesF_ap, Mo.repO_ap, Mo.nilW_ap, Mo.consW_ap, Mo.parF_ap, Mo.parN_s, Mo.parE_n, Mo.parE_c, Mo.ioK_v, Mo.ioK_io, Mo.ioH_s, Mo.ioG_s, Mo.ioArg_r, Mo.joinF_ap, Mo.insF_ap, Mo.insG_s, Mo.insArg_s, Mo.insH_s, Mo.extF_ap, Mo.extG_s, Mo.extH_s, Mo.tryF_ap, Mo.tryK_nx, Mo.tryK_rt, Mo.tryK_ex, Mo.raiseF_ap, Mo.lr2F_ap, Mo.lr1F_ap, Mo.lrPi_ap, Mo.okI_tr, oAdd_i, oSub_i, oLt_i, oLe_i, oGt_i, oGe_i, oEq_i, oNe_i, len_S, List.getElem?_cons_zero, List.getElem?_cons_succ, List.set_cons_zero, List.set_cons_succ, List.map_cons, List.map_nil, List.replicate_succ, List.replicate_zero, List.cons_append, List.nil_append, List.length_cons, List.length_nil, Nat.reduceLeDiff, Nat.reduceAdd, Nat.reduceSub, Nat.zero_le, Nat.add_one_sub_one, Nat.sub_self, Nat.zero_add, decide_true, decide_false, Bool.not_true, Bool.not_false, Bool.and_self, Bool.true_and, Bool.and_true, e, unpE]
    rfl
theorem pow_go : ∀ (n : Nat) (ds : List PyData) (f m : Nat) (s2 : Slot), Lt s2 → ds.length = n → ∃ m' t2, forGo (asgE 2) pB ds [.v (.lf (.int (m : Nat))), .v (.lf (.int (f : Nat))), s2] = .nx [.v (.lf (.int (m' : Nat))), .v (.lf (.int (powM n f m : Nat))), t2]
  | 0, ds, f, m, s2, l2, h => by
    have : ds = [] := List.length_eq_zero_iff.mp h
    subst this
    exact ⟨m, s2, forGo_nil⟩
  | n + 1, [], f, m, s2, l2, h => by simp at h
  | n + 1, d :: ds, f, m, s2, l2, h => by
    have tg : asgE 2 d [.v (.lf (.int (m : Nat))), .v (.lf (.int (f : Nat))), s2] = some [.v (.lf (.int (m : Nat))), .v (.lf (.int (f : Nat))), .v (.lf d)] := by
      rcases l2 with rfl | ⟨_, rfl⟩ <;> rfl
    rw [forGo_nx tg pB_is]
    unfold powM
    by_cases q : 0 < m
    · rw [if_pos q, if_pos q]
      exact pow_go n ds (f + 1) (m / 2) _ .v (by simpa using h)
    · rw [if_neg q, if_neg q]
      exact pow_go n ds f m _ .v (by simpa using h)
theorem power_is {c : Cs} {m : Nat} : f_l_power c [.int (m : Nat)] = .ret (.int (powM 40 0 m : Nat)) := by
  obtain ⟨m', t2, w⟩ := pow_go 40 (rngD 0 40) 0 m .un .un (by simp [rngD])
  have w' : forGo (asgE 2) pB (rngD 0 40) [.v (.lf (.int (m : Nat))), .v (.lf (.int 0)), .un] = .nx [.v (.lf (.int (m' : Nat))), .v (.lf (.int (powM 40 0 m : Nat))), t2] := w
  have rg : rg1 [.int 40] = some (rngD 0 40) := rfl
  have eg : g_l_power c = seqF (asgF (asgE 1) (cF (.int 0))) (seqF (forF (argF rg1 (consV true (cF (.int 40)) nilV)) (asgE 2) pB) (retF (varF 1))) := rfl
  unfold f_l_power
  rw [eg]
  refine (funF_ap rfl).trans ?_
  simp -implicitDefEqProofs only [Mo.show_LS, Mo.view_LS, ↓Mo.bind_bn, ↓Mo.tos_tn, ↓Mo.sthen_sn, ↓Mo.sel_sl, Mo.bn_ok, Mo.bn_ex, Mo.tn_ok, Mo.tn_ex, Mo.sn_nx, Mo.sn_rt, Mo.sn_bk, Mo.sn_ct, Mo.sn_ex, Mo.sl_t, Mo.sl_f, Mo.vw_d, Mo.vw_w, Mo.vw_r, Mo.vwR_LS, Mo.vwR_io, Mo.vwR_lf, Mo.stays_d, Mo.stays_r, Mo.stays_t, Mo.varF_ap, Mo.varR_lf, Mo.varR_LS, Mo.varR_io, Mo.varR_ls, Mo.cF_ap, Mo.ofO_s, Mo.binV_s, Mo.bin2_ap, Mo.unV_s, Mo.un1_ap, Mo.fzE_d, Mo.fzE_r, Mo.fzR_LS, Mo.fzR_ls, Mo.fzs_n, Mo.fzs_c, Mo.vws_n, Mo.vws_c, Mo.vwsC_s, Mo.nilV_ap, Mo.stay1_t, Mo.consV_ap, Mo.okIf_T, Mo.tupF_ap, Mo.lstF_ap, Mo.frzO_ap, Mo.lfF_ap, Mo.callV_s, Mo.callF_ap, Mo.outV_r, Mo.outV_x, Mo.callD_ap, Mo.ixV_s, Mo.ixV_n, Mo.ixF_ap, Mo.noP_ap, Mo.intV_i, Mo.someP_ap, Mo.slV_s, Mo.slF_ap, Mo.boolV_b, Mo.boolF_ap, Mo.truW_s, Mo.truV_s, Mo.truF_ap, Mo.truD_b, Mo.truD_i, Mo.okB_ap, Mo.andF_ap, Mo.orF_ap, Mo.notF_ap, Mo.okV_ap, Mo.selV_b, Mo.andV_ap, Mo.orV_ap, Mo.ifF_ap, Mo.seqF_ap, Mo.nxF_ap, Mo.bkF_ap, Mo.retF_ap, Mo.exprF_ap, Mo.ofE_s, Mo.asgF_ap, Mo.asgE_ap, Mo.asgR_un, Mo.asgR_v, Mo.asgR_raw, Mo.setO_ap, Mo.ifS_ap, Mo.gNil_ap, Mo.nextE_s, Mo.gCons_ap, Mo.lsAt_ap, Mo.lsR_LS, Mo.lsR_io, Mo.lsR_ls, Mo.appF_ap, Mo.appG_s, Mo.appK_LS, Mo.okIf_le, Mo.okIf_lt, Mo.outS_nx, Mo.outS_rt, Mo.outS_ex, Mo.outI_rt, Mo.outI_nx, Mo.bTup_l, Mo.bTup_t, Mo.bInt_b, Mo.bInt_i, Mo.dropE_n, Mo.dropE_c, Mo.dropN_s, Mo.drop1R_un, Mo.drop1R_lf, Mo.restE_n, Mo.restE_c, Mo.restR_s, Mo.forF_ap, Mo.itV_s, Mo.itF_ap, Mo.argF_ap, Mo.items_l, Mo.items_t, Mo.yesF_ap, Mo.repO_ap, Mo.nilW_ap, Mo.consW_ap, Mo.parF_ap, Mo.parN_s, Mo.parE_n, Mo.parE_c, Mo.ioK_v, Mo.ioK_io, Mo.ioH_s, Mo.ioG_s, Mo.ioArg_r, Mo.joinF_ap, Mo.insF_ap, Mo.insG_s, Mo.insArg_s, Mo.insH_s, Mo.extF_ap, Mo.extG_s, Mo.extH_s, Mo.tryF_ap, Mo.tryK_nx, Mo.tryK_rt, Mo.tryK_ex, Mo.raiseF_ap, Mo.lr2F_ap, Mo.lr1F_ap, Mo.lrPi_ap, Mo.okI_tr, oAdd_i, oSub_i, oLt_i, oLe_i, oGt_i, oGe_i, oEq_i, oNe_i, len_S, List.getElem?_cons_zero, List.getElem?_cons_succ, List.set_cons_zero, List.set_cons_succ, List.map_cons, List.map_nil, List.replicate_succ, List.replicate_zero, List.cons_append, List.nil_append, List.length_cons, List.length_nil, Nat.reduceLeDiff, Nat.reduceAdd, Nat.reduceSub, Nat.zero_le, Nat.add_one_sub_one, Nat.sub_self, Nat.zero_add, decide_true, decide_false, Bool.not_true, Bool.not_false, Bool.and_self, Bool.true_and, Bool.and_true, rg, w']
end K88

/-! Wo88: without, part, place_in told. -/
namespace K88
open PySem PySem.Spec PyProof.Rows L2 Mo
theorem seek_max {l : List Nat} (a : Asc l) (hl : l.length ≤ 40) {s g : Nat} (hs : s ≤ l.length) : (seekM l s g).1 = max s (dues l g) := (steps_ok a hl hs).1
theorem seek_le {l : List Nat} (a : Asc l) (hl : l.length ≤ 40) {s g : Nat} (hs : s ≤ l.length) : (seekM l s g).1 ≤ l.length := by
  rw [seek_max a hl hs]
  exact Nat.max_le.mpr ⟨hs, (cut_of g a).le⟩
noncomputable def wB (c : Cs) : Mo.Env → SRes := (seqF (asgF (unpE 2 (gConsE (asgE 4) (gConsE (asgE 5) gNilE))) (callD (f_seek c) (consV true (varF 1) (consV true (varF 4) (consV true (varF 2) nilV)))))
    (ifS (orF (boolF (bin2 true oEq (varF 4) (callF bLen (consV true (varF 1) nilV)))) (boolF (bin2 true oNe (ixF true (varF 1) (varF 4)) (varF 2)))) (exprF (appF 3 (lfF (varF 2)))) nxF))
theorem wB_is {c : Cs} {b : List Nat} {xa : PyData} (lb : b.length ≤ 40) {acc : List Nat} {x t : Nat} {s5 : Slot} (l5 : Lt s5) (ha : acc.length ≤ 1000) (hp : (seekM b t x).1 ≤ b.length) :
    wB c [.v (.lf xa), .v (.lf (R b)), .v (.lf (en x)), .v (LS (acc.map en)), .v (.lf (.int (t : Nat))), s5] = .nx [.v (.lf xa), .v (.lf (R b)), .v (.lf (en x)), .v (LS ((acc ++ (if (seekM b t x).1 = b.length ∨ gt b (seekM b t x).1 ≠ x then [x] else [])).map en)), .v (.lf (.int ((seekM b t x).1 : Nat))), .v (.lf (.int ((seekM b t x).2 : Nat)))] := by
  have sk := seek_is (c := c) (l := b) (a := t) (g := x) lb
  have ol : (acc.map en).length ≤ 1000000 := by rw [List.length_map]; omega
  unfold en
  unfold en at ol
  by_cases q : (seekM b t x).1 = b.length
  · have e : decide ((((seekM b t x).1 : Nat) : Int) = (b.length : Nat)) = true := decide_eq_true (by omega)
    rw [if_pos (.inl q)]
    unfold wB
    rcases l5 with rfl | ⟨_, rfl⟩ <;> simp -implicitDefEqProofs only [Mo.show_LS, Mo.view_LS, ↓Mo.bind_bn, ↓Mo.tos_tn, ↓Mo.sthen_sn, ↓Mo.sel_sl, Mo.bn_ok, Mo.bn_ex, Mo.tn_ok, Mo.tn_ex, Mo.sn_nx, Mo.sn_rt, Mo.sn_bk, Mo.sn_ct, Mo.sn_ex, Mo.sl_t, Mo.sl_f, Mo.vw_d, Mo.vw_w, Mo.vw_r, Mo.vwR_LS, Mo.vwR_io, Mo.vwR_lf, Mo.stays_d, Mo.stays_r, Mo.stays_t, Mo.varF_ap, Mo.varR_lf, Mo.varR_LS, Mo.varR_io, Mo.varR_ls, Mo.cF_ap, Mo.ofO_s, Mo.binV_s, Mo.bin2_ap, Mo.unV_s, Mo.un1_ap, Mo.fzE_d, Mo.fzE_r, Mo.fzR_LS, Mo.fzR_ls, Mo.fzs_n, Mo.fzs_c, Mo.vws_n, Mo.vws_c, Mo.vwsC_s, Mo.nilV_ap, Mo.stay1_t, Mo.consV_ap, Mo.okIf_T, Mo.tupF_ap, Mo.lstF_ap, Mo.frzO_ap, Mo.lfF_ap, Mo.callV_s, Mo.callF_ap, Mo.outV_r, Mo.outV_x, Mo.callD_ap, Mo.ixV_s, Mo.ixV_n, Mo.ixF_ap, Mo.noP_ap, Mo.intV_i, Mo.someP_ap, Mo.slV_s, Mo.slF_ap, Mo.boolV_b, Mo.boolF_ap, Mo.truW_s, Mo.truV_s, Mo.truF_ap, Mo.truD_b, Mo.truD_i, Mo.okB_ap, Mo.andF_ap, Mo.orF_ap, Mo.notF_ap, Mo.okV_ap, Mo.selV_b, Mo.andV_ap, Mo.orV_ap, Mo.ifF_ap, Mo.seqF_ap, Mo.nxF_ap, Mo.bkF_ap, Mo.retF_ap, Mo.exprF_ap, Mo.ofE_s, Mo.asgF_ap, Mo.asgE_ap, Mo.asgR_un, Mo.asgR_v, Mo.asgR_raw, Mo.setO_ap, Mo.ifS_ap, Mo.gNil_ap, Mo.nextE_s, Mo.gCons_ap, Mo.lsAt_ap, Mo.lsR_LS, Mo.lsR_io, Mo.lsR_ls, Mo.appF_ap, Mo.appG_s, Mo.appK_LS, Mo.okIf_le, Mo.okIf_lt, Mo.outS_nx, Mo.outS_rt, Mo.outS_ex, Mo.outI_rt, Mo.outI_nx, Mo.bTup_l, Mo.bTup_t, Mo.bInt_b, Mo.bInt_i, Mo.dropE_n, Mo.dropE_c, Mo.dropN_s, Mo.drop1R_un, Mo.drop1R_lf, Mo.restE_n, Mo.restE_c, Mo.restR_s, Mo.forF_ap, Mo.itV_s, Mo.itF_ap, Mo.argF_ap, Mo.items_l, Mo.items_t, Mo.yesF_ap, Mo.repO_ap, Mo.nilW_ap, Mo.consW_ap, Mo.parF_ap, Mo.parN_s, Mo.parE_n, Mo.parE_c, Mo.ioK_v, Mo.ioK_io, Mo.ioH_s, Mo.ioG_s, Mo.ioArg_r, Mo.joinF_ap, Mo.insF_ap, Mo.insG_s, Mo.insArg_s, Mo.insH_s, Mo.extF_ap, Mo.extG_s, Mo.extH_s, Mo.tryF_ap, Mo.tryK_nx, Mo.tryK_rt, Mo.tryK_ex, Mo.raiseF_ap, Mo.lr2F_ap, Mo.lr1F_ap, Mo.lrPi_ap, Mo.okI_tr, oAdd_i, oSub_i, oLt_i, oLe_i, oGt_i, oGe_i, oEq_i, oNe_i, len_S, List.getElem?_cons_zero, List.getElem?_cons_succ, List.set_cons_zero, List.set_cons_succ, List.map_cons, List.map_nil, List.replicate_succ, List.replicate_zero, List.cons_append, List.nil_append, List.length_cons, List.length_nil, Nat.reduceLeDiff, Nat.reduceAdd, Nat.reduceSub, Nat.zero_le, Nat.add_one_sub_one, Nat.sub_self, Nat.zero_add, decide_true, decide_false, Bool.not_true, Bool.not_false, Bool.and_self, Bool.true_and, Bool.and_true, sk, unpE, if_true, len_R, e, okIf_lt ol, List.map_append] <;> rfl
  · have e : decide ((((seekM b t x).1 : Nat) : Int) = (b.length : Nat)) = false := decide_eq_false (by omega)
    have it := item_R (l := b) (i := (seekM b t x).1) (by omega)
    by_cases r : gt b (seekM b t x).1 = x
    · have e2 : decide (((gt b (seekM b t x).1 : Nat) : Int) = (x : Nat)) = true := decide_eq_true (by omega)
      rw [if_neg (fun z => z.elim q (fun y => y r)), List.append_nil]
      unfold wB
      rcases l5 with rfl | ⟨_, rfl⟩ <;> simp -implicitDefEqProofs only [Mo.show_LS, Mo.view_LS, ↓Mo.bind_bn, ↓Mo.tos_tn, ↓Mo.sthen_sn, ↓Mo.sel_sl, Mo.bn_ok, Mo.bn_ex, Mo.tn_ok, Mo.tn_ex, Mo.sn_nx, Mo.sn_rt, Mo.sn_bk, Mo.sn_ct, Mo.sn_ex, Mo.sl_t, Mo.sl_f, Mo.vw_d, Mo.vw_w, Mo.vw_r, Mo.vwR_LS, Mo.vwR_io, Mo.vwR_lf, Mo.stays_d, Mo.stays_r, Mo.stays_t, Mo.varF_ap, Mo.varR_lf, Mo.varR_LS, Mo.varR_io, Mo.varR_ls, Mo.cF_ap, Mo.ofO_s, Mo.binV_s, Mo.bin2_ap, Mo.unV_s, Mo.un1_ap, Mo.fzE_d, Mo.fzE_r, Mo.fzR_LS, Mo.fzR_ls, Mo.fzs_n, Mo.fzs_c, Mo.vws_n, Mo.vws_c, Mo.vwsC_s, Mo.nilV_ap, Mo.stay1_t, Mo.consV_ap, Mo.okIf_T, Mo.tupF_ap, Mo.lstF_ap, Mo.frzO_ap, Mo.lfF_ap, Mo.callV_s, Mo.callF_ap, Mo.outV_r, Mo.outV_x, Mo.callD_ap, Mo.ixV_s, Mo.ixV_n, Mo.ixF_ap, Mo.noP_ap, Mo.intV_i, Mo.someP_ap, Mo.slV_s, Mo.slF_ap, Mo.boolV_b, Mo.boolF_ap, Mo.truW_s, Mo.truV_s, Mo.truF_ap, Mo.truD_b, Mo.truD_i, Mo.okB_ap, Mo.andF_ap, Mo.orF_ap, Mo.notF_ap, Mo.okV_ap, Mo.selV_b, Mo.andV_ap, Mo.orV_ap, Mo.ifF_ap, Mo.seqF_ap, Mo.nxF_ap, Mo.bkF_ap, Mo.retF_ap, Mo.exprF_ap, Mo.ofE_s, Mo.asgF_ap, Mo.asgE_ap, Mo.asgR_un, Mo.asgR_v, Mo.asgR_raw, Mo.setO_ap, Mo.ifS_ap, Mo.gNil_ap, Mo.nextE_s, Mo.gCons_ap, Mo.lsAt_ap, Mo.lsR_LS, Mo.lsR_io, Mo.lsR_ls, Mo.appF_ap, Mo.appG_s, Mo.appK_LS, Mo.okIf_le, Mo.okIf_lt, Mo.outS_nx, Mo.outS_rt, Mo.outS_ex, Mo.outI_rt, Mo.outI_nx, Mo.bTup_l, Mo.bTup_t, Mo.bInt_b, Mo.bInt_i, Mo.dropE_n, Mo.dropE_c, Mo.dropN_s, Mo.drop1R_un, Mo.drop1R_lf, Mo.restE_n, Mo.restE_c, Mo.restR_s, Mo.forF_ap, Mo.itV_s, Mo.itF_ap, Mo.argF_ap, Mo.items_l, Mo.items_t, Mo.yesF_ap, Mo.repO_ap, Mo.nilW_ap, Mo.consW_ap, Mo.parF_ap, Mo.parN_s, Mo.parE_n, Mo.parE_c, Mo.ioK_v, Mo.ioK_io, Mo.ioH_s, Mo.ioG_s, Mo.ioArg_r, Mo.joinF_ap, Mo.insF_ap, Mo.insG_s, Mo.insArg_s, Mo.insH_s, Mo.extF_ap, Mo.extG_s, Mo.extH_s, Mo.tryF_ap, Mo.tryK_nx, Mo.tryK_rt, Mo.tryK_ex, Mo.raiseF_ap, Mo.lr2F_ap, Mo.lr1F_ap, Mo.lrPi_ap, Mo.okI_tr, oAdd_i, oSub_i, oLt_i, oLe_i, oGt_i, oGe_i, oEq_i, oNe_i, len_S, List.getElem?_cons_zero, List.getElem?_cons_succ, List.set_cons_zero, List.set_cons_succ, List.map_cons, List.map_nil, List.replicate_succ, List.replicate_zero, List.cons_append, List.nil_append, List.length_cons, List.length_nil, Nat.reduceLeDiff, Nat.reduceAdd, Nat.reduceSub, Nat.zero_le, Nat.add_one_sub_one, Nat.sub_self, Nat.zero_add, decide_true, decide_false, Bool.not_true, Bool.not_false, Bool.and_self, Bool.true_and, Bool.and_true, sk, unpE, if_true, len_R, e, it, e2] <;> rfl
    · have e2 : decide (((gt b (seekM b t x).1 : Nat) : Int) = (x : Nat)) = false := decide_eq_false (by omega)
      rw [if_pos (.inr r)]
      unfold wB
      rcases l5 with rfl | ⟨_, rfl⟩ <;> simp -implicitDefEqProofs only [Mo.show_LS, Mo.view_LS, ↓Mo.bind_bn, ↓Mo.tos_tn, ↓Mo.sthen_sn, ↓Mo.sel_sl, Mo.bn_ok, Mo.bn_ex, Mo.tn_ok, Mo.tn_ex, Mo.sn_nx, Mo.sn_rt, Mo.sn_bk, Mo.sn_ct, Mo.sn_ex, Mo.sl_t, Mo.sl_f, Mo.vw_d, Mo.vw_w, Mo.vw_r, Mo.vwR_LS, Mo.vwR_io, Mo.vwR_lf, Mo.stays_d, Mo.stays_r, Mo.stays_t, Mo.varF_ap, Mo.varR_lf, Mo.varR_LS, Mo.varR_io, Mo.varR_ls, Mo.cF_ap, Mo.ofO_s, Mo.binV_s, Mo.bin2_ap, Mo.unV_s, Mo.un1_ap, Mo.fzE_d, Mo.fzE_r, Mo.fzR_LS, Mo.fzR_ls, Mo.fzs_n, Mo.fzs_c, Mo.vws_n, Mo.vws_c, Mo.vwsC_s, Mo.nilV_ap, Mo.stay1_t, Mo.consV_ap, Mo.okIf_T, Mo.tupF_ap, Mo.lstF_ap, Mo.frzO_ap, Mo.lfF_ap, Mo.callV_s, Mo.callF_ap, Mo.outV_r, Mo.outV_x, Mo.callD_ap, Mo.ixV_s, Mo.ixV_n, Mo.ixF_ap, Mo.noP_ap, Mo.intV_i, Mo.someP_ap, Mo.slV_s, Mo.slF_ap, Mo.boolV_b, Mo.boolF_ap, Mo.truW_s, Mo.truV_s, Mo.truF_ap, Mo.truD_b, Mo.truD_i, Mo.okB_ap, Mo.andF_ap, Mo.orF_ap, Mo.notF_ap, Mo.okV_ap, Mo.selV_b, Mo.andV_ap, Mo.orV_ap, Mo.ifF_ap, Mo.seqF_ap, Mo.nxF_ap, Mo.bkF_ap, Mo.retF_ap, Mo.exprF_ap, Mo.ofE_s, Mo.asgF_ap, Mo.asgE_ap, Mo.asgR_un, Mo.asgR_v, Mo.asgR_raw, Mo.setO_ap, Mo.ifS_ap, Mo.gNil_ap, Mo.nextE_s, Mo.gCons_ap, Mo.lsAt_ap, Mo.lsR_LS, Mo.lsR_io, Mo.lsR_ls, Mo.appF_ap, Mo.appG_s, Mo.appK_LS, Mo.okIf_le, Mo.okIf_lt, Mo.outS_nx, Mo.outS_rt, Mo.outS_ex, Mo.outI_rt, Mo.outI_nx, Mo.bTup_l, Mo.bTup_t, Mo.bInt_b, Mo.bInt_i, Mo.dropE_n, Mo.dropE_c, Mo.dropN_s, Mo.drop1R_un, Mo.drop1R_lf, Mo.restE_n, Mo.restE_c, Mo.restR_s, Mo.forF_ap, Mo.itV_s, Mo.itF_ap, Mo.argF_ap, Mo.items_l, Mo.items_t, Mo.yesF_ap, Mo.repO_ap, Mo.nilW_ap, Mo.consW_ap, Mo.parF_ap, Mo.parN_s, Mo.parE_n, Mo.parE_c, Mo.ioK_v, Mo.ioK_io, Mo.ioH_s, Mo.ioG_s, Mo.ioArg_r, Mo.joinF_ap, Mo.insF_ap, Mo.insG_s, Mo.insArg_s, Mo.insH_s, Mo.extF_ap, Mo.extG_s, Mo.extH_s, Mo.tryF_ap, Mo.tryK_nx, Mo.tryK_rt, Mo.tryK_ex, Mo.raiseF_ap, Mo.lr2F_ap, Mo.lr1F_ap, Mo.lrPi_ap, Mo.okI_tr, oAdd_i, oSub_i, oLt_i, oLe_i, oGt_i, oGe_i, oEq_i, oNe_i, len_S, List.getElem?_cons_zero, List.getElem?_cons_succ, List.set_cons_zero, List.set_cons_succ, List.map_cons, List.map_nil, List.replicate_succ, List.replicate_zero, List.cons_append, List.nil_append, List.length_cons, List.length_nil, Nat.reduceLeDiff, Nat.reduceAdd, Nat.reduceSub, Nat.zero_le, Nat.add_one_sub_one, Nat.sub_self, Nat.zero_add, decide_true, decide_false, Bool.not_true, Bool.not_false, Bool.and_self, Bool.true_and, Bool.and_true, sk, unpE, if_true, len_R, e, it, e2, okIf_lt ol, List.map_append] <;> rfl
theorem wo_go {c : Cs} {b : List Nat} {xa : PyData} (hb : Asc b) (lb : b.length ≤ 40) : ∀ (r acc : List Nat) (t : Nat) (s2 s5 : Slot), Lt s2 → Lt s5 → acc.length + r.length ≤ 1000 → t ≤ b.length →
    ∃ t2 t4 t5, forGo (asgE 2) (wB c) (r.map en) [.v (.lf xa), .v (.lf (R b)), s2, .v (LS (acc.map en)), .v (.lf (.int (t : Nat))), s5] = .nx [.v (.lf xa), .v (.lf (R b)), t2, .v (LS ((acc ++ woM b r t).map en)), t4, t5]
  | [], acc, t, s2, s5, _, _, _, _ => ⟨s2, _, s5, by rw [List.map_nil, forGo_nil]; unfold woM; rw [List.append_nil]⟩
  | x :: r, acc, t, s2, s5, l2, l5, hl, ht => by
    have tg : asgE 2 (en x) [.v (.lf xa), .v (.lf (R b)), s2, .v (LS (acc.map en)), .v (.lf (.int (t : Nat))), s5] = some [.v (.lf xa), .v (.lf (R b)), .v (.lf (en x)), .v (LS (acc.map en)), .v (.lf (.int (t : Nat))), s5] := by
      rcases l2 with rfl | ⟨_, rfl⟩ <;> rcases l5 with rfl | ⟨_, rfl⟩ <;> rfl
    have hp := seek_le hb lb (g := x) ht
    simp only [List.length_cons] at hl
    rw [List.map_cons, forGo_nx tg (wB_is (c := c) lb l5 (by omega) hp)]
    have hlen : (acc ++ (if (seekM b t x).1 = b.length ∨ gt b (seekM b t x).1 ≠ x then [x] else [])).length ≤ acc.length + 1 := by
      split <;> simp
    obtain ⟨t2, t4, t5, e⟩ := wo_go hb lb r (acc ++ (if (seekM b t x).1 = b.length ∨ gt b (seekM b t x).1 ≠ x then [x] else [])) (seekM b t x).1 (.v (.lf (en x))) (.v (.lf (.int ((seekM b t x).2 : Nat)))) .v .v (by omega) hp
    refine ⟨t2, t4, t5, e.trans ?_⟩
    rw [List.append_assoc]
    rfl
def wo (a b : List Nat) : List Nat := a.filter (fun x => !(has b x))
theorem without_is {c : Cs} {a b : List Nat} (ha : Asc a) (hb : Asc b) (la : a.length ≤ 40) (lb : b.length ≤ 40) : f_without c [R a, R b] = .ret (R (wo a b)) := by
  have wk := woM_ok hb lb (a := a) 0 ha fun _ _ => Nat.zero_le _
  obtain ⟨t2, t4, t5, w⟩ := wo_go (c := c) (xa := R a) hb lb a [] 0 .un .un .un .un (by simp; omega) (Nat.zero_le _)
  rw [List.nil_append, wk] at w
  have w' : forGo (asgE 2) (wB c) (a.map en) [.v (.lf (R a)), .v (.lf (R b)), .un, .v (LS []), .v (.lf (.int 0)), .un] = .nx [.v (.lf (R a)), .v (.lf (R b)), t2, .v (LS ((wo a b).map en)), t4, t5] := w
  have eg : g_without c = seqF (parF [3, 4] (consW (lstF nilV) (consW (lfF (cF (.int 0))) nilW))) (seqF (forF (itF (varF 0)) (asgE 2) (wB c)) (retF (callF bTuple (consV true (varF 3) nilV)))) := rfl
  unfold f_without
  rw [eg]
  refine (funF_ap rfl).trans ?_
  rw [R_is (wo a b)]
  rw [R_is a] at w' ⊢
  simp -implicitDefEqProofs only [Mo.show_LS, Mo.view_LS, ↓Mo.bind_bn, ↓Mo.tos_tn, ↓Mo.sthen_sn, ↓Mo.sel_sl, Mo.bn_ok, Mo.bn_ex, Mo.tn_ok, Mo.tn_ex, Mo.sn_nx, Mo.sn_rt, Mo.sn_bk, Mo.sn_ct, Mo.sn_ex, Mo.sl_t, Mo.sl_f, Mo.vw_d, Mo.vw_w, Mo.vw_r, Mo.vwR_LS, Mo.vwR_io, Mo.vwR_lf, Mo.stays_d, Mo.stays_r, Mo.stays_t, Mo.varF_ap, Mo.varR_lf, Mo.varR_LS, Mo.varR_io, Mo.varR_ls, Mo.cF_ap, Mo.ofO_s, Mo.binV_s, Mo.bin2_ap, Mo.unV_s, Mo.un1_ap, Mo.fzE_d, Mo.fzE_r, Mo.fzR_LS, Mo.fzR_ls, Mo.fzs_n, Mo.fzs_c, Mo.vws_n, Mo.vws_c, Mo.vwsC_s, Mo.nilV_ap, Mo.stay1_t, Mo.consV_ap, Mo.okIf_T, Mo.tupF_ap, Mo.lstF_ap, Mo.frzO_ap, Mo.lfF_ap, Mo.callV_s, Mo.callF_ap, Mo.outV_r, Mo.outV_x, Mo.callD_ap, Mo.ixV_s, Mo.ixV_n, Mo.ixF_ap, Mo.noP_ap, Mo.intV_i, Mo.someP_ap, Mo.slV_s, Mo.slF_ap, Mo.boolV_b, Mo.boolF_ap, Mo.truW_s, Mo.truV_s, Mo.truF_ap, Mo.truD_b, Mo.truD_i, Mo.okB_ap, Mo.andF_ap, Mo.orF_ap, Mo.notF_ap, Mo.okV_ap, Mo.selV_b, Mo.andV_ap, Mo.orV_ap, Mo.ifF_ap, Mo.seqF_ap, Mo.nxF_ap, Mo.bkF_ap, Mo.retF_ap, Mo.exprF_ap, Mo.ofE_s, Mo.asgF_ap, Mo.asgE_ap, Mo.asgR_un, Mo.asgR_v, Mo.asgR_raw, Mo.setO_ap, Mo.ifS_ap, Mo.gNil_ap, Mo.nextE_s, Mo.gCons_ap, Mo.lsAt_ap, Mo.lsR_LS, Mo.lsR_io, Mo.lsR_ls, Mo.appF_ap, Mo.appG_s, Mo.appK_LS, Mo.okIf_le, Mo.okIf_lt, Mo.outS_nx, Mo.outS_rt, Mo.outS_ex, Mo.outI_rt, Mo.outI_nx, Mo.bTup_l, Mo.bTup_t, Mo.bInt_b, Mo.bInt_i, Mo.dropE_n, Mo.dropE_c, Mo.dropN_s, Mo.drop1R_un, Mo.drop1R_lf, Mo.restE_n, Mo.restE_c, Mo.restR_s, Mo.forF_ap, Mo.itV_s, Mo.itF_ap, Mo.argF_ap, Mo.items_l, Mo.items_t, Mo.yesF_ap, Mo.repO_ap, Mo.nilW_ap, Mo.consW_ap, Mo.parF_ap, Mo.parN_s, Mo.parE_n, Mo.parE_c, Mo.ioK_v, Mo.ioK_io, Mo.ioH_s, Mo.ioG_s, Mo.ioArg_r, Mo.joinF_ap, Mo.insF_ap, Mo.insG_s, Mo.insArg_s, Mo.insH_s, Mo.extF_ap, Mo.extG_s, Mo.extH_s, Mo.tryF_ap, Mo.tryK_nx, Mo.tryK_rt, Mo.tryK_ex, Mo.raiseF_ap, Mo.lr2F_ap, Mo.lr1F_ap, Mo.lrPi_ap, Mo.okI_tr, oAdd_i, oSub_i, oLt_i, oLe_i, oGt_i, oGe_i, oEq_i, oNe_i, len_S, List.getElem?_cons_zero, List.getElem?_cons_succ, List.set_cons_zero, List.set_cons_succ, List.map_cons, List.map_nil, List.replicate_succ, List.replicate_zero, List.cons_append, List.nil_append, List.length_cons, List.length_nil, Nat.reduceLeDiff, Nat.reduceAdd, Nat.reduceSub, Nat.zero_le, Nat.add_one_sub_one, Nat.sub_self, Nat.zero_add, decide_true, decide_false, Bool.not_true, Bool.not_false, Bool.and_self, Bool.true_and, Bool.and_true, w']
theorem cut_R {l : List Nat} {i j : Nat} : oSlice (R l) (some (i : Nat)) (some (j : Nat)) = some (R ((l.drop i).take (j - i))) := by
  show some (PyData.tuple (Mo.cutD (l.map en) _ _)) = _
  unfold Mo.cutD
  rw [sIx_n, sIx_n, List.length_map, R_is, List.map_take, List.map_drop]
  congr 2
  by_cases h : i ≤ l.length
  · rw [Nat.min_eq_left h]
    by_cases h2 : j ≤ l.length
    · rw [Nat.min_eq_left h2]
    · rw [Nat.min_eq_right (by omega), List.take_of_length_le (by simp), List.take_of_length_le (by simp; omega)]
  · rw [List.drop_of_length_le (by simp; omega), List.drop_of_length_le (by simp; omega)]; simp
theorem cutF_R {l : List Nat} {i : Nat} : oSlice (R l) (some (i : Nat)) none = some (R (l.drop i)) := by
  show some (PyData.tuple (Mo.cutD (l.map en) _ _)) = _
  unfold Mo.cutD
  rw [sIx_n, List.length_map, R_is, List.map_drop]
  congr 2
  show ((l.map en).drop (min i l.length)).take (l.length - min i l.length) = _
  by_cases h : i ≤ l.length
  · rw [Nat.min_eq_left h, List.take_of_length_le (by simp)]
  · rw [List.drop_of_length_le (by simp; omega), List.drop_of_length_le (by simp; omega)]; simp
theorem cutT_R {l : List Nat} {j : Nat} : oSlice (R l) none (some (j : Nat)) = some (R (l.take j)) := by
  show some (PyData.tuple (Mo.cutD (l.map en) _ _)) = _
  unfold Mo.cutD
  rw [sIx_n, List.length_map, R_is, List.map_take]
  congr 2
  show ((l.map en).drop 0).take (min j l.length - 0) = _
  rw [List.drop_zero, Nat.sub_zero]
  by_cases h : j ≤ l.length
  · rw [Nat.min_eq_left h]
  · rw [Nat.min_eq_right (by omega), List.take_of_length_le (by simp), List.take_of_length_le (by simp; omega)]
/-- from a number to the last -/
theorem dues_at {l : List Nat} (a : Asc l) {k : Nat} (hk : k < l.length) : dues l (gt l k) = k := by
  have cu := cut_of (gt l k) a
  have h1 : ¬ k < dues l (gt l k) := fun z => Nat.lt_irrefl _ ((cu.iff k hk).mpr z)
  rcases Nat.lt_or_eq_of_le (Nat.le_of_not_lt h1) with h | h
  · have := asc_gt a h hk
    exact absurd ((cu.iff _ (Nat.lt_trans h hk)).mp this) (Nat.lt_irrefl _)
  · exact h
theorem part_is {c : Cs} {l : List Nat} (a : Asc l) (hl : l.length ≤ 40) {k : Nat} (hk : k < l.length) : f_part c [R l, en (gt l k), en (gt l (l.length - 1))] = .ret (R (l.drop k)) := by
  have s1 := seek_is (c := c) (l := l) (a := 0) (g := gt l k) hl
  rw [seek_max a hl (Nat.zero_le _), dues_at a hk, Nat.max_eq_right (Nat.zero_le k)] at s1
  have s2 := seek_is (c := c) (l := l) (a := k) (g := gt l (l.length - 1) + 1) hl
  have e : dues l (gt l (l.length - 1) + 1) = l.length := by
    have cu := cut_of (gt l (l.length - 1) + 1) a
    have := (cu.iff (l.length - 1) (by omega)).mp (Nat.lt_succ_self _)
    have := cu.le
    omega
  rw [seek_max a hl (Nat.le_of_lt hk), e, Nat.max_eq_right (Nat.le_of_lt hk)] at s2
  have cu := cut_R (l := l) (i := k) (j := l.length)
  have e2 : (l.drop k).take (l.length - k) = l.drop k := List.take_of_length_le (by simp)
  rw [e2] at cu
  have tt : bTuple [R (l.drop k)] = some (R (l.drop k)) := bTup_t
  have s1' : f_seek c [R l, .int 0, .int (gt l k : Nat)] = _ := s1
  have s2' : f_seek c [R l, .int (k : Nat), .int ((gt l (l.length - 1) : Nat) + 1)] = _ := s2
  unfold f_part g_part en
  refine (funF_ap rfl).trans ?_
  simp -implicitDefEqProofs only [Mo.show_LS, Mo.view_LS, ↓Mo.bind_bn, ↓Mo.tos_tn, ↓Mo.sthen_sn, ↓Mo.sel_sl, Mo.bn_ok, Mo.bn_ex, Mo.tn_ok, Mo.tn_ex, Mo.sn_nx, Mo.sn_rt, Mo.sn_bk, Mo.sn_ct, Mo.sn_ex, Mo.sl_t, Mo.sl_f, Mo.vw_d, Mo.vw_w, Mo.vw_r, Mo.vwR_LS, Mo.vwR_io, Mo.vwR_lf, Mo.stays_d, Mo.stays_r, Mo.stays_t, Mo.varF_ap, Mo.varR_lf, Mo.varR_LS, Mo.varR_io, Mo.varR_ls, Mo.cF_ap, Mo.ofO_s, Mo.binV_s, Mo.bin2_ap, Mo.unV_s, Mo.un1_ap, Mo.fzE_d, Mo.fzE_r, Mo.fzR_LS, Mo.fzR_ls, Mo.fzs_n, Mo.fzs_c, Mo.vws_n, Mo.vws_c, Mo.vwsC_s, Mo.nilV_ap, Mo.stay1_t, Mo.consV_ap, Mo.okIf_T, Mo.tupF_ap, Mo.lstF_ap, Mo.frzO_ap, Mo.lfF_ap, Mo.callV_s, Mo.callF_ap, Mo.outV_r, Mo.outV_x, Mo.callD_ap, Mo.ixV_s, Mo.ixV_n, Mo.ixF_ap, Mo.noP_ap, Mo.intV_i, Mo.someP_ap, Mo.slV_s, Mo.slF_ap, Mo.boolV_b, Mo.boolF_ap, Mo.truW_s, Mo.truV_s, Mo.truF_ap, Mo.truD_b, Mo.truD_i, Mo.okB_ap, Mo.andF_ap, Mo.orF_ap, Mo.notF_ap, Mo.okV_ap, Mo.selV_b, Mo.andV_ap, Mo.orV_ap, Mo.ifF_ap, Mo.seqF_ap, Mo.nxF_ap, Mo.bkF_ap, Mo.retF_ap, Mo.exprF_ap, Mo.ofE_s, Mo.asgF_ap, Mo.asgE_ap, Mo.asgR_un, Mo.asgR_v, Mo.asgR_raw, Mo.setO_ap, Mo.ifS_ap, Mo.gNil_ap, Mo.nextE_s, Mo.gCons_ap, Mo.lsAt_ap, Mo.lsR_LS, Mo.lsR_io, Mo.lsR_ls, Mo.appF_ap, Mo.appG_s, Mo.appK_LS, Mo.okIf_le, Mo.okIf_lt, Mo.outS_nx, Mo.outS_rt, Mo.outS_ex, Mo.outI_rt, Mo.outI_nx, Mo.bTup_l, Mo.bTup_t, Mo.bInt_b, Mo.bInt_i, Mo.dropE_n, Mo.dropE_c, Mo.dropN_s, Mo.drop1R_un, Mo.drop1R_lf, Mo.restE_n, Mo.restE_c, Mo.restR_s, Mo.forF_ap, Mo.itV_s, Mo.itF_ap, Mo.argF_ap, Mo.items_l, Mo.items_t, Mo.yesF_ap, Mo.repO_ap, Mo.nilW_ap, Mo.consW_ap, Mo.parF_ap, Mo.parN_s, Mo.parE_n, Mo.parE_c, Mo.ioK_v, Mo.ioK_io, Mo.ioH_s, Mo.ioG_s, Mo.ioArg_r, Mo.joinF_ap, Mo.insF_ap, Mo.insG_s, Mo.insArg_s, Mo.insH_s, Mo.extF_ap, Mo.extG_s, Mo.extH_s, Mo.tryF_ap, Mo.tryK_nx, Mo.tryK_rt, Mo.tryK_ex, Mo.raiseF_ap, Mo.lr2F_ap, Mo.lr1F_ap, Mo.lrPi_ap, Mo.okI_tr, oAdd_i, oSub_i, oLt_i, oLe_i, oGt_i, oGe_i, oEq_i, oNe_i, len_S, List.getElem?_cons_zero, List.getElem?_cons_succ, List.set_cons_zero, List.set_cons_succ, List.map_cons, List.map_nil, List.replicate_succ, List.replicate_zero, List.cons_append, List.nil_append, List.length_cons, List.length_nil, Nat.reduceLeDiff, Nat.reduceAdd, Nat.reduceSub, Nat.zero_le, Nat.add_one_sub_one, Nat.sub_self, Nat.zero_add, decide_true, decide_false, Bool.not_true, Bool.not_false, Bool.and_self, Bool.true_and, Bool.and_true, s1', s2', unpE, if_true, cu, tt]
theorem place_is {c : Cs} {l : List Nat} (a : Asc l) (hl : l.length ≤ 40) {k : Nat} (hk : k < l.length) : f_place_in c [R l, en (gt l k)] = .ret (.int (k : Nat)) := by
  have s1 := seek_is (c := c) (l := l) (a := 0) (g := gt l k) hl
  rw [seek_max a hl (Nat.zero_le _), dues_at a hk, Nat.max_eq_right (Nat.zero_le k)] at s1
  have s1' : f_seek c [R l, .int 0, .int (gt l k : Nat)] = _ := s1
  have e : decide ((k : Int) = (l.length : Nat)) = false := decide_eq_false (by omega)
  have it := item_R hk
  have e2 : decide (((gt l k : Nat) : Int) = (gt l k : Nat)) = true := decide_eq_true rfl
  unfold f_place_in g_place_in en
  refine (funF_ap rfl).trans ?_
  simp -implicitDefEqProofs only [Mo.show_LS, Mo.view_LS, ↓Mo.bind_bn, ↓Mo.tos_tn, ↓Mo.sthen_sn, ↓Mo.sel_sl, Mo.bn_ok, Mo.bn_ex, Mo.tn_ok, Mo.tn_ex, Mo.sn_nx, Mo.sn_rt, Mo.sn_bk, Mo.sn_ct, Mo.sn_ex, Mo.sl_t, Mo.sl_f, Mo.vw_d, Mo.vw_w, Mo.vw_r, Mo.vwR_LS, Mo.vwR_io, Mo.vwR_lf, Mo.stays_d, Mo.stays_r, Mo.stays_t, Mo.varF_ap, Mo.varR_lf, Mo.varR_LS, Mo.varR_io, Mo.varR_ls, Mo.cF_ap, Mo.ofO_s, Mo.binV_s, Mo.bin2_ap, Mo.unV_s, Mo.un1_ap, Mo.fzE_d, Mo.fzE_r, Mo.fzR_LS, Mo.fzR_ls, Mo.fzs_n, Mo.fzs_c, Mo.vws_n, Mo.vws_c, Mo.vwsC_s, Mo.nilV_ap, Mo.stay1_t, Mo.consV_ap, Mo.okIf_T, Mo.tupF_ap, Mo.lstF_ap, Mo.frzO_ap, Mo.lfF_ap, Mo.callV_s, Mo.callF_ap, Mo.outV_r, Mo.outV_x, Mo.callD_ap, Mo.ixV_s, Mo.ixV_n, Mo.ixF_ap, Mo.noP_ap, Mo.intV_i, Mo.someP_ap, Mo.slV_s, Mo.slF_ap, Mo.boolV_b, Mo.boolF_ap, Mo.truW_s, Mo.truV_s, Mo.truF_ap, Mo.truD_b, Mo.truD_i, Mo.okB_ap, Mo.andF_ap, Mo.orF_ap, Mo.notF_ap, Mo.okV_ap, Mo.selV_b, Mo.andV_ap, Mo.orV_ap, Mo.ifF_ap, Mo.seqF_ap, Mo.nxF_ap, Mo.bkF_ap, Mo.retF_ap, Mo.exprF_ap, Mo.ofE_s, Mo.asgF_ap, Mo.asgE_ap, Mo.asgR_un, Mo.asgR_v, Mo.asgR_raw, Mo.setO_ap, Mo.ifS_ap, Mo.gNil_ap, Mo.nextE_s, Mo.gCons_ap, Mo.lsAt_ap, Mo.lsR_LS, Mo.lsR_io, Mo.lsR_ls, Mo.appF_ap, Mo.appG_s, Mo.appK_LS, Mo.okIf_le, Mo.okIf_lt, Mo.outS_nx, Mo.outS_rt, Mo.outS_ex, Mo.outI_rt, Mo.outI_nx, Mo.bTup_l, Mo.bTup_t, Mo.bInt_b, Mo.bInt_i, Mo.dropE_n, Mo.dropE_c, Mo.dropN_s, Mo.drop1R_un, Mo.drop1R_lf, Mo.restE_n, Mo.restE_c, Mo.restR_s, Mo.forF_ap, Mo.itV_s, Mo.itF_ap, Mo.argF_ap, Mo.items_l, Mo.items_t, Mo.yesF_ap, Mo.repO_ap, Mo.nilW_ap, Mo.consW_ap, Mo.parF_ap, Mo.parN_s, Mo.parE_n, Mo.parE_c, Mo.ioK_v, Mo.ioK_io, Mo.ioH_s, Mo.ioG_s, Mo.ioArg_r, Mo.joinF_ap, Mo.insF_ap, Mo.insG_s, Mo.insArg_s, Mo.insH_s, Mo.extF_ap, Mo.extG_s, Mo.extH_s, Mo.tryF_ap, Mo.tryK_nx, Mo.tryK_rt, Mo.tryK_ex, Mo.raiseF_ap, Mo.lr2F_ap, Mo.lr1F_ap, Mo.lrPi_ap, Mo.okI_tr, oAdd_i, oSub_i, oLt_i, oLe_i, oGt_i, oGe_i, oEq_i, oNe_i, len_S, List.getElem?_cons_zero, List.getElem?_cons_succ, List.set_cons_zero, List.set_cons_succ, List.map_cons, List.map_nil, List.replicate_succ, List.replicate_zero, List.cons_append, List.nil_append, List.length_cons, List.length_nil, Nat.reduceLeDiff, Nat.reduceAdd, Nat.reduceSub, Nat.zero_le, Nat.add_one_sub_one, Nat.sub_self, Nat.zero_add, decide_true, decide_false, Bool.not_true, Bool.not_false, Bool.and_self, Bool.true_and, Bool.and_true, s1', unpE, if_true, len_R, e, it, e2]
end K88

/-! Ju88: is_row, judge_met told. -/
namespace K88
open PySem PySem.Spec PyProof.Rows L2 Mo
def rowE : List PyData → Option PyData := (qAnd (qIsa PyData.isInt (fun ds : List PyData => ds[0]?)) (qAnd (qNot (qIsa PyData.isBool (fun ds : List PyData => ds[0]?))) (qChain (qCmp fun i j => decide (i ≤ j)) (qCmp fun i j => decide (i ≤ j)) (fun _ => some (.int 0)) (fun ds : List PyData => ds[0]?) (q2 qPow (fun _ => some (.int 10)) (fun _ => some (.int 9))))))
def ascE : List PyData → Option PyData := (q2 (qCmp fun i j => decide (i < j)) (fun ds : List PyData => ds[0]?) (fun ds : List PyData => ds[1]?))
theorem pow9 : q2 qPow (fun _ => some (.int 10)) (fun _ => some (.int 9)) ([] : List PyData) = some (.int 1000000000) := by
  show (if (0 : Int) ≤ 9 ∧ (9 : Int) ≤ 1000000 ∧ (10 : Int).natAbs < 2 ^ 64 then some (PyData.int ((10 : Int) ^ (9 : Int).toNat)) else none) = _
  rw [if_pos (by decide)]
  rfl
theorem rowE_is {x : Nat} (h : x ≤ 1000000000) : rowE [en x] = some (.bool true) := by
  have e1 : decide ((0 : Int) ≤ (x : Nat)) = true := decide_eq_true (by omega)
  have e2 : decide (((x : Nat) : Int) ≤ 1000000000) = true := decide_eq_true (by omega)
  have p9 : q2 qPow (fun _ => some (.int 10)) (fun _ => some (.int 9)) [en x] = some (.int 1000000000) := pow9
  unfold rowE en
  unfold en at p9
  simp only [qAnd, qIsa, qNot, qChain, qCmp, List.getElem?_cons_zero, Option.map_some, PyData.isInt, PyData.isBool, Bool.not_false, e1, p9, e2]
theorem ascE_is {x y : Nat} (h : x < y) : ascE [en x, en y] = some (.bool true) := by
  have e1 : decide (((x : Nat) : Int) < (y : Nat)) = true := decide_eq_true (by omega)
  unfold ascE en
  simp only [q2, qCmp, List.getElem?_cons_zero, List.getElem?_cons_succ, e1]
theorem flats_en : ∀ l : List Nat, flats (l.map en) = true
  | [] => rfl
  | x :: l => by
    show (flat (en x) && flats (l.map en)) = true
    rw [flats_en l]; rfl
theorem tests_row : ∀ {l : List Nat}, (∀ x ∈ l, x ≤ 1000000000) → tests (fun d => rowE [d]) (l.map en) = some (l.map fun _ => true)
  | [], _ => rfl
  | x :: l, h => by
    have e := rowE_is (h x (by simp))
    have t := tests_row (l := l) fun y hy => h y (by simp [hy])
    rw [List.map_cons]
    unfold tests
    simp only [e, t]
    rfl
theorem tests_asc : ∀ {l : List Nat}, Asc l → ∃ bs, tests (pairT ascE) (zipD (l.map en) ((l.map en).drop 1)) = some bs ∧ bs.all id = true
  | [], _ => ⟨[], rfl, rfl⟩
  | [x], _ => ⟨[], rfl, rfl⟩
  | x :: y :: l, a => by
    obtain ⟨a1, a2⟩ := List.pairwise_cons.mp a
    have e := ascE_is (a1 y (by simp))
    obtain ⟨bs, t, tb⟩ := tests_asc a2
    refine ⟨true :: bs, ?_, by simp [tb]⟩
    have z : zipD ((x :: y :: l).map en) (((x :: y :: l).map en).drop 1) = .tuple [en x, en y] :: zipD ((y :: l).map en) (((y :: l).map en).drop 1) := rfl
    rw [z]
    unfold tests
    have e' : pairT ascE (.tuple [en x, en y]) = some (.bool true) := e
    simp only [e', t]
theorem row_is {c : Cs} {l : List Nat} (a : Asc l) (h : ∀ x ∈ l, x ≤ 1000000000) : f_is_row c [R l] = .ret (.bool true) := by
  have t1 := tests_row h
  obtain ⟨bs, t2, t2b⟩ := tests_asc a
  have cu : oSlice (R l) (some 1) none = some (R (l.drop 1)) := cutF_R (l := l) (i := 1)
  have al : (l.map fun _ => true).all id = true := by simp
  have g1 : ∀ ρ : Mo.Env, ρ = [.v (.lf (R l)), .un, .un] → genN rowE (fun bs => bs.all id) (varF 0) ρ = .ok (.d (.bool true)) ρ := fun ρ e => by
    subst e
    unfold genN
    simp -implicitDefEqProofs only [Mo.show_LS, Mo.view_LS, ↓Mo.bind_bn, ↓Mo.tos_tn, ↓Mo.sthen_sn, ↓Mo.sel_sl, Mo.bn_ok, Mo.bn_ex, Mo.tn_ok, Mo.tn_ex, Mo.sn_nx, Mo.sn_rt, Mo.sn_bk, Mo.sn_ct, Mo.sn_ex, Mo.sl_t, Mo.sl_f, Mo.vw_d, Mo.vw_w, Mo.vw_r, Mo.vwR_LS, Mo.vwR_io, Mo.vwR_lf, Mo.stays_d, Mo.stays_r, Mo.stays_t, Mo.varF_ap, Mo.varR_lf, Mo.varR_LS, Mo.varR_io, Mo.varR_ls, Mo.cF_ap, Mo.ofO_s, Mo.binV_s, Mo.bin2_ap, Mo.unV_s, Mo.un1_ap, Mo.fzE_d, Mo.fzE_r, Mo.fzR_LS, Mo.fzR_ls, Mo.fzs_n, Mo.fzs_c, Mo.vws_n, Mo.vws_c, Mo.vwsC_s, Mo.nilV_ap, Mo.stay1_t, Mo.consV_ap, Mo.okIf_T, Mo.tupF_ap, Mo.lstF_ap, Mo.frzO_ap, Mo.lfF_ap, Mo.callV_s, Mo.callF_ap, Mo.outV_r, Mo.outV_x, Mo.callD_ap, Mo.ixV_s, Mo.ixV_n, Mo.ixF_ap, Mo.noP_ap, Mo.intV_i, Mo.someP_ap, Mo.slV_s, Mo.slF_ap, Mo.boolV_b, Mo.boolF_ap, Mo.truW_s, Mo.truV_s, Mo.truF_ap, Mo.truD_b, Mo.truD_i, Mo.okB_ap, Mo.andF_ap, Mo.orF_ap, Mo.notF_ap, Mo.okV_ap, Mo.selV_b, Mo.andV_ap, Mo.orV_ap, Mo.ifF_ap, Mo.seqF_ap, Mo.nxF_ap, Mo.bkF_ap, Mo.retF_ap, Mo.exprF_ap, Mo.ofE_s, Mo.asgF_ap, Mo.asgE_ap, Mo.asgR_un, Mo.asgR_v, Mo.asgR_raw, Mo.setO_ap, Mo.ifS_ap, Mo.gNil_ap, Mo.nextE_s, Mo.gCons_ap, Mo.lsAt_ap, Mo.lsR_LS, Mo.lsR_io, Mo.lsR_ls, Mo.appF_ap, Mo.appG_s, Mo.appK_LS, Mo.okIf_le, Mo.okIf_lt, Mo.outS_nx, Mo.outS_rt, Mo.outS_ex, Mo.outI_rt, Mo.outI_nx, Mo.bTup_l, Mo.bTup_t, Mo.bInt_b, Mo.bInt_i, Mo.dropE_n, Mo.dropE_c, Mo.dropN_s, Mo.drop1R_un, Mo.drop1R_lf, Mo.restE_n, Mo.restE_c, Mo.restR_s, Mo.forF_ap, Mo.itV_s, Mo.itF_ap, Mo.argF_ap, Mo.items_l, Mo.items_t, Mo.yesF_ap, Mo.repO_ap, Mo.nilW_ap, Mo.consW_ap, Mo.parF_ap, Mo.parN_s, Mo.parE_n, Mo.parE_c, Mo.ioK_v, Mo.ioK_io, Mo.ioH_s, Mo.ioG_s, Mo.ioArg_r, Mo.joinF_ap, Mo.insF_ap, Mo.insG_s, Mo.insArg_s, Mo.insH_s, Mo.extF_ap, Mo.extG_s, Mo.extH_s, Mo.tryF_ap, Mo.tryK_nx, Mo.tryK_rt, Mo.tryK_ex, Mo.raiseF_ap, Mo.lr2F_ap, Mo.lr1F_ap, Mo.lrPi_ap, Mo.okI_tr, oAdd_i, oSub_i, oLt_i, oLe_i, oGt_i, oGe_i, oEq_i, oNe_i, len_S, List.getElem?_cons_zero, List.getElem?_cons_succ, List.set_cons_zero, List.set_cons_succ, List.map_cons, List.map_nil, List.replicate_succ, List.replicate_zero, List.cons_append, List.nil_append, List.length_cons, List.length_nil, Nat.reduceLeDiff, Nat.reduceAdd, Nat.reduceSub, Nat.zero_le, Nat.add_one_sub_one, Nat.sub_self, Nat.zero_add, decide_true, decide_false, Bool.not_true, Bool.not_false, Bool.and_self, Bool.true_and, Bool.and_true]
    unfold R
    show (if flats (l.map en) = true then match tests (fun d => rowE [d]) (l.map en) with | some bs => Res.ok (Vl.d (.bool (bs.all id))) _ | none => .bad else .bad) = _
    rw [if_pos (flats_en l), t1]
    show Res.ok (Vl.d (.bool ((l.map fun _ => true).all id))) _ = _
    rw [al]
  have g2 : ∀ ρ : Mo.Env, ρ = [.v (.lf (R l)), .un, .un] → genZ ascE (fun bs => bs.all id) (consV true (varF 0) (consV true (slF true true (varF 0) (someP (cF (.int 1))) noP) nilV)) ρ = .ok (.d (.bool true)) ρ := fun ρ e => by
    subst e
    unfold genZ
    simp -implicitDefEqProofs only [Mo.show_LS, Mo.view_LS, ↓Mo.bind_bn, ↓Mo.tos_tn, ↓Mo.sthen_sn, ↓Mo.sel_sl, Mo.bn_ok, Mo.bn_ex, Mo.tn_ok, Mo.tn_ex, Mo.sn_nx, Mo.sn_rt, Mo.sn_bk, Mo.sn_ct, Mo.sn_ex, Mo.sl_t, Mo.sl_f, Mo.vw_d, Mo.vw_w, Mo.vw_r, Mo.vwR_LS, Mo.vwR_io, Mo.vwR_lf, Mo.stays_d, Mo.stays_r, Mo.stays_t, Mo.varF_ap, Mo.varR_lf, Mo.varR_LS, Mo.varR_io, Mo.varR_ls, Mo.cF_ap, Mo.ofO_s, Mo.binV_s, Mo.bin2_ap, Mo.unV_s, Mo.un1_ap, Mo.fzE_d, Mo.fzE_r, Mo.fzR_LS, Mo.fzR_ls, Mo.fzs_n, Mo.fzs_c, Mo.vws_n, Mo.vws_c, Mo.vwsC_s, Mo.nilV_ap, Mo.stay1_t, Mo.consV_ap, Mo.okIf_T, Mo.tupF_ap, Mo.lstF_ap, Mo.frzO_ap, Mo.lfF_ap, Mo.callV_s, Mo.callF_ap, Mo.outV_r, Mo.outV_x, Mo.callD_ap, Mo.ixV_s, Mo.ixV_n, Mo.ixF_ap, Mo.noP_ap, Mo.intV_i, Mo.someP_ap, Mo.slV_s, Mo.slF_ap, Mo.boolV_b, Mo.boolF_ap, Mo.truW_s, Mo.truV_s, Mo.truF_ap, Mo.truD_b, Mo.truD_i, Mo.okB_ap, Mo.andF_ap, Mo.orF_ap, Mo.notF_ap, Mo.okV_ap, Mo.selV_b, Mo.andV_ap, Mo.orV_ap, Mo.ifF_ap, Mo.seqF_ap, Mo.nxF_ap, Mo.bkF_ap, Mo.retF_ap, Mo.exprF_ap, Mo.ofE_s, Mo.asgF_ap, Mo.asgE_ap, Mo.asgR_un, Mo.asgR_v, Mo.asgR_raw, Mo.setO_ap, Mo.ifS_ap, Mo.gNil_ap, Mo.nextE_s, Mo.gCons_ap, Mo.lsAt_ap, Mo.lsR_LS, Mo.lsR_io, Mo.lsR_ls, Mo.appF_ap, Mo.appG_s, Mo.appK_LS, Mo.okIf_le, Mo.okIf_lt, Mo.outS_nx, Mo.outS_rt, Mo.outS_ex, Mo.outI_rt, Mo.outI_nx, Mo.bTup_l, Mo.bTup_t, Mo.bInt_b, Mo.bInt_i, Mo.dropE_n, Mo.dropE_c, Mo.dropN_s, Mo.drop1R_un, Mo.drop1R_lf, Mo.restE_n, Mo.restE_c, Mo.restR_s, Mo.forF_ap, Mo.itV_s, Mo.itF_ap, Mo.argF_ap, Mo.items_l, Mo.items_t, Mo.yesF_ap, Mo.repO_ap, Mo.nilW_ap, Mo.consW_ap, Mo.parF_ap, Mo.parN_s, Mo.parE_n, Mo.parE_c, Mo.ioK_v, Mo.ioK_io, Mo.ioH_s, Mo.ioG_s, Mo.ioArg_r, Mo.joinF_ap, Mo.insF_ap, Mo.insG_s, Mo.insArg_s, Mo.insH_s, Mo.extF_ap, Mo.extG_s, Mo.extH_s, Mo.tryF_ap, Mo.tryK_nx, Mo.tryK_rt, Mo.tryK_ex, Mo.raiseF_ap, Mo.lr2F_ap, Mo.lr1F_ap, Mo.lrPi_ap, Mo.okI_tr, oAdd_i, oSub_i, oLt_i, oLe_i, oGt_i, oGe_i, oEq_i, oNe_i, len_S, List.getElem?_cons_zero, List.getElem?_cons_succ, List.set_cons_zero, List.set_cons_succ, List.map_cons, List.map_nil, List.replicate_succ, List.replicate_zero, List.cons_append, List.nil_append, List.length_cons, List.length_nil, Nat.reduceLeDiff, Nat.reduceAdd, Nat.reduceSub, Nat.zero_le, Nat.add_one_sub_one, Nat.sub_self, Nat.zero_add, decide_true, decide_false, Bool.not_true, Bool.not_false, Bool.and_self, Bool.true_and, Bool.and_true, cu]
    unfold R
    rw [← List.map_drop] at t2
    show (if flats (l.map en) = true ∧ flats ((l.drop 1).map en) = true then match tests (pairT ascE) (zipD (l.map en) ((l.drop 1).map en)) with | some bs => Res.ok (Vl.d (.bool (bs.all id))) _ | none => .bad else .bad) = _
    rw [if_pos ⟨flats_en l, flats_en _⟩, t2]
    show Res.ok (Vl.d (.bool (bs.all id))) _ = _
    rw [t2b]
  have eg : g_is_row c = (seqF (ifS (notF (truF (isiF "tuple" (varF 0)))) (retF (cF (.bool false))) nxF) (seqF (ifS (notF (truF (genN rowE (fun bs => bs.all id) (varF 0)))) (retF (cF (.bool false))) nxF) (retF (genZ ascE (fun bs => bs.all id) (consV true (varF 0) (consV true (slF true true (varF 0) (someP (cF (.int 1))) noP) nilV)))))) := rfl
  have is1 : isiF "tuple" (varF 0) [.v (.lf (R l)), .un, .un] = .ok (.d (.bool true)) [.v (.lf (R l)), .un, .un] := rfl
  unfold f_is_row
  rw [eg]
  refine (funF_ap rfl).trans ?_
  simp -implicitDefEqProofs only [Mo.show_LS, Mo.view_LS, ↓Mo.bind_bn, ↓Mo.tos_tn, ↓Mo.sthen_sn, ↓Mo.sel_sl, Mo.bn_ok, Mo.bn_ex, Mo.tn_ok, Mo.tn_ex, Mo.sn_nx, Mo.sn_rt, Mo.sn_bk, Mo.sn_ct, Mo.sn_ex, Mo.sl_t, Mo.sl_f, Mo.vw_d, Mo.vw_w, Mo.vw_r, Mo.vwR_LS, Mo.vwR_io, Mo.vwR_lf, Mo.stays_d, Mo.stays_r, Mo.stays_t, Mo.varF_ap, Mo.varR_lf, Mo.varR_LS, Mo.varR_io, Mo.varR_ls, Mo.cF_ap, Mo.ofO_s, Mo.binV_s, Mo.bin2_ap, Mo.unV_s, Mo.un1_ap, Mo.fzE_d, Mo.fzE_r, Mo.fzR_LS, Mo.fzR_ls, Mo.fzs_n, Mo.fzs_c, Mo.vws_n, Mo.vws_c, Mo.vwsC_s, Mo.nilV_ap, Mo.stay1_t, Mo.consV_ap, Mo.okIf_T, Mo.tupF_ap, Mo.lstF_ap, Mo.frzO_ap, Mo.lfF_ap, Mo.callV_s, Mo.callF_ap, Mo.outV_r, Mo.outV_x, Mo.callD_ap, Mo.ixV_s, Mo.ixV_n, Mo.ixF_ap, Mo.noP_ap, Mo.intV_i, Mo.someP_ap, Mo.slV_s, Mo.slF_ap, Mo.boolV_b, Mo.boolF_ap, Mo.truW_s, Mo.truV_s, Mo.truF_ap, Mo.truD_b, Mo.truD_i, Mo.okB_ap, Mo.andF_ap, Mo.orF_ap, Mo.notF_ap, Mo.okV_ap, Mo.selV_b, Mo.andV_ap, Mo.orV_ap, Mo.ifF_ap, Mo.seqF_ap, Mo.nxF_ap, Mo.bkF_ap, Mo.retF_ap, Mo.exprF_ap, Mo.ofE_s, Mo.asgF_ap, Mo.asgE_ap, Mo.asgR_un, Mo.asgR_v, Mo.asgR_raw, Mo.setO_ap, Mo.ifS_ap, Mo.gNil_ap, Mo.nextE_s, Mo.gCons_ap, Mo.lsAt_ap, Mo.lsR_LS, Mo.lsR_io, Mo.lsR_ls, Mo.appF_ap, Mo.appG_s, Mo.appK_LS, Mo.okIf_le, Mo.okIf_lt, Mo.outS_nx, Mo.outS_rt, Mo.outS_ex, Mo.outI_rt, Mo.outI_nx, Mo.bTup_l, Mo.bTup_t, Mo.bInt_b, Mo.bInt_i, Mo.dropE_n, Mo.dropE_c, Mo.dropN_s, Mo.drop1R_un, Mo.drop1R_lf, Mo.restE_n, Mo.restE_c, Mo.restR_s, Mo.forF_ap, Mo.itV_s, Mo.itF_ap, Mo.argF_ap, Mo.items_l, Mo.items_t, Mo.yesF_ap, Mo.repO_ap, Mo.nilW_ap, Mo.consW_ap, Mo.parF_ap, Mo.parN_s, Mo.parE_n, Mo.parE_c, Mo.ioK_v, Mo.ioK_io, Mo.ioH_s, Mo.ioG_s, Mo.ioArg_r, Mo.joinF_ap, Mo.insF_ap, Mo.insG_s, Mo.insArg_s, Mo.insH_s, Mo.extF_ap, Mo.extG_s, Mo.extH_s, Mo.tryF_ap, Mo.tryK_nx, Mo.tryK_rt, Mo.tryK_ex, Mo.raiseF_ap, Mo.lr2F_ap, Mo.lr1F_ap, Mo.lrPi_ap, Mo.okI_tr, oAdd_i, oSub_i, oLt_i, oLe_i, oGt_i, oGe_i, oEq_i, oNe_i, len_S, List.getElem?_cons_zero, List.getElem?_cons_succ, List.set_cons_zero, List.set_cons_succ, List.map_cons, List.map_nil, List.replicate_succ, List.replicate_zero, List.cons_append, List.nil_append, List.length_cons, List.length_nil, Nat.reduceLeDiff, Nat.reduceAdd, Nat.reduceSub, Nat.zero_le, Nat.add_one_sub_one, Nat.sub_self, Nat.zero_add, decide_true, decide_false, Bool.not_true, Bool.not_false, Bool.and_self, Bool.true_and, Bool.and_true, is1, g1 _ rfl, g2 _ rfl]

noncomputable def jB (c : Cs) : Mo.Env → SRes := (seqF (asgF (unpE 2 (gConsE (asgE 7) (gConsE (asgE 8) gNilE))) (callD (f_seek c) (consV true (varF 4) (consV true (cF (.int 0)) (consV true (varF 3) nilV)))))
    (ifS (orF (boolF (bin2 true oEq (varF 7) (callF bLen (consV true (varF 4) nilV)))) (boolF (bin2 true oNe (ixF true (varF 4) (varF 7)) (varF 3)))) (retF (cF (.bool false))) nxF))
noncomputable def jL (c : Cs) : Mo.Env → SRes := (forF (itF (tupF (consV true (varF 0) (consV true (varF 1) nilV)))) (asgE 4) (jB c))
abbrev EJ (a b t : List Nat) (s3 s4 s7 s8 : Slot) : Mo.Env := [.v (.lf (R a)), .v (.lf (R b)), .v (.lf (R t)), s3, s4, .un, .un, s7, s8]
theorem jB_is {c : Cs} {a b t l : List Nat} (hl : Asc l) (ll : l.length ≤ 40) {x : Nat} {s7 s8 : Slot} (l7 : Lt s7) (l8 : Lt s8) (hx : x ∈ l) :
    jB c (EJ a b t (.v (.lf (en x))) (.v (.lf (R l))) s7 s8) = .nx (EJ a b t (.v (.lf (en x))) (.v (.lf (R l))) (.v (.lf (.int (dues l x : Nat)))) (.v (.lf (.int ((seekM l 0 x).2 : Nat))))) := by
  have s1 := seek_is (c := c) (l := l) (a := 0) (g := x) ll
  rw [seek_max hl ll (Nat.zero_le _), Nat.max_eq_right (Nat.zero_le _)] at s1
  have s1' : f_seek c [R l, .int 0, .int (x : Nat)] = _ := s1
  have nm := mt (dues_mem hl (x := x)).mp (fun z => z hx)
  have n1 : dues l x ≠ l.length := fun z => nm (.inl z)
  have n2 : gt l (dues l x) = x := Classical.byContradiction fun z => nm (.inr z)
  have le := (cut_of x hl).le
  have e : decide (((dues l x : Nat) : Int) = (l.length : Nat)) = false := decide_eq_false (by omega)
  have it := item_R (l := l) (i := dues l x) (by omega)
  rw [n2] at it
  have e2 : decide (((x : Nat) : Int) = (x : Nat)) = true := decide_eq_true rfl
  unfold jB en
  rcases l7 with rfl | ⟨_, rfl⟩ <;> rcases l8 with rfl | ⟨_, rfl⟩ <;> simp -implicitDefEqProofs only [Mo.show_LS, Mo.view_LS, ↓Mo.bind_bn, ↓Mo.tos_tn, ↓Mo.sthen_sn, ↓Mo.sel_sl, Mo.bn_ok, Mo.bn_ex, Mo.tn_ok, Mo.tn_ex, Mo.sn_nx, Mo.sn_rt, Mo.sn_bk, Mo.sn_ct, Mo.sn_ex, Mo.sl_t, Mo.sl_f, Mo.vw_d, Mo.vw_w, Mo.vw_r, Mo.vwR_LS, Mo.vwR_io, Mo.vwR_lf, Mo.stays_d, Mo.stays_r, Mo.stays_t, Mo.varF_ap, Mo.varR_lf, Mo.varR_LS, Mo.varR_io, Mo.varR_ls, Mo.cF_ap, Mo.ofO_s, Mo.binV_s, Mo.bin2_ap, Mo.unV_s, Mo.un1_ap, Mo.fzE_d, Mo.fzE_r, Mo.fzR_LS, Mo.fzR_ls, Mo.fzs_n, Mo.fzs_c, Mo.vws_n, Mo.vws_c, Mo.vwsC_s, Mo.nilV_ap, Mo.stay1_t, Mo.consV_ap, Mo.okIf_T, Mo.tupF_ap, Mo.lstF_ap, Mo.frzO_ap, Mo.lfF_ap, Mo.callV_s, Mo.callF_ap, Mo.outV_r, Mo.outV_x, Mo.callD_ap, Mo.ixV_s, Mo.ixV_n, Mo.ixF_ap, Mo.noP_ap, Mo.intV_i, Mo.someP_ap, Mo.slV_s, Mo.slF_ap, Mo.boolV_b, Mo.boolF_ap, Mo.truW_s, Mo.truV_s, Mo.truF_ap, Mo.truD_b, Mo.truD_i, Mo.okB_ap, Mo.andF_ap, Mo.orF_ap, Mo.notF_ap, Mo.okV_ap, Mo.selV_b, Mo.andV_ap, Mo.orV_ap, Mo.ifF_ap, Mo.seqF_ap, Mo.nxF_ap, Mo.bkF_ap, Mo.retF_ap, Mo.exprF_ap, Mo.ofE_s, Mo.asgF_ap, Mo.asgE_ap, Mo.asgR_un, Mo.asgR_v, Mo.asgR_raw, Mo.setO_ap, Mo.ifS_ap, Mo.gNil_ap, Mo.nextE_s, Mo.gCons_ap, Mo.lsAt_ap, Mo.lsR_LS, Mo.lsR_io, Mo.lsR_ls, Mo.appF_ap, Mo.appG_s, Mo.appK_LS, Mo.okIf_le, Mo.okIf_lt, Mo.outS_nx, Mo.outS_rt, Mo.outS_ex, Mo.outI_rt, Mo.outI_nx, Mo.bTup_l, Mo.bTup_t, Mo.bInt_b, Mo.bInt_i, Mo.dropE_n, Mo.dropE_c, Mo.dropN_s, Mo.drop1R_un, Mo.drop1R_lf, Mo.restE_n, Mo.restE_c, Mo.restR_s, Mo.forF_ap, Mo.itV_s, Mo.itF_ap, Mo.argF_ap, Mo.items_l, Mo.items_t, Mo.yesF_ap, Mo.repO_ap, Mo.nilW_ap, Mo.consW_ap, Mo.parF_ap, Mo.parN_s, Mo.parE_n, Mo.parE_c, Mo.ioK_v, Mo.ioK_io, Mo.ioH_s, Mo.ioG_s, Mo.ioArg_r, Mo.joinF_ap, Mo.insF_ap, Mo.insG_s, Mo.insArg_s, Mo.insH_s, Mo.extF_ap, Mo.extG_s, Mo.extH_s, Mo.tryF_ap, Mo.tryK_nx, Mo.tryK_rt, Mo.tryK_ex, Mo.raiseF_ap, Mo.lr2F_ap, Mo.lr1F_ap, Mo.lrPi_ap, Mo.okI_tr, oAdd_i, oSub_i, oLt_i, oLe_i, oGt_i, oGe_i, oEq_i, oNe_i, len_S, List.getElem?_cons_zero, List.getElem?_cons_succ, List.set_cons_zero, List.set_cons_succ, List.map_cons, List.map_nil, List.replicate_succ, List.replicate_zero, List.cons_append, List.nil_append, List.length_cons, List.length_nil, Nat.reduceLeDiff, Nat.reduceAdd, Nat.reduceSub, Nat.zero_le, Nat.add_one_sub_one, Nat.sub_self, Nat.zero_add, decide_true, decide_false, Bool.not_true, Bool.not_false, Bool.and_self, Bool.true_and, Bool.and_true, s1', unpE, if_true, len_R, e, it, e2]
theorem jL_is {c : Cs} {a b t : List Nat} (ha : Asc a) (hb : Asc b) (la : a.length ≤ 40) (lb : b.length ≤ 40) {x : Nat} {s4 s7 s8 : Slot} (l4 : Lt s4) (l7 : Lt s7) (l8 : Lt s8) (hx : x ∈ a) (hy : x ∈ b) :
    ∃ t4 t7 t8, Lt t4 ∧ Lt t7 ∧ Lt t8 ∧ jL c (EJ a b t (.v (.lf (en x))) s4 s7 s8) = .nx (EJ a b t (.v (.lf (en x))) t4 t7 t8) := by
  have tg : ∀ (s4 s7 s8 : Slot) (d : PyData), Lt s4 → Lt s7 → Lt s8 → asgE 4 d (EJ a b t (.v (.lf (en x))) s4 s7 s8) = some (EJ a b t (.v (.lf (en x))) (.v (.lf d)) s7 s8) := fun s4 s7 s8 d l4 l7 l8 => by
    rcases l4 with rfl | ⟨_, rfl⟩ <;> rcases l7 with rfl | ⟨_, rfl⟩ <;> rcases l8 with rfl | ⟨_, rfl⟩ <;> rfl
  have go : forGo (asgE 4) (jB c) [R a, R b] (EJ a b t (.v (.lf (en x))) s4 s7 s8) = .nx (EJ a b t (.v (.lf (en x))) (.v (.lf (R b))) (.v (.lf (.int (dues b x : Nat)))) (.v (.lf (.int ((seekM b 0 x).2 : Nat))))) := by
    rw [forGo_nx (tg s4 s7 s8 (R a) l4 l7 l8) (jB_is ha la l7 l8 hx), forGo_nx (tg _ _ _ (R b) .v .v .v) (jB_is hb lb .v .v hy), forGo_nil]
  refine ⟨.v (.lf (R b)), .v (.lf (.int (dues b x : Nat))), .v (.lf (.int ((seekM b 0 x).2 : Nat))), .v, .v, .v, ?_⟩
  unfold jL
  have it : itF (tupF (consV true (varF 0) (consV true (varF 1) nilV))) (EJ a b t (.v (.lf (en x))) s4 s7 s8) = .ok [R a, R b] (EJ a b t (.v (.lf (en x))) s4 s7 s8) := by
    rcases l4 with rfl | ⟨_, rfl⟩ <;> rcases l7 with rfl | ⟨_, rfl⟩ <;> rcases l8 with rfl | ⟨_, rfl⟩ <;> simp -implicitDefEqProofs only [Mo.show_LS, Mo.view_LS, ↓Mo.bind_bn, ↓Mo.tos_tn, ↓Mo.sthen_sn, ↓Mo.sel_sl, Mo.bn_ok, Mo.bn_ex, Mo.tn_ok, Mo.tn_ex, Mo.sn_nx, Mo.sn_rt, Mo.sn_bk, Mo.sn_ct, Mo.sn_ex, Mo.sl_t, Mo.sl_f, Mo.vw_d, Mo.vw_w, Mo.vw_r, Mo.vwR_LS, Mo.vwR_io, Mo.vwR_lf, Mo.stays_d, Mo.stays_r, Mo.stays_t, Mo.varF_ap, Mo.varR_lf, Mo.varR_LS, Mo.varR_io, Mo.varR_ls, Mo.cF_ap, Mo.ofO_s, Mo.binV_s, Mo.bin2_ap, Mo.unV_s, Mo.un1_ap, Mo.fzE_d, Mo.fzE_r, Mo.fzR_LS, Mo.fzR_ls, Mo.fzs_n, Mo.fzs_c, Mo.vws_n, Mo.vws_c, Mo.vwsC_s, Mo.nilV_ap, Mo.stay1_t, Mo.consV_ap, Mo.okIf_T, Mo.tupF_ap, Mo.lstF_ap, Mo.frzO_ap, Mo.lfF_ap, Mo.callV_s, Mo.callF_ap, Mo.outV_r, Mo.outV_x, Mo.callD_ap, Mo.ixV_s, Mo.ixV_n, Mo.ixF_ap, Mo.noP_ap, Mo.intV_i, Mo.someP_ap, Mo.slV_s, Mo.slF_ap, Mo.boolV_b, Mo.boolF_ap, Mo.truW_s, Mo.truV_s, Mo.truF_ap, Mo.truD_b, Mo.truD_i, Mo.okB_ap, Mo.andF_ap, Mo.orF_ap, Mo.notF_ap, Mo.okV_ap, Mo.selV_b, Mo.andV_ap, Mo.orV_ap, Mo.ifF_ap, Mo.seqF_ap, Mo.nxF_ap, Mo.bkF_ap, Mo.retF_ap, Mo.exprF_ap, Mo.ofE_s, Mo.asgF_ap, Mo.asgE_ap, Mo.asgR_un, Mo.asgR_v, Mo.asgR_raw, Mo.setO_ap, Mo.ifS_ap, Mo.gNil_ap, Mo.nextE_s, Mo.gCons_ap, Mo.lsAt_ap, Mo.lsR_LS, Mo.lsR_io, Mo.lsR_ls, Mo.appF_ap, Mo.appG_s, Mo.appK_LS, Mo.okIf_le, Mo.okIf_lt, Mo.outS_nx, Mo.outS_rt, Mo.outS_ex, Mo.outI_rt, Mo.outI_nx, Mo.bTup_l, Mo.bTup_t, Mo.bInt_b, Mo.bInt_i, Mo.dropE_n, Mo.dropE_c, Mo.dropN_s, Mo.drop1R_un, Mo.drop1R_lf, Mo.restE_n, Mo.restE_c, Mo.restR_s, Mo.forF_ap, Mo.itV_s, Mo.itF_ap, Mo.argF_ap, Mo.items_l, Mo.items_t, Mo.yesF_ap, Mo.repO_ap, Mo.nilW_ap, Mo.consW_ap, Mo.parF_ap, Mo.parN_s, Mo.parE_n, Mo.parE_c, Mo.ioK_v, Mo.ioK_io, Mo.ioH_s, Mo.ioG_s, Mo.ioArg_r, Mo.joinF_ap, Mo.insF_ap, Mo.insG_s, Mo.insArg_s, Mo.insH_s, Mo.extF_ap, Mo.extG_s, Mo.extH_s, Mo.tryF_ap, Mo.tryK_nx, Mo.tryK_rt, Mo.tryK_ex, Mo.raiseF_ap, Mo.lr2F_ap, Mo.lr1F_ap, Mo.lrPi_ap, Mo.okI_tr, oAdd_i, oSub_i, oLt_i, oLe_i, oGt_i, oGe_i, oEq_i, oNe_i, len_S, List.getElem?_cons_zero, List.getElem?_cons_succ, List.set_cons_zero, List.set_cons_succ, List.map_cons, List.map_nil, List.replicate_succ, List.replicate_zero, List.cons_append, List.nil_append, List.length_cons, List.length_nil, Nat.reduceLeDiff, Nat.reduceAdd, Nat.reduceSub, Nat.zero_le, Nat.add_one_sub_one, Nat.sub_self, Nat.zero_add, decide_true, decide_false, Bool.not_true, Bool.not_false, Bool.and_self, Bool.true_and, Bool.and_true]
  refine (show forF _ _ _ _ = (itF (tupF (consV true (varF 0) (consV true (varF 1) nilV))) (EJ a b t (.v (.lf (en x))) s4 s7 s8)).tos fun is ρ1 => forGo (asgE 4) (jB c) is ρ1 from rfl).trans ?_
  rw [it]
  exact go
theorem jA_go {c : Cs} {a b t : List Nat} (ha : Asc a) (hb : Asc b) (la : a.length ≤ 40) (lb : b.length ≤ 40) : ∀ (r : List Nat) (s3 s4 s7 s8 : Slot), Lt s3 → Lt s4 → Lt s7 → Lt s8 → (∀ x ∈ r, x ∈ a ∧ x ∈ b) →
    ∃ t3 t4 t7 t8, forGo (asgE 3) (jL c) (r.map en) (EJ a b t s3 s4 s7 s8) = .nx (EJ a b t t3 t4 t7 t8)
  | [], s3, s4, s7, s8, _, _, _, _, _ => ⟨s3, s4, s7, s8, forGo_nil⟩
  | x :: r, s3, s4, s7, s8, l3, l4, l7, l8, h => by
    have tg : asgE 3 (en x) (EJ a b t s3 s4 s7 s8) = some (EJ a b t (.v (.lf (en x))) s4 s7 s8) := by
      rcases l3 with rfl | ⟨_, rfl⟩ <;> rcases l4 with rfl | ⟨_, rfl⟩ <;> rcases l7 with rfl | ⟨_, rfl⟩ <;> rcases l8 with rfl | ⟨_, rfl⟩ <;> rfl
    obtain ⟨t4, t7, t8, q4, q7, q8, e⟩ := jL_is (c := c) (t := t) ha hb la lb l4 l7 l8 (h x (by simp)).1 (h x (by simp)).2
    rw [List.map_cons, forGo_nx tg e]
    exact jA_go ha hb la lb r _ t4 t7 t8 .v q4 q7 q8 fun y hy => h y (by simp [hy])
theorem asc_filter {l : List Nat} (a : Asc l) (p : Nat → Bool) : Asc (l.filter p) := List.Pairwise.filter _ a
theorem judge_is {c : Cs} {a b t : List Nat} (ha : Asc a) (hb : Asc b) (ht : Asc t) (la : a.length ≤ 40) (lb : b.length ≤ 40) (lt : t.length ≤ 40) (h : ∀ x ∈ t, x ∈ a ∧ x ∈ b) (hm : ∀ x ∈ t, x ≤ 1000000000) :
    f_judge_met c [R a, R b, R t] = .ret (.bool (if a.length ≤ b.length then (com (wo a t) b).isEmpty else (com (wo b t) a).isEmpty)) := by
  have rw1 := row_is (c := c) ht hm
  obtain ⟨t3, t4, t7, t8, go⟩ := jA_go (c := c) (t := t) ha hb la lb t .un .un .un .un .un .un .un .un h
  have go' : forGo (asgE 3) (jL c) (t.map en) [.v (.lf (R a)), .v (.lf (R b)), .v (.lf (.tuple (t.map en))), .un, .un, .un, .un, .un, .un] = .nx [.v (.lf (R a)), .v (.lf (R b)), .v (.lf (R t)), t3, t4, .un, .un, t7, t8] := go
  have eg : g_judge_met c = seqF (ifS (notF (truF (callD (f_is_row c) (consV true (varF 2) nilV)))) (retF (cF (.bool false))) nxF)
    (seqF (forF (itF (varF 2)) (asgE 3) (jL c))
    (seqF (asgF (unpE 2 (gConsE (asgE 5) (gConsE (asgE 6) gNilE))) (ifF (boolF (bin2 true oLe (callF bLen (consV true (varF 0) nilV)) (callF bLen (consV true (varF 1) nilV)))) (tupF (consV true (varF 0) (consV true (varF 1) nilV))) (tupF (consV true (varF 1) (consV true (varF 0) nilV)))))
    (retF (notT (callD (f_both c) (consV true (callD (f_without c) (consV true (varF 5) (consV true (varF 2) nilV))) (consV true (varF 6) nilV))))))) := rfl
  have tru : ∀ l : List Nat, truD (R l) = some (!l.isEmpty) := fun l => by
    show some (!(l.map fun n => PyData.int (n : Nat)).isEmpty) = _
    rw [List.isEmpty_map]
  have lwa : (wo a t).length ≤ 40 := Nat.le_trans (List.length_filter_le _ _) la
  have lwb : (wo b t).length ≤ 40 := Nat.le_trans (List.length_filter_le _ _) lb
  have w1 := without_is (c := c) ha ht la lt
  have w2 := without_is (c := c) hb ht lb lt
  have b1 := both_is (c := c) (asc_filter ha (fun x => !(has t x))) hb lwa lb
  have b2 := both_is (c := c) (asc_filter hb (fun x => !(has t x))) ha lwb la
  have b1' : f_both c [R (wo a t), R b] = .ret (R (com (wo a t) b)) := b1
  have b2' : f_both c [R (wo b t), R a] = .ret (R (com (wo b t) a)) := b2
  unfold f_judge_met
  rw [eg]
  refine (funF_ap rfl).trans ?_
  have rw1' : f_is_row c [.tuple (t.map en)] = .ret (.bool true) := rw1
  have w1' : f_without c [R a, .tuple (t.map en)] = .ret (R (wo a t)) := w1
  have w2' : f_without c [R b, .tuple (t.map en)] = .ret (R (wo b t)) := w2
  rw [R_is t] at go' ⊢
  by_cases q : a.length ≤ b.length
  · have e : decide ((a.length : Int) ≤ (b.length : Nat)) = true := decide_eq_true (by omega)
    have nt : notT (callD (f_both c) (consV true (callD (f_without c) (consV true (varF 5) (consV true (varF 2) nilV))) (consV true (varF 6) nilV))) [.v (.lf (R a)), .v (.lf (R b)), .v (.lf (.tuple (t.map en))), t3, t4, .v (.lf (R a)), .v (.lf (R b)), t7, t8] = .ok (.d (.bool (!(!(com (wo a t) b).isEmpty)))) [.v (.lf (R a)), .v (.lf (R b)), .v (.lf (.tuple (t.map en))), t3, t4, .v (.lf (R a)), .v (.lf (R b)), t7, t8] := by
      unfold notT
      simp -implicitDefEqProofs only [Mo.show_LS, Mo.view_LS, ↓Mo.bind_bn, ↓Mo.tos_tn, ↓Mo.sthen_sn, ↓Mo.sel_sl, Mo.bn_ok, Mo.bn_ex, Mo.tn_ok, Mo.tn_ex, Mo.sn_nx, Mo.sn_rt, Mo.sn_bk, Mo.sn_ct, Mo.sn_ex, Mo.sl_t, Mo.sl_f, Mo.vw_d, Mo.vw_w, Mo.vw_r, Mo.vwR_LS, Mo.vwR_io, Mo.vwR_lf, Mo.stays_d, Mo.stays_r, Mo.stays_t, Mo.varF_ap, Mo.varR_lf, Mo.varR_LS, Mo.varR_io, Mo.varR_ls, Mo.cF_ap, Mo.ofO_s, Mo.binV_s, Mo.bin2_ap, Mo.unV_s, Mo.un1_ap, Mo.fzE_d, Mo.fzE_r, Mo.fzR_LS, Mo.fzR_ls, Mo.fzs_n, Mo.fzs_c, Mo.vws_n, Mo.vws_c, Mo.vwsC_s, Mo.nilV_ap, Mo.stay1_t, Mo.consV_ap, Mo.okIf_T, Mo.tupF_ap, Mo.lstF_ap, Mo.frzO_ap, Mo.lfF_ap, Mo.callV_s, Mo.callF_ap, Mo.outV_r, Mo.outV_x, Mo.callD_ap, Mo.ixV_s, Mo.ixV_n, Mo.ixF_ap, Mo.noP_ap, Mo.intV_i, Mo.someP_ap, Mo.slV_s, Mo.slF_ap, Mo.boolV_b, Mo.boolF_ap, Mo.truW_s, Mo.truV_s, Mo.truF_ap, Mo.truD_b, Mo.truD_i, Mo.okB_ap, Mo.andF_ap, Mo.orF_ap, Mo.notF_ap, Mo.okV_ap, Mo.selV_b, Mo.andV_ap, Mo.orV_ap, Mo.ifF_ap, Mo.seqF_ap, Mo.nxF_ap, Mo.bkF_ap, Mo.retF_ap, Mo.exprF_ap, Mo.ofE_s, Mo.asgF_ap, Mo.asgE_ap, Mo.asgR_un, Mo.asgR_v, Mo.asgR_raw, Mo.setO_ap, Mo.ifS_ap, Mo.gNil_ap, Mo.nextE_s, Mo.gCons_ap, Mo.lsAt_ap, Mo.lsR_LS, Mo.lsR_io, Mo.lsR_ls, Mo.appF_ap, Mo.appG_s, Mo.appK_LS, Mo.okIf_le, Mo.okIf_lt, Mo.outS_nx, Mo.outS_rt, Mo.outS_ex, Mo.outI_rt, Mo.outI_nx, Mo.bTup_l, Mo.bTup_t, Mo.bInt_b, Mo.bInt_i, Mo.dropE_n, Mo.dropE_c, Mo.dropN_s, Mo.drop1R_un, Mo.drop1R_lf, Mo.restE_n, Mo.restE_c, Mo.restR_s, Mo.forF_ap, Mo.itV_s, Mo.itF_ap, Mo.argF_ap, Mo.items_l, Mo.items_t, Mo.yesF_ap, Mo.repO_ap, Mo.nilW_ap, Mo.consW_ap, Mo.parF_ap, Mo.parN_s, Mo.parE_n, Mo.parE_c, Mo.ioK_v, Mo.ioK_io, Mo.ioH_s, Mo.ioG_s, Mo.ioArg_r, Mo.joinF_ap, Mo.insF_ap, Mo.insG_s, Mo.insArg_s, Mo.insH_s, Mo.extF_ap, Mo.extG_s, Mo.extH_s, Mo.tryF_ap, Mo.tryK_nx, Mo.tryK_rt, Mo.tryK_ex, Mo.raiseF_ap, Mo.lr2F_ap, Mo.lr1F_ap, Mo.lrPi_ap, Mo.okI_tr, oAdd_i, oSub_i, oLt_i, oLe_i, oGt_i, oGe_i, oEq_i, oNe_i, len_S, List.getElem?_cons_zero, List.getElem?_cons_succ, List.set_cons_zero, List.set_cons_succ, List.map_cons, List.map_nil, List.replicate_succ, List.replicate_zero, List.cons_append, List.nil_append, List.length_cons, List.length_nil, Nat.reduceLeDiff, Nat.reduceAdd, Nat.reduceSub, Nat.zero_le, Nat.add_one_sub_one, Nat.sub_self, Nat.zero_add, decide_true, decide_false, Bool.not_true, Bool.not_false, Bool.and_self, Bool.true_and, Bool.and_true, w1', b1', tru]
    rw [if_pos q]
    simp -implicitDefEqProofs only [Mo.show_LS, Mo.view_LS, ↓Mo.bind_bn, ↓Mo.tos_tn, ↓Mo.sthen_sn, ↓Mo.sel_sl, Mo.bn_ok, Mo.bn_ex, Mo.tn_ok, Mo.tn_ex, Mo.sn_nx, Mo.sn_rt, Mo.sn_bk, Mo.sn_ct, Mo.sn_ex, Mo.sl_t, Mo.sl_f, Mo.vw_d, Mo.vw_w, Mo.vw_r, Mo.vwR_LS, Mo.vwR_io, Mo.vwR_lf, Mo.stays_d, Mo.stays_r, Mo.stays_t, Mo.varF_ap, Mo.varR_lf, Mo.varR_LS, Mo.varR_io, Mo.varR_ls, Mo.cF_ap, Mo.ofO_s, Mo.binV_s, Mo.bin2_ap, Mo.unV_s, Mo.un1_ap, Mo.fzE_d, Mo.fzE_r, Mo.fzR_LS, Mo.fzR_ls, Mo.fzs_n, Mo.fzs_c, Mo.vws_n, Mo.vws_c, Mo.vwsC_s, Mo.nilV_ap, Mo.stay1_t, Mo.consV_ap, Mo.okIf_T, Mo.tupF_ap, Mo.lstF_ap, Mo.frzO_ap, Mo.lfF_ap, Mo.callV_s, Mo.callF_ap, Mo.outV_r, Mo.outV_x, Mo.callD_ap, Mo.ixV_s, Mo.ixV_n, Mo.ixF_ap, Mo.noP_ap, Mo.intV_i, Mo.someP_ap, Mo.slV_s, Mo.slF_ap, Mo.boolV_b, Mo.boolF_ap, Mo.truW_s, Mo.truV_s, Mo.truF_ap, Mo.truD_b, Mo.truD_i, Mo.okB_ap, Mo.andF_ap, Mo.orF_ap, Mo.notF_ap, Mo.okV_ap, Mo.selV_b, Mo.andV_ap, Mo.orV_ap, Mo.ifF_ap, Mo.seqF_ap, Mo.nxF_ap, Mo.bkF_ap, Mo.retF_ap, Mo.exprF_ap, Mo.ofE_s, Mo.asgF_ap, Mo.asgE_ap, Mo.asgR_un, Mo.asgR_v, Mo.asgR_raw, Mo.setO_ap, Mo.ifS_ap, Mo.gNil_ap, Mo.nextE_s, Mo.gCons_ap, Mo.lsAt_ap, Mo.lsR_LS, Mo.lsR_io, Mo.lsR_ls, Mo.appF_ap, Mo.appG_s, Mo.appK_LS, Mo.okIf_le, Mo.okIf_lt, Mo.outS_nx, Mo.outS_rt, Mo.outS_ex, Mo.outI_rt, Mo.outI_nx, Mo.bTup_l, Mo.bTup_t, Mo.bInt_b, Mo.bInt_i, Mo.dropE_n, Mo.dropE_c, Mo.dropN_s, Mo.drop1R_un, Mo.drop1R_lf, Mo.restE_n, Mo.restE_c, Mo.restR_s, Mo.forF_ap, Mo.itV_s, Mo.itF_ap, Mo.argF_ap, Mo.items_l, Mo.items_t, Mo.yesF_ap, Mo.repO_ap, Mo.nilW_ap, Mo.consW_ap, Mo.parF_ap, Mo.parN_s, Mo.parE_n, Mo.parE_c, Mo.ioK_v, Mo.ioK_io, Mo.ioH_s, Mo.ioG_s, Mo.ioArg_r, Mo.joinF_ap, Mo.insF_ap, Mo.insG_s, Mo.insArg_s, Mo.insH_s, Mo.extF_ap, Mo.extG_s, Mo.extH_s, Mo.tryF_ap, Mo.tryK_nx, Mo.tryK_rt, Mo.tryK_ex, Mo.raiseF_ap, Mo.lr2F_ap, Mo.lr1F_ap, Mo.lrPi_ap, Mo.okI_tr, oAdd_i, oSub_i, oLt_i, oLe_i, oGt_i, oGe_i, oEq_i, oNe_i, len_S, List.getElem?_cons_zero, List.getElem?_cons_succ, List.set_cons_zero, List.set_cons_succ, List.map_cons, List.map_nil, List.replicate_succ, List.replicate_zero, List.cons_append, List.nil_append, List.length_cons, List.length_nil, Nat.reduceLeDiff, Nat.reduceAdd, Nat.reduceSub, Nat.zero_le, Nat.add_one_sub_one, Nat.sub_self, Nat.zero_add, decide_true, decide_false, Bool.not_true, Bool.not_false, Bool.and_self, Bool.true_and, Bool.and_true, rw1', go', len_R, e, unpE, if_true, nt, Bool.not_not]
  · have e : decide ((a.length : Int) ≤ (b.length : Nat)) = false := decide_eq_false (by omega)
    have nt : notT (callD (f_both c) (consV true (callD (f_without c) (consV true (varF 5) (consV true (varF 2) nilV))) (consV true (varF 6) nilV))) [.v (.lf (R a)), .v (.lf (R b)), .v (.lf (.tuple (t.map en))), t3, t4, .v (.lf (R b)), .v (.lf (R a)), t7, t8] = .ok (.d (.bool (!(!(com (wo b t) a).isEmpty)))) [.v (.lf (R a)), .v (.lf (R b)), .v (.lf (.tuple (t.map en))), t3, t4, .v (.lf (R b)), .v (.lf (R a)), t7, t8] := by
      unfold notT
      simp -implicitDefEqProofs only [Mo.show_LS, Mo.view_LS, ↓Mo.bind_bn, ↓Mo.tos_tn, ↓Mo.sthen_sn, ↓Mo.sel_sl, Mo.bn_ok, Mo.bn_ex, Mo.tn_ok, Mo.tn_ex, Mo.sn_nx, Mo.sn_rt, Mo.sn_bk, Mo.sn_ct, Mo.sn_ex, Mo.sl_t, Mo.sl_f, Mo.vw_d, Mo.vw_w, Mo.vw_r, Mo.vwR_LS, Mo.vwR_io, Mo.vwR_lf, Mo.stays_d, Mo.stays_r, Mo.stays_t, Mo.varF_ap, Mo.varR_lf, Mo.varR_LS, Mo.varR_io, Mo.varR_ls, Mo.cF_ap, Mo.ofO_s, Mo.binV_s, Mo.bin2_ap, Mo.unV_s, Mo.un1_ap, Mo.fzE_d, Mo.fzE_r, Mo.fzR_LS, Mo.fzR_ls, Mo.fzs_n, Mo.fzs_c, Mo.vws_n, Mo.vws_c, Mo.vwsC_s, Mo.nilV_ap, Mo.stay1_t, Mo.consV_ap, Mo.okIf_T, Mo.tupF_ap, Mo.lstF_ap, Mo.frzO_ap, Mo.lfF_ap, Mo.callV_s, Mo.callF_ap, Mo.outV_r, Mo.outV_x, Mo.callD_ap, Mo.ixV_s, Mo.ixV_n, Mo.ixF_ap, Mo.noP_ap, Mo.intV_i, Mo.someP_ap, Mo.slV_s, Mo.slF_ap, Mo.boolV_b, Mo.boolF_ap, Mo.truW_s, Mo.truV_s, Mo.truF_ap, Mo.truD_b, Mo.truD_i, Mo.okB_ap, Mo.andF_ap, Mo.orF_ap, Mo.notF_ap, Mo.okV_ap, Mo.selV_b, Mo.andV_ap, Mo.orV_ap, Mo.ifF_ap, Mo.seqF_ap, Mo.nxF_ap, Mo.bkF_ap, Mo.retF_ap, Mo.exprF_ap, Mo.ofE_s, Mo.asgF_ap, Mo.asgE_ap, Mo.asgR_un, Mo.asgR_v, Mo.asgR_raw, Mo.setO_ap, Mo.ifS_ap, Mo.gNil_ap, Mo.nextE_s, Mo.gCons_ap, Mo.lsAt_ap, Mo.lsR_LS, Mo.lsR_io, Mo.lsR_ls, Mo.appF_ap, Mo.appG_s, Mo.appK_LS, Mo.okIf_le, Mo.okIf_lt, Mo.outS_nx, Mo.outS_rt, Mo.outS_ex, Mo.outI_rt, Mo.outI_nx, Mo.bTup_l, Mo.bTup_t, Mo.bInt_b, Mo.bInt_i, Mo.dropE_n, Mo.dropE_c, Mo.dropN_s, Mo.drop1R_un, Mo.drop1R_lf, Mo.restE_n, Mo.restE_c, Mo.restR_s, Mo.forF_ap, Mo.itV_s, Mo.itF_ap, Mo.argF_ap, Mo.items_l, Mo.items_t, Mo.yesF_ap, Mo.repO_ap, Mo.nilW_ap, Mo.consW_ap, Mo.parF_ap, Mo.parN_s, Mo.parE_n, Mo.parE_c, Mo.ioK_v, Mo.ioK_io, Mo.ioH_s, Mo.ioG_s, Mo.ioArg_r, Mo.joinF_ap, Mo.insF_ap, Mo.insG_s, Mo.insArg_s, Mo.insH_s, Mo.extF_ap, Mo.extG_s, Mo.extH_s, Mo.tryF_ap, Mo.tryK_nx, Mo.tryK_rt, Mo.tryK_ex, Mo.raiseF_ap, Mo.lr2F_ap, Mo.lr1F_ap, Mo.lrPi_ap, Mo.okI_tr, oAdd_i, oSub_i, oLt_i, oLe_i, oGt_i, oGe_i, oEq_i, oNe_i, len_S, List.getElem?_cons_zero, List.getElem?_cons_succ, List.set_cons_zero, List.set_cons_succ, List.map_cons, List.map_nil, List.replicate_succ, List.replicate_zero, List.cons_append, List.nil_append, List.length_cons, List.length_nil, Nat.reduceLeDiff, Nat.reduceAdd, Nat.reduceSub, Nat.zero_le, Nat.add_one_sub_one, Nat.sub_self, Nat.zero_add, decide_true, decide_false, Bool.not_true, Bool.not_false, Bool.and_self, Bool.true_and, Bool.and_true, w2', b2', tru]
    rw [if_neg q]
    simp -implicitDefEqProofs only [Mo.show_LS, Mo.view_LS, ↓Mo.bind_bn, ↓Mo.tos_tn, ↓Mo.sthen_sn, ↓Mo.sel_sl, Mo.bn_ok, Mo.bn_ex, Mo.tn_ok, Mo.tn_ex, Mo.sn_nx, Mo.sn_rt, Mo.sn_bk, Mo.sn_ct, Mo.sn_ex, Mo.sl_t, Mo.sl_f, Mo.vw_d, Mo.vw_w, Mo.vw_r, Mo.vwR_LS, Mo.vwR_io, Mo.vwR_lf, Mo.stays_d, Mo.stays_r, Mo.stays_t, Mo.varF_ap, Mo.varR_lf, Mo.varR_LS, Mo.varR_io, Mo.varR_ls, Mo.cF_ap, Mo.ofO_s, Mo.binV_s, Mo.bin2_ap, Mo.unV_s, Mo.un1_ap, Mo.fzE_d, Mo.fzE_r, Mo.fzR_LS, Mo.fzR_ls, Mo.fzs_n, Mo.fzs_c, Mo.vws_n, Mo.vws_c, Mo.vwsC_s, Mo.nilV_ap, Mo.stay1_t, Mo.consV_ap, Mo.okIf_T, Mo.tupF_ap, Mo.lstF_ap, Mo.frzO_ap, Mo.lfF_ap, Mo.callV_s, Mo.callF_ap, Mo.outV_r, Mo.outV_x, Mo.callD_ap, Mo.ixV_s, Mo.ixV_n, Mo.ixF_ap, Mo.noP_ap, Mo.intV_i, Mo.someP_ap, Mo.slV_s, Mo.slF_ap, Mo.boolV_b, Mo.boolF_ap, Mo.truW_s, Mo.truV_s, Mo.truF_ap, Mo.truD_b, Mo.truD_i, Mo.okB_ap, Mo.andF_ap, Mo.orF_ap, Mo.notF_ap, Mo.okV_ap, Mo.selV_b, Mo.andV_ap, Mo.orV_ap, Mo.ifF_ap, Mo.seqF_ap, Mo.nxF_ap, Mo.bkF_ap, Mo.retF_ap, Mo.exprF_ap, Mo.ofE_s, Mo.asgF_ap, Mo.asgE_ap, Mo.asgR_un, Mo.asgR_v, Mo.asgR_raw, Mo.setO_ap, Mo.ifS_ap, Mo.gNil_ap, Mo.nextE_s, Mo.gCons_ap, Mo.lsAt_ap, Mo.lsR_LS, Mo.lsR_io, Mo.lsR_ls, Mo.appF_ap, Mo.appG_s, Mo.appK_LS, Mo.okIf_le, Mo.okIf_lt, Mo.outS_nx, Mo.outS_rt, Mo.outS_ex, Mo.outI_rt, Mo.outI_nx, Mo.bTup_l, Mo.bTup_t, Mo.bInt_b, Mo.bInt_i, Mo.dropE_n, Mo.dropE_c, Mo.dropN_s, Mo.drop1R_un, Mo.drop1R_lf, Mo.restE_n, Mo.restE_c, Mo.restR_s, Mo.forF_ap, Mo.itV_s, Mo.itF_ap, Mo.argF_ap, Mo.items_l, Mo.items_t, Mo.yesF_ap, Mo.repO_ap, Mo.nilW_ap, Mo.consW_ap, Mo.parF_ap, Mo.parN_s, Mo.parE_n, Mo.parE_c, Mo.ioK_v, Mo.ioK_io, Mo.ioH_s, Mo.ioG_s, Mo.ioArg_r, Mo.joinF_ap, Mo.insF_ap, Mo.insG_s, Mo.insArg_s, Mo.insH_s, Mo.extF_ap, Mo.extG_s, Mo.extH_s, Mo.tryF_ap, Mo.tryK_nx, Mo.tryK_rt, Mo.tryK_ex, Mo.raiseF_ap, Mo.lr2F_ap, Mo.lr1F_ap, Mo.lrPi_ap, Mo.okI_tr, oAdd_i, oSub_i, oLt_i, oLe_i, oGt_i, oGe_i, oEq_i, oNe_i, len_S, List.getElem?_cons_zero, List.getElem?_cons_succ, List.set_cons_zero, List.set_cons_succ, List.map_cons, List.map_nil, List.replicate_succ, List.replicate_zero, List.cons_append, List.nil_append, List.length_cons, List.length_nil, Nat.reduceLeDiff, Nat.reduceAdd, Nat.reduceSub, Nat.zero_le, Nat.add_one_sub_one, Nat.sub_self, Nat.zero_add, decide_true, decide_false, Bool.not_true, Bool.not_false, Bool.and_self, Bool.true_and, Bool.and_true, rw1', go', len_R, e, unpE, if_true, nt, Bool.not_not]
end K88

/-! Ma88: the drawn rows. -/
namespace K88
open PySem PySem.Spec PyProof.Rows L2 Mo
theorem step_at {d : Nat} (h : d < 4) : ∃ s : Nat, 1 ≤ s ∧ s ≤ 1000 ∧ oItem (.list [.int 1, .int 2, .int 7, .int 1000]) (.int (d : Int)) = some (.int (s : Nat)) := by
  match d, h with
  | 0, _ => exact ⟨1, by decide, by decide, rfl⟩
  | 1, _ => exact ⟨2, by decide, by decide, rfl⟩
  | 2, _ => exact ⟨7, by decide, by decide, rfl⟩
  | 3, _ => exact ⟨1000, by decide, by decide, rfl⟩
theorem made_is {c : Cs} {n : Nat} {t : OT} (h : St n t) (hn : n ≤ 10000) : ∃ (l : List Nat) (t' : OT), Asc l ∧ l.length ≤ 40 ∧ (∀ x ∈ l, x ≤ 200000) ∧ St (n + 50) t' ∧ f_l_made c t [] = .ret (R l) t' := by
  have fd : f_l_draw c = cf_draw := rfl
  obtain ⟨d0, t1, hd0, hS1, e1⟩ := call_draw_io (ρ := [.io t, .un, .un]) (i := 0) (k := 4) (fk := cF (.int 4)) h (by decide) (by decide) (by omega) rfl rfl
  obtain ⟨s, hs1, hs2, es⟩ := step_at hd0
  obtain ⟨m, t2, hm, hS2, e2⟩ := call_draw_io (ρ := [.io t1, .v (.lf (.int (s : Nat))), .un]) (i := 0) (k := 41) (fk := cF (.int 41)) hS1 (by decide) (by decide) (by omega) rfl rfl
  obtain ⟨acc, ρ', e3, t3, l, hS3, e4, hl1, hl2, hl3, hl4⟩ := compGo_inv (ρ := [.io t2, .v (.lf (.int (s : Nat))), .un]) (vs := [2]) (tg := asgE 2) (tt := yesF) (te := lfF (bin2 true oAdd (callI cf_draw (consV true (varF 0) (consV true (cF (.int 3)) nilV))) (bin2 true oMul (bin2 true oMul (varF 1) (varF 2)) (cF (.int 3))))) (items := rngD 0 m)
    (fun k ρ acc => ∃ (t3 : OT) (l : List Nat), St (n + 2 + k) t3 ∧ ρ = [.io t3, .v (.lf (.int (s : Nat))), .un] ∧ Asc l ∧ (∀ x ∈ l, x < s * k * 3) ∧ l.length = k ∧ acc = l.map fun x => .lf (en x))
    ⟨t2, [], hS2, rfl, .nil, (fun x hx => by cases hx), rfl, rfl⟩ fun k hk ρ acc hp => by
      obtain ⟨t3, l, hS3, e, ha, hb, hc, ea⟩ := hp
      subst e ea
      rw [rngD_len] at hk
      obtain ⟨d, t4, hd, hS4, e5⟩ := call_draw_io (ρ := [.io t3, .v (.lf (.int (s : Nat))), .v (.lf (.int (k : Int)))]) (i := 0) (k := 3) (fk := cF (.int 3)) hS3 (by decide) (by decide) (by omega) rfl rfl
      have st : ([.io t3, .v (.lf (.int (s : Nat))), .v (.lf (.int (k : Int)))] : Mo.Env).set 0 (.io t4) = [.io t4, .v (.lf (.int (s : Nat))), .v (.lf (.int (k : Int)))] := rfl
      rw [st] at e5
      have hk40 : k ≤ 40 := by omega
      have m1 : oMul (.int (s : Nat)) (.int (k : Nat)) = some (.int ((s * k : Nat) : Int)) := mul_s (by omega) (by omega)
      have hsk : s * k ≤ 1000 * 40 := Nat.mul_le_mul hs2 hk40
      have m2 : oMul (.int ((s * k : Nat) : Int)) (.int 3) = some (.int ((s * k * 3 : Nat) : Int)) := mul_s (y := 3) (by omega) (by omega)
      have ex : s * (k + 1) * 3 = s * k * 3 + s * 3 := by rw [Nat.mul_add, Nat.add_mul, Nat.mul_one]
      refine ⟨by rw [List.length_map, hc]; show k < 2 ^ 24; omega, [.io t3, .v (.lf (.int (s : Nat))), .v (.lf (.int (k : Int)))], _, [.io t4, .v (.lf (.int (s : Nat))), .v (.lf (.int (k : Int)))], [.io t4, .v (.lf (.int (s : Nat))), .un], .lf (en (d + s * k * 3)), ?_, yesF_ap, ?_, rfl, t4, l ++ [d + s * k * 3], ?_, rfl, ?_, ?_, by simp [hc], by simp⟩
      · rw [rngD_get, asgE_ap]
        rfl
      · simp -implicitDefEqProofs only [Mo.show_LS, Mo.view_LS, ↓Mo.bind_bn, ↓Mo.tos_tn, ↓Mo.sthen_sn, ↓Mo.sel_sl, Mo.bn_ok, Mo.bn_ex, Mo.tn_ok, Mo.tn_ex, Mo.sn_nx, Mo.sn_rt, Mo.sn_bk, Mo.sn_ct, Mo.sn_ex, Mo.sl_t, Mo.sl_f, Mo.vw_d, Mo.vw_w, Mo.vw_r, Mo.vwR_LS, Mo.vwR_io, Mo.vwR_lf, Mo.stays_d, Mo.stays_r, Mo.stays_t, Mo.varF_ap, Mo.varR_lf, Mo.varR_LS, Mo.varR_io, Mo.varR_ls, Mo.cF_ap, Mo.ofO_s, Mo.binV_s, Mo.bin2_ap, Mo.unV_s, Mo.un1_ap, Mo.fzE_d, Mo.fzE_r, Mo.fzR_LS, Mo.fzR_ls, Mo.fzs_n, Mo.fzs_c, Mo.vws_n, Mo.vws_c, Mo.vwsC_s, Mo.nilV_ap, Mo.stay1_t, Mo.consV_ap, Mo.okIf_T, Mo.tupF_ap, Mo.lstF_ap, Mo.frzO_ap, Mo.lfF_ap, Mo.callV_s, Mo.callF_ap, Mo.outV_r, Mo.outV_x, Mo.callD_ap, Mo.ixV_s, Mo.ixV_n, Mo.ixF_ap, Mo.noP_ap, Mo.intV_i, Mo.someP_ap, Mo.slV_s, Mo.slF_ap, Mo.boolV_b, Mo.boolF_ap, Mo.truW_s, Mo.truV_s, Mo.truF_ap, Mo.truD_b, Mo.truD_i, Mo.okB_ap, Mo.andF_ap, Mo.orF_ap, Mo.notF_ap, Mo.okV_ap, Mo.selV_b, Mo.andV_ap, Mo.orV_ap, Mo.ifF_ap, Mo.seqF_ap, Mo.nxF_ap, Mo.bkF_ap, Mo.retF_ap, Mo.exprF_ap, Mo.ofE_s, Mo.asgF_ap, Mo.asgE_ap, Mo.asgR_un, Mo.asgR_v, Mo.asgR_raw, Mo.setO_ap, Mo.ifS_ap, Mo.gNil_ap, Mo.nextE_s, Mo.gCons_ap, Mo.lsAt_ap, Mo.lsR_LS, Mo.lsR_io, Mo.lsR_ls, Mo.appF_ap, Mo.appG_s, Mo.appK_LS, Mo.okIf_le, Mo.okIf_lt, Mo.outS_nx, Mo.outS_rt, Mo.outS_ex, Mo.outI_rt, Mo.outI_nx, Mo.bTup_l, Mo.bTup_t, Mo.bInt_b, Mo.bInt_i, Mo.dropE_n, Mo.dropE_c, Mo.dropN_s, Mo.drop1R_un, Mo.drop1R_lf, Mo.restE_n, Mo.restE_c, Mo.restR_s, Mo.forF_ap, Mo.itV_s, Mo.itF_ap, Mo.argF_ap, Mo.items_l, Mo.items_t, Mo.yesF_ap, Mo.repO_ap, Mo.nilW_ap, Mo.consW_ap, Mo.parF_ap, Mo.parN_s, Mo.parE_n, Mo.parE_c, Mo.ioK_v, Mo.ioK_io, Mo.ioH_s, Mo.ioG_s, Mo.ioArg_r, Mo.joinF_ap, Mo.insF_ap, Mo.insG_s, Mo.insArg_s, Mo.insH_s, Mo.extF_ap, Mo.extG_s, Mo.extH_s, Mo.tryF_ap, Mo.tryK_nx, Mo.tryK_rt, Mo.tryK_ex, Mo.raiseF_ap, Mo.lr2F_ap, Mo.lr1F_ap, Mo.lrPi_ap, Mo.okI_tr, oAdd_i, oSub_i, oLt_i, oLe_i, oGt_i, oGe_i, oEq_i, oNe_i, len_S, List.getElem?_cons_zero, List.getElem?_cons_succ, List.set_cons_zero, List.set_cons_succ, List.map_cons, List.map_nil, List.replicate_succ, List.replicate_zero, List.cons_append, List.nil_append, List.length_cons, List.length_nil, Nat.reduceLeDiff, Nat.reduceAdd, Nat.reduceSub, Nat.zero_le, Nat.add_one_sub_one, Nat.sub_self, Nat.zero_add, decide_true, decide_false, Bool.not_true, Bool.not_false, Bool.and_self, Bool.true_and, Bool.and_true, e5, m1, m2]
        rfl
      · rw [show n + 2 + (k + 1) = n + 2 + k + 1 by omega]; exact hS4
      · refine List.pairwise_append.mpr ⟨ha, List.pairwise_singleton _ _, fun x hx y hy => ?_⟩
        have := hb x hx
        rw [List.mem_singleton.mp hy]
        omega
      · intro x hx
        rw [ex]
        rcases List.mem_append.mp hx with z | z
        · have := hb x z
          omega
        · rw [List.mem_singleton.mp z]
          omega
  rw [rngD_len] at hS3 hl2 hl3
  have hsm : s * m ≤ 1000 * 40 := Nat.mul_le_mul hs2 (by omega)
  refine ⟨l, t3, hl1, by omega, fun x hx => by have := hl2 x hx; omega, hS3.more (by omega), ?_⟩
  have r1 := rg1_n (n := m) (by omega)
  have hc : compF [2] (argF rg1 (consV true (callI cf_draw (consV true (varF 0) (consV true (cF (.int 41)) nilV))) nilV)) (asgE 2) yesF (lfF (bin2 true oAdd (callI cf_draw (consV true (varF 0) (consV true (cF (.int 3)) nilV))) (bin2 true oMul (bin2 true oMul (varF 1) (varF 2)) (cF (.int 3))))) [.io t1, .v (.lf (.int (s : Nat))), .un] = .ok (.ls acc) [.io t3, .v (.lf (.int (s : Nat))), .un] := by
    have st : ([.io t1, .v (.lf (.int (s : Nat))), .un] : Mo.Env).set 0 (.io t2) = [.io t2, .v (.lf (.int (s : Nat))), .un] := rfl
    rw [st] at e2
    refine (compF_is (items := rngD 0 m) (ρ1 := [.io t2, .v (.lf (.int (s : Nat))), .un]) (ρb := [.io t2, .v (.lf (.int (s : Nat))), .un]) (ρ2 := ρ') (acc := acc) ?_ rfl e3).trans ?_
    · simp -implicitDefEqProofs only [Mo.show_LS, Mo.view_LS, ↓Mo.bind_bn, ↓Mo.tos_tn, ↓Mo.sthen_sn, ↓Mo.sel_sl, Mo.bn_ok, Mo.bn_ex, Mo.tn_ok, Mo.tn_ex, Mo.sn_nx, Mo.sn_rt, Mo.sn_bk, Mo.sn_ct, Mo.sn_ex, Mo.sl_t, Mo.sl_f, Mo.vw_d, Mo.vw_w, Mo.vw_r, Mo.vwR_LS, Mo.vwR_io, Mo.vwR_lf, Mo.stays_d, Mo.stays_r, Mo.stays_t, Mo.varF_ap, Mo.varR_lf, Mo.varR_LS, Mo.varR_io, Mo.varR_ls, Mo.cF_ap, Mo.ofO_s, Mo.binV_s, Mo.bin2_ap, Mo.unV_s, Mo.un1_ap, Mo.fzE_d, Mo.fzE_r, Mo.fzR_LS, Mo.fzR_ls, Mo.fzs_n, Mo.fzs_c, Mo.vws_n, Mo.vws_c, Mo.vwsC_s, Mo.nilV_ap, Mo.stay1_t, Mo.consV_ap, Mo.okIf_T, Mo.tupF_ap, Mo.lstF_ap, Mo.frzO_ap, Mo.lfF_ap, Mo.callV_s, Mo.callF_ap, Mo.outV_r, Mo.outV_x, Mo.callD_ap, Mo.ixV_s, Mo.ixV_n, Mo.ixF_ap, Mo.noP_ap, Mo.intV_i, Mo.someP_ap, Mo.slV_s, Mo.slF_ap, Mo.boolV_b, Mo.boolF_ap, Mo.truW_s, Mo.truV_s, Mo.truF_ap, Mo.truD_b, Mo.truD_i, Mo.okB_ap, Mo.andF_ap, Mo.orF_ap, Mo.notF_ap, Mo.okV_ap, Mo.selV_b, Mo.andV_ap, Mo.orV_ap, Mo.ifF_ap, Mo.seqF_ap, Mo.nxF_ap, Mo.bkF_ap, Mo.retF_ap, Mo.exprF_ap, Mo.ofE_s, Mo.asgF_ap, Mo.asgE_ap, Mo.asgR_un, Mo.asgR_v, Mo.asgR_raw, Mo.setO_ap, Mo.ifS_ap, Mo.gNil_ap, Mo.nextE_s, Mo.gCons_ap, Mo.lsAt_ap, Mo.lsR_LS, Mo.lsR_io, Mo.lsR_ls, Mo.appF_ap, Mo.appG_s, Mo.appK_LS, Mo.okIf_le, Mo.okIf_lt, Mo.outS_nx, Mo.outS_rt, Mo.outS_ex, Mo.outI_rt, Mo.outI_nx, Mo.bTup_l, Mo.bTup_t, Mo.bInt_b, Mo.bInt_i, Mo.dropE_n, Mo.dropE_c, Mo.dropN_s, Mo.drop1R_un, Mo.drop1R_lf, Mo.restE_n, Mo.restE_c, Mo.restR_s, Mo.forF_ap, Mo.itV_s, Mo.itF_ap, Mo.argF_ap, Mo.items_l, Mo.items_t, Mo.yesF_ap, Mo.repO_ap, Mo.nilW_ap, Mo.consW_ap, Mo.parF_ap, Mo.parN_s, Mo.parE_n, Mo.parE_c, Mo.ioK_v, Mo.ioK_io, Mo.ioH_s, Mo.ioG_s, Mo.ioArg_r, Mo.joinF_ap, Mo.insF_ap, Mo.insG_s, Mo.insArg_s, Mo.insH_s, Mo.extF_ap, Mo.extG_s, Mo.extH_s, Mo.tryF_ap, Mo.tryK_nx, Mo.tryK_rt, Mo.tryK_ex, Mo.raiseF_ap, Mo.lr2F_ap, Mo.lr1F_ap, Mo.lrPi_ap, Mo.okI_tr, oAdd_i, oSub_i, oLt_i, oLe_i, oGt_i, oGe_i, oEq_i, oNe_i, len_S, List.getElem?_cons_zero, List.getElem?_cons_succ, List.set_cons_zero, List.set_cons_succ, List.map_cons, List.map_nil, List.replicate_succ, List.replicate_zero, List.cons_append, List.nil_append, List.length_cons, List.length_nil, Nat.reduceLeDiff, Nat.reduceAdd, Nat.reduceSub, Nat.zero_le, Nat.add_one_sub_one, Nat.sub_self, Nat.zero_add, decide_true, decide_false, Bool.not_true, Bool.not_false, Bool.and_self, Bool.true_and, Bool.and_true, e2, r1]
    · subst e4
      rfl
  have view : (OT.ls acc).view = .list (l.map en) := by
    subst hl4
    show PyData.list (OT.views _) = _
    rw [OT.views_eq, List.map_map]
    rfl
  have st1 : ([.io t, .un, .un] : Mo.Env).set 0 (.io t1) = [.io t1, .un, .un] := rfl
  rw [st1] at e1
  have vl : (OT.lf (PyData.list [.int 1, .int 2, .int 7, .int 1000])).view = .list [.int 1, .int 2, .int 7, .int 1000] := rfl
  show funI 3 1 (g_l_made c) t [] = _
  unfold g_l_made
  rw [fd]
  refine (funI_ap rfl).trans ?_
  simp -implicitDefEqProofs only [Mo.show_LS, Mo.view_LS, ↓Mo.bind_bn, ↓Mo.tos_tn, ↓Mo.sthen_sn, ↓Mo.sel_sl, Mo.bn_ok, Mo.bn_ex, Mo.tn_ok, Mo.tn_ex, Mo.sn_nx, Mo.sn_rt, Mo.sn_bk, Mo.sn_ct, Mo.sn_ex, Mo.sl_t, Mo.sl_f, Mo.vw_d, Mo.vw_w, Mo.vw_r, Mo.vwR_LS, Mo.vwR_io, Mo.vwR_lf, Mo.stays_d, Mo.stays_r, Mo.stays_t, Mo.varF_ap, Mo.varR_lf, Mo.varR_LS, Mo.varR_io, Mo.varR_ls, Mo.cF_ap, Mo.ofO_s, Mo.binV_s, Mo.bin2_ap, Mo.unV_s, Mo.un1_ap, Mo.fzE_d, Mo.fzE_r, Mo.fzR_LS, Mo.fzR_ls, Mo.fzs_n, Mo.fzs_c, Mo.vws_n, Mo.vws_c, Mo.vwsC_s, Mo.nilV_ap, Mo.stay1_t, Mo.consV_ap, Mo.okIf_T, Mo.tupF_ap, Mo.lstF_ap, Mo.frzO_ap, Mo.lfF_ap, Mo.callV_s, Mo.callF_ap, Mo.outV_r, Mo.outV_x, Mo.callD_ap, Mo.ixV_s, Mo.ixV_n, Mo.ixF_ap, Mo.noP_ap, Mo.intV_i, Mo.someP_ap, Mo.slV_s, Mo.slF_ap, Mo.boolV_b, Mo.boolF_ap, Mo.truW_s, Mo.truV_s, Mo.truF_ap, Mo.truD_b, Mo.truD_i, Mo.okB_ap, Mo.andF_ap, Mo.orF_ap, Mo.notF_ap, Mo.okV_ap, Mo.selV_b, Mo.andV_ap, Mo.orV_ap, Mo.ifF_ap, Mo.seqF_ap, Mo.nxF_ap, Mo.bkF_ap, Mo.retF_ap, Mo.exprF_ap, Mo.ofE_s, Mo.asgF_ap, Mo.asgE_ap, Mo.asgR_un, Mo.asgR_v, Mo.asgR_raw, Mo.setO_ap, Mo.ifS_ap, Mo.gNil_ap, Mo.nextE_s, Mo.gCons_ap, Mo.lsAt_ap, Mo.lsR_LS, Mo.lsR_io, Mo.lsR_ls, Mo.appF_ap, Mo.appG_s, Mo.appK_LS, Mo.okIf_le, Mo.okIf_lt, Mo.outS_nx, Mo.outS_rt, Mo.outS_ex, Mo.outI_rt, Mo.outI_nx, Mo.bTup_l, Mo.bTup_t, Mo.bInt_b, Mo.bInt_i, Mo.dropE_n, Mo.dropE_c, Mo.dropN_s, Mo.drop1R_un, Mo.drop1R_lf, Mo.restE_n, Mo.restE_c, Mo.restR_s, Mo.forF_ap, Mo.itV_s, Mo.itF_ap, Mo.argF_ap, Mo.items_l, Mo.items_t, Mo.yesF_ap, Mo.repO_ap, Mo.nilW_ap, Mo.consW_ap, Mo.parF_ap, Mo.parN_s, Mo.parE_n, Mo.parE_c, Mo.ioK_v, Mo.ioK_io, Mo.ioH_s, Mo.ioG_s, Mo.ioArg_r, Mo.joinF_ap, Mo.insF_ap, Mo.insG_s, Mo.insArg_s, Mo.insH_s, Mo.extF_ap, Mo.extG_s, Mo.extH_s, Mo.tryF_ap, Mo.tryK_nx, Mo.tryK_rt, Mo.tryK_ex, Mo.raiseF_ap, Mo.lr2F_ap, Mo.lr1F_ap, Mo.lrPi_ap, Mo.okI_tr, oAdd_i, oSub_i, oLt_i, oLe_i, oGt_i, oGe_i, oEq_i, oNe_i, len_S, List.getElem?_cons_zero, List.getElem?_cons_succ, List.set_cons_zero, List.set_cons_succ, List.map_cons, List.map_nil, List.replicate_succ, List.replicate_zero, List.cons_append, List.nil_append, List.length_cons, List.length_nil, Nat.reduceLeDiff, Nat.reduceAdd, Nat.reduceSub, Nat.zero_le, Nat.add_one_sub_one, Nat.sub_self, Nat.zero_add, decide_true, decide_false, Bool.not_true, Bool.not_false, Bool.and_self, Bool.true_and, Bool.and_true, e1, es, hc, view]
  rfl
theorem call_made {c : Cs} {ρ : Mo.Env} {n i : Nat} {t : OT} (h : St n t) (hn : n ≤ 10000) (e : ρ[i]? = some (.v t)) :
    ∃ (l : List Nat) (t' : OT), Asc l ∧ l.length ≤ 40 ∧ (∀ x ∈ l, x ≤ 200000) ∧ St (n + 50) t' ∧ callI (f_l_made c) (consV true (varF i) nilV) ρ = .ok (.d (R l)) (ρ.set i (.v t')) := by
  obtain ⟨l, t', a1, a2, a3, a4, h2⟩ := made_is (c := c) h hn
  refine ⟨l, t', a1, a2, a3, a4, ?_⟩
  obtain ⟨q, p, cs, s, rfl, _⟩ := h
  simp -implicitDefEqProofs only [Mo.show_LS, Mo.view_LS, ↓Mo.bind_bn, ↓Mo.tos_tn, ↓Mo.sthen_sn, ↓Mo.sel_sl, Mo.bn_ok, Mo.bn_ex, Mo.tn_ok, Mo.tn_ex, Mo.sn_nx, Mo.sn_rt, Mo.sn_bk, Mo.sn_ct, Mo.sn_ex, Mo.sl_t, Mo.sl_f, Mo.vw_d, Mo.vw_w, Mo.vw_r, Mo.vwR_LS, Mo.vwR_io, Mo.vwR_lf, Mo.stays_d, Mo.stays_r, Mo.stays_t, Mo.varF_ap, Mo.varR_lf, Mo.varR_LS, Mo.varR_io, Mo.varR_ls, Mo.cF_ap, Mo.ofO_s, Mo.binV_s, Mo.bin2_ap, Mo.unV_s, Mo.un1_ap, Mo.fzE_d, Mo.fzE_r, Mo.fzR_LS, Mo.fzR_ls, Mo.fzs_n, Mo.fzs_c, Mo.vws_n, Mo.vws_c, Mo.vwsC_s, Mo.nilV_ap, Mo.stay1_t, Mo.consV_ap, Mo.okIf_T, Mo.tupF_ap, Mo.lstF_ap, Mo.frzO_ap, Mo.lfF_ap, Mo.callV_s, Mo.callF_ap, Mo.outV_r, Mo.outV_x, Mo.callD_ap, Mo.ixV_s, Mo.ixV_n, Mo.ixF_ap, Mo.noP_ap, Mo.intV_i, Mo.someP_ap, Mo.slV_s, Mo.slF_ap, Mo.boolV_b, Mo.boolF_ap, Mo.truW_s, Mo.truV_s, Mo.truF_ap, Mo.truD_b, Mo.truD_i, Mo.okB_ap, Mo.andF_ap, Mo.orF_ap, Mo.notF_ap, Mo.okV_ap, Mo.selV_b, Mo.andV_ap, Mo.orV_ap, Mo.ifF_ap, Mo.seqF_ap, Mo.nxF_ap, Mo.bkF_ap, Mo.retF_ap, Mo.exprF_ap, Mo.ofE_s, Mo.asgF_ap, Mo.asgE_ap, Mo.asgR_un, Mo.asgR_v, Mo.asgR_raw, Mo.setO_ap, Mo.ifS_ap, Mo.gNil_ap, Mo.nextE_s, Mo.gCons_ap, Mo.lsAt_ap, Mo.lsR_LS, Mo.lsR_io, Mo.lsR_ls, Mo.appF_ap, Mo.appG_s, Mo.appK_LS, Mo.okIf_le, Mo.okIf_lt, Mo.outS_nx, Mo.outS_rt, Mo.outS_ex, Mo.outI_rt, Mo.outI_nx, Mo.bTup_l, Mo.bTup_t, Mo.bInt_b, Mo.bInt_i, Mo.dropE_n, Mo.dropE_c, Mo.dropN_s, Mo.drop1R_un, Mo.drop1R_lf, Mo.restE_n, Mo.restE_c, Mo.restR_s, Mo.forF_ap, Mo.itV_s, Mo.itF_ap, Mo.argF_ap, Mo.items_l, Mo.items_t, Mo.yesF_ap, Mo.repO_ap, Mo.nilW_ap, Mo.consW_ap, Mo.parF_ap, Mo.parN_s, Mo.parE_n, Mo.parE_c, Mo.ioK_v, Mo.ioK_io, Mo.ioH_s, Mo.ioG_s, Mo.ioArg_r, Mo.joinF_ap, Mo.insF_ap, Mo.insG_s, Mo.insArg_s, Mo.insH_s, Mo.extF_ap, Mo.extG_s, Mo.extH_s, Mo.tryF_ap, Mo.tryK_nx, Mo.tryK_rt, Mo.tryK_ex, Mo.raiseF_ap, Mo.lr2F_ap, Mo.lr1F_ap, Mo.lrPi_ap, Mo.okI_tr, oAdd_i, oSub_i, oLt_i, oLe_i, oGt_i, oGe_i, oEq_i, oNe_i, len_S, List.getElem?_cons_zero, List.getElem?_cons_succ, List.set_cons_zero, List.set_cons_succ, List.map_cons, List.map_nil, List.replicate_succ, List.replicate_zero, List.cons_append, List.nil_append, List.length_cons, List.length_nil, Nat.reduceLeDiff, Nat.reduceAdd, Nat.reduceSub, Nat.zero_le, Nat.add_one_sub_one, Nat.sub_self, Nat.zero_add, decide_true, decide_false, Bool.not_true, Bool.not_false, Bool.and_self, Bool.true_and, Bool.and_true, callI_ap, e, varR_Tv, lsR_Tv, TL_T, h2]
end K88

/-! La88: rows and goals. -/
namespace K88
open PySem PySem.Spec PyProof.Rows L2 Mo
abbrev EL (ns : List Int) (t : OT) (s2 s3 s4 s5 s6 s7 s8 s9 s10 s11 s12 s13 s14 s15 s16 s17 s18 : Slot) : Mo.Env := [.raw ns, .v t, s2, s3, s4, s5, s6, s7, s8, s9, s10, s11, s12, s13, s14, s15, s16, s17, s18]
section
variable {c : Cs} {ns : List Int} {t : OT} {s2 s3 s4 s5 s6 s7 s8 s9 s10 s11 s12 s13 s14 s15 s16 s17 s18 : Slot}
theorem rows_is {n : Nat} (h : St n t) (hn : n ≤ 1000) (l2 : Lt s2) :
    ∃ (a b : List Nat) (t' : OT), Asc a ∧ Asc b ∧ a.length ≤ 40 ∧ b.length ≤ 40 ∧ (∀ x ∈ a, x ≤ 200000) ∧ (∀ x ∈ b, x ≤ 200000) ∧ t2 c (EL ns t s2 s3 s4 s5 s6 s7 s8 s9 s10 s11 s12 s13 s14 s15 s16 s17 s18) = .nx (EL ns (t') (.v (.lf (.list [R a, R b]))) s3 s4 s5 s6 s7 s8 s9 s10 s11 s12 s13 s14 s15 s16 s17 s18) := by
  obtain ⟨a, t1, ha, la, ba, hS1, e1⟩ := call_made (c := c) (ρ := (EL ns t s2 s3 s4 s5 s6 s7 s8 s9 s10 s11 s12 s13 s14 s15 s16 s17 s18)) (i := 1) h (by omega) rfl
  have st1 : (EL ns t s2 s3 s4 s5 s6 s7 s8 s9 s10 s11 s12 s13 s14 s15 s16 s17 s18).set 1 (.v t1) = (EL ns (t1) s2 s3 s4 s5 s6 s7 s8 s9 s10 s11 s12 s13 s14 s15 s16 s17 s18) := rfl
  rw [st1] at e1
  obtain ⟨b, t2', hb, lb, bb, hS2, e2⟩ := call_made (c := c) (ρ := (EL ns (t1) s2 s3 s4 s5 s6 s7 s8 s9 s10 s11 s12 s13 s14 s15 s16 s17 s18)) (i := 1) hS1 (by omega) rfl
  have st2 : (EL ns (t1) s2 s3 s4 s5 s6 s7 s8 s9 s10 s11 s12 s13 s14 s15 s16 s17 s18).set 1 (.v t2') = (EL ns (t2') s2 s3 s4 s5 s6 s7 s8 s9 s10 s11 s12 s13 s14 s15 s16 s17 s18) := rfl
  rw [st2] at e2
  refine ⟨a, b, t2', ha, hb, la, lb, ba, bb, ?_⟩
  unfold K88.t2
  rcases l2 with rfl | ⟨_, rfl⟩ <;> simp -implicitDefEqProofs only [Mo.show_LS, Mo.view_LS, ↓Mo.bind_bn, ↓Mo.tos_tn, ↓Mo.sthen_sn, ↓Mo.sel_sl, Mo.bn_ok, Mo.bn_ex, Mo.tn_ok, Mo.tn_ex, Mo.sn_nx, Mo.sn_rt, Mo.sn_bk, Mo.sn_ct, Mo.sn_ex, Mo.sl_t, Mo.sl_f, Mo.vw_d, Mo.vw_w, Mo.vw_r, Mo.vwR_LS, Mo.vwR_io, Mo.vwR_lf, Mo.stays_d, Mo.stays_r, Mo.stays_t, Mo.varF_ap, Mo.varR_lf, Mo.varR_LS, Mo.varR_io, Mo.varR_ls, Mo.cF_ap, Mo.ofO_s, Mo.binV_s, Mo.bin2_ap, Mo.unV_s, Mo.un1_ap, Mo.fzE_d, Mo.fzE_r, Mo.fzR_LS, Mo.fzR_ls, Mo.fzs_n, Mo.fzs_c, Mo.vws_n, Mo.vws_c, Mo.vwsC_s, Mo.nilV_ap, Mo.stay1_t, Mo.consV_ap, Mo.okIf_T, Mo.tupF_ap, Mo.lstF_ap, Mo.frzO_ap, Mo.lfF_ap, Mo.callV_s, Mo.callF_ap, Mo.outV_r, Mo.outV_x, Mo.callD_ap, Mo.ixV_s, Mo.ixV_n, Mo.ixF_ap, Mo.noP_ap, Mo.intV_i, Mo.someP_ap, Mo.slV_s, Mo.slF_ap, Mo.boolV_b, Mo.boolF_ap, Mo.truW_s, Mo.truV_s, Mo.truF_ap, Mo.truD_b, Mo.truD_i, Mo.okB_ap, Mo.andF_ap, Mo.orF_ap, Mo.notF_ap, Mo.okV_ap, Mo.selV_b, Mo.andV_ap, Mo.orV_ap, Mo.ifF_ap, Mo.seqF_ap, Mo.nxF_ap, Mo.bkF_ap, Mo.retF_ap, Mo.exprF_ap, Mo.ofE_s, Mo.asgF_ap, Mo.asgE_ap, Mo.asgR_un, Mo.asgR_v, Mo.asgR_raw, Mo.setO_ap, Mo.ifS_ap, Mo.gNil_ap, Mo.nextE_s, Mo.gCons_ap, Mo.lsAt_ap, Mo.lsR_LS, Mo.lsR_io, Mo.lsR_ls, Mo.appF_ap, Mo.appG_s, Mo.appK_LS, Mo.okIf_le, Mo.okIf_lt, Mo.outS_nx, Mo.outS_rt, Mo.outS_ex, Mo.outI_rt, Mo.outI_nx, Mo.bTup_l, Mo.bTup_t, Mo.bInt_b, Mo.bInt_i, Mo.dropE_n, Mo.dropE_c, Mo.dropN_s, Mo.drop1R_un, Mo.drop1R_lf, Mo.restE_n, Mo.restE_c, Mo.restR_s, Mo.forF_ap, Mo.itV_s, Mo.itF_ap, Mo.argF_ap, Mo.items_l, Mo.items_t, Mo.yesF_ap, Mo.repO_ap, Mo.nilW_ap, Mo.consW_ap, Mo.parF_ap, Mo.parN_s, Mo.parE_n, Mo.parE_c, Mo.ioK_v, Mo.ioK_io, Mo.ioH_s, Mo.ioG_s, Mo.ioArg_r, Mo.joinF_ap, Mo.insF_ap, Mo.insG_s, Mo.insArg_s, Mo.insH_s, Mo.extF_ap, Mo.extG_s, Mo.extH_s, Mo.tryF_ap, Mo.tryK_nx, Mo.tryK_rt, Mo.tryK_ex, Mo.raiseF_ap, Mo.lr2F_ap, Mo.lr1F_ap, Mo.lrPi_ap, Mo.okI_tr, oAdd_i, oSub_i, oLt_i, oLe_i, oGt_i, oGe_i, oEq_i, oNe_i, len_S, List.getElem?_cons_zero, List.getElem?_cons_succ, List.set_cons_zero, List.set_cons_succ, List.map_cons, List.map_nil, List.replicate_succ, List.replicate_zero, List.cons_append, List.nil_append, List.length_cons, List.length_nil, Nat.reduceLeDiff, Nat.reduceAdd, Nat.reduceSub, Nat.zero_le, Nat.add_one_sub_one, Nat.sub_self, Nat.zero_add, decide_true, decide_false, Bool.not_true, Bool.not_false, Bool.and_self, Bool.true_and, Bool.and_true, e1, e2]
theorem row0_is {a b : List Nat} (l3 : Lt s3) : t3 c (EL ns t (.v (.lf (.list [R a, R b]))) s3 s4 s5 s6 s7 s8 s9 s10 s11 s12 s13 s14 s15 s16 s17 s18) = .nx (EL ns t (.v (.lf (.list [R a, R b]))) (.v (.lf (R a))) s4 s5 s6 s7 s8 s9 s10 s11 s12 s13 s14 s15 s16 s17 s18) := by
  have it : oItem (.list [R a, R b]) (.int 0) = some (R a) := rfl
  unfold t3
  rcases l3 with rfl | ⟨_, rfl⟩ <;> simp -implicitDefEqProofs only [Mo.show_LS, Mo.view_LS, ↓Mo.bind_bn, ↓Mo.tos_tn, ↓Mo.sthen_sn, ↓Mo.sel_sl, Mo.bn_ok, Mo.bn_ex, Mo.tn_ok, Mo.tn_ex, Mo.sn_nx, Mo.sn_rt, Mo.sn_bk, Mo.sn_ct, Mo.sn_ex, Mo.sl_t, Mo.sl_f, Mo.vw_d, Mo.vw_w, Mo.vw_r, Mo.vwR_LS, Mo.vwR_io, Mo.vwR_lf, Mo.stays_d, Mo.stays_r, Mo.stays_t, Mo.varF_ap, Mo.varR_lf, Mo.varR_LS, Mo.varR_io, Mo.varR_ls, Mo.cF_ap, Mo.ofO_s, Mo.binV_s, Mo.bin2_ap, Mo.unV_s, Mo.un1_ap, Mo.fzE_d, Mo.fzE_r, Mo.fzR_LS, Mo.fzR_ls, Mo.fzs_n, Mo.fzs_c, Mo.vws_n, Mo.vws_c, Mo.vwsC_s, Mo.nilV_ap, Mo.stay1_t, Mo.consV_ap, Mo.okIf_T, Mo.tupF_ap, Mo.lstF_ap, Mo.frzO_ap, Mo.lfF_ap, Mo.callV_s, Mo.callF_ap, Mo.outV_r, Mo.outV_x, Mo.callD_ap, Mo.ixV_s, Mo.ixV_n, Mo.ixF_ap, Mo.noP_ap, Mo.intV_i, Mo.someP_ap, Mo.slV_s, Mo.slF_ap, Mo.boolV_b, Mo.boolF_ap, Mo.truW_s, Mo.truV_s, Mo.truF_ap, Mo.truD_b, Mo.truD_i, Mo.okB_ap, Mo.andF_ap, Mo.orF_ap, Mo.notF_ap, Mo.okV_ap, Mo.selV_b, Mo.andV_ap, Mo.orV_ap, Mo.ifF_ap, Mo.seqF_ap, Mo.nxF_ap, Mo.bkF_ap, Mo.retF_ap, Mo.exprF_ap, Mo.ofE_s, Mo.asgF_ap, Mo.asgE_ap, Mo.asgR_un, Mo.asgR_v, Mo.asgR_raw, Mo.setO_ap, Mo.ifS_ap, Mo.gNil_ap, Mo.nextE_s, Mo.gCons_ap, Mo.lsAt_ap, Mo.lsR_LS, Mo.lsR_io, Mo.lsR_ls, Mo.appF_ap, Mo.appG_s, Mo.appK_LS, Mo.okIf_le, Mo.okIf_lt, Mo.outS_nx, Mo.outS_rt, Mo.outS_ex, Mo.outI_rt, Mo.outI_nx, Mo.bTup_l, Mo.bTup_t, Mo.bInt_b, Mo.bInt_i, Mo.dropE_n, Mo.dropE_c, Mo.dropN_s, Mo.drop1R_un, Mo.drop1R_lf, Mo.restE_n, Mo.restE_c, Mo.restR_s, Mo.forF_ap, Mo.itV_s, Mo.itF_ap, Mo.argF_ap, Mo.items_l, Mo.items_t, Mo.yesF_ap, Mo.repO_ap, Mo.nilW_ap, Mo.consW_ap, Mo.parF_ap, Mo.parN_s, Mo.parE_n, Mo.parE_c, Mo.ioK_v, Mo.ioK_io, Mo.ioH_s, Mo.ioG_s, Mo.ioArg_r, Mo.joinF_ap, Mo.insF_ap, Mo.insG_s, Mo.insArg_s, Mo.insH_s, Mo.extF_ap, Mo.extG_s, Mo.extH_s, Mo.tryF_ap, Mo.tryK_nx, Mo.tryK_rt, Mo.tryK_ex, Mo.raiseF_ap, Mo.lr2F_ap, Mo.lr1F_ap, Mo.lrPi_ap, Mo.okI_tr, oAdd_i, oSub_i, oLt_i, oLe_i, oGt_i, oGe_i, oEq_i, oNe_i, len_S, List.getElem?_cons_zero, List.getElem?_cons_succ, List.set_cons_zero, List.set_cons_succ, List.map_cons, List.map_nil, List.replicate_succ, List.replicate_zero, List.cons_append, List.nil_append, List.length_cons, List.length_nil, Nat.reduceLeDiff, Nat.reduceAdd, Nat.reduceSub, Nat.zero_le, Nat.add_one_sub_one, Nat.sub_self, Nat.zero_add, decide_true, decide_false, Bool.not_true, Bool.not_false, Bool.and_self, Bool.true_and, Bool.and_true, it]
theorem stIx_len {k : Int} : ∀ n : Nat, n ≤ 40 → k = 5 ∨ k = 7 → (stIx k n).length ≤ 9 := by
  intro n hn hk
  have : ∀ m : Fin 41, (stIx 5 m.val).length ≤ 9 ∧ (stIx 7 m.val).length ≤ 9 := by decide
  rcases hk with rfl | rfl
  · exact (this ⟨n, by omega⟩).1
  · exact (this ⟨n, by omega⟩).2
theorem picks_map {ix : List Nat} {l : List Nat} : picks ix (l.map en) = (picks ix l).map en := by
  unfold picks
  rw [List.map_filterMap]
  congr 1
  funext i
  rw [List.getElem?_map]
theorem step_R {k : Int} {l : List Nat} (hl : l.length ≤ 40) (hk : k = 5 ∨ k = 7) : oStep k (R l) = some (.tuple ((picks (stIx k l.length) l).map en)) := by
  have h := stIx_len (k := k) l.length hl hk
  show (if 1 < k ∧ (stIx k (l.map en).length).length ≤ sizeLine then some (PyData.tuple (picks (stIx k (l.map en).length) (l.map en))) else none) = _
  rw [List.length_map, if_pos ⟨by omega, Nat.le_trans h (by decide)⟩, picks_map]
theorem insU_len {x : Int} : ∀ ys : List Int, (insU x ys).length ≤ ys.length + 1
  | [] => by simp [insU]
  | y :: ys => by
    have := insU_len (x := x) ys
    unfold insU
    split
    · simp
    · split <;> simp <;> omega
theorem usort_len : ∀ xs : List Int, (usort xs).length ≤ xs.length
  | [] => Nat.le_refl _
  | x :: xs => by
    have := insU_len (x := x) (usort xs)
    have := usort_len xs
    show (insU x (usort xs)).length ≤ _
    simp only [List.length_cons]
    omega
theorem goals_is {a b : List Nat} (la : a.length ≤ 40) (l4 : Lt s4) (l18 : Lt s18) : ∃ G : List Nat, G.length ≤ 100 ∧ t4 c (EL ns t (.v (.lf (.list [R a, R b]))) (.v (.lf (R a))) s4 s5 s6 s7 s8 s9 s10 s11 s12 s13 s14 s15 s16 s17 s18) = .nx (EL ns t (.v (.lf (.list [R a, R b]))) (.v (.lf (R a))) (.v (.lf (.list (G.map en)))) s5 s6 s7 s8 s9 s10 s11 s12 s13 s14 s15 s16 s17 s18) := by
  have p5 := step_R (k := 5) la (.inl rfl)
  have p7 := step_R (k := 7) la (.inr rfl)
  have n5 : (picks (stIx 5 a.length) a).length ≤ 9 := Nat.le_trans (picks_len _ _) (stIx_len _ la (.inl rfl))
  have n7 : (picks (stIx 7 a.length) a).length ≤ 9 := Nat.le_trans (picks_len _ _) (stIx_len _ la (.inr rfl))
  generalize picks (stIx 5 a.length) a = P5 at *
  generalize picks (stIx 7 a.length) a = P7 at *
  have cm : compF [18] (itF (un1 (oStep 7) (varF 3))) (asgE 18) yesF (lfF (bin2 true oAdd (varF 18) (cF (.int 1)))) (EL ns t (.v (.lf (.list [R a, R b]))) (.v (.lf (R a))) s4 s5 s6 s7 s8 s9 s10 s11 s12 s13 s14 s15 s16 s17 s18) = .ok (LS ((P7.filter fun _ => true).map fun x => en (x + 1))) (EL ns t (.v (.lf (.list [R a, R b]))) (.v (.lf (R a))) s4 s5 s6 s7 s8 s9 s10 s11 s12 s13 s14 s15 s16 s17 s18) := by
    refine comp_typed (ρ1 := (EL ns t (.v (.lf (.list [R a, R b]))) (.v (.lf (R a))) s4 s5 s6 s7 s8 s9 s10 s11 s12 s13 s14 s15 s16 s17 s18)) (ρb := (EL ns t (.v (.lf (.list [R a, R b]))) (.v (.lf (R a))) s4 s5 s6 s7 s8 s9 s10 s11 s12 s13 s14 s15 s16 s17 (.un))) P7 en (fun _ => true) (fun x => en (x + 1)) ?_ ?_ ?_ (by omega) fun x hx => ⟨(EL ns t (.v (.lf (.list [R a, R b]))) (.v (.lf (R a))) s4 s5 s6 s7 s8 s9 s10 s11 s12 s13 s14 s15 s16 s17 (.v (.lf (en x)))), (EL ns t (.v (.lf (.list [R a, R b]))) (.v (.lf (R a))) s4 s5 s6 s7 s8 s9 s10 s11 s12 s13 s14 s15 s16 s17 (.v (.lf (en x)))), rfl, yesF_ap, fun _ => ⟨(EL ns t (.v (.lf (.list [R a, R b]))) (.v (.lf (R a))) s4 s5 s6 s7 s8 s9 s10 s11 s12 s13 s14 s15 s16 s17 (.v (.lf (en x)))), ?_, rfl⟩, fun z => by cases z⟩
    · simp -implicitDefEqProofs only [Mo.show_LS, Mo.view_LS, ↓Mo.bind_bn, ↓Mo.tos_tn, ↓Mo.sthen_sn, ↓Mo.sel_sl, Mo.bn_ok, Mo.bn_ex, Mo.tn_ok, Mo.tn_ex, Mo.sn_nx, Mo.sn_rt, Mo.sn_bk, Mo.sn_ct, Mo.sn_ex, Mo.sl_t, Mo.sl_f, Mo.vw_d, Mo.vw_w, Mo.vw_r, Mo.vwR_LS, Mo.vwR_io, Mo.vwR_lf, Mo.stays_d, Mo.stays_r, Mo.stays_t, Mo.varF_ap, Mo.varR_lf, Mo.varR_LS, Mo.varR_io, Mo.varR_ls, Mo.cF_ap, Mo.ofO_s, Mo.binV_s, Mo.bin2_ap, Mo.unV_s, Mo.un1_ap, Mo.fzE_d, Mo.fzE_r, Mo.fzR_LS, Mo.fzR_ls, Mo.fzs_n, Mo.fzs_c, Mo.vws_n, Mo.vws_c, Mo.vwsC_s, Mo.nilV_ap, Mo.stay1_t, Mo.consV_ap, Mo.okIf_T, Mo.tupF_ap, Mo.lstF_ap, Mo.frzO_ap, Mo.lfF_ap, Mo.callV_s, Mo.callF_ap, Mo.outV_r, Mo.outV_x, Mo.callD_ap, Mo.ixV_s, Mo.ixV_n, Mo.ixF_ap, Mo.noP_ap, Mo.intV_i, Mo.someP_ap, Mo.slV_s, Mo.slF_ap, Mo.boolV_b, Mo.boolF_ap, Mo.truW_s, Mo.truV_s, Mo.truF_ap, Mo.truD_b, Mo.truD_i, Mo.okB_ap, Mo.andF_ap, Mo.orF_ap, Mo.notF_ap, Mo.okV_ap, Mo.selV_b, Mo.andV_ap, Mo.orV_ap, Mo.ifF_ap, Mo.seqF_ap, Mo.nxF_ap, Mo.bkF_ap, Mo.retF_ap, Mo.exprF_ap, Mo.ofE_s, Mo.asgF_ap, Mo.asgE_ap, Mo.asgR_un, Mo.asgR_v, Mo.asgR_raw, Mo.setO_ap, Mo.ifS_ap, Mo.gNil_ap, Mo.nextE_s, Mo.gCons_ap, Mo.lsAt_ap, Mo.lsR_LS, Mo.lsR_io, Mo.lsR_ls, Mo.appF_ap, Mo.appG_s, Mo.appK_LS, Mo.okIf_le, Mo.okIf_lt, Mo.outS_nx, Mo.outS_rt, Mo.outS_ex, Mo.outI_rt, Mo.outI_nx, Mo.bTup_l, Mo.bTup_t, Mo.bInt_b, Mo.bInt_i, Mo.dropE_n, Mo.dropE_c, Mo.dropN_s, Mo.drop1R_un, Mo.drop1R_lf, Mo.restE_n, Mo.restE_c, Mo.restR_s, Mo.forF_ap, Mo.itV_s, Mo.itF_ap, Mo.argF_ap, Mo.items_l, Mo.items_t, Mo.yesF_ap, Mo.repO_ap, Mo.nilW_ap, Mo.consW_ap, Mo.parF_ap, Mo.parN_s, Mo.parE_n, Mo.parE_c, Mo.ioK_v, Mo.ioK_io, Mo.ioH_s, Mo.ioG_s, Mo.ioArg_r, Mo.joinF_ap, Mo.insF_ap, Mo.insG_s, Mo.insArg_s, Mo.insH_s, Mo.extF_ap, Mo.extG_s, Mo.extH_s, Mo.tryF_ap, Mo.tryK_nx, Mo.tryK_rt, Mo.tryK_ex, Mo.raiseF_ap, Mo.lr2F_ap, Mo.lr1F_ap, Mo.lrPi_ap, Mo.okI_tr, oAdd_i, oSub_i, oLt_i, oLe_i, oGt_i, oGe_i, oEq_i, oNe_i, len_S, List.getElem?_cons_zero, List.getElem?_cons_succ, List.set_cons_zero, List.set_cons_succ, List.map_cons, List.map_nil, List.replicate_succ, List.replicate_zero, List.cons_append, List.nil_append, List.length_cons, List.length_nil, Nat.reduceLeDiff, Nat.reduceAdd, Nat.reduceSub, Nat.zero_le, Nat.add_one_sub_one, Nat.sub_self, Nat.zero_add, decide_true, decide_false, Bool.not_true, Bool.not_false, Bool.and_self, Bool.true_and, Bool.and_true, p7]
    · rcases l18 with rfl | ⟨_, rfl⟩ <;> rfl
    · rcases l18 with rfl | ⟨_, rfl⟩ <;> rfl
    · unfold en
      simp -implicitDefEqProofs only [Mo.show_LS, Mo.view_LS, ↓Mo.bind_bn, ↓Mo.tos_tn, ↓Mo.sthen_sn, ↓Mo.sel_sl, Mo.bn_ok, Mo.bn_ex, Mo.tn_ok, Mo.tn_ex, Mo.sn_nx, Mo.sn_rt, Mo.sn_bk, Mo.sn_ct, Mo.sn_ex, Mo.sl_t, Mo.sl_f, Mo.vw_d, Mo.vw_w, Mo.vw_r, Mo.vwR_LS, Mo.vwR_io, Mo.vwR_lf, Mo.stays_d, Mo.stays_r, Mo.stays_t, Mo.varF_ap, Mo.varR_lf, Mo.varR_LS, Mo.varR_io, Mo.varR_ls, Mo.cF_ap, Mo.ofO_s, Mo.binV_s, Mo.bin2_ap, Mo.unV_s, Mo.un1_ap, Mo.fzE_d, Mo.fzE_r, Mo.fzR_LS, Mo.fzR_ls, Mo.fzs_n, Mo.fzs_c, Mo.vws_n, Mo.vws_c, Mo.vwsC_s, Mo.nilV_ap, Mo.stay1_t, Mo.consV_ap, Mo.okIf_T, Mo.tupF_ap, Mo.lstF_ap, Mo.frzO_ap, Mo.lfF_ap, Mo.callV_s, Mo.callF_ap, Mo.outV_r, Mo.outV_x, Mo.callD_ap, Mo.ixV_s, Mo.ixV_n, Mo.ixF_ap, Mo.noP_ap, Mo.intV_i, Mo.someP_ap, Mo.slV_s, Mo.slF_ap, Mo.boolV_b, Mo.boolF_ap, Mo.truW_s, Mo.truV_s, Mo.truF_ap, Mo.truD_b, Mo.truD_i, Mo.okB_ap, Mo.andF_ap, Mo.orF_ap, Mo.notF_ap, Mo.okV_ap, Mo.selV_b, Mo.andV_ap, Mo.orV_ap, Mo.ifF_ap, Mo.seqF_ap, Mo.nxF_ap, Mo.bkF_ap, Mo.retF_ap, Mo.exprF_ap, Mo.ofE_s, Mo.asgF_ap, Mo.asgE_ap, Mo.asgR_un, Mo.asgR_v, Mo.asgR_raw, Mo.setO_ap, Mo.ifS_ap, Mo.gNil_ap, Mo.nextE_s, Mo.gCons_ap, Mo.lsAt_ap, Mo.lsR_LS, Mo.lsR_io, Mo.lsR_ls, Mo.appF_ap, Mo.appG_s, Mo.appK_LS, Mo.okIf_le, Mo.okIf_lt, Mo.outS_nx, Mo.outS_rt, Mo.outS_ex, Mo.outI_rt, Mo.outI_nx, Mo.bTup_l, Mo.bTup_t, Mo.bInt_b, Mo.bInt_i, Mo.dropE_n, Mo.dropE_c, Mo.dropN_s, Mo.drop1R_un, Mo.drop1R_lf, Mo.restE_n, Mo.restE_c, Mo.restR_s, Mo.forF_ap, Mo.itV_s, Mo.itF_ap, Mo.argF_ap, Mo.items_l, Mo.items_t, Mo.yesF_ap, Mo.repO_ap, Mo.nilW_ap, Mo.consW_ap, Mo.parF_ap, Mo.parN_s, Mo.parE_n, Mo.parE_c, Mo.ioK_v, Mo.ioK_io, Mo.ioH_s, Mo.ioG_s, Mo.ioArg_r, Mo.joinF_ap, Mo.insF_ap, Mo.insG_s, Mo.insArg_s, Mo.insH_s, Mo.extF_ap, Mo.extG_s, Mo.extH_s, Mo.tryF_ap, Mo.tryK_nx, Mo.tryK_rt, Mo.tryK_ex, Mo.raiseF_ap, Mo.lr2F_ap, Mo.lr1F_ap, Mo.lrPi_ap, Mo.okI_tr, oAdd_i, oSub_i, oLt_i, oLe_i, oGt_i, oGe_i, oEq_i, oNe_i, len_S, List.getElem?_cons_zero, List.getElem?_cons_succ, List.set_cons_zero, List.set_cons_succ, List.map_cons, List.map_nil, List.replicate_succ, List.replicate_zero, List.cons_append, List.nil_append, List.length_cons, List.length_nil, Nat.reduceLeDiff, Nat.reduceAdd, Nat.reduceSub, Nat.zero_le, Nat.add_one_sub_one, Nat.sub_self, Nat.zero_add, decide_true, decide_false, Bool.not_true, Bool.not_false, Bool.and_self, Bool.true_and, Bool.and_true]
      rfl
  have ft : (P7.filter fun _ => true) = P7 := List.filter_eq_self.mpr fun _ _ => rfl
  rw [ft] at cm
  have lf : listF (consV true (un1 (oStep 5) (varF 3)) nilV) (EL ns t (.v (.lf (.list [R a, R b]))) (.v (.lf (R a))) s4 s5 s6 s7 s8 s9 s10 s11 s12 s13 s14 s15 s16 s17 s18) = .ok (LS (P5.map en)) (EL ns t (.v (.lf (.list [R a, R b]))) (.v (.lf (R a))) s4 s5 s6 s7 s8 s9 s10 s11 s12 s13 s14 s15 s16 s17 s18) := by
    unfold listF
    simp -implicitDefEqProofs only [Mo.show_LS, Mo.view_LS, ↓Mo.bind_bn, ↓Mo.tos_tn, ↓Mo.sthen_sn, ↓Mo.sel_sl, Mo.bn_ok, Mo.bn_ex, Mo.tn_ok, Mo.tn_ex, Mo.sn_nx, Mo.sn_rt, Mo.sn_bk, Mo.sn_ct, Mo.sn_ex, Mo.sl_t, Mo.sl_f, Mo.vw_d, Mo.vw_w, Mo.vw_r, Mo.vwR_LS, Mo.vwR_io, Mo.vwR_lf, Mo.stays_d, Mo.stays_r, Mo.stays_t, Mo.varF_ap, Mo.varR_lf, Mo.varR_LS, Mo.varR_io, Mo.varR_ls, Mo.cF_ap, Mo.ofO_s, Mo.binV_s, Mo.bin2_ap, Mo.unV_s, Mo.un1_ap, Mo.fzE_d, Mo.fzE_r, Mo.fzR_LS, Mo.fzR_ls, Mo.fzs_n, Mo.fzs_c, Mo.vws_n, Mo.vws_c, Mo.vwsC_s, Mo.nilV_ap, Mo.stay1_t, Mo.consV_ap, Mo.okIf_T, Mo.tupF_ap, Mo.lstF_ap, Mo.frzO_ap, Mo.lfF_ap, Mo.callV_s, Mo.callF_ap, Mo.outV_r, Mo.outV_x, Mo.callD_ap, Mo.ixV_s, Mo.ixV_n, Mo.ixF_ap, Mo.noP_ap, Mo.intV_i, Mo.someP_ap, Mo.slV_s, Mo.slF_ap, Mo.boolV_b, Mo.boolF_ap, Mo.truW_s, Mo.truV_s, Mo.truF_ap, Mo.truD_b, Mo.truD_i, Mo.okB_ap, Mo.andF_ap, Mo.orF_ap, Mo.notF_ap, Mo.okV_ap, Mo.selV_b, Mo.andV_ap, Mo.orV_ap, Mo.ifF_ap, Mo.seqF_ap, Mo.nxF_ap, Mo.bkF_ap, Mo.retF_ap, Mo.exprF_ap, Mo.ofE_s, Mo.asgF_ap, Mo.asgE_ap, Mo.asgR_un, Mo.asgR_v, Mo.asgR_raw, Mo.setO_ap, Mo.ifS_ap, Mo.gNil_ap, Mo.nextE_s, Mo.gCons_ap, Mo.lsAt_ap, Mo.lsR_LS, Mo.lsR_io, Mo.lsR_ls, Mo.appF_ap, Mo.appG_s, Mo.appK_LS, Mo.okIf_le, Mo.okIf_lt, Mo.outS_nx, Mo.outS_rt, Mo.outS_ex, Mo.outI_rt, Mo.outI_nx, Mo.bTup_l, Mo.bTup_t, Mo.bInt_b, Mo.bInt_i, Mo.dropE_n, Mo.dropE_c, Mo.dropN_s, Mo.drop1R_un, Mo.drop1R_lf, Mo.restE_n, Mo.restE_c, Mo.restR_s, Mo.forF_ap, Mo.itV_s, Mo.itF_ap, Mo.argF_ap, Mo.items_l, Mo.items_t, Mo.yesF_ap, Mo.repO_ap, Mo.nilW_ap, Mo.consW_ap, Mo.parF_ap, Mo.parN_s, Mo.parE_n, Mo.parE_c, Mo.ioK_v, Mo.ioK_io, Mo.ioH_s, Mo.ioG_s, Mo.ioArg_r, Mo.joinF_ap, Mo.insF_ap, Mo.insG_s, Mo.insArg_s, Mo.insH_s, Mo.extF_ap, Mo.extG_s, Mo.extH_s, Mo.tryF_ap, Mo.tryK_nx, Mo.tryK_rt, Mo.tryK_ex, Mo.raiseF_ap, Mo.lr2F_ap, Mo.lr1F_ap, Mo.lrPi_ap, Mo.okI_tr, oAdd_i, oSub_i, oLt_i, oLe_i, oGt_i, oGe_i, oEq_i, oNe_i, len_S, List.getElem?_cons_zero, List.getElem?_cons_succ, List.set_cons_zero, List.set_cons_succ, List.map_cons, List.map_nil, List.replicate_succ, List.replicate_zero, List.cons_append, List.nil_append, List.length_cons, List.length_nil, Nat.reduceLeDiff, Nat.reduceAdd, Nat.reduceSub, Nat.zero_le, Nat.add_one_sub_one, Nat.sub_self, Nat.zero_add, decide_true, decide_false, Bool.not_true, Bool.not_false, Bool.and_self, Bool.true_and, Bool.and_true, p5]
    rfl
  have pw : oPow (.int 10) (.int 9) = some (.int 1000000000) := by
    show (if (0 : Int) ≤ 9 ∧ (9 : Int) ≤ 1000000 ∧ (10 : Int).natAbs < 2 ^ 64 then some (PyData.int ((10 : Int) ^ (9 : Int).toNat)) else none) = _
    rw [if_pos (by decide)]
    rfl
  have a1 := oAdd_l (x := P5.map en) (y := P7.map fun x => en (x + 1)) (by simp; omega)
  have a2 := oAdd_l (x := P5.map en ++ P7.map fun x => en (x + 1)) (y := [.int 0, .int 1000000000, .int 5]) (by simp; omega)
  have eN : (P5.map en ++ P7.map fun x => en (x + 1)) ++ [.int 0, .int 1000000000, .int 5] = ((P5 ++ P7.map (· + 1) ++ [0, 1000000000, 5]).map fun n : Nat => (n : Int)).map PyData.int := by
    simp only [List.map_append, List.map_map]
    rfl
  rw [eN] at a2
  have us := usort_l (ns := (P5 ++ P7.map (· + 1) ++ [0, 1000000000, 5]).map fun n : Nat => (n : Int)) (by simp; omega)
  have ul := usort_len ((P5 ++ P7.map (· + 1) ++ [0, 1000000000, 5]).map fun n : Nat => (n : Int))
  have un : (usort ((P5 ++ P7.map (· + 1) ++ [0, 1000000000, 5]).map fun n : Nat => (n : Int))).map PyData.int = ((usort ((P5 ++ P7.map (· + 1) ++ [0, 1000000000, 5]).map fun n : Nat => (n : Int))).map Int.toNat).map en := by
    rw [List.map_map]
    refine List.map_congr_left fun k hk => ?_
    obtain ⟨m, _, e⟩ := List.mem_map.mp (usort_mem.mp hk)
    subst e
    rfl
  refine ⟨(usort ((P5 ++ P7.map (· + 1) ++ [0, 1000000000, 5]).map fun n : Nat => (n : Int))).map Int.toNat, ?_, ?_⟩
  · rw [List.length_map]
    refine Nat.le_trans ul ?_
    simp
    omega
  · rw [← un]
    have l0 : (OT.ls [.lf (.int 0), .lf (.int 1000000000), .lf (.int 5)]).view = .list [.int 0, .int 1000000000, .int 5] := rfl
    unfold t4
    rcases l4 with rfl | ⟨_, rfl⟩ <;> simp -implicitDefEqProofs only [Mo.show_LS, Mo.view_LS, ↓Mo.bind_bn, ↓Mo.tos_tn, ↓Mo.sthen_sn, ↓Mo.sel_sl, Mo.bn_ok, Mo.bn_ex, Mo.tn_ok, Mo.tn_ex, Mo.sn_nx, Mo.sn_rt, Mo.sn_bk, Mo.sn_ct, Mo.sn_ex, Mo.sl_t, Mo.sl_f, Mo.vw_d, Mo.vw_w, Mo.vw_r, Mo.vwR_LS, Mo.vwR_io, Mo.vwR_lf, Mo.stays_d, Mo.stays_r, Mo.stays_t, Mo.varF_ap, Mo.varR_lf, Mo.varR_LS, Mo.varR_io, Mo.varR_ls, Mo.cF_ap, Mo.ofO_s, Mo.binV_s, Mo.bin2_ap, Mo.unV_s, Mo.un1_ap, Mo.fzE_d, Mo.fzE_r, Mo.fzR_LS, Mo.fzR_ls, Mo.fzs_n, Mo.fzs_c, Mo.vws_n, Mo.vws_c, Mo.vwsC_s, Mo.nilV_ap, Mo.stay1_t, Mo.consV_ap, Mo.okIf_T, Mo.tupF_ap, Mo.lstF_ap, Mo.frzO_ap, Mo.lfF_ap, Mo.callV_s, Mo.callF_ap, Mo.outV_r, Mo.outV_x, Mo.callD_ap, Mo.ixV_s, Mo.ixV_n, Mo.ixF_ap, Mo.noP_ap, Mo.intV_i, Mo.someP_ap, Mo.slV_s, Mo.slF_ap, Mo.boolV_b, Mo.boolF_ap, Mo.truW_s, Mo.truV_s, Mo.truF_ap, Mo.truD_b, Mo.truD_i, Mo.okB_ap, Mo.andF_ap, Mo.orF_ap, Mo.notF_ap, Mo.okV_ap, Mo.selV_b, Mo.andV_ap, Mo.orV_ap, Mo.ifF_ap, Mo.seqF_ap, Mo.nxF_ap, Mo.bkF_ap, Mo.retF_ap, Mo.exprF_ap, Mo.ofE_s, Mo.asgF_ap, Mo.asgE_ap, Mo.asgR_un, Mo.asgR_v, Mo.asgR_raw, Mo.setO_ap, Mo.ifS_ap, Mo.gNil_ap, Mo.nextE_s, Mo.gCons_ap, Mo.lsAt_ap, Mo.lsR_LS, Mo.lsR_io, Mo.lsR_ls, Mo.appF_ap, Mo.appG_s, Mo.appK_LS, Mo.okIf_le, Mo.okIf_lt, Mo.outS_nx, Mo.outS_rt, Mo.outS_ex, Mo.outI_rt, Mo.outI_nx, Mo.bTup_l, Mo.bTup_t, Mo.bInt_b, Mo.bInt_i, Mo.dropE_n, Mo.dropE_c, Mo.dropN_s, Mo.drop1R_un, Mo.drop1R_lf, Mo.restE_n, Mo.restE_c, Mo.restR_s, Mo.forF_ap, Mo.itV_s, Mo.itF_ap, Mo.argF_ap, Mo.items_l, Mo.items_t, Mo.yesF_ap, Mo.repO_ap, Mo.nilW_ap, Mo.consW_ap, Mo.parF_ap, Mo.parN_s, Mo.parE_n, Mo.parE_c, Mo.ioK_v, Mo.ioK_io, Mo.ioH_s, Mo.ioG_s, Mo.ioArg_r, Mo.joinF_ap, Mo.insF_ap, Mo.insG_s, Mo.insArg_s, Mo.insH_s, Mo.extF_ap, Mo.extG_s, Mo.extH_s, Mo.tryF_ap, Mo.tryK_nx, Mo.tryK_rt, Mo.tryK_ex, Mo.raiseF_ap, Mo.lr2F_ap, Mo.lr1F_ap, Mo.lrPi_ap, Mo.okI_tr, oAdd_i, oSub_i, oLt_i, oLe_i, oGt_i, oGe_i, oEq_i, oNe_i, len_S, List.getElem?_cons_zero, List.getElem?_cons_succ, List.set_cons_zero, List.set_cons_succ, List.map_cons, List.map_nil, List.replicate_succ, List.replicate_zero, List.cons_append, List.nil_append, List.length_cons, List.length_nil, Nat.reduceLeDiff, Nat.reduceAdd, Nat.reduceSub, Nat.zero_le, Nat.add_one_sub_one, Nat.sub_self, Nat.zero_add, decide_true, decide_false, Bool.not_true, Bool.not_false, Bool.and_self, Bool.true_and, Bool.and_true, lf, cm, a1, pw, a2, us, l0]
end
end K88

/-! Lb88: all places, all goals. -/
namespace K88
open PySem PySem.Spec PyProof.Rows L2 Mo
theorem powM_le : ∀ (n f m : Nat), powM n f m ≤ f + n
  | 0, f, m => Nat.le_refl _
  | n + 1, f, m => by
    unfold powM
    split
    · have := powM_le n (f + 1) (m / 2); omega
    · have := powM_le n f m; omega
noncomputable def gB (c : Cs) : Mo.Env → SRes := (seqF (asgF (unpE 2 (gConsE (asgE 14) (gConsE (asgE 9) gNilE))) (callD (f_seek c) (consV true (varF 3) (consV true (varF 5) (consV true (varF 8) nilV))))) (seqF (asgF (asgE 13) (bin2 false oAdd (varF 5) (callF bLen (consV true (frzO (compF [18] (itF (slF true true (varF 3) (someP (varF 5)) noP)) (asgE 18) (boolF (bin2 true oLt (varF 18) (varF 8))) (lfF (varF 18)))) nilV)))) (ifS (orF (boolF (bin2 true oNe (varF 14) (varF 13))) (orF (notF (truF (callD (cf_same_at 5) (consV true (tupF (consV true (varF 14) (consV true (varF 9) nilV))) (consV true (callD (f_l_sought c) (consV true (varF 3) (consV true (varF 5) (consV true (varF 8) nilV)))) nilV))))) (boolF (bin2 true oGt (varF 9) (bin2 true oAdd (bin2 true oMul (cF (.int 2)) (callD (f_l_power c) (consV true (bin2 true oAdd (bin2 true oSub (varF 13) (varF 5)) (cF (.int 1))) nilV))) (cF (.int 1))))))) (retF (cF (.bool false))) nxF)))
section
variable {c : Cs} {ns : List Int} {t : OT} {s2 s3 s4 s5 s6 s7 s8 s9 s10 s11 s12 s13 s14 s15 s16 s17 s18 : Slot}
theorem gB_is {a b G : List Nat} (ha : Asc a) (la : a.length ≤ 40) {k g : Nat} (hk : k ≤ a.length) (l9 : Lt s9) (l13 : Lt s13) (l14 : Lt s14) (l18 : Lt s18) :
    gB c (EL ns t (.v (.lf (.list [R a, R b]))) (.v (.lf (R a))) (.v (.lf (.list (G.map en)))) (.v (.lf (.int (k : Nat)))) s6 s7 (.v (.lf (en g))) s9 s10 s11 s12 s13 s14 s15 s16 s17 s18) = .nx (EL ns t (.v (.lf (.list [R a, R b]))) (.v (.lf (R a))) (.v (.lf (.list (G.map en)))) (.v (.lf (.int (k : Nat)))) s6 s7 (.v (.lf (en g))) (.v (.lf (.int ((seekM a k g).2 : Nat)))) s10 s11 s12 (.v (.lf (.int ((max k (dues a g) : Nat) : Int)))) (.v (.lf (.int ((max k (dues a g) : Nat) : Int)))) s15 s16 s17 s18) := by
  have sk := seek_is (c := c) (l := a) (a := k) (g := g) la
  have so := sought_is (c := c) (l := a) (a := k) (g := g) la
  obtain ⟨st1, st2⟩ := steps_ok (g := g) ha la hk
  have dd := dues_drop (g := g) ha hk
  rw [st1] at sk so
  have cu := cutF_R (l := a) (i := k)
  have cm : ∀ (u9 u13 u14 : Slot), Lt u9 → Lt u13 → Lt u14 → compF [18] (itF (slF true true (varF 3) (someP (varF 5)) noP)) (asgE 18) (boolF (bin2 true oLt (varF 18) (varF 8))) (lfF (varF 18)) (EL ns t (.v (.lf (.list [R a, R b]))) (.v (.lf (R a))) (.v (.lf (.list (G.map en)))) (.v (.lf (.int (k : Nat)))) s6 s7 (.v (.lf (en g))) (u9) s10 s11 s12 (u13) (u14) s15 s16 s17 s18) = .ok (LS (((a.drop k).filter (· < g)).map en)) (EL ns t (.v (.lf (.list [R a, R b]))) (.v (.lf (R a))) (.v (.lf (.list (G.map en)))) (.v (.lf (.int (k : Nat)))) s6 s7 (.v (.lf (en g))) (u9) s10 s11 s12 (u13) (u14) s15 s16 s17 s18) := fun u9 u13 u14 m9 m13 m14 => by
    refine comp_typed (ρ1 := (EL ns t (.v (.lf (.list [R a, R b]))) (.v (.lf (R a))) (.v (.lf (.list (G.map en)))) (.v (.lf (.int (k : Nat)))) s6 s7 (.v (.lf (en g))) (u9) s10 s11 s12 (u13) (u14) s15 s16 s17 s18)) (ρb := (EL ns t (.v (.lf (.list [R a, R b]))) (.v (.lf (R a))) (.v (.lf (.list (G.map en)))) (.v (.lf (.int (k : Nat)))) s6 s7 (.v (.lf (en g))) (u9) s10 s11 s12 (u13) (u14) s15 s16 s17 (.un))) (a.drop k) en (fun x => decide (x < g)) en ?_ ?_ ?_ (by simp; omega) fun x hx => ⟨(EL ns t (.v (.lf (.list [R a, R b]))) (.v (.lf (R a))) (.v (.lf (.list (G.map en)))) (.v (.lf (.int (k : Nat)))) s6 s7 (.v (.lf (en g))) (u9) s10 s11 s12 (u13) (u14) s15 s16 s17 (.v (.lf (en x)))), (EL ns t (.v (.lf (.list [R a, R b]))) (.v (.lf (R a))) (.v (.lf (.list (G.map en)))) (.v (.lf (.int (k : Nat)))) s6 s7 (.v (.lf (en g))) (u9) s10 s11 s12 (u13) (u14) s15 s16 s17 (.v (.lf (en x)))), rfl, ?_, fun _ => ⟨(EL ns t (.v (.lf (.list [R a, R b]))) (.v (.lf (R a))) (.v (.lf (.list (G.map en)))) (.v (.lf (.int (k : Nat)))) s6 s7 (.v (.lf (en g))) (u9) s10 s11 s12 (u13) (u14) s15 s16 s17 (.v (.lf (en x)))), ?_, rfl⟩, fun _ => rfl⟩
    · simp -implicitDefEqProofs only [Mo.show_LS, Mo.view_LS, ↓Mo.bind_bn, ↓Mo.tos_tn, ↓Mo.sthen_sn, ↓Mo.sel_sl, Mo.bn_ok, Mo.bn_ex, Mo.tn_ok, Mo.tn_ex, Mo.sn_nx, Mo.sn_rt, Mo.sn_bk, Mo.sn_ct, Mo.sn_ex, Mo.sl_t, Mo.sl_f, Mo.vw_d, Mo.vw_w, Mo.vw_r, Mo.vwR_LS, Mo.vwR_io, Mo.vwR_lf, Mo.stays_d, Mo.stays_r, Mo.stays_t, Mo.varF_ap, Mo.varR_lf, Mo.varR_LS, Mo.varR_io, Mo.varR_ls, Mo.cF_ap, Mo.ofO_s, Mo.binV_s, Mo.bin2_ap, Mo.unV_s, Mo.un1_ap, Mo.fzE_d, Mo.fzE_r, Mo.fzR_LS, Mo.fzR_ls, Mo.fzs_n, Mo.fzs_c, Mo.vws_n, Mo.vws_c, Mo.vwsC_s, Mo.nilV_ap, Mo.stay1_t, Mo.consV_ap, Mo.okIf_T, Mo.tupF_ap, Mo.lstF_ap, Mo.frzO_ap, Mo.lfF_ap, Mo.callV_s, Mo.callF_ap, Mo.outV_r, Mo.outV_x, Mo.callD_ap, Mo.ixV_s, Mo.ixV_n, Mo.ixF_ap, Mo.noP_ap, Mo.intV_i, Mo.someP_ap, Mo.slV_s, Mo.slF_ap, Mo.boolV_b, Mo.boolF_ap, Mo.truW_s, Mo.truV_s, Mo.truF_ap, Mo.truD_b, Mo.truD_i, Mo.okB_ap, Mo.andF_ap, Mo.orF_ap, Mo.notF_ap, Mo.okV_ap, Mo.selV_b, Mo.andV_ap, Mo.orV_ap, Mo.ifF_ap, Mo.seqF_ap, Mo.nxF_ap, Mo.bkF_ap, Mo.retF_ap, Mo.exprF_ap, Mo.ofE_s, Mo.asgF_ap, Mo.asgE_ap, Mo.asgR_un, Mo.asgR_v, Mo.asgR_raw, Mo.setO_ap, Mo.ifS_ap, Mo.gNil_ap, Mo.nextE_s, Mo.gCons_ap, Mo.lsAt_ap, Mo.lsR_LS, Mo.lsR_io, Mo.lsR_ls, Mo.appF_ap, Mo.appG_s, Mo.appK_LS, Mo.okIf_le, Mo.okIf_lt, Mo.outS_nx, Mo.outS_rt, Mo.outS_ex, Mo.outI_rt, Mo.outI_nx, Mo.bTup_l, Mo.bTup_t, Mo.bInt_b, Mo.bInt_i, Mo.dropE_n, Mo.dropE_c, Mo.dropN_s, Mo.drop1R_un, Mo.drop1R_lf, Mo.restE_n, Mo.restE_c, Mo.restR_s, Mo.forF_ap, Mo.itV_s, Mo.itF_ap, Mo.argF_ap, Mo.items_l, Mo.items_t, Mo.yesF_ap, Mo.repO_ap, Mo.nilW_ap, Mo.consW_ap, Mo.parF_ap, Mo.parN_s, Mo.parE_n, Mo.parE_c, Mo.ioK_v, Mo.ioK_io, Mo.ioH_s, Mo.ioG_s, Mo.ioArg_r, Mo.joinF_ap, Mo.insF_ap, Mo.insG_s, Mo.insArg_s, Mo.insH_s, Mo.extF_ap, Mo.extG_s, Mo.extH_s, Mo.tryF_ap, Mo.tryK_nx, Mo.tryK_rt, Mo.tryK_ex, Mo.raiseF_ap, Mo.lr2F_ap, Mo.lr1F_ap, Mo.lrPi_ap, Mo.okI_tr, oAdd_i, oSub_i, oLt_i, oLe_i, oGt_i, oGe_i, oEq_i, oNe_i, len_S, List.getElem?_cons_zero, List.getElem?_cons_succ, List.set_cons_zero, List.set_cons_succ, List.map_cons, List.map_nil, List.replicate_succ, List.replicate_zero, List.cons_append, List.nil_append, List.length_cons, List.length_nil, Nat.reduceLeDiff, Nat.reduceAdd, Nat.reduceSub, Nat.zero_le, Nat.add_one_sub_one, Nat.sub_self, Nat.zero_add, decide_true, decide_false, Bool.not_true, Bool.not_false, Bool.and_self, Bool.true_and, Bool.and_true, cu]
      rfl
    · rcases l18 with rfl | ⟨_, rfl⟩ <;> rfl
    · rcases l18 with rfl | ⟨_, rfl⟩ <;> rfl
    · have e : decide ((x : Int) < (g : Int)) = decide (x < g) := decide_eq_decide.mpr (by omega)
      unfold en
      simp -implicitDefEqProofs only [Mo.show_LS, Mo.view_LS, ↓Mo.bind_bn, ↓Mo.tos_tn, ↓Mo.sthen_sn, ↓Mo.sel_sl, Mo.bn_ok, Mo.bn_ex, Mo.tn_ok, Mo.tn_ex, Mo.sn_nx, Mo.sn_rt, Mo.sn_bk, Mo.sn_ct, Mo.sn_ex, Mo.sl_t, Mo.sl_f, Mo.vw_d, Mo.vw_w, Mo.vw_r, Mo.vwR_LS, Mo.vwR_io, Mo.vwR_lf, Mo.stays_d, Mo.stays_r, Mo.stays_t, Mo.varF_ap, Mo.varR_lf, Mo.varR_LS, Mo.varR_io, Mo.varR_ls, Mo.cF_ap, Mo.ofO_s, Mo.binV_s, Mo.bin2_ap, Mo.unV_s, Mo.un1_ap, Mo.fzE_d, Mo.fzE_r, Mo.fzR_LS, Mo.fzR_ls, Mo.fzs_n, Mo.fzs_c, Mo.vws_n, Mo.vws_c, Mo.vwsC_s, Mo.nilV_ap, Mo.stay1_t, Mo.consV_ap, Mo.okIf_T, Mo.tupF_ap, Mo.lstF_ap, Mo.frzO_ap, Mo.lfF_ap, Mo.callV_s, Mo.callF_ap, Mo.outV_r, Mo.outV_x, Mo.callD_ap, Mo.ixV_s, Mo.ixV_n, Mo.ixF_ap, Mo.noP_ap, Mo.intV_i, Mo.someP_ap, Mo.slV_s, Mo.slF_ap, Mo.boolV_b, Mo.boolF_ap, Mo.truW_s, Mo.truV_s, Mo.truF_ap, Mo.truD_b, Mo.truD_i, Mo.okB_ap, Mo.andF_ap, Mo.orF_ap, Mo.notF_ap, Mo.okV_ap, Mo.selV_b, Mo.andV_ap, Mo.orV_ap, Mo.ifF_ap, Mo.seqF_ap, Mo.nxF_ap, Mo.bkF_ap, Mo.retF_ap, Mo.exprF_ap, Mo.ofE_s, Mo.asgF_ap, Mo.asgE_ap, Mo.asgR_un, Mo.asgR_v, Mo.asgR_raw, Mo.setO_ap, Mo.ifS_ap, Mo.gNil_ap, Mo.nextE_s, Mo.gCons_ap, Mo.lsAt_ap, Mo.lsR_LS, Mo.lsR_io, Mo.lsR_ls, Mo.appF_ap, Mo.appG_s, Mo.appK_LS, Mo.okIf_le, Mo.okIf_lt, Mo.outS_nx, Mo.outS_rt, Mo.outS_ex, Mo.outI_rt, Mo.outI_nx, Mo.bTup_l, Mo.bTup_t, Mo.bInt_b, Mo.bInt_i, Mo.dropE_n, Mo.dropE_c, Mo.dropN_s, Mo.drop1R_un, Mo.drop1R_lf, Mo.restE_n, Mo.restE_c, Mo.restR_s, Mo.forF_ap, Mo.itV_s, Mo.itF_ap, Mo.argF_ap, Mo.items_l, Mo.items_t, Mo.yesF_ap, Mo.repO_ap, Mo.nilW_ap, Mo.consW_ap, Mo.parF_ap, Mo.parN_s, Mo.parE_n, Mo.parE_c, Mo.ioK_v, Mo.ioK_io, Mo.ioH_s, Mo.ioG_s, Mo.ioArg_r, Mo.joinF_ap, Mo.insF_ap, Mo.insG_s, Mo.insArg_s, Mo.insH_s, Mo.extF_ap, Mo.extG_s, Mo.extH_s, Mo.tryF_ap, Mo.tryK_nx, Mo.tryK_rt, Mo.tryK_ex, Mo.raiseF_ap, Mo.lr2F_ap, Mo.lr1F_ap, Mo.lrPi_ap, Mo.okI_tr, oAdd_i, oSub_i, oLt_i, oLe_i, oGt_i, oGe_i, oEq_i, oNe_i, len_S, List.getElem?_cons_zero, List.getElem?_cons_succ, List.set_cons_zero, List.set_cons_succ, List.map_cons, List.map_nil, List.replicate_succ, List.replicate_zero, List.cons_append, List.nil_append, List.length_cons, List.length_nil, Nat.reduceLeDiff, Nat.reduceAdd, Nat.reduceSub, Nat.zero_le, Nat.add_one_sub_one, Nat.sub_self, Nat.zero_add, decide_true, decide_false, Bool.not_true, Bool.not_false, Bool.and_self, Bool.true_and, Bool.and_true, e]
    · unfold en
      simp -implicitDefEqProofs only [Mo.show_LS, Mo.view_LS, ↓Mo.bind_bn, ↓Mo.tos_tn, ↓Mo.sthen_sn, ↓Mo.sel_sl, Mo.bn_ok, Mo.bn_ex, Mo.tn_ok, Mo.tn_ex, Mo.sn_nx, Mo.sn_rt, Mo.sn_bk, Mo.sn_ct, Mo.sn_ex, Mo.sl_t, Mo.sl_f, Mo.vw_d, Mo.vw_w, Mo.vw_r, Mo.vwR_LS, Mo.vwR_io, Mo.vwR_lf, Mo.stays_d, Mo.stays_r, Mo.stays_t, Mo.varF_ap, Mo.varR_lf, Mo.varR_LS, Mo.varR_io, Mo.varR_ls, Mo.cF_ap, Mo.ofO_s, Mo.binV_s, Mo.bin2_ap, Mo.unV_s, Mo.un1_ap, Mo.fzE_d, Mo.fzE_r, Mo.fzR_LS, Mo.fzR_ls, Mo.fzs_n, Mo.fzs_c, Mo.vws_n, Mo.vws_c, Mo.vwsC_s, Mo.nilV_ap, Mo.stay1_t, Mo.consV_ap, Mo.okIf_T, Mo.tupF_ap, Mo.lstF_ap, Mo.frzO_ap, Mo.lfF_ap, Mo.callV_s, Mo.callF_ap, Mo.outV_r, Mo.outV_x, Mo.callD_ap, Mo.ixV_s, Mo.ixV_n, Mo.ixF_ap, Mo.noP_ap, Mo.intV_i, Mo.someP_ap, Mo.slV_s, Mo.slF_ap, Mo.boolV_b, Mo.boolF_ap, Mo.truW_s, Mo.truV_s, Mo.truF_ap, Mo.truD_b, Mo.truD_i, Mo.okB_ap, Mo.andF_ap, Mo.orF_ap, Mo.notF_ap, Mo.okV_ap, Mo.selV_b, Mo.andV_ap, Mo.orV_ap, Mo.ifF_ap, Mo.seqF_ap, Mo.nxF_ap, Mo.bkF_ap, Mo.retF_ap, Mo.exprF_ap, Mo.ofE_s, Mo.asgF_ap, Mo.asgE_ap, Mo.asgR_un, Mo.asgR_v, Mo.asgR_raw, Mo.setO_ap, Mo.ifS_ap, Mo.gNil_ap, Mo.nextE_s, Mo.gCons_ap, Mo.lsAt_ap, Mo.lsR_LS, Mo.lsR_io, Mo.lsR_ls, Mo.appF_ap, Mo.appG_s, Mo.appK_LS, Mo.okIf_le, Mo.okIf_lt, Mo.outS_nx, Mo.outS_rt, Mo.outS_ex, Mo.outI_rt, Mo.outI_nx, Mo.bTup_l, Mo.bTup_t, Mo.bInt_b, Mo.bInt_i, Mo.dropE_n, Mo.dropE_c, Mo.dropN_s, Mo.drop1R_un, Mo.drop1R_lf, Mo.restE_n, Mo.restE_c, Mo.restR_s, Mo.forF_ap, Mo.itV_s, Mo.itF_ap, Mo.argF_ap, Mo.items_l, Mo.items_t, Mo.yesF_ap, Mo.repO_ap, Mo.nilW_ap, Mo.consW_ap, Mo.parF_ap, Mo.parN_s, Mo.parE_n, Mo.parE_c, Mo.ioK_v, Mo.ioK_io, Mo.ioH_s, Mo.ioG_s, Mo.ioArg_r, Mo.joinF_ap, Mo.insF_ap, Mo.insG_s, Mo.insArg_s, Mo.insH_s, Mo.extF_ap, Mo.extG_s, Mo.extH_s, Mo.tryF_ap, Mo.tryK_nx, Mo.tryK_rt, Mo.tryK_ex, Mo.raiseF_ap, Mo.lr2F_ap, Mo.lr1F_ap, Mo.lrPi_ap, Mo.okI_tr, oAdd_i, oSub_i, oLt_i, oLe_i, oGt_i, oGe_i, oEq_i, oNe_i, len_S, List.getElem?_cons_zero, List.getElem?_cons_succ, List.set_cons_zero, List.set_cons_succ, List.map_cons, List.map_nil, List.replicate_succ, List.replicate_zero, List.cons_append, List.nil_append, List.length_cons, List.length_nil, Nat.reduceLeDiff, Nat.reduceAdd, Nat.reduceSub, Nat.zero_le, Nat.add_one_sub_one, Nat.sub_self, Nat.zero_add, decide_true, decide_false, Bool.not_true, Bool.not_false, Bool.and_self, Bool.true_and, Bool.and_true]
  have cmA := fun (p r : PyData) => cm (.v (.lf p)) .un (.v (.lf r)) .v .un .v
  have cmB := fun (p q r : PyData) => cm (.v (.lf p)) (.v (.lf q)) (.v (.lf r)) .v .v .v
  have ln : bLen [.list (((a.drop k).filter (· < g)).map en)] = some (.int (((a.drop k).filter (· < g)).length : Nat)) := by simp [bLen]
  have ad : (k : Int) + ((((a.drop k).filter (· < g)).length : Nat) : Int) = ((max k (dues a g) : Nat) : Int) := by omega
  have ss := same_self 5 (.tuple [.int ((max k (dues a g) : Nat) : Int), .int ((seekM a k g).2 : Nat)]) ⟨by show 2 ≤ 1000000; omega, fun x hx => by
    rcases List.mem_cons.mp hx with z | z
    · rw [z]; trivial
    · rcases List.mem_cons.mp z with z | z
      · rw [z]; trivial
      · cases z⟩
  have pe : ((max k (dues a g) : Nat) : Int) - (k : Int) + 1 = ((max k (dues a g) - k + 1 : Nat) : Int) := by omega
  have pw : f_l_power c [.int (((max k (dues a g) : Nat) : Int) - (k : Int) + 1)] = .ret (.int (powM 40 0 (max k (dues a g) - k + 1) : Nat)) := by
    rw [pe]; exact power_is
  have pl := powM_le 40 0 (max k (dues a g) - k + 1)
  have mu : oMul (.int 2) (.int (powM 40 0 (max k (dues a g) - k + 1) : Nat)) = some (.int ((2 * powM 40 0 (max k (dues a g) - k + 1) : Nat) : Int)) := mul_s (x := 2) (by omega) (by omega)
  have e1 : decide (((max k (dues a g) : Nat) : Int) = ((max k (dues a g) : Nat) : Int)) = true := decide_eq_true rfl
  have e2 : decide (((2 * powM 40 0 (max k (dues a g) - k + 1) : Nat) : Int) + 1 < ((seekM a k g).2 : Nat)) = false := decide_eq_false (by omega)
  unfold en at cmA cmB ln
  unfold gB en
  rcases l9 with rfl | ⟨_, rfl⟩ <;> rcases l13 with rfl | ⟨_, rfl⟩ <;> rcases l14 with rfl | ⟨_, rfl⟩ <;> simp -implicitDefEqProofs only [Mo.show_LS, Mo.view_LS, ↓Mo.bind_bn, ↓Mo.tos_tn, ↓Mo.sthen_sn, ↓Mo.sel_sl, Mo.bn_ok, Mo.bn_ex, Mo.tn_ok, Mo.tn_ex, Mo.sn_nx, Mo.sn_rt, Mo.sn_bk, Mo.sn_ct, Mo.sn_ex, Mo.sl_t, Mo.sl_f, Mo.vw_d, Mo.vw_w, Mo.vw_r, Mo.vwR_LS, Mo.vwR_io, Mo.vwR_lf, Mo.stays_d, Mo.stays_r, Mo.stays_t, Mo.varF_ap, Mo.varR_lf, Mo.varR_LS, Mo.varR_io, Mo.varR_ls, Mo.cF_ap, Mo.ofO_s, Mo.binV_s, Mo.bin2_ap, Mo.unV_s, Mo.un1_ap, Mo.fzE_d, Mo.fzE_r, Mo.fzR_LS, Mo.fzR_ls, Mo.fzs_n, Mo.fzs_c, Mo.vws_n, Mo.vws_c, Mo.vwsC_s, Mo.nilV_ap, Mo.stay1_t, Mo.consV_ap, Mo.okIf_T, Mo.tupF_ap, Mo.lstF_ap, Mo.frzO_ap, Mo.lfF_ap, Mo.callV_s, Mo.callF_ap, Mo.outV_r, Mo.outV_x, Mo.callD_ap, Mo.ixV_s, Mo.ixV_n, Mo.ixF_ap, Mo.noP_ap, Mo.intV_i, Mo.someP_ap, Mo.slV_s, Mo.slF_ap, Mo.boolV_b, Mo.boolF_ap, Mo.truW_s, Mo.truV_s, Mo.truF_ap, Mo.truD_b, Mo.truD_i, Mo.okB_ap, Mo.andF_ap, Mo.orF_ap, Mo.notF_ap, Mo.okV_ap, Mo.selV_b, Mo.andV_ap, Mo.orV_ap, Mo.ifF_ap, Mo.seqF_ap, Mo.nxF_ap, Mo.bkF_ap, Mo.retF_ap, Mo.exprF_ap, Mo.ofE_s, Mo.asgF_ap, Mo.asgE_ap, Mo.asgR_un, Mo.asgR_v, Mo.asgR_raw, Mo.setO_ap, Mo.ifS_ap, Mo.gNil_ap, Mo.nextE_s, Mo.gCons_ap, Mo.lsAt_ap, Mo.lsR_LS, Mo.lsR_io, Mo.lsR_ls, Mo.appF_ap, Mo.appG_s, Mo.appK_LS, Mo.okIf_le, Mo.okIf_lt, Mo.outS_nx, Mo.outS_rt, Mo.outS_ex, Mo.outI_rt, Mo.outI_nx, Mo.bTup_l, Mo.bTup_t, Mo.bInt_b, Mo.bInt_i, Mo.dropE_n, Mo.dropE_c, Mo.dropN_s, Mo.drop1R_un, Mo.drop1R_lf, Mo.restE_n, Mo.restE_c, Mo.restR_s, Mo.forF_ap, Mo.itV_s, Mo.itF_ap, Mo.argF_ap, Mo.items_l, Mo.items_t, Mo.yesF_ap, Mo.repO_ap, Mo.nilW_ap, Mo.consW_ap, Mo.parF_ap, Mo.parN_s, Mo.parE_n, Mo.parE_c, Mo.ioK_v, Mo.ioK_io, Mo.ioH_s, Mo.ioG_s, Mo.ioArg_r, Mo.joinF_ap, Mo.insF_ap, Mo.insG_s, Mo.insArg_s, Mo.insH_s, Mo.extF_ap, Mo.extG_s, Mo.extH_s, Mo.tryF_ap, Mo.tryK_nx, Mo.tryK_rt, Mo.tryK_ex, Mo.raiseF_ap, Mo.lr2F_ap, Mo.lr1F_ap, Mo.lrPi_ap, Mo.okI_tr, oAdd_i, oSub_i, oLt_i, oLe_i, oGt_i, oGe_i, oEq_i, oNe_i, len_S, List.getElem?_cons_zero, List.getElem?_cons_succ, List.set_cons_zero, List.set_cons_succ, List.map_cons, List.map_nil, List.replicate_succ, List.replicate_zero, List.cons_append, List.nil_append, List.length_cons, List.length_nil, Nat.reduceLeDiff, Nat.reduceAdd, Nat.reduceSub, Nat.zero_le, Nat.add_one_sub_one, Nat.sub_self, Nat.zero_add, decide_true, decide_false, Bool.not_true, Bool.not_false, Bool.and_self, Bool.true_and, Bool.and_true, sk, unpE, if_true, cmA, cmB, ln, ad, ss, so, pw, mu, e1, e2]
end
end K88

/-! Lc88: all places, all goals: the loops; the law own meeting. -/
namespace K88
open PySem PySem.Spec PyProof.Rows L2 Mo
section
variable {c : Cs} {ns : List Int} {t : OT} {s2 s3 s4 s5 s6 s7 s8 s9 s10 s11 s12 s13 s14 s15 s16 s17 s18 : Slot}
theorem gI_go {a b G : List Nat} (ha : Asc a) (la : a.length ≤ 40) {k : Nat} (hk : k ≤ a.length) (l18 : Lt s18) : ∀ (r : List Nat) (s8 s9 s13 s14 : Slot), Lt s8 → Lt s9 → Lt s13 → Lt s14 → ∃ t8 t9 t13 t14, Lt t8 ∧ Lt t9 ∧ Lt t13 ∧ Lt t14 ∧ forGo (asgE 8) (gB c) (r.map en) (EL ns t (.v (.lf (.list [R a, R b]))) (.v (.lf (R a))) (.v (.lf (.list (G.map en)))) (.v (.lf (.int (k : Nat)))) s6 s7 s8 s9 s10 s11 s12 s13 s14 s15 s16 s17 s18) = .nx (EL ns t (.v (.lf (.list [R a, R b]))) (.v (.lf (R a))) (.v (.lf (.list (G.map en)))) (.v (.lf (.int (k : Nat)))) s6 s7 (t8) (t9) s10 s11 s12 (t13) (t14) s15 s16 s17 s18)
  | [], s8, s9, s13, s14, l8, l9, l13, l14 => ⟨s8, s9, s13, s14, l8, l9, l13, l14, forGo_nil⟩
  | g :: r, s8, s9, s13, s14, l8, l9, l13, l14 => by
    have tg : asgE 8 (en g) (EL ns t (.v (.lf (.list [R a, R b]))) (.v (.lf (R a))) (.v (.lf (.list (G.map en)))) (.v (.lf (.int (k : Nat)))) s6 s7 s8 s9 s10 s11 s12 s13 s14 s15 s16 s17 s18) = some (EL ns t (.v (.lf (.list [R a, R b]))) (.v (.lf (R a))) (.v (.lf (.list (G.map en)))) (.v (.lf (.int (k : Nat)))) s6 s7 (.v (.lf (en g))) s9 s10 s11 s12 s13 s14 s15 s16 s17 s18) := by
      rcases l8 with rfl | ⟨_, rfl⟩ <;> rfl
    rw [List.map_cons, forGo_nx tg (gB_is ha la hk l9 l13 l14 l18)]
    exact gI_go ha la hk l18 r _ _ _ _ .v .v .v .v
theorem all_is {a b G : List Nat} (ha : Asc a) (la : a.length ≤ 40) (l5 : Lt s5) (l8 : Lt s8) (l9 : Lt s9) (l13 : Lt s13) (l14 : Lt s14) (l18 : Lt s18) : ∃ t5' t8 t9 t13 t14, Lt t5' ∧ Lt t8 ∧ Lt t9 ∧ Lt t13 ∧ Lt t14 ∧ t5 c (EL ns t (.v (.lf (.list [R a, R b]))) (.v (.lf (R a))) (.v (.lf (.list (G.map en)))) s5 s6 s7 s8 s9 s10 s11 s12 s13 s14 s15 s16 s17 s18) = .nx (EL ns t (.v (.lf (.list [R a, R b]))) (.v (.lf (R a))) (.v (.lf (.list (G.map en)))) (t5') s6 s7 (t8) (t9) s10 s11 s12 (t13) (t14) s15 s16 s17 s18) := by
  have key := forGo_inv (ρ := (EL ns t (.v (.lf (.list [R a, R b]))) (.v (.lf (R a))) (.v (.lf (.list (G.map en)))) s5 s6 s7 s8 s9 s10 s11 s12 s13 s14 s15 s16 s17 s18)) (tg := asgE 5) (b := forF (itF (varF 4)) (asgE 8) (gB c)) (items := rngD 0 (a.length + 1)) (fun _ ρ => ∃ u5 u8 u9 u13 u14, Lt u5 ∧ Lt u8 ∧ Lt u9 ∧ Lt u13 ∧ Lt u14 ∧ ρ = (EL ns t (.v (.lf (.list [R a, R b]))) (.v (.lf (R a))) (.v (.lf (.list (G.map en)))) (u5) s6 s7 (u8) (u9) s10 s11 s12 (u13) (u14) s15 s16 s17 s18))
    ⟨s5, s8, s9, s13, s14, l5, l8, l9, l13, l14, rfl⟩ fun k hk ρ hp => by
      obtain ⟨u5, u8, u9, u13, u14, m5, m8, m9, m13, m14, e⟩ := hp
      subst e
      rw [rngD_len] at hk
      obtain ⟨t8, t9, t13, t14, q8, q9, q13, q14, go⟩ := gI_go (c := c) (ns := ns) (t := t) (s6 := s6) (s7 := s7) (s10 := s10) (s11 := s11) (s12 := s12) (s15 := s15) (s16 := s16) (s17 := s17) (b := b) (G := G) ha la (show k ≤ a.length by omega) l18 G u8 u9 u13 u14 m8 m9 m13 m14
      refine ⟨(EL ns t (.v (.lf (.list [R a, R b]))) (.v (.lf (R a))) (.v (.lf (.list (G.map en)))) (.v (.lf (.int (k : Nat)))) s6 s7 (u8) (u9) s10 s11 s12 (u13) (u14) s15 s16 s17 s18), _, ?_, .inl ?_, .v (.lf (.int (k : Nat))), t8, t9, t13, t14, .v, q8, q9, q13, q14, rfl⟩
      · rw [rngD_get]
        rcases m5 with rfl | ⟨_, rfl⟩ <;> rfl
      · have it : itF (varF 4) (EL ns t (.v (.lf (.list [R a, R b]))) (.v (.lf (R a))) (.v (.lf (.list (G.map en)))) (.v (.lf (.int (k : Nat)))) s6 s7 (u8) (u9) s10 s11 s12 (u13) (u14) s15 s16 s17 s18) = .ok (G.map en) (EL ns t (.v (.lf (.list [R a, R b]))) (.v (.lf (R a))) (.v (.lf (.list (G.map en)))) (.v (.lf (.int (k : Nat)))) s6 s7 (u8) (u9) s10 s11 s12 (u13) (u14) s15 s16 s17 s18) := by
          simp -implicitDefEqProofs only [Mo.show_LS, Mo.view_LS, ↓Mo.bind_bn, ↓Mo.tos_tn, ↓Mo.sthen_sn, ↓Mo.sel_sl, Mo.bn_ok, Mo.bn_ex, Mo.tn_ok, Mo.tn_ex, Mo.sn_nx, Mo.sn_rt, Mo.sn_bk, Mo.sn_ct, Mo.sn_ex, Mo.sl_t, Mo.sl_f, Mo.vw_d, Mo.vw_w, Mo.vw_r, Mo.vwR_LS, Mo.vwR_io, Mo.vwR_lf, Mo.stays_d, Mo.stays_r, Mo.stays_t, Mo.varF_ap, Mo.varR_lf, Mo.varR_LS, Mo.varR_io, Mo.varR_ls, Mo.cF_ap, Mo.ofO_s, Mo.binV_s, Mo.bin2_ap, Mo.unV_s, Mo.un1_ap, Mo.fzE_d, Mo.fzE_r, Mo.fzR_LS, Mo.fzR_ls, Mo.fzs_n, Mo.fzs_c, Mo.vws_n, Mo.vws_c, Mo.vwsC_s, Mo.nilV_ap, Mo.stay1_t, Mo.consV_ap, Mo.okIf_T, Mo.tupF_ap, Mo.lstF_ap, Mo.frzO_ap, Mo.lfF_ap, Mo.callV_s, Mo.callF_ap, Mo.outV_r, Mo.outV_x, Mo.callD_ap, Mo.ixV_s, Mo.ixV_n, Mo.ixF_ap, Mo.noP_ap, Mo.intV_i, Mo.someP_ap, Mo.slV_s, Mo.slF_ap, Mo.boolV_b, Mo.boolF_ap, Mo.truW_s, Mo.truV_s, Mo.truF_ap, Mo.truD_b, Mo.truD_i, Mo.okB_ap, Mo.andF_ap, Mo.orF_ap, Mo.notF_ap, Mo.okV_ap, Mo.selV_b, Mo.andV_ap, Mo.orV_ap, Mo.ifF_ap, Mo.seqF_ap, Mo.nxF_ap, Mo.bkF_ap, Mo.retF_ap, Mo.exprF_ap, Mo.ofE_s, Mo.asgF_ap, Mo.asgE_ap, Mo.asgR_un, Mo.asgR_v, Mo.asgR_raw, Mo.setO_ap, Mo.ifS_ap, Mo.gNil_ap, Mo.nextE_s, Mo.gCons_ap, Mo.lsAt_ap, Mo.lsR_LS, Mo.lsR_io, Mo.lsR_ls, Mo.appF_ap, Mo.appG_s, Mo.appK_LS, Mo.okIf_le, Mo.okIf_lt, Mo.outS_nx, Mo.outS_rt, Mo.outS_ex, Mo.outI_rt, Mo.outI_nx, Mo.bTup_l, Mo.bTup_t, Mo.bInt_b, Mo.bInt_i, Mo.dropE_n, Mo.dropE_c, Mo.dropN_s, Mo.drop1R_un, Mo.drop1R_lf, Mo.restE_n, Mo.restE_c, Mo.restR_s, Mo.forF_ap, Mo.itV_s, Mo.itF_ap, Mo.argF_ap, Mo.items_l, Mo.items_t, Mo.yesF_ap, Mo.repO_ap, Mo.nilW_ap, Mo.consW_ap, Mo.parF_ap, Mo.parN_s, Mo.parE_n, Mo.parE_c, Mo.ioK_v, Mo.ioK_io, Mo.ioH_s, Mo.ioG_s, Mo.ioArg_r, Mo.joinF_ap, Mo.insF_ap, Mo.insG_s, Mo.insArg_s, Mo.insH_s, Mo.extF_ap, Mo.extG_s, Mo.extH_s, Mo.tryF_ap, Mo.tryK_nx, Mo.tryK_rt, Mo.tryK_ex, Mo.raiseF_ap, Mo.lr2F_ap, Mo.lr1F_ap, Mo.lrPi_ap, Mo.okI_tr, oAdd_i, oSub_i, oLt_i, oLe_i, oGt_i, oGe_i, oEq_i, oNe_i, len_S, List.getElem?_cons_zero, List.getElem?_cons_succ, List.set_cons_zero, List.set_cons_succ, List.map_cons, List.map_nil, List.replicate_succ, List.replicate_zero, List.cons_append, List.nil_append, List.length_cons, List.length_nil, Nat.reduceLeDiff, Nat.reduceAdd, Nat.reduceSub, Nat.zero_le, Nat.add_one_sub_one, Nat.sub_self, Nat.zero_add, decide_true, decide_false, Bool.not_true, Bool.not_false, Bool.and_self, Bool.true_and, Bool.and_true]
        refine (show forF _ _ _ _ = (itF (varF 4) (EL ns t (.v (.lf (.list [R a, R b]))) (.v (.lf (R a))) (.v (.lf (.list (G.map en)))) (.v (.lf (.int (k : Nat)))) s6 s7 (u8) (u9) s10 s11 s12 (u13) (u14) s15 s16 s17 s18)).tos fun is ρ1 => forGo (asgE 8) (gB c) is ρ1 from rfl).trans ?_
        rw [it]
        exact go
  obtain ⟨ρ', e1, t5', t8, t9, t13, t14, q5, q8, q9, q13, q14, e2⟩ := key
  refine ⟨t5', t8, t9, t13, t14, q5, q8, q9, q13, q14, ?_⟩
  subst e2
  have r1 := rg1_n (n := a.length + 1) (by omega)
  have ar : argF rg1 (consV true (bin2 true oAdd (callF bLen (consV true (varF 3) nilV)) (cF (.int 1))) nilV) (EL ns t (.v (.lf (.list [R a, R b]))) (.v (.lf (R a))) (.v (.lf (.list (G.map en)))) s5 s6 s7 s8 s9 s10 s11 s12 s13 s14 s15 s16 s17 s18) = .ok (rngD 0 (a.length + 1)) (EL ns t (.v (.lf (.list [R a, R b]))) (.v (.lf (R a))) (.v (.lf (.list (G.map en)))) s5 s6 s7 s8 s9 s10 s11 s12 s13 s14 s15 s16 s17 s18) := by
    have e : ((a.length : Int) + 1) = ((a.length + 1 : Nat) : Int) := by omega
    simp -implicitDefEqProofs only [Mo.show_LS, Mo.view_LS, ↓Mo.bind_bn, ↓Mo.tos_tn, ↓Mo.sthen_sn, ↓Mo.sel_sl, Mo.bn_ok, Mo.bn_ex, Mo.tn_ok, Mo.tn_ex, Mo.sn_nx, Mo.sn_rt, Mo.sn_bk, Mo.sn_ct, Mo.sn_ex, Mo.sl_t, Mo.sl_f, Mo.vw_d, Mo.vw_w, Mo.vw_r, Mo.vwR_LS, Mo.vwR_io, Mo.vwR_lf, Mo.stays_d, Mo.stays_r, Mo.stays_t, Mo.varF_ap, Mo.varR_lf, Mo.varR_LS, Mo.varR_io, Mo.varR_ls, Mo.cF_ap, Mo.ofO_s, Mo.binV_s, Mo.bin2_ap, Mo.unV_s, Mo.un1_ap, Mo.fzE_d, Mo.fzE_r, Mo.fzR_LS, Mo.fzR_ls, Mo.fzs_n, Mo.fzs_c, Mo.vws_n, Mo.vws_c, Mo.vwsC_s, Mo.nilV_ap, Mo.stay1_t, Mo.consV_ap, Mo.okIf_T, Mo.tupF_ap, Mo.lstF_ap, Mo.frzO_ap, Mo.lfF_ap, Mo.callV_s, Mo.callF_ap, Mo.outV_r, Mo.outV_x, Mo.callD_ap, Mo.ixV_s, Mo.ixV_n, Mo.ixF_ap, Mo.noP_ap, Mo.intV_i, Mo.someP_ap, Mo.slV_s, Mo.slF_ap, Mo.boolV_b, Mo.boolF_ap, Mo.truW_s, Mo.truV_s, Mo.truF_ap, Mo.truD_b, Mo.truD_i, Mo.okB_ap, Mo.andF_ap, Mo.orF_ap, Mo.notF_ap, Mo.okV_ap, Mo.selV_b, Mo.andV_ap, Mo.orV_ap, Mo.ifF_ap, Mo.seqF_ap, Mo.nxF_ap, Mo.bkF_ap, Mo.retF_ap, Mo.exprF_ap, Mo.ofE_s, Mo.asgF_ap, Mo.asgE_ap, Mo.asgR_un, Mo.asgR_v, Mo.asgR_raw, Mo.setO_ap, Mo.ifS_ap, Mo.gNil_ap, Mo.nextE_s, Mo.gCons_ap, Mo.lsAt_ap, Mo.lsR_LS, Mo.lsR_io, Mo.lsR_ls, Mo.appF_ap, Mo.appG_s, Mo.appK_LS, Mo.okIf_le, Mo.okIf_lt, Mo.outS_nx, Mo.outS_rt, Mo.outS_ex, Mo.outI_rt, Mo.outI_nx, Mo.bTup_l, Mo.bTup_t, Mo.bInt_b, Mo.bInt_i, Mo.dropE_n, Mo.dropE_c, Mo.dropN_s, Mo.drop1R_un, Mo.drop1R_lf, Mo.restE_n, Mo.restE_c, Mo.restR_s, Mo.forF_ap, Mo.itV_s, Mo.itF_ap, Mo.argF_ap, Mo.items_l, Mo.items_t, Mo.yesF_ap, Mo.repO_ap, Mo.nilW_ap, Mo.consW_ap, Mo.parF_ap, Mo.parN_s, Mo.parE_n, Mo.parE_c, Mo.ioK_v, Mo.ioK_io, Mo.ioH_s, Mo.ioG_s, Mo.ioArg_r, Mo.joinF_ap, Mo.insF_ap, Mo.insG_s, Mo.insArg_s, Mo.insH_s, Mo.extF_ap, Mo.extG_s, Mo.extH_s, Mo.tryF_ap, Mo.tryK_nx, Mo.tryK_rt, Mo.tryK_ex, Mo.raiseF_ap, Mo.lr2F_ap, Mo.lr1F_ap, Mo.lrPi_ap, Mo.okI_tr, oAdd_i, oSub_i, oLt_i, oLe_i, oGt_i, oGe_i, oEq_i, oNe_i, len_S, List.getElem?_cons_zero, List.getElem?_cons_succ, List.set_cons_zero, List.set_cons_succ, List.map_cons, List.map_nil, List.replicate_succ, List.replicate_zero, List.cons_append, List.nil_append, List.length_cons, List.length_nil, Nat.reduceLeDiff, Nat.reduceAdd, Nat.reduceSub, Nat.zero_le, Nat.add_one_sub_one, Nat.sub_self, Nat.zero_add, decide_true, decide_false, Bool.not_true, Bool.not_false, Bool.and_self, Bool.true_and, Bool.and_true, len_R, e, r1]
  have et : t5 c = forF (argF rg1 (consV true (bin2 true oAdd (callF bLen (consV true (varF 3) nilV)) (cF (.int 1))) nilV)) (asgE 5) (forF (itF (varF 4)) (asgE 8) (gB c)) := by
    unfold t5 gB
    rfl
  rw [et]
  refine (show forF _ _ _ _ = (argF rg1 (consV true (bin2 true oAdd (callF bLen (consV true (varF 3) nilV)) (cF (.int 1))) nilV) (EL ns t (.v (.lf (.list [R a, R b]))) (.v (.lf (R a))) (.v (.lf (.list (G.map en)))) s5 s6 s7 s8 s9 s10 s11 s12 s13 s14 s15 s16 s17 s18)).tos fun is ρ1 => forGo (asgE 5) (forF (itF (varF 4)) (asgE 8) (gB c)) is ρ1 from rfl).trans ?_
  rw [ar]
  exact e1
end
end K88

/-! Ld88: the law own meeting. -/
namespace K88
open PySem PySem.Spec PyProof.Rows L2 Mo
noncomputable def hB (c : Cs) : Mo.Env → SRes := (ifS (andF (boolF (bin2 true oLt (varF 11) (callF bLen (consV true (ixF true (varF 2) (cF (.int 0))) nilV)))) (boolF (bin2 true oLt (varF 12) (callF bLen (consV true (ixF true (varF 2) (cF (.int 1))) nilV))))) (seqF (parF [15, 16] (consW (lfF (ixF true (ixF true (varF 2) (cF (.int 0))) (varF 11))) (consW (lfF (ixF true (ixF true (varF 2) (cF (.int 1))) (varF 12))) nilW))) (ifS (boolF (bin2 true oEq (varF 15) (varF 16))) (parF [10, 11, 12] (consW (lfF (bin2 true oAdd (varF 10) (frzO (lstF (consV true (varF 15) nilV))))) (consW (lfF (bin2 true oAdd (varF 11) (cF (.int 1)))) (consW (lfF (bin2 true oAdd (varF 12) (cF (.int 1)))) nilW)))) (ifS (boolF (bin2 true oLt (varF 15) (varF 16))) (seqF (asgF (unpE 2 (gConsE (asgE 11) (gConsE (asgE 17) gNilE))) (callD (f_l_sought c) (consV true (ixF true (varF 2) (cF (.int 0))) (consV true (varF 11) (consV true (varF 16) nilV))))) (asgF (asgE 9) (bin2 true oAdd (varF 9) (varF 17)))) (seqF (asgF (unpE 2 (gConsE (asgE 12) (gConsE (asgE 17) gNilE))) (callD (f_l_sought c) (consV true (ixF true (varF 2) (cF (.int 1))) (consV true (varF 12) (consV true (varF 15) nilV))))) (asgF (asgE 9) (bin2 true oAdd (varF 9) (varF 17))))))) nxF)
theorem r0 {a b : List Nat} : oItem (.list [R a, R b]) (.int 0) = some (R a) := rfl
theorem r1' {a b : List Nat} : oItem (.list [R a, R b]) (.int 1) = some (R b) := rfl
section
variable {c : Cs} {ns : List Int} {t : OT} {s2 s3 s4 s5 s6 s7 s8 s9 s10 s11 s12 s13 s14 s15 s16 s17 s18 : Slot}
theorem hB_is {a b G : List Nat} (la : a.length ≤ 40) (lb : b.length ≤ 40) {f : List Nat} {st h z : Nat} (l15 : Lt s15) (l16 : Lt s16) (l17 : Lt s17) (hf : f.length ≤ 1000) :
    ∃ t15 t16 t17, Lt t15 ∧ Lt t16 ∧ Lt t17 ∧ hB c (EL ns t (.v (.lf (.list [R a, R b]))) (.v (.lf (R a))) (.v (.lf (.list (G.map en)))) s5 s6 s7 s8 (.v (.lf (.int (st : Nat)))) (.v (.lf (.list (f.map en)))) (.v (.lf (.int (h : Nat)))) (.v (.lf (.int (z : Nat)))) s13 s14 s15 s16 s17 s18) = .nx (EL ns t (.v (.lf (.list [R a, R b]))) (.v (.lf (R a))) (.v (.lf (.list (G.map en)))) s5 s6 s7 s8 (.v (.lf (.int ((mst a b (f, st, h, z)).2.1 : Nat)))) (.v (.lf (.list ((mst a b (f, st, h, z)).1.map en)))) (.v (.lf (.int ((mst a b (f, st, h, z)).2.2.1 : Nat)))) (.v (.lf (.int ((mst a b (f, st, h, z)).2.2.2 : Nat)))) s13 s14 (t15) (t16) (t17) s18) := by
  by_cases hc : h < a.length ∧ z < b.length
  · have e1 : decide ((h : Int) < (a.length : Int)) = true := decide_eq_true (by omega)
    have e2 : decide ((z : Int) < (b.length : Int)) = true := decide_eq_true (by omega)
    have i1 := item_R hc.1
    have i2 := item_R hc.2
    have sk1 := sought_is (c := c) (l := a) (a := h) (g := gt b z) la
    have sk2 := sought_is (c := c) (l := b) (a := z) (g := gt a h) lb
    by_cases q : gt a h = gt b z
    · have e3 : decide (((gt a h : Nat) : Int) = (gt b z : Nat)) = true := decide_eq_true (by omega)
      have ms : mst a b (f, st, h, z) = (f ++ [gt a h], st, h + 1, z + 1) := by
        unfold mst
        simp only [if_pos hc, if_pos q]
      have ad := oAdd_l (x := f.map en) (y := [.int (gt a h : Nat)]) (by simp; omega)
      have mp : (f ++ [gt a h]).map en = f.map en ++ [.int (gt a h : Nat)] := by simp [en]
      refine ⟨.v (.lf (.int (gt a h : Nat))), .v (.lf (.int (gt b z : Nat))), s17, .v, .v, l17, ?_⟩
      rw [ms]
      show _ = SRes.nx (EL ns t (.v (.lf (.list [R a, R b]))) (.v (.lf (R a))) (.v (.lf (.list (G.map en)))) s5 s6 s7 s8 (.v (.lf (.int (st : Nat)))) (.v (.lf (.list ((f ++ [gt a h]).map en)))) (.v (.lf (.int ((h + 1) : Nat)))) (.v (.lf (.int ((z + 1) : Nat)))) s13 s14 (.v (.lf (.int (gt a h : Nat)))) (.v (.lf (.int (gt b z : Nat)))) s17 s18)
      rw [mp]
      have vl : (OT.ls [.lf (.int (gt a h : Nat))]).view = .list [.int (gt a h : Nat)] := rfl
      unfold hB
      rcases l15 with rfl | ⟨_, rfl⟩ <;> rcases l16 with rfl | ⟨_, rfl⟩ <;> simp -implicitDefEqProofs only [Mo.show_LS, Mo.view_LS, ↓Mo.bind_bn, ↓Mo.tos_tn, ↓Mo.sthen_sn, ↓Mo.sel_sl, Mo.bn_ok, Mo.bn_ex, Mo.tn_ok, Mo.tn_ex, Mo.sn_nx, Mo.sn_rt, Mo.sn_bk, Mo.sn_ct, Mo.sn_ex, Mo.sl_t, Mo.sl_f, Mo.vw_d, Mo.vw_w, Mo.vw_r, Mo.vwR_LS, Mo.vwR_io, Mo.vwR_lf, Mo.stays_d, Mo.stays_r, Mo.stays_t, Mo.varF_ap, Mo.varR_lf, Mo.varR_LS, Mo.varR_io, Mo.varR_ls, Mo.cF_ap, Mo.ofO_s, Mo.binV_s, Mo.bin2_ap, Mo.unV_s, Mo.un1_ap, Mo.fzE_d, Mo.fzE_r, Mo.fzR_LS, Mo.fzR_ls, Mo.fzs_n, Mo.fzs_c, Mo.vws_n, Mo.vws_c, Mo.vwsC_s, Mo.nilV_ap, Mo.stay1_t, Mo.consV_ap, Mo.okIf_T, Mo.tupF_ap, Mo.lstF_ap, Mo.frzO_ap, Mo.lfF_ap, Mo.callV_s, Mo.callF_ap, Mo.outV_r, Mo.outV_x, Mo.callD_ap, Mo.ixV_s, Mo.ixV_n, Mo.ixF_ap, Mo.noP_ap, Mo.intV_i, Mo.someP_ap, Mo.slV_s, Mo.slF_ap, Mo.boolV_b, Mo.boolF_ap, Mo.truW_s, Mo.truV_s, Mo.truF_ap, Mo.truD_b, Mo.truD_i, Mo.okB_ap, Mo.andF_ap, Mo.orF_ap, Mo.notF_ap, Mo.okV_ap, Mo.selV_b, Mo.andV_ap, Mo.orV_ap, Mo.ifF_ap, Mo.seqF_ap, Mo.nxF_ap, Mo.bkF_ap, Mo.retF_ap, Mo.exprF_ap, Mo.ofE_s, Mo.asgF_ap, Mo.asgE_ap, Mo.asgR_un, Mo.asgR_v, Mo.asgR_raw, Mo.setO_ap, Mo.ifS_ap, Mo.gNil_ap, Mo.nextE_s, Mo.gCons_ap, Mo.lsAt_ap, Mo.lsR_LS, Mo.lsR_io, Mo.lsR_ls, Mo.appF_ap, Mo.appG_s, Mo.appK_LS, Mo.okIf_le, Mo.okIf_lt, Mo.outS_nx, Mo.outS_rt, Mo.outS_ex, Mo.outI_rt, Mo.outI_nx, Mo.bTup_l, Mo.bTup_t, Mo.bInt_b, Mo.bInt_i, Mo.dropE_n, Mo.dropE_c, Mo.dropN_s, Mo.drop1R_un, Mo.drop1R_lf, Mo.restE_n, Mo.restE_c, Mo.restR_s, Mo.forF_ap, Mo.itV_s, Mo.itF_ap, Mo.argF_ap, Mo.items_l, Mo.items_t, Mo.yesF_ap, Mo.repO_ap, Mo.nilW_ap, Mo.consW_ap, Mo.parF_ap, Mo.parN_s, Mo.parE_n, Mo.parE_c, Mo.ioK_v, Mo.ioK_io, Mo.ioH_s, Mo.ioG_s, Mo.ioArg_r, Mo.joinF_ap, Mo.insF_ap, Mo.insG_s, Mo.insArg_s, Mo.insH_s, Mo.extF_ap, Mo.extG_s, Mo.extH_s, Mo.tryF_ap, Mo.tryK_nx, Mo.tryK_rt, Mo.tryK_ex, Mo.raiseF_ap, Mo.lr2F_ap, Mo.lr1F_ap, Mo.lrPi_ap, Mo.okI_tr, oAdd_i, oSub_i, oLt_i, oLe_i, oGt_i, oGe_i, oEq_i, oNe_i, len_S, List.getElem?_cons_zero, List.getElem?_cons_succ, List.set_cons_zero, List.set_cons_succ, List.map_cons, List.map_nil, List.replicate_succ, List.replicate_zero, List.cons_append, List.nil_append, List.length_cons, List.length_nil, Nat.reduceLeDiff, Nat.reduceAdd, Nat.reduceSub, Nat.zero_le, Nat.add_one_sub_one, Nat.sub_self, Nat.zero_add, decide_true, decide_false, Bool.not_true, Bool.not_false, Bool.and_self, Bool.true_and, Bool.and_true, r0, r1', i1, i2, len_R, e1, e2, e3, vl, ad] <;> rfl
    · have e3 : decide (((gt a h : Nat) : Int) = (gt b z : Nat)) = false := decide_eq_false (by omega)
      by_cases r : gt a h < gt b z
      · have e4 : decide (((gt a h : Nat) : Int) < (gt b z : Nat)) = true := decide_eq_true (by omega)
        have ms : mst a b (f, st, h, z) = (f, st + (seekM a h (gt b z)).2, (seekM a h (gt b z)).1, z) := by
          unfold mst
          simp only [if_pos hc, if_neg q, if_pos r]
        refine ⟨.v (.lf (.int (gt a h : Nat))), .v (.lf (.int (gt b z : Nat))), .v (.lf (.int ((seekM a h (gt b z)).2 : Nat))), .v, .v, .v, ?_⟩
        rw [ms]
        unfold hB
        rcases l15 with rfl | ⟨_, rfl⟩ <;> rcases l16 with rfl | ⟨_, rfl⟩ <;> rcases l17 with rfl | ⟨_, rfl⟩ <;> simp -implicitDefEqProofs only [Mo.show_LS, Mo.view_LS, ↓Mo.bind_bn, ↓Mo.tos_tn, ↓Mo.sthen_sn, ↓Mo.sel_sl, Mo.bn_ok, Mo.bn_ex, Mo.tn_ok, Mo.tn_ex, Mo.sn_nx, Mo.sn_rt, Mo.sn_bk, Mo.sn_ct, Mo.sn_ex, Mo.sl_t, Mo.sl_f, Mo.vw_d, Mo.vw_w, Mo.vw_r, Mo.vwR_LS, Mo.vwR_io, Mo.vwR_lf, Mo.stays_d, Mo.stays_r, Mo.stays_t, Mo.varF_ap, Mo.varR_lf, Mo.varR_LS, Mo.varR_io, Mo.varR_ls, Mo.cF_ap, Mo.ofO_s, Mo.binV_s, Mo.bin2_ap, Mo.unV_s, Mo.un1_ap, Mo.fzE_d, Mo.fzE_r, Mo.fzR_LS, Mo.fzR_ls, Mo.fzs_n, Mo.fzs_c, Mo.vws_n, Mo.vws_c, Mo.vwsC_s, Mo.nilV_ap, Mo.stay1_t, Mo.consV_ap, Mo.okIf_T, Mo.tupF_ap, Mo.lstF_ap, Mo.frzO_ap, Mo.lfF_ap, Mo.callV_s, Mo.callF_ap, Mo.outV_r, Mo.outV_x, Mo.callD_ap, Mo.ixV_s, Mo.ixV_n, Mo.ixF_ap, Mo.noP_ap, Mo.intV_i, Mo.someP_ap, Mo.slV_s, Mo.slF_ap, Mo.boolV_b, Mo.boolF_ap, Mo.truW_s, Mo.truV_s, Mo.truF_ap, Mo.truD_b, Mo.truD_i, Mo.okB_ap, Mo.andF_ap, Mo.orF_ap, Mo.notF_ap, Mo.okV_ap, Mo.selV_b, Mo.andV_ap, Mo.orV_ap, Mo.ifF_ap, Mo.seqF_ap, Mo.nxF_ap, Mo.bkF_ap, Mo.retF_ap, Mo.exprF_ap, Mo.ofE_s, Mo.asgF_ap, Mo.asgE_ap, Mo.asgR_un, Mo.asgR_v, Mo.asgR_raw, Mo.setO_ap, Mo.ifS_ap, Mo.gNil_ap, Mo.nextE_s, Mo.gCons_ap, Mo.lsAt_ap, Mo.lsR_LS, Mo.lsR_io, Mo.lsR_ls, Mo.appF_ap, Mo.appG_s, Mo.appK_LS, Mo.okIf_le, Mo.okIf_lt, Mo.outS_nx, Mo.outS_rt, Mo.outS_ex, Mo.outI_rt, Mo.outI_nx, Mo.bTup_l, Mo.bTup_t, Mo.bInt_b, Mo.bInt_i, Mo.dropE_n, Mo.dropE_c, Mo.dropN_s, Mo.drop1R_un, Mo.drop1R_lf, Mo.restE_n, Mo.restE_c, Mo.restR_s, Mo.forF_ap, Mo.itV_s, Mo.itF_ap, Mo.argF_ap, Mo.items_l, Mo.items_t, Mo.yesF_ap, Mo.repO_ap, Mo.nilW_ap, Mo.consW_ap, Mo.parF_ap, Mo.parN_s, Mo.parE_n, Mo.parE_c, Mo.ioK_v, Mo.ioK_io, Mo.ioH_s, Mo.ioG_s, Mo.ioArg_r, Mo.joinF_ap, Mo.insF_ap, Mo.insG_s, Mo.insArg_s, Mo.insH_s, Mo.extF_ap, Mo.extG_s, Mo.extH_s, Mo.tryF_ap, Mo.tryK_nx, Mo.tryK_rt, Mo.tryK_ex, Mo.raiseF_ap, Mo.lr2F_ap, Mo.lr1F_ap, Mo.lrPi_ap, Mo.okI_tr, oAdd_i, oSub_i, oLt_i, oLe_i, oGt_i, oGe_i, oEq_i, oNe_i, len_S, List.getElem?_cons_zero, List.getElem?_cons_succ, List.set_cons_zero, List.set_cons_succ, List.map_cons, List.map_nil, List.replicate_succ, List.replicate_zero, List.cons_append, List.nil_append, List.length_cons, List.length_nil, Nat.reduceLeDiff, Nat.reduceAdd, Nat.reduceSub, Nat.zero_le, Nat.add_one_sub_one, Nat.sub_self, Nat.zero_add, decide_true, decide_false, Bool.not_true, Bool.not_false, Bool.and_self, Bool.true_and, Bool.and_true, r0, r1', i1, i2, len_R, e1, e2, e3, e4, sk1, unpE, if_true] <;> rfl
      · have e4 : decide (((gt a h : Nat) : Int) < (gt b z : Nat)) = false := decide_eq_false (by omega)
        have ms : mst a b (f, st, h, z) = (f, st + (seekM b z (gt a h)).2, h, (seekM b z (gt a h)).1) := by
          unfold mst
          simp only [if_pos hc, if_neg q, if_neg r]
        refine ⟨.v (.lf (.int (gt a h : Nat))), .v (.lf (.int (gt b z : Nat))), .v (.lf (.int ((seekM b z (gt a h)).2 : Nat))), .v, .v, .v, ?_⟩
        rw [ms]
        unfold hB
        rcases l15 with rfl | ⟨_, rfl⟩ <;> rcases l16 with rfl | ⟨_, rfl⟩ <;> rcases l17 with rfl | ⟨_, rfl⟩ <;> simp -implicitDefEqProofs only [Mo.show_LS, Mo.view_LS, ↓Mo.bind_bn, ↓Mo.tos_tn, ↓Mo.sthen_sn, ↓Mo.sel_sl, Mo.bn_ok, Mo.bn_ex, Mo.tn_ok, Mo.tn_ex, Mo.sn_nx, Mo.sn_rt, Mo.sn_bk, Mo.sn_ct, Mo.sn_ex, Mo.sl_t, Mo.sl_f, Mo.vw_d, Mo.vw_w, Mo.vw_r, Mo.vwR_LS, Mo.vwR_io, Mo.vwR_lf, Mo.stays_d, Mo.stays_r, Mo.stays_t, Mo.varF_ap, Mo.varR_lf, Mo.varR_LS, Mo.varR_io, Mo.varR_ls, Mo.cF_ap, Mo.ofO_s, Mo.binV_s, Mo.bin2_ap, Mo.unV_s, Mo.un1_ap, Mo.fzE_d, Mo.fzE_r, Mo.fzR_LS, Mo.fzR_ls, Mo.fzs_n, Mo.fzs_c, Mo.vws_n, Mo.vws_c, Mo.vwsC_s, Mo.nilV_ap, Mo.stay1_t, Mo.consV_ap, Mo.okIf_T, Mo.tupF_ap, Mo.lstF_ap, Mo.frzO_ap, Mo.lfF_ap, Mo.callV_s, Mo.callF_ap, Mo.outV_r, Mo.outV_x, Mo.callD_ap, Mo.ixV_s, Mo.ixV_n, Mo.ixF_ap, Mo.noP_ap, Mo.intV_i, Mo.someP_ap, Mo.slV_s, Mo.slF_ap, Mo.boolV_b, Mo.boolF_ap, Mo.truW_s, Mo.truV_s, Mo.truF_ap, Mo.truD_b, Mo.truD_i, Mo.okB_ap, Mo.andF_ap, Mo.orF_ap, Mo.notF_ap, Mo.okV_ap, Mo.selV_b, Mo.andV_ap, Mo.orV_ap, Mo.ifF_ap, Mo.seqF_ap, Mo.nxF_ap, Mo.bkF_ap, Mo.retF_ap, Mo.exprF_ap, Mo.ofE_s, Mo.asgF_ap, Mo.asgE_ap, Mo.asgR_un, Mo.asgR_v, Mo.asgR_raw, Mo.setO_ap, Mo.ifS_ap, Mo.gNil_ap, Mo.nextE_s, Mo.gCons_ap, Mo.lsAt_ap, Mo.lsR_LS, Mo.lsR_io, Mo.lsR_ls, Mo.appF_ap, Mo.appG_s, Mo.appK_LS, Mo.okIf_le, Mo.okIf_lt, Mo.outS_nx, Mo.outS_rt, Mo.outS_ex, Mo.outI_rt, Mo.outI_nx, Mo.bTup_l, Mo.bTup_t, Mo.bInt_b, Mo.bInt_i, Mo.dropE_n, Mo.dropE_c, Mo.dropN_s, Mo.drop1R_un, Mo.drop1R_lf, Mo.restE_n, Mo.restE_c, Mo.restR_s, Mo.forF_ap, Mo.itV_s, Mo.itF_ap, Mo.argF_ap, Mo.items_l, Mo.items_t, Mo.yesF_ap, Mo.repO_ap, Mo.nilW_ap, Mo.consW_ap, Mo.parF_ap, Mo.parN_s, Mo.parE_n, Mo.parE_c, Mo.ioK_v, Mo.ioK_io, Mo.ioH_s, Mo.ioG_s, Mo.ioArg_r, Mo.joinF_ap, Mo.insF_ap, Mo.insG_s, Mo.insArg_s, Mo.insH_s, Mo.extF_ap, Mo.extG_s, Mo.extH_s, Mo.tryF_ap, Mo.tryK_nx, Mo.tryK_rt, Mo.tryK_ex, Mo.raiseF_ap, Mo.lr2F_ap, Mo.lr1F_ap, Mo.lrPi_ap, Mo.okI_tr, oAdd_i, oSub_i, oLt_i, oLe_i, oGt_i, oGe_i, oEq_i, oNe_i, len_S, List.getElem?_cons_zero, List.getElem?_cons_succ, List.set_cons_zero, List.set_cons_succ, List.map_cons, List.map_nil, List.replicate_succ, List.replicate_zero, List.cons_append, List.nil_append, List.length_cons, List.length_nil, Nat.reduceLeDiff, Nat.reduceAdd, Nat.reduceSub, Nat.zero_le, Nat.add_one_sub_one, Nat.sub_self, Nat.zero_add, decide_true, decide_false, Bool.not_true, Bool.not_false, Bool.and_self, Bool.true_and, Bool.and_true, r0, r1', i1, i2, len_R, e1, e2, e3, e4, sk2, unpE, if_true] <;> rfl
  · have ms : mst a b (f, st, h, z) = (f, st, h, z) := mst_fin hc
    refine ⟨s15, s16, s17, l15, l16, l17, ?_⟩
    rw [ms]
    unfold hB
    by_cases c1 : h < a.length
    · have e1 : decide ((h : Int) < (a.length : Int)) = true := decide_eq_true (by omega)
      have e2 : decide ((z : Int) < (b.length : Int)) = false := decide_eq_false (by omega)
      simp -implicitDefEqProofs only [Mo.show_LS, Mo.view_LS, ↓Mo.bind_bn, ↓Mo.tos_tn, ↓Mo.sthen_sn, ↓Mo.sel_sl, Mo.bn_ok, Mo.bn_ex, Mo.tn_ok, Mo.tn_ex, Mo.sn_nx, Mo.sn_rt, Mo.sn_bk, Mo.sn_ct, Mo.sn_ex, Mo.sl_t, Mo.sl_f, Mo.vw_d, Mo.vw_w, Mo.vw_r, Mo.vwR_LS, Mo.vwR_io, Mo.vwR_lf, Mo.stays_d, Mo.stays_r, Mo.stays_t, Mo.varF_ap, Mo.varR_lf, Mo.varR_LS, Mo.varR_io, Mo.varR_ls, Mo.cF_ap, Mo.ofO_s, Mo.binV_s, Mo.bin2_ap, Mo.unV_s, Mo.un1_ap, Mo.fzE_d, Mo.fzE_r, Mo.fzR_LS, Mo.fzR_ls, Mo.fzs_n, Mo.fzs_c, Mo.vws_n, Mo.vws_c, Mo.vwsC_s, Mo.nilV_ap, Mo.stay1_t, Mo.consV_ap, Mo.okIf_T, Mo.tupF_ap, Mo.lstF_ap, Mo.frzO_ap, Mo.lfF_ap, Mo.callV_s, Mo.callF_ap, Mo.outV_r, Mo.outV_x, Mo.callD_ap, Mo.ixV_s, Mo.ixV_n, Mo.ixF_ap, Mo.noP_ap, Mo.intV_i, Mo.someP_ap, Mo.slV_s, Mo.slF_ap, Mo.boolV_b, Mo.boolF_ap, Mo.truW_s, Mo.truV_s, Mo.truF_ap, Mo.truD_b, Mo.truD_i, Mo.okB_ap, Mo.andF_ap, Mo.orF_ap, Mo.notF_ap, Mo.okV_ap, Mo.selV_b, Mo.andV_ap, Mo.orV_ap, Mo.ifF_ap, Mo.seqF_ap, Mo.nxF_ap, Mo.bkF_ap, Mo.retF_ap, Mo.exprF_ap, Mo.ofE_s, Mo.asgF_ap, Mo.asgE_ap, Mo.asgR_un, Mo.asgR_v, Mo.asgR_raw, Mo.setO_ap, Mo.ifS_ap, Mo.gNil_ap, Mo.nextE_s, Mo.gCons_ap, Mo.lsAt_ap, Mo.lsR_LS, Mo.lsR_io, Mo.lsR_ls, Mo.appF_ap, Mo.appG_s, Mo.appK_LS, Mo.okIf_le, Mo.okIf_lt, Mo.outS_nx, Mo.outS_rt, Mo.outS_ex, Mo.outI_rt, Mo.outI_nx, Mo.bTup_l, Mo.bTup_t, Mo.bInt_b, Mo.bInt_i, Mo.dropE_n, Mo.dropE_c, Mo.dropN_s, Mo.drop1R_un, Mo.drop1R_lf, Mo.restE_n, Mo.restE_c, Mo.restR_s, Mo.forF_ap, Mo.itV_s, Mo.itF_ap, Mo.argF_ap, Mo.items_l, Mo.items_t, Mo.yesF_ap, Mo.repO_ap, Mo.nilW_ap, Mo.consW_ap, Mo.parF_ap, Mo.parN_s, Mo.parE_n, Mo.parE_c, Mo.ioK_v, Mo.ioK_io, Mo.ioH_s, Mo.ioG_s, Mo.ioArg_r, Mo.joinF_ap, Mo.insF_ap, Mo.insG_s, Mo.insArg_s, Mo.insH_s, Mo.extF_ap, Mo.extG_s, Mo.extH_s, Mo.tryF_ap, Mo.tryK_nx, Mo.tryK_rt, Mo.tryK_ex, Mo.raiseF_ap, Mo.lr2F_ap, Mo.lr1F_ap, Mo.lrPi_ap, Mo.okI_tr, oAdd_i, oSub_i, oLt_i, oLe_i, oGt_i, oGe_i, oEq_i, oNe_i, len_S, List.getElem?_cons_zero, List.getElem?_cons_succ, List.set_cons_zero, List.set_cons_succ, List.map_cons, List.map_nil, List.replicate_succ, List.replicate_zero, List.cons_append, List.nil_append, List.length_cons, List.length_nil, Nat.reduceLeDiff, Nat.reduceAdd, Nat.reduceSub, Nat.zero_le, Nat.add_one_sub_one, Nat.sub_self, Nat.zero_add, decide_true, decide_false, Bool.not_true, Bool.not_false, Bool.and_self, Bool.true_and, Bool.and_true, r0, r1', len_R, e1, e2]
    · have e1 : decide ((h : Int) < (a.length : Int)) = false := decide_eq_false (by omega)
      simp -implicitDefEqProofs only [Mo.show_LS, Mo.view_LS, ↓Mo.bind_bn, ↓Mo.tos_tn, ↓Mo.sthen_sn, ↓Mo.sel_sl, Mo.bn_ok, Mo.bn_ex, Mo.tn_ok, Mo.tn_ex, Mo.sn_nx, Mo.sn_rt, Mo.sn_bk, Mo.sn_ct, Mo.sn_ex, Mo.sl_t, Mo.sl_f, Mo.vw_d, Mo.vw_w, Mo.vw_r, Mo.vwR_LS, Mo.vwR_io, Mo.vwR_lf, Mo.stays_d, Mo.stays_r, Mo.stays_t, Mo.varF_ap, Mo.varR_lf, Mo.varR_LS, Mo.varR_io, Mo.varR_ls, Mo.cF_ap, Mo.ofO_s, Mo.binV_s, Mo.bin2_ap, Mo.unV_s, Mo.un1_ap, Mo.fzE_d, Mo.fzE_r, Mo.fzR_LS, Mo.fzR_ls, Mo.fzs_n, Mo.fzs_c, Mo.vws_n, Mo.vws_c, Mo.vwsC_s, Mo.nilV_ap, Mo.stay1_t, Mo.consV_ap, Mo.okIf_T, Mo.tupF_ap, Mo.lstF_ap, Mo.frzO_ap, Mo.lfF_ap, Mo.callV_s, Mo.callF_ap, Mo.outV_r, Mo.outV_x, Mo.callD_ap, Mo.ixV_s, Mo.ixV_n, Mo.ixF_ap, Mo.noP_ap, Mo.intV_i, Mo.someP_ap, Mo.slV_s, Mo.slF_ap, Mo.boolV_b, Mo.boolF_ap, Mo.truW_s, Mo.truV_s, Mo.truF_ap, Mo.truD_b, Mo.truD_i, Mo.okB_ap, Mo.andF_ap, Mo.orF_ap, Mo.notF_ap, Mo.okV_ap, Mo.selV_b, Mo.andV_ap, Mo.orV_ap, Mo.ifF_ap, Mo.seqF_ap, Mo.nxF_ap, Mo.bkF_ap, Mo.retF_ap, Mo.exprF_ap, Mo.ofE_s, Mo.asgF_ap, Mo.asgE_ap, Mo.asgR_un, Mo.asgR_v, Mo.asgR_raw, Mo.setO_ap, Mo.ifS_ap, Mo.gNil_ap, Mo.nextE_s, Mo.gCons_ap, Mo.lsAt_ap, Mo.lsR_LS, Mo.lsR_io, Mo.lsR_ls, Mo.appF_ap, Mo.appG_s, Mo.appK_LS, Mo.okIf_le, Mo.okIf_lt, Mo.outS_nx, Mo.outS_rt, Mo.outS_ex, Mo.outI_rt, Mo.outI_nx, Mo.bTup_l, Mo.bTup_t, Mo.bInt_b, Mo.bInt_i, Mo.dropE_n, Mo.dropE_c, Mo.dropN_s, Mo.drop1R_un, Mo.drop1R_lf, Mo.restE_n, Mo.restE_c, Mo.restR_s, Mo.forF_ap, Mo.itV_s, Mo.itF_ap, Mo.argF_ap, Mo.items_l, Mo.items_t, Mo.yesF_ap, Mo.repO_ap, Mo.nilW_ap, Mo.consW_ap, Mo.parF_ap, Mo.parN_s, Mo.parE_n, Mo.parE_c, Mo.ioK_v, Mo.ioK_io, Mo.ioH_s, Mo.ioG_s, Mo.ioArg_r, Mo.joinF_ap, Mo.insF_ap, Mo.insG_s, Mo.insArg_s, Mo.insH_s, Mo.extF_ap, Mo.extG_s, Mo.extH_s, Mo.tryF_ap, Mo.tryK_nx, Mo.tryK_rt, Mo.tryK_ex, Mo.raiseF_ap, Mo.lr2F_ap, Mo.lr1F_ap, Mo.lrPi_ap, Mo.okI_tr, oAdd_i, oSub_i, oLt_i, oLe_i, oGt_i, oGe_i, oEq_i, oNe_i, len_S, List.getElem?_cons_zero, List.getElem?_cons_succ, List.set_cons_zero, List.set_cons_succ, List.map_cons, List.map_nil, List.replicate_succ, List.replicate_zero, List.cons_append, List.nil_append, List.length_cons, List.length_nil, Nat.reduceLeDiff, Nat.reduceAdd, Nat.reduceSub, Nat.zero_le, Nat.add_one_sub_one, Nat.sub_self, Nat.zero_add, decide_true, decide_false, Bool.not_true, Bool.not_false, Bool.and_self, Bool.true_and, Bool.and_true, r0, r1', len_R, e1]
end
end K88

/-! Le88: what is met. -/
namespace K88
open PySem PySem.Spec PyProof.Rows L2 Mo
theorem itM_succ (a b : List Nat) (k : Nat) (s : M) : itM a b (k + 1) s = mst a b (itM a b k s) := by
  rw [itM_add]; rfl
theorem itM_len (a b : List Nat) : ∀ k : Nat, (itM a b k ([], 0, 0, 0)).1.length ≤ k
  | 0 => Nat.le_refl _
  | k + 1 => by
    rw [itM_succ]
    have := mst_len a b (itM a b k ([], 0, 0, 0))
    have := itM_len a b k
    omega
section
variable {c : Cs} {ns : List Int} {t : OT} {s2 s3 s4 s5 s6 s7 s8 s9 s10 s11 s12 s13 s14 s15 s16 s17 s18 : Slot}
theorem met_law {a b G : List Nat} (la : a.length ≤ 40) (lb : b.length ≤ 40) (l6 : Lt s6) (l9 : Lt s9) (l10 : Lt s10) (l11 : Lt s11) (l12 : Lt s12) (l15 : Lt s15) (l16 : Lt s16) (l17 : Lt s17) :
    ∃ t6' t15 t16 t17, Lt t6' ∧ Lt t15 ∧ Lt t16 ∧ Lt t17 ∧ (seqF (t6 c) (t7 c)) (EL ns t (.v (.lf (.list [R a, R b]))) (.v (.lf (R a))) (.v (.lf (.list (G.map en)))) s5 s6 s7 s8 s9 s10 s11 s12 s13 s14 s15 s16 s17 s18) = .nx (EL ns t (.v (.lf (.list [R a, R b]))) (.v (.lf (R a))) (.v (.lf (.list (G.map en)))) s5 (t6') s7 s8 (.v (.lf (.int ((metM a b).2.1 : Nat)))) (.v (.lf (.list ((metM a b).1.map en)))) (.v (.lf (.int ((metM a b).2.2.1 : Nat)))) (.v (.lf (.int ((metM a b).2.2.2 : Nat)))) s13 s14 (t15) (t16) (t17) s18) := by
  have key := forGo_inv (ρ := (EL ns t (.v (.lf (.list [R a, R b]))) (.v (.lf (R a))) (.v (.lf (.list (G.map en)))) s5 s6 s7 s8 (.v (.lf (.int 0))) (.v (.lf (.list []))) (.v (.lf (.int 0))) (.v (.lf (.int 0))) s13 s14 s15 s16 s17 s18)) (tg := asgE 6) (b := hB c) (items := rngD 0 (a.length + b.length + 1)) (fun k ρ => ∃ u6 u15 u16 u17, Lt u6 ∧ Lt u15 ∧ Lt u16 ∧ Lt u17 ∧ ρ = (EL ns t (.v (.lf (.list [R a, R b]))) (.v (.lf (R a))) (.v (.lf (.list (G.map en)))) s5 (u6) s7 s8 (.v (.lf (.int ((itM a b k ([], 0, 0, 0)).2.1 : Nat)))) (.v (.lf (.list ((itM a b k ([], 0, 0, 0)).1.map en)))) (.v (.lf (.int ((itM a b k ([], 0, 0, 0)).2.2.1 : Nat)))) (.v (.lf (.int ((itM a b k ([], 0, 0, 0)).2.2.2 : Nat)))) s13 s14 (u15) (u16) (u17) s18))
    ⟨s6, s15, s16, s17, l6, l15, l16, l17, rfl⟩ fun k hk ρ hp => by
      obtain ⟨u6, u15, u16, u17, m6, m15, m16, m17, e⟩ := hp
      subst e
      rw [rngD_len] at hk
      have ln := itM_len a b k
      obtain ⟨t15, t16, t17, q15, q16, q17, go⟩ := hB_is (c := c) (ns := ns) (t := t) (s5 := s5) (s6 := .v (.lf (.int (k : Int)))) (s7 := s7) (s8 := s8) (s13 := s13) (s14 := s14) (s18 := s18) (a := a) (b := b) (G := G) la lb (f := (itM a b k ([], 0, 0, 0)).1) (st := (itM a b k ([], 0, 0, 0)).2.1) (h := (itM a b k ([], 0, 0, 0)).2.2.1) (z := (itM a b k ([], 0, 0, 0)).2.2.2) m15 m16 m17 (by omega)
      refine ⟨(EL ns t (.v (.lf (.list [R a, R b]))) (.v (.lf (R a))) (.v (.lf (.list (G.map en)))) s5 (.v (.lf (.int (k : Int)))) s7 s8 (.v (.lf (.int ((itM a b k ([], 0, 0, 0)).2.1 : Nat)))) (.v (.lf (.list ((itM a b k ([], 0, 0, 0)).1.map en)))) (.v (.lf (.int ((itM a b k ([], 0, 0, 0)).2.2.1 : Nat)))) (.v (.lf (.int ((itM a b k ([], 0, 0, 0)).2.2.2 : Nat)))) s13 s14 (u15) (u16) (u17) s18), _, ?_, .inl go, .v (.lf (.int (k : Int))), t15, t16, t17, .v, q15, q16, q17, ?_⟩
      · rw [rngD_get]
        rcases m6 with rfl | ⟨_, rfl⟩ <;> rfl
      · rw [itM_succ]
  obtain ⟨ρ', e1, t6', t15, t16, t17, q6, q15, q16, q17, e2⟩ := key
  refine ⟨t6', t15, t16, t17, q6, q15, q16, q17, ?_⟩
  rw [rngD_len] at e2
  subst e2
  have r1 := rg1_n (n := a.length + b.length + 1) (by omega)
  have ar : argF rg1 (consV true (bin2 true oAdd (bin2 true oAdd (callF bLen (consV true (ixF true (varF 2) (cF (.int 0))) nilV)) (callF bLen (consV true (ixF true (varF 2) (cF (.int 1))) nilV))) (cF (.int 1))) nilV) (EL ns t (.v (.lf (.list [R a, R b]))) (.v (.lf (R a))) (.v (.lf (.list (G.map en)))) s5 s6 s7 s8 (.v (.lf (.int 0))) (.v (.lf (.list []))) (.v (.lf (.int 0))) (.v (.lf (.int 0))) s13 s14 s15 s16 s17 s18) = .ok (rngD 0 (a.length + b.length + 1)) (EL ns t (.v (.lf (.list [R a, R b]))) (.v (.lf (R a))) (.v (.lf (.list (G.map en)))) s5 s6 s7 s8 (.v (.lf (.int 0))) (.v (.lf (.list []))) (.v (.lf (.int 0))) (.v (.lf (.int 0))) s13 s14 s15 s16 s17 s18) := by
    have e : ((a.length : Int) + (b.length : Int) + 1) = ((a.length + b.length + 1 : Nat) : Int) := by omega
    simp -implicitDefEqProofs only [Mo.show_LS, Mo.view_LS, ↓Mo.bind_bn, ↓Mo.tos_tn, ↓Mo.sthen_sn, ↓Mo.sel_sl, Mo.bn_ok, Mo.bn_ex, Mo.tn_ok, Mo.tn_ex, Mo.sn_nx, Mo.sn_rt, Mo.sn_bk, Mo.sn_ct, Mo.sn_ex, Mo.sl_t, Mo.sl_f, Mo.vw_d, Mo.vw_w, Mo.vw_r, Mo.vwR_LS, Mo.vwR_io, Mo.vwR_lf, Mo.stays_d, Mo.stays_r, Mo.stays_t, Mo.varF_ap, Mo.varR_lf, Mo.varR_LS, Mo.varR_io, Mo.varR_ls, Mo.cF_ap, Mo.ofO_s, Mo.binV_s, Mo.bin2_ap, Mo.unV_s, Mo.un1_ap, Mo.fzE_d, Mo.fzE_r, Mo.fzR_LS, Mo.fzR_ls, Mo.fzs_n, Mo.fzs_c, Mo.vws_n, Mo.vws_c, Mo.vwsC_s, Mo.nilV_ap, Mo.stay1_t, Mo.consV_ap, Mo.okIf_T, Mo.tupF_ap, Mo.lstF_ap, Mo.frzO_ap, Mo.lfF_ap, Mo.callV_s, Mo.callF_ap, Mo.outV_r, Mo.outV_x, Mo.callD_ap, Mo.ixV_s, Mo.ixV_n, Mo.ixF_ap, Mo.noP_ap, Mo.intV_i, Mo.someP_ap, Mo.slV_s, Mo.slF_ap, Mo.boolV_b, Mo.boolF_ap, Mo.truW_s, Mo.truV_s, Mo.truF_ap, Mo.truD_b, Mo.truD_i, Mo.okB_ap, Mo.andF_ap, Mo.orF_ap, Mo.notF_ap, Mo.okV_ap, Mo.selV_b, Mo.andV_ap, Mo.orV_ap, Mo.ifF_ap, Mo.seqF_ap, Mo.nxF_ap, Mo.bkF_ap, Mo.retF_ap, Mo.exprF_ap, Mo.ofE_s, Mo.asgF_ap, Mo.asgE_ap, Mo.asgR_un, Mo.asgR_v, Mo.asgR_raw, Mo.setO_ap, Mo.ifS_ap, Mo.gNil_ap, Mo.nextE_s, Mo.gCons_ap, Mo.lsAt_ap, Mo.lsR_LS, Mo.lsR_io, Mo.lsR_ls, Mo.appF_ap, Mo.appG_s, Mo.appK_LS, Mo.okIf_le, Mo.okIf_lt, Mo.outS_nx, Mo.outS_rt, Mo.outS_ex, Mo.outI_rt, Mo.outI_nx, Mo.bTup_l, Mo.bTup_t, Mo.bInt_b, Mo.bInt_i, Mo.dropE_n, Mo.dropE_c, Mo.dropN_s, Mo.drop1R_un, Mo.drop1R_lf, Mo.restE_n, Mo.restE_c, Mo.restR_s, Mo.forF_ap, Mo.itV_s, Mo.itF_ap, Mo.argF_ap, Mo.items_l, Mo.items_t, Mo.yesF_ap, Mo.repO_ap, Mo.nilW_ap, Mo.consW_ap, Mo.parF_ap, Mo.parN_s, Mo.parE_n, Mo.parE_c, Mo.ioK_v, Mo.ioK_io, Mo.ioH_s, Mo.ioG_s, Mo.ioArg_r, Mo.joinF_ap, Mo.insF_ap, Mo.insG_s, Mo.insArg_s, Mo.insH_s, Mo.extF_ap, Mo.extG_s, Mo.extH_s, Mo.tryF_ap, Mo.tryK_nx, Mo.tryK_rt, Mo.tryK_ex, Mo.raiseF_ap, Mo.lr2F_ap, Mo.lr1F_ap, Mo.lrPi_ap, Mo.okI_tr, oAdd_i, oSub_i, oLt_i, oLe_i, oGt_i, oGe_i, oEq_i, oNe_i, len_S, List.getElem?_cons_zero, List.getElem?_cons_succ, List.set_cons_zero, List.set_cons_succ, List.map_cons, List.map_nil, List.replicate_succ, List.replicate_zero, List.cons_append, List.nil_append, List.length_cons, List.length_nil, Nat.reduceLeDiff, Nat.reduceAdd, Nat.reduceSub, Nat.zero_le, Nat.add_one_sub_one, Nat.sub_self, Nat.zero_add, decide_true, decide_false, Bool.not_true, Bool.not_false, Bool.and_self, Bool.true_and, Bool.and_true, r0, r1', len_R, e, r1]
  have p6 : t6 c (EL ns t (.v (.lf (.list [R a, R b]))) (.v (.lf (R a))) (.v (.lf (.list (G.map en)))) s5 s6 s7 s8 s9 s10 s11 s12 s13 s14 s15 s16 s17 s18) = .nx (EL ns t (.v (.lf (.list [R a, R b]))) (.v (.lf (R a))) (.v (.lf (.list (G.map en)))) s5 s6 s7 s8 (.v (.lf (.int 0))) (.v (.lf (.list []))) (.v (.lf (.int 0))) (.v (.lf (.int 0))) s13 s14 s15 s16 s17 s18) := by
    unfold t6
    rcases l9 with rfl | ⟨_, rfl⟩ <;> rcases l10 with rfl | ⟨_, rfl⟩ <;> rcases l11 with rfl | ⟨_, rfl⟩ <;> rcases l12 with rfl | ⟨_, rfl⟩ <;> simp -implicitDefEqProofs only [Mo.show_LS, Mo.view_LS, ↓Mo.bind_bn, ↓Mo.tos_tn, ↓Mo.sthen_sn, ↓Mo.sel_sl, Mo.bn_ok, Mo.bn_ex, Mo.tn_ok, Mo.tn_ex, Mo.sn_nx, Mo.sn_rt, Mo.sn_bk, Mo.sn_ct, Mo.sn_ex, Mo.sl_t, Mo.sl_f, Mo.vw_d, Mo.vw_w, Mo.vw_r, Mo.vwR_LS, Mo.vwR_io, Mo.vwR_lf, Mo.stays_d, Mo.stays_r, Mo.stays_t, Mo.varF_ap, Mo.varR_lf, Mo.varR_LS, Mo.varR_io, Mo.varR_ls, Mo.cF_ap, Mo.ofO_s, Mo.binV_s, Mo.bin2_ap, Mo.unV_s, Mo.un1_ap, Mo.fzE_d, Mo.fzE_r, Mo.fzR_LS, Mo.fzR_ls, Mo.fzs_n, Mo.fzs_c, Mo.vws_n, Mo.vws_c, Mo.vwsC_s, Mo.nilV_ap, Mo.stay1_t, Mo.consV_ap, Mo.okIf_T, Mo.tupF_ap, Mo.lstF_ap, Mo.frzO_ap, Mo.lfF_ap, Mo.callV_s, Mo.callF_ap, Mo.outV_r, Mo.outV_x, Mo.callD_ap, Mo.ixV_s, Mo.ixV_n, Mo.ixF_ap, Mo.noP_ap, Mo.intV_i, Mo.someP_ap, Mo.slV_s, Mo.slF_ap, Mo.boolV_b, Mo.boolF_ap, Mo.truW_s, Mo.truV_s, Mo.truF_ap, Mo.truD_b, Mo.truD_i, Mo.okB_ap, Mo.andF_ap, Mo.orF_ap, Mo.notF_ap, Mo.okV_ap, Mo.selV_b, Mo.andV_ap, Mo.orV_ap, Mo.ifF_ap, Mo.seqF_ap, Mo.nxF_ap, Mo.bkF_ap, Mo.retF_ap, Mo.exprF_ap, Mo.ofE_s, Mo.asgF_ap, Mo.asgE_ap, Mo.asgR_un, Mo.asgR_v, Mo.asgR_raw, Mo.setO_ap, Mo.ifS_ap, Mo.gNil_ap, Mo.nextE_s, Mo.gCons_ap, Mo.lsAt_ap, Mo.lsR_LS, Mo.lsR_io, Mo.lsR_ls, Mo.appF_ap, Mo.appG_s, Mo.appK_LS, Mo.okIf_le, Mo.okIf_lt, Mo.outS_nx, Mo.outS_rt, Mo.outS_ex, Mo.outI_rt, Mo.outI_nx, Mo.bTup_l, Mo.bTup_t, Mo.bInt_b, Mo.bInt_i, Mo.dropE_n, Mo.dropE_c, Mo.dropN_s, Mo.drop1R_un, Mo.drop1R_lf, Mo.restE_n, Mo.restE_c, Mo.restR_s, Mo.forF_ap, Mo.itV_s, Mo.itF_ap, Mo.argF_ap, Mo.items_l, Mo.items_t, Mo.yesF_ap, Mo.repO_ap, Mo.nilW_ap, Mo.consW_ap, Mo.parF_ap, Mo.parN_s, Mo.parE_n, Mo.parE_c, Mo.ioK_v, Mo.ioK_io, Mo.ioH_s, Mo.ioG_s, Mo.ioArg_r, Mo.joinF_ap, Mo.insF_ap, Mo.insG_s, Mo.insArg_s, Mo.insH_s, Mo.extF_ap, Mo.extG_s, Mo.extH_s, Mo.tryF_ap, Mo.tryK_nx, Mo.tryK_rt, Mo.tryK_ex, Mo.raiseF_ap, Mo.lr2F_ap, Mo.lr1F_ap, Mo.lrPi_ap, Mo.okI_tr, oAdd_i, oSub_i, oLt_i, oLe_i, oGt_i, oGe_i, oEq_i, oNe_i, len_S, List.getElem?_cons_zero, List.getElem?_cons_succ, List.set_cons_zero, List.set_cons_succ, List.map_cons, List.map_nil, List.replicate_succ, List.replicate_zero, List.cons_append, List.nil_append, List.length_cons, List.length_nil, Nat.reduceLeDiff, Nat.reduceAdd, Nat.reduceSub, Nat.zero_le, Nat.add_one_sub_one, Nat.sub_self, Nat.zero_add, decide_true, decide_false, Bool.not_true, Bool.not_false, Bool.and_self, Bool.true_and, Bool.and_true] <;> rfl
  have e7 : t7 c = forF (argF rg1 (consV true (bin2 true oAdd (bin2 true oAdd (callF bLen (consV true (ixF true (varF 2) (cF (.int 0))) nilV)) (callF bLen (consV true (ixF true (varF 2) (cF (.int 1))) nilV))) (cF (.int 1))) nilV)) (asgE 6) (hB c) := by
    unfold t7 hB
    rfl
  have p7 : t7 c (EL ns t (.v (.lf (.list [R a, R b]))) (.v (.lf (R a))) (.v (.lf (.list (G.map en)))) s5 s6 s7 s8 (.v (.lf (.int 0))) (.v (.lf (.list []))) (.v (.lf (.int 0))) (.v (.lf (.int 0))) s13 s14 s15 s16 s17 s18) = .nx (EL ns t (.v (.lf (.list [R a, R b]))) (.v (.lf (R a))) (.v (.lf (.list (G.map en)))) s5 (t6') s7 s8 (.v (.lf (.int ((metM a b).2.1 : Nat)))) (.v (.lf (.list ((metM a b).1.map en)))) (.v (.lf (.int ((metM a b).2.2.1 : Nat)))) (.v (.lf (.int ((metM a b).2.2.2 : Nat)))) s13 s14 (t15) (t16) (t17) s18) := by
    rw [e7]
    refine (show forF _ _ _ _ = (argF rg1 (consV true (bin2 true oAdd (bin2 true oAdd (callF bLen (consV true (ixF true (varF 2) (cF (.int 0))) nilV)) (callF bLen (consV true (ixF true (varF 2) (cF (.int 1))) nilV))) (cF (.int 1))) nilV) (EL ns t (.v (.lf (.list [R a, R b]))) (.v (.lf (R a))) (.v (.lf (.list (G.map en)))) s5 s6 s7 s8 (.v (.lf (.int 0))) (.v (.lf (.list []))) (.v (.lf (.int 0))) (.v (.lf (.int 0))) s13 s14 s15 s16 s17 s18)).tos fun is ρ1 => forGo (asgE 6) (hB c) is ρ1 from rfl).trans ?_
    rw [ar]
    exact e1
  simp -implicitDefEqProofs only [Mo.show_LS, Mo.view_LS, ↓Mo.bind_bn, ↓Mo.tos_tn, ↓Mo.sthen_sn, ↓Mo.sel_sl, Mo.bn_ok, Mo.bn_ex, Mo.tn_ok, Mo.tn_ex, Mo.sn_nx, Mo.sn_rt, Mo.sn_bk, Mo.sn_ct, Mo.sn_ex, Mo.sl_t, Mo.sl_f, Mo.vw_d, Mo.vw_w, Mo.vw_r, Mo.vwR_LS, Mo.vwR_io, Mo.vwR_lf, Mo.stays_d, Mo.stays_r, Mo.stays_t, Mo.varF_ap, Mo.varR_lf, Mo.varR_LS, Mo.varR_io, Mo.varR_ls, Mo.cF_ap, Mo.ofO_s, Mo.binV_s, Mo.bin2_ap, Mo.unV_s, Mo.un1_ap, Mo.fzE_d, Mo.fzE_r, Mo.fzR_LS, Mo.fzR_ls, Mo.fzs_n, Mo.fzs_c, Mo.vws_n, Mo.vws_c, Mo.vwsC_s, Mo.nilV_ap, Mo.stay1_t, Mo.consV_ap, Mo.okIf_T, Mo.tupF_ap, Mo.lstF_ap, Mo.frzO_ap, Mo.lfF_ap, Mo.callV_s, Mo.callF_ap, Mo.outV_r, Mo.outV_x, Mo.callD_ap, Mo.ixV_s, Mo.ixV_n, Mo.ixF_ap, Mo.noP_ap, Mo.intV_i, Mo.someP_ap, Mo.slV_s, Mo.slF_ap, Mo.boolV_b, Mo.boolF_ap, Mo.truW_s, Mo.truV_s, Mo.truF_ap, Mo.truD_b, Mo.truD_i, Mo.okB_ap, Mo.andF_ap, Mo.orF_ap, Mo.notF_ap, Mo.okV_ap, Mo.selV_b, Mo.andV_ap, Mo.orV_ap, Mo.ifF_ap, Mo.seqF_ap, Mo.nxF_ap, Mo.bkF_ap, Mo.retF_ap, Mo.exprF_ap, Mo.ofE_s, Mo.asgF_ap, Mo.asgE_ap, Mo.asgR_un, Mo.asgR_v, Mo.asgR_raw, Mo.setO_ap, Mo.ifS_ap, Mo.gNil_ap, Mo.nextE_s, Mo.gCons_ap, Mo.lsAt_ap, Mo.lsR_LS, Mo.lsR_io, Mo.lsR_ls, Mo.appF_ap, Mo.appG_s, Mo.appK_LS, Mo.okIf_le, Mo.okIf_lt, Mo.outS_nx, Mo.outS_rt, Mo.outS_ex, Mo.outI_rt, Mo.outI_nx, Mo.bTup_l, Mo.bTup_t, Mo.bInt_b, Mo.bInt_i, Mo.dropE_n, Mo.dropE_c, Mo.dropN_s, Mo.drop1R_un, Mo.drop1R_lf, Mo.restE_n, Mo.restE_c, Mo.restR_s, Mo.forF_ap, Mo.itV_s, Mo.itF_ap, Mo.argF_ap, Mo.items_l, Mo.items_t, Mo.yesF_ap, Mo.repO_ap, Mo.nilW_ap, Mo.consW_ap, Mo.parF_ap, Mo.parN_s, Mo.parE_n, Mo.parE_c, Mo.ioK_v, Mo.ioK_io, Mo.ioH_s, Mo.ioG_s, Mo.ioArg_r, Mo.joinF_ap, Mo.insF_ap, Mo.insG_s, Mo.insArg_s, Mo.insH_s, Mo.extF_ap, Mo.extG_s, Mo.extH_s, Mo.tryF_ap, Mo.tryK_nx, Mo.tryK_rt, Mo.tryK_ex, Mo.raiseF_ap, Mo.lr2F_ap, Mo.lr1F_ap, Mo.lrPi_ap, Mo.okI_tr, oAdd_i, oSub_i, oLt_i, oLe_i, oGt_i, oGe_i, oEq_i, oNe_i, len_S, List.getElem?_cons_zero, List.getElem?_cons_succ, List.set_cons_zero, List.set_cons_succ, List.map_cons, List.map_nil, List.replicate_succ, List.replicate_zero, List.cons_append, List.nil_append, List.length_cons, List.length_nil, Nat.reduceLeDiff, Nat.reduceAdd, Nat.reduceSub, Nat.zero_le, Nat.add_one_sub_one, Nat.sub_self, Nat.zero_add, decide_true, decide_false, Bool.not_true, Bool.not_false, Bool.and_self, Bool.true_and, Bool.and_true, p6, p7]
end
end K88

/-! Lf88: met, both, judged. -/
namespace K88
open PySem PySem.Spec PyProof.Rows L2 Mo
theorem smd_t {l : List Nat} (n : Nat) (h : l.length ≤ 40) : smd (n + 2) (.tuple (l.map en)) := ⟨by rw [List.length_map]; omega, fun x hx => by
  obtain ⟨k, _, e⟩ := List.mem_map.mp hx
  subst e
  trivial⟩
theorem same_ti {l : List Nat} {k : Nat} (h : l.length ≤ 40) : cf_same_at 5 [.tuple [.tuple (l.map en), .int (k : Nat)], .tuple [.tuple (l.map en), .int (k : Nat)]] = .ret (.bool true) :=
  same_self 5 _ ⟨by show 2 ≤ 1000000; omega, fun x hx => by
    rcases List.mem_cons.mp hx with z | z
    · rw [z]; exact smd_t 2 h
    · rcases List.mem_cons.mp z with z | z
      · rw [z]; trivial
      · cases z⟩
theorem same_R {l : List Nat} (h : l.length ≤ 40) : cf_same_at 5 [R l, R l] = .ret (.bool true) := same_self 5 _ (smd_t 3 h)
theorem com_swp {a b : List Nat} (ha : Asc a) (hb : Asc b) (la : a.length ≤ 40) (lb : b.length ≤ 40) : com b a = com a b ∧ (metM b a).2.1 = (metM a b).2.1 := by
  have h1 := (met_ok hb ha lb la).1
  have h2 := (met_ok ha hb la lb).1
  have h3 := met_swp a b
  constructor
  · rw [← h1, ← h2, h3]; rfl
  · rw [h3]; rfl
theorem com_self {a : List Nat} (ha : Asc a) (la : a.length ≤ 40) : com a a = a ∧ (metM a a).2.1 = 0 := by
  have h1 := (met_ok ha ha la la).1
  rw [met_self] at h1
  exact ⟨h1.symm, by rw [met_self]⟩
theorem com_len {a b : List Nat} (la : a.length ≤ 40) : (com a b).length ≤ 40 := Nat.le_trans (List.length_filter_le _ _) la
section
variable {c : Cs} {ns : List Int} {t : OT} {s2 s3 s4 s5 s6 s7 s8 s9 s10 s11 s12 s13 s14 s15 s16 s17 s18 : Slot}
theorem t8_is {a b G : List Nat} (ha : Asc a) (hb : Asc b) (la : a.length ≤ 40) (lb : b.length ≤ 40) : t8 c (EL ns t (.v (.lf (.list [R a, R b]))) (.v (.lf (R a))) (.v (.lf (.list (G.map en)))) s5 s6 s7 s8 (.v (.lf (.int ((metM a b).2.1 : Nat)))) (.v (.lf (.list ((com a b).map en)))) s11 s12 s13 s14 s15 s16 s17 s18) = .nx (EL ns t (.v (.lf (.list [R a, R b]))) (.v (.lf (R a))) (.v (.lf (.list (G.map en)))) s5 s6 s7 s8 (.v (.lf (.int ((metM a b).2.1 : Nat)))) (.v (.lf (.list ((com a b).map en)))) s11 s12 s13 s14 s15 s16 s17 s18) := by
  have m1 := met_is (c := c) ha hb la lb
  have m2 := met_is (c := c) hb ha lb la
  obtain ⟨q1, q2⟩ := com_swp ha hb la lb
  rw [q1, q2] at m2
  rw [R_is (com a b)] at m1 m2
  have ss := same_ti (l := com a b) (k := (metM a b).2.1) (com_len la)
  unfold t8
  simp -implicitDefEqProofs only [Mo.show_LS, Mo.view_LS, ↓Mo.bind_bn, ↓Mo.tos_tn, ↓Mo.sthen_sn, ↓Mo.sel_sl, Mo.bn_ok, Mo.bn_ex, Mo.tn_ok, Mo.tn_ex, Mo.sn_nx, Mo.sn_rt, Mo.sn_bk, Mo.sn_ct, Mo.sn_ex, Mo.sl_t, Mo.sl_f, Mo.vw_d, Mo.vw_w, Mo.vw_r, Mo.vwR_LS, Mo.vwR_io, Mo.vwR_lf, Mo.stays_d, Mo.stays_r, Mo.stays_t, Mo.varF_ap, Mo.varR_lf, Mo.varR_LS, Mo.varR_io, Mo.varR_ls, Mo.cF_ap, Mo.ofO_s, Mo.binV_s, Mo.bin2_ap, Mo.unV_s, Mo.un1_ap, Mo.fzE_d, Mo.fzE_r, Mo.fzR_LS, Mo.fzR_ls, Mo.fzs_n, Mo.fzs_c, Mo.vws_n, Mo.vws_c, Mo.vwsC_s, Mo.nilV_ap, Mo.stay1_t, Mo.consV_ap, Mo.okIf_T, Mo.tupF_ap, Mo.lstF_ap, Mo.frzO_ap, Mo.lfF_ap, Mo.callV_s, Mo.callF_ap, Mo.outV_r, Mo.outV_x, Mo.callD_ap, Mo.ixV_s, Mo.ixV_n, Mo.ixF_ap, Mo.noP_ap, Mo.intV_i, Mo.someP_ap, Mo.slV_s, Mo.slF_ap, Mo.boolV_b, Mo.boolF_ap, Mo.truW_s, Mo.truV_s, Mo.truF_ap, Mo.truD_b, Mo.truD_i, Mo.okB_ap, Mo.andF_ap, Mo.orF_ap, Mo.notF_ap, Mo.okV_ap, Mo.selV_b, Mo.andV_ap, Mo.orV_ap, Mo.ifF_ap, Mo.seqF_ap, Mo.nxF_ap, Mo.bkF_ap, Mo.retF_ap, Mo.exprF_ap, Mo.ofE_s, Mo.asgF_ap, Mo.asgE_ap, Mo.asgR_un, Mo.asgR_v, Mo.asgR_raw, Mo.setO_ap, Mo.ifS_ap, Mo.gNil_ap, Mo.nextE_s, Mo.gCons_ap, Mo.lsAt_ap, Mo.lsR_LS, Mo.lsR_io, Mo.lsR_ls, Mo.appF_ap, Mo.appG_s, Mo.appK_LS, Mo.okIf_le, Mo.okIf_lt, Mo.outS_nx, Mo.outS_rt, Mo.outS_ex, Mo.outI_rt, Mo.outI_nx, Mo.bTup_l, Mo.bTup_t, Mo.bInt_b, Mo.bInt_i, Mo.dropE_n, Mo.dropE_c, Mo.dropN_s, Mo.drop1R_un, Mo.drop1R_lf, Mo.restE_n, Mo.restE_c, Mo.restR_s, Mo.forF_ap, Mo.itV_s, Mo.itF_ap, Mo.argF_ap, Mo.items_l, Mo.items_t, Mo.yesF_ap, Mo.repO_ap, Mo.nilW_ap, Mo.consW_ap, Mo.parF_ap, Mo.parN_s, Mo.parE_n, Mo.parE_c, Mo.ioK_v, Mo.ioK_io, Mo.ioH_s, Mo.ioG_s, Mo.ioArg_r, Mo.joinF_ap, Mo.insF_ap, Mo.insG_s, Mo.insArg_s, Mo.insH_s, Mo.extF_ap, Mo.extG_s, Mo.extH_s, Mo.tryF_ap, Mo.tryK_nx, Mo.tryK_rt, Mo.tryK_ex, Mo.raiseF_ap, Mo.lr2F_ap, Mo.lr1F_ap, Mo.lrPi_ap, Mo.okI_tr, oAdd_i, oSub_i, oLt_i, oLe_i, oGt_i, oGe_i, oEq_i, oNe_i, len_S, List.getElem?_cons_zero, List.getElem?_cons_succ, List.set_cons_zero, List.set_cons_succ, List.map_cons, List.map_nil, List.replicate_succ, List.replicate_zero, List.cons_append, List.nil_append, List.length_cons, List.length_nil, Nat.reduceLeDiff, Nat.reduceAdd, Nat.reduceSub, Nat.zero_le, Nat.add_one_sub_one, Nat.sub_self, Nat.zero_add, decide_true, decide_false, Bool.not_true, Bool.not_false, Bool.and_self, Bool.true_and, Bool.and_true, r0, r1', m1, m2, ss]
theorem t9_is {a b G : List Nat} (ha : Asc a) (hb : Asc b) (la : a.length ≤ 40) (lb : b.length ≤ 40) (l18 : Lt s18) : t9 c (EL ns t (.v (.lf (.list [R a, R b]))) (.v (.lf (R a))) (.v (.lf (.list (G.map en)))) s5 s6 s7 s8 (.v (.lf (.int ((metM a b).2.1 : Nat)))) (.v (.lf (.list ((com a b).map en)))) s11 s12 s13 s14 s15 s16 s17 s18) = .nx (EL ns t (.v (.lf (.list [R a, R b]))) (.v (.lf (R a))) (.v (.lf (.list (G.map en)))) s5 s6 s7 s8 (.v (.lf (.int ((metM a b).2.1 : Nat)))) (.v (.lf (.list ((com a b).map en)))) s11 s12 s13 s14 s15 s16 s17 s18) := by
  have m1 := met_is (c := c) ha ha la la
  obtain ⟨q1, q2⟩ := com_self ha la
  rw [q1, q2] at m1
  have bo := both_is (c := c) ha hb la lb
  have s1 : cf_same_at 5 [.tuple [R a, .int ((0 : Nat) : Int)], .tuple [R a, .int 0]] = .ret (.bool true) := same_ti (l := a) (k := 0) la
  have s2 : cf_same_at 5 [R (com a b), .tuple ((com a b).map en)] = .ret (.bool true) := same_R (com_len la)
  have cm : compF [18] (itF (varF 3)) (asgE 18) (boolF (bin2 true oInG (varF 18) (ixF true (varF 2) (cF (.int 1))))) (lfF (varF 18)) (EL ns t (.v (.lf (.list [R a, R b]))) (.v (.lf (R a))) (.v (.lf (.list (G.map en)))) s5 s6 s7 s8 (.v (.lf (.int ((metM a b).2.1 : Nat)))) (.v (.lf (.list ((com a b).map en)))) s11 s12 s13 s14 s15 s16 s17 s18) = .ok (LS ((a.filter (fun x => decide (x ∈ b))).map en)) (EL ns t (.v (.lf (.list [R a, R b]))) (.v (.lf (R a))) (.v (.lf (.list (G.map en)))) s5 s6 s7 s8 (.v (.lf (.int ((metM a b).2.1 : Nat)))) (.v (.lf (.list ((com a b).map en)))) s11 s12 s13 s14 s15 s16 s17 s18) := by
    refine comp_typed (ρ1 := (EL ns t (.v (.lf (.list [R a, R b]))) (.v (.lf (R a))) (.v (.lf (.list (G.map en)))) s5 s6 s7 s8 (.v (.lf (.int ((metM a b).2.1 : Nat)))) (.v (.lf (.list ((com a b).map en)))) s11 s12 s13 s14 s15 s16 s17 s18)) (ρb := (EL ns t (.v (.lf (.list [R a, R b]))) (.v (.lf (R a))) (.v (.lf (.list (G.map en)))) s5 s6 s7 s8 (.v (.lf (.int ((metM a b).2.1 : Nat)))) (.v (.lf (.list ((com a b).map en)))) s11 s12 s13 s14 s15 s16 s17 (.un))) a en (fun x => decide (x ∈ b)) en ?_ ?_ ?_ (by omega) fun x hx => ⟨(EL ns t (.v (.lf (.list [R a, R b]))) (.v (.lf (R a))) (.v (.lf (.list (G.map en)))) s5 s6 s7 s8 (.v (.lf (.int ((metM a b).2.1 : Nat)))) (.v (.lf (.list ((com a b).map en)))) s11 s12 s13 s14 s15 s16 s17 (.v (.lf (en x)))), (EL ns t (.v (.lf (.list [R a, R b]))) (.v (.lf (R a))) (.v (.lf (.list (G.map en)))) s5 s6 s7 s8 (.v (.lf (.int ((metM a b).2.1 : Nat)))) (.v (.lf (.list ((com a b).map en)))) s11 s12 s13 s14 s15 s16 s17 (.v (.lf (en x)))), rfl, ?_, fun _ => ⟨(EL ns t (.v (.lf (.list [R a, R b]))) (.v (.lf (R a))) (.v (.lf (.list (G.map en)))) s5 s6 s7 s8 (.v (.lf (.int ((metM a b).2.1 : Nat)))) (.v (.lf (.list ((com a b).map en)))) s11 s12 s13 s14 s15 s16 s17 (.v (.lf (en x)))), ?_, rfl⟩, fun _ => rfl⟩
    · simp -implicitDefEqProofs only [Mo.show_LS, Mo.view_LS, ↓Mo.bind_bn, ↓Mo.tos_tn, ↓Mo.sthen_sn, ↓Mo.sel_sl, Mo.bn_ok, Mo.bn_ex, Mo.tn_ok, Mo.tn_ex, Mo.sn_nx, Mo.sn_rt, Mo.sn_bk, Mo.sn_ct, Mo.sn_ex, Mo.sl_t, Mo.sl_f, Mo.vw_d, Mo.vw_w, Mo.vw_r, Mo.vwR_LS, Mo.vwR_io, Mo.vwR_lf, Mo.stays_d, Mo.stays_r, Mo.stays_t, Mo.varF_ap, Mo.varR_lf, Mo.varR_LS, Mo.varR_io, Mo.varR_ls, Mo.cF_ap, Mo.ofO_s, Mo.binV_s, Mo.bin2_ap, Mo.unV_s, Mo.un1_ap, Mo.fzE_d, Mo.fzE_r, Mo.fzR_LS, Mo.fzR_ls, Mo.fzs_n, Mo.fzs_c, Mo.vws_n, Mo.vws_c, Mo.vwsC_s, Mo.nilV_ap, Mo.stay1_t, Mo.consV_ap, Mo.okIf_T, Mo.tupF_ap, Mo.lstF_ap, Mo.frzO_ap, Mo.lfF_ap, Mo.callV_s, Mo.callF_ap, Mo.outV_r, Mo.outV_x, Mo.callD_ap, Mo.ixV_s, Mo.ixV_n, Mo.ixF_ap, Mo.noP_ap, Mo.intV_i, Mo.someP_ap, Mo.slV_s, Mo.slF_ap, Mo.boolV_b, Mo.boolF_ap, Mo.truW_s, Mo.truV_s, Mo.truF_ap, Mo.truD_b, Mo.truD_i, Mo.okB_ap, Mo.andF_ap, Mo.orF_ap, Mo.notF_ap, Mo.okV_ap, Mo.selV_b, Mo.andV_ap, Mo.orV_ap, Mo.ifF_ap, Mo.seqF_ap, Mo.nxF_ap, Mo.bkF_ap, Mo.retF_ap, Mo.exprF_ap, Mo.ofE_s, Mo.asgF_ap, Mo.asgE_ap, Mo.asgR_un, Mo.asgR_v, Mo.asgR_raw, Mo.setO_ap, Mo.ifS_ap, Mo.gNil_ap, Mo.nextE_s, Mo.gCons_ap, Mo.lsAt_ap, Mo.lsR_LS, Mo.lsR_io, Mo.lsR_ls, Mo.appF_ap, Mo.appG_s, Mo.appK_LS, Mo.okIf_le, Mo.okIf_lt, Mo.outS_nx, Mo.outS_rt, Mo.outS_ex, Mo.outI_rt, Mo.outI_nx, Mo.bTup_l, Mo.bTup_t, Mo.bInt_b, Mo.bInt_i, Mo.dropE_n, Mo.dropE_c, Mo.dropN_s, Mo.drop1R_un, Mo.drop1R_lf, Mo.restE_n, Mo.restE_c, Mo.restR_s, Mo.forF_ap, Mo.itV_s, Mo.itF_ap, Mo.argF_ap, Mo.items_l, Mo.items_t, Mo.yesF_ap, Mo.repO_ap, Mo.nilW_ap, Mo.consW_ap, Mo.parF_ap, Mo.parN_s, Mo.parE_n, Mo.parE_c, Mo.ioK_v, Mo.ioK_io, Mo.ioH_s, Mo.ioG_s, Mo.ioArg_r, Mo.joinF_ap, Mo.insF_ap, Mo.insG_s, Mo.insArg_s, Mo.insH_s, Mo.extF_ap, Mo.extG_s, Mo.extH_s, Mo.tryF_ap, Mo.tryK_nx, Mo.tryK_rt, Mo.tryK_ex, Mo.raiseF_ap, Mo.lr2F_ap, Mo.lr1F_ap, Mo.lrPi_ap, Mo.okI_tr, oAdd_i, oSub_i, oLt_i, oLe_i, oGt_i, oGe_i, oEq_i, oNe_i, len_S, List.getElem?_cons_zero, List.getElem?_cons_succ, List.set_cons_zero, List.set_cons_succ, List.map_cons, List.map_nil, List.replicate_succ, List.replicate_zero, List.cons_append, List.nil_append, List.length_cons, List.length_nil, Nat.reduceLeDiff, Nat.reduceAdd, Nat.reduceSub, Nat.zero_le, Nat.add_one_sub_one, Nat.sub_self, Nat.zero_add, decide_true, decide_false, Bool.not_true, Bool.not_false, Bool.and_self, Bool.true_and, Bool.and_true]
      rfl
    · rcases l18 with rfl | ⟨_, rfl⟩ <;> rfl
    · rcases l18 with rfl | ⟨_, rfl⟩ <;> rfl
    · have i1 : oInG (en x) (R b) = some (.bool (decide (x ∈ b))) := by
        refine (in_t (n := 1) (x := en x) (ys := b.map en) .int fun y hy => ?_).trans ?_
        · obtain ⟨k, _, e⟩ := List.mem_map.mp hy
          subst e
          exact .int
        · have e : b.map en = (b.map fun n : Nat => (n : Int)).map PyData.int := by rw [List.map_map]; rfl
          rw [e]
          unfold en
          rw [inD_ints]
          congr 2
          refine decide_eq_decide.mpr ⟨fun h => ?_, fun h => List.mem_map.mpr ⟨x, h, rfl⟩⟩
          obtain ⟨k, hk, e⟩ := List.mem_map.mp h
          have : k = x := by omega
          exact this ▸ hk
      simp -implicitDefEqProofs only [Mo.show_LS, Mo.view_LS, ↓Mo.bind_bn, ↓Mo.tos_tn, ↓Mo.sthen_sn, ↓Mo.sel_sl, Mo.bn_ok, Mo.bn_ex, Mo.tn_ok, Mo.tn_ex, Mo.sn_nx, Mo.sn_rt, Mo.sn_bk, Mo.sn_ct, Mo.sn_ex, Mo.sl_t, Mo.sl_f, Mo.vw_d, Mo.vw_w, Mo.vw_r, Mo.vwR_LS, Mo.vwR_io, Mo.vwR_lf, Mo.stays_d, Mo.stays_r, Mo.stays_t, Mo.varF_ap, Mo.varR_lf, Mo.varR_LS, Mo.varR_io, Mo.varR_ls, Mo.cF_ap, Mo.ofO_s, Mo.binV_s, Mo.bin2_ap, Mo.unV_s, Mo.un1_ap, Mo.fzE_d, Mo.fzE_r, Mo.fzR_LS, Mo.fzR_ls, Mo.fzs_n, Mo.fzs_c, Mo.vws_n, Mo.vws_c, Mo.vwsC_s, Mo.nilV_ap, Mo.stay1_t, Mo.consV_ap, Mo.okIf_T, Mo.tupF_ap, Mo.lstF_ap, Mo.frzO_ap, Mo.lfF_ap, Mo.callV_s, Mo.callF_ap, Mo.outV_r, Mo.outV_x, Mo.callD_ap, Mo.ixV_s, Mo.ixV_n, Mo.ixF_ap, Mo.noP_ap, Mo.intV_i, Mo.someP_ap, Mo.slV_s, Mo.slF_ap, Mo.boolV_b, Mo.boolF_ap, Mo.truW_s, Mo.truV_s, Mo.truF_ap, Mo.truD_b, Mo.truD_i, Mo.okB_ap, Mo.andF_ap, Mo.orF_ap, Mo.notF_ap, Mo.okV_ap, Mo.selV_b, Mo.andV_ap, Mo.orV_ap, Mo.ifF_ap, Mo.seqF_ap, Mo.nxF_ap, Mo.bkF_ap, Mo.retF_ap, Mo.exprF_ap, Mo.ofE_s, Mo.asgF_ap, Mo.asgE_ap, Mo.asgR_un, Mo.asgR_v, Mo.asgR_raw, Mo.setO_ap, Mo.ifS_ap, Mo.gNil_ap, Mo.nextE_s, Mo.gCons_ap, Mo.lsAt_ap, Mo.lsR_LS, Mo.lsR_io, Mo.lsR_ls, Mo.appF_ap, Mo.appG_s, Mo.appK_LS, Mo.okIf_le, Mo.okIf_lt, Mo.outS_nx, Mo.outS_rt, Mo.outS_ex, Mo.outI_rt, Mo.outI_nx, Mo.bTup_l, Mo.bTup_t, Mo.bInt_b, Mo.bInt_i, Mo.dropE_n, Mo.dropE_c, Mo.dropN_s, Mo.drop1R_un, Mo.drop1R_lf, Mo.restE_n, Mo.restE_c, Mo.restR_s, Mo.forF_ap, Mo.itV_s, Mo.itF_ap, Mo.argF_ap, Mo.items_l, Mo.items_t, Mo.yesF_ap, Mo.repO_ap, Mo.nilW_ap, Mo.consW_ap, Mo.parF_ap, Mo.parN_s, Mo.parE_n, Mo.parE_c, Mo.ioK_v, Mo.ioK_io, Mo.ioH_s, Mo.ioG_s, Mo.ioArg_r, Mo.joinF_ap, Mo.insF_ap, Mo.insG_s, Mo.insArg_s, Mo.insH_s, Mo.extF_ap, Mo.extG_s, Mo.extH_s, Mo.tryF_ap, Mo.tryK_nx, Mo.tryK_rt, Mo.tryK_ex, Mo.raiseF_ap, Mo.lr2F_ap, Mo.lr1F_ap, Mo.lrPi_ap, Mo.okI_tr, oAdd_i, oSub_i, oLt_i, oLe_i, oGt_i, oGe_i, oEq_i, oNe_i, len_S, List.getElem?_cons_zero, List.getElem?_cons_succ, List.set_cons_zero, List.set_cons_succ, List.map_cons, List.map_nil, List.replicate_succ, List.replicate_zero, List.cons_append, List.nil_append, List.length_cons, List.length_nil, Nat.reduceLeDiff, Nat.reduceAdd, Nat.reduceSub, Nat.zero_le, Nat.add_one_sub_one, Nat.sub_self, Nat.zero_add, decide_true, decide_false, Bool.not_true, Bool.not_false, Bool.and_self, Bool.true_and, Bool.and_true, r1', i1]
    · simp -implicitDefEqProofs only [Mo.show_LS, Mo.view_LS, ↓Mo.bind_bn, ↓Mo.tos_tn, ↓Mo.sthen_sn, ↓Mo.sel_sl, Mo.bn_ok, Mo.bn_ex, Mo.tn_ok, Mo.tn_ex, Mo.sn_nx, Mo.sn_rt, Mo.sn_bk, Mo.sn_ct, Mo.sn_ex, Mo.sl_t, Mo.sl_f, Mo.vw_d, Mo.vw_w, Mo.vw_r, Mo.vwR_LS, Mo.vwR_io, Mo.vwR_lf, Mo.stays_d, Mo.stays_r, Mo.stays_t, Mo.varF_ap, Mo.varR_lf, Mo.varR_LS, Mo.varR_io, Mo.varR_ls, Mo.cF_ap, Mo.ofO_s, Mo.binV_s, Mo.bin2_ap, Mo.unV_s, Mo.un1_ap, Mo.fzE_d, Mo.fzE_r, Mo.fzR_LS, Mo.fzR_ls, Mo.fzs_n, Mo.fzs_c, Mo.vws_n, Mo.vws_c, Mo.vwsC_s, Mo.nilV_ap, Mo.stay1_t, Mo.consV_ap, Mo.okIf_T, Mo.tupF_ap, Mo.lstF_ap, Mo.frzO_ap, Mo.lfF_ap, Mo.callV_s, Mo.callF_ap, Mo.outV_r, Mo.outV_x, Mo.callD_ap, Mo.ixV_s, Mo.ixV_n, Mo.ixF_ap, Mo.noP_ap, Mo.intV_i, Mo.someP_ap, Mo.slV_s, Mo.slF_ap, Mo.boolV_b, Mo.boolF_ap, Mo.truW_s, Mo.truV_s, Mo.truF_ap, Mo.truD_b, Mo.truD_i, Mo.okB_ap, Mo.andF_ap, Mo.orF_ap, Mo.notF_ap, Mo.okV_ap, Mo.selV_b, Mo.andV_ap, Mo.orV_ap, Mo.ifF_ap, Mo.seqF_ap, Mo.nxF_ap, Mo.bkF_ap, Mo.retF_ap, Mo.exprF_ap, Mo.ofE_s, Mo.asgF_ap, Mo.asgE_ap, Mo.asgR_un, Mo.asgR_v, Mo.asgR_raw, Mo.setO_ap, Mo.ifS_ap, Mo.gNil_ap, Mo.nextE_s, Mo.gCons_ap, Mo.lsAt_ap, Mo.lsR_LS, Mo.lsR_io, Mo.lsR_ls, Mo.appF_ap, Mo.appG_s, Mo.appK_LS, Mo.okIf_le, Mo.okIf_lt, Mo.outS_nx, Mo.outS_rt, Mo.outS_ex, Mo.outI_rt, Mo.outI_nx, Mo.bTup_l, Mo.bTup_t, Mo.bInt_b, Mo.bInt_i, Mo.dropE_n, Mo.dropE_c, Mo.dropN_s, Mo.drop1R_un, Mo.drop1R_lf, Mo.restE_n, Mo.restE_c, Mo.restR_s, Mo.forF_ap, Mo.itV_s, Mo.itF_ap, Mo.argF_ap, Mo.items_l, Mo.items_t, Mo.yesF_ap, Mo.repO_ap, Mo.nilW_ap, Mo.consW_ap, Mo.parF_ap, Mo.parN_s, Mo.parE_n, Mo.parE_c, Mo.ioK_v, Mo.ioK_io, Mo.ioH_s, Mo.ioG_s, Mo.ioArg_r, Mo.joinF_ap, Mo.insF_ap, Mo.insG_s, Mo.insArg_s, Mo.insH_s, Mo.extF_ap, Mo.extG_s, Mo.extH_s, Mo.tryF_ap, Mo.tryK_nx, Mo.tryK_rt, Mo.tryK_ex, Mo.raiseF_ap, Mo.lr2F_ap, Mo.lr1F_ap, Mo.lrPi_ap, Mo.okI_tr, oAdd_i, oSub_i, oLt_i, oLe_i, oGt_i, oGe_i, oEq_i, oNe_i, len_S, List.getElem?_cons_zero, List.getElem?_cons_succ, List.set_cons_zero, List.set_cons_succ, List.map_cons, List.map_nil, List.replicate_succ, List.replicate_zero, List.cons_append, List.nil_append, List.length_cons, List.length_nil, Nat.reduceLeDiff, Nat.reduceAdd, Nat.reduceSub, Nat.zero_le, Nat.add_one_sub_one, Nat.sub_self, Nat.zero_add, decide_true, decide_false, Bool.not_true, Bool.not_false, Bool.and_self, Bool.true_and, Bool.and_true]
  have cf : a.filter (fun x => decide (x ∈ b)) = com a b := rfl
  rw [cf] at cm
  unfold t9
  simp -implicitDefEqProofs only [Mo.show_LS, Mo.view_LS, ↓Mo.bind_bn, ↓Mo.tos_tn, ↓Mo.sthen_sn, ↓Mo.sel_sl, Mo.bn_ok, Mo.bn_ex, Mo.tn_ok, Mo.tn_ex, Mo.sn_nx, Mo.sn_rt, Mo.sn_bk, Mo.sn_ct, Mo.sn_ex, Mo.sl_t, Mo.sl_f, Mo.vw_d, Mo.vw_w, Mo.vw_r, Mo.vwR_LS, Mo.vwR_io, Mo.vwR_lf, Mo.stays_d, Mo.stays_r, Mo.stays_t, Mo.varF_ap, Mo.varR_lf, Mo.varR_LS, Mo.varR_io, Mo.varR_ls, Mo.cF_ap, Mo.ofO_s, Mo.binV_s, Mo.bin2_ap, Mo.unV_s, Mo.un1_ap, Mo.fzE_d, Mo.fzE_r, Mo.fzR_LS, Mo.fzR_ls, Mo.fzs_n, Mo.fzs_c, Mo.vws_n, Mo.vws_c, Mo.vwsC_s, Mo.nilV_ap, Mo.stay1_t, Mo.consV_ap, Mo.okIf_T, Mo.tupF_ap, Mo.lstF_ap, Mo.frzO_ap, Mo.lfF_ap, Mo.callV_s, Mo.callF_ap, Mo.outV_r, Mo.outV_x, Mo.callD_ap, Mo.ixV_s, Mo.ixV_n, Mo.ixF_ap, Mo.noP_ap, Mo.intV_i, Mo.someP_ap, Mo.slV_s, Mo.slF_ap, Mo.boolV_b, Mo.boolF_ap, Mo.truW_s, Mo.truV_s, Mo.truF_ap, Mo.truD_b, Mo.truD_i, Mo.okB_ap, Mo.andF_ap, Mo.orF_ap, Mo.notF_ap, Mo.okV_ap, Mo.selV_b, Mo.andV_ap, Mo.orV_ap, Mo.ifF_ap, Mo.seqF_ap, Mo.nxF_ap, Mo.bkF_ap, Mo.retF_ap, Mo.exprF_ap, Mo.ofE_s, Mo.asgF_ap, Mo.asgE_ap, Mo.asgR_un, Mo.asgR_v, Mo.asgR_raw, Mo.setO_ap, Mo.ifS_ap, Mo.gNil_ap, Mo.nextE_s, Mo.gCons_ap, Mo.lsAt_ap, Mo.lsR_LS, Mo.lsR_io, Mo.lsR_ls, Mo.appF_ap, Mo.appG_s, Mo.appK_LS, Mo.okIf_le, Mo.okIf_lt, Mo.outS_nx, Mo.outS_rt, Mo.outS_ex, Mo.outI_rt, Mo.outI_nx, Mo.bTup_l, Mo.bTup_t, Mo.bInt_b, Mo.bInt_i, Mo.dropE_n, Mo.dropE_c, Mo.dropN_s, Mo.drop1R_un, Mo.drop1R_lf, Mo.restE_n, Mo.restE_c, Mo.restR_s, Mo.forF_ap, Mo.itV_s, Mo.itF_ap, Mo.argF_ap, Mo.items_l, Mo.items_t, Mo.yesF_ap, Mo.repO_ap, Mo.nilW_ap, Mo.consW_ap, Mo.parF_ap, Mo.parN_s, Mo.parE_n, Mo.parE_c, Mo.ioK_v, Mo.ioK_io, Mo.ioH_s, Mo.ioG_s, Mo.ioArg_r, Mo.joinF_ap, Mo.insF_ap, Mo.insG_s, Mo.insArg_s, Mo.insH_s, Mo.extF_ap, Mo.extG_s, Mo.extH_s, Mo.tryF_ap, Mo.tryK_nx, Mo.tryK_rt, Mo.tryK_ex, Mo.raiseF_ap, Mo.lr2F_ap, Mo.lr1F_ap, Mo.lrPi_ap, Mo.okI_tr, oAdd_i, oSub_i, oLt_i, oLe_i, oGt_i, oGe_i, oEq_i, oNe_i, len_S, List.getElem?_cons_zero, List.getElem?_cons_succ, List.set_cons_zero, List.set_cons_succ, List.map_cons, List.map_nil, List.replicate_succ, List.replicate_zero, List.cons_append, List.nil_append, List.length_cons, List.length_nil, Nat.reduceLeDiff, Nat.reduceAdd, Nat.reduceSub, Nat.zero_le, Nat.add_one_sub_one, Nat.sub_self, Nat.zero_add, decide_true, decide_false, Bool.not_true, Bool.not_false, Bool.and_self, Bool.true_and, Bool.and_true, r1', m1, s1, bo, cm, s2]
end
end K88

/-! Lg88: judged; places, parts; the end. -/
namespace K88
open PySem PySem.Spec PyProof.Rows L2 Mo
theorem wo_com {a b : List Nat} : com (wo a (com a b)) b = [] := List.filter_eq_nil_iff.mpr fun x hx => by
  unfold wo at hx
  rw [List.mem_filter] at hx
  intro hb
  have hb' : x ∈ b := of_decide_eq_true hb
  have : x ∈ com a b := List.mem_filter.mpr ⟨hx.1, hb⟩
  simp [has, this] at hx
theorem wo_com' {a b : List Nat} (e : com b a = com a b) : com (wo b (com a b)) a = [] := by
  rw [← e]; exact wo_com
theorem wo_tail {a b : List Nat} {x : Nat} {r : List Nat} (ha : Asc a) (h : com a b = x :: r) : com (wo a r) b ≠ [] := by
  have asc : Asc (x :: r) := by rw [← h]; exact asc_filter ha _
  have hx : x ∈ com a b := by rw [h]; simp
  have hx' := List.mem_filter.mp hx
  have nr : x ∉ r := fun z => Nat.lt_irrefl _ ((List.pairwise_cons.mp asc).1 x z)
  intro e
  have : x ∈ com (wo a r) b := List.mem_filter.mpr ⟨List.mem_filter.mpr ⟨hx'.1, by simp [has, nr]⟩, hx'.2⟩
  rw [e] at this
  cases this
theorem wo_drop {a : List Nat} (ha : Asc a) (k : Nat) : wo a (a.drop k) = a.take k := by
  have key : ∀ {u v : List Nat}, Asc (u ++ v) → (u ++ v).filter (fun x => !(has v x)) = u := by
    intro u v h
    obtain ⟨h1, h2, h3⟩ := List.pairwise_append.mp h
    rw [List.filter_append]
    have e1 : u.filter (fun x => !(has v x)) = u := List.filter_eq_self.mpr fun x hx => by
      have : x ∉ v := fun z => Nat.lt_irrefl _ (h3 x hx x z)
      simp [has, this]
    have e2 : v.filter (fun x => !(has v x)) = [] := List.filter_eq_nil_iff.mpr fun x hx => by simp [has, hx]
    rw [e1, e2, List.append_nil]
  have := key (u := a.take k) (v := a.drop k) (by rw [List.take_append_drop]; exact ha)
  rw [List.take_append_drop] at this
  exact this
theorem ne_nil : ∀ l : List Nat, oNe (.list (l.map en)) (.list []) = some (.bool (!l.isEmpty))
  | [] => oNe_cm (n := 1) (.lst fun _ h => by cases h) (.lst fun _ h => by cases h)
  | x :: l => oNe_cm (n := 1) (.lst fun y hy => by
      obtain ⟨k, _, e⟩ := List.mem_map.mp hy
      subst e
      exact .int) (.lst fun _ h => by cases h)
theorem cutL {l : List Nat} : oSlice (.list (l.map en)) (some 1) none = some (.list ((l.drop 1).map en)) := by
  have h := cutF_R (l := l) (i := 1)
  have h' : some (PyData.tuple (Mo.cutD (l.map en) (some 1) none)) = some (PyData.tuple ((l.drop 1).map en)) := h
  have h2 := PyData.tuple.inj (Option.some.inj h')
  show some (PyData.list (Mo.cutD (l.map en) (some 1) none)) = _
  rw [h2]
section
variable {c : Cs} {ns : List Int} {t : OT} {s2 s3 s4 s5 s6 s7 s8 s9 s10 s11 s12 s13 s14 s15 s16 s17 s18 : Slot}
theorem t10_is {a b G : List Nat} (ha : Asc a) (hb : Asc b) (la : a.length ≤ 40) (lb : b.length ≤ 40) (ba : ∀ x ∈ a, x ≤ 200000) : t10 c (EL ns t (.v (.lf (.list [R a, R b]))) (.v (.lf (R a))) (.v (.lf (.list (G.map en)))) s5 s6 s7 s8 (.v (.lf (.int ((metM a b).2.1 : Nat)))) (.v (.lf (.list ((com a b).map en)))) s11 s12 s13 s14 s15 s16 s17 s18) = .nx (EL ns t (.v (.lf (.list [R a, R b]))) (.v (.lf (R a))) (.v (.lf (.list (G.map en)))) s5 s6 s7 s8 (.v (.lf (.int ((metM a b).2.1 : Nat)))) (.v (.lf (.list ((com a b).map en)))) s11 s12 s13 s14 s15 s16 s17 s18) := by
  obtain ⟨q1, _⟩ := com_swp ha hb la lb
  have inb : ∀ x ∈ com a b, x ∈ a ∧ x ∈ b := fun x hx => ⟨(List.mem_filter.mp hx).1, of_decide_eq_true (List.mem_filter.mp hx).2⟩
  have j1 := judge_is (c := c) (t := com a b) ha hb (asc_filter ha _) la lb (com_len la) inb fun x hx => by have := ba x (inb x hx).1; omega
  have v1 : (if a.length ≤ b.length then (com (wo a (com a b)) b).isEmpty else (com (wo b (com a b)) a).isEmpty) = true := by
    rw [wo_com, wo_com' q1]; split <;> rfl
  rw [v1] at j1
  have j1' : f_judge_met c [R a, R b, .tuple ((com a b).map en)] = .ret (.bool true) := j1
  have b1 : oNotB (.bool true) (.bool true) = some (.bool false) := rfl
  have b2 : oNotB (.bool false) (.bool false) = some (.bool false) := rfl
  have nn := ne_nil (com a b)
  have cu := cutL (l := com a b)
  unfold t10
  cases h : com a b with
  | nil =>
    rw [h] at j1' nn
    have vn : (OT.ls []).view = .list [] := rfl
    simp only [List.map_nil, List.isEmpty_nil] at j1' nn
    simp -implicitDefEqProofs only [Mo.show_LS, Mo.view_LS, ↓Mo.bind_bn, ↓Mo.tos_tn, ↓Mo.sthen_sn, ↓Mo.sel_sl, Mo.bn_ok, Mo.bn_ex, Mo.tn_ok, Mo.tn_ex, Mo.sn_nx, Mo.sn_rt, Mo.sn_bk, Mo.sn_ct, Mo.sn_ex, Mo.sl_t, Mo.sl_f, Mo.vw_d, Mo.vw_w, Mo.vw_r, Mo.vwR_LS, Mo.vwR_io, Mo.vwR_lf, Mo.stays_d, Mo.stays_r, Mo.stays_t, Mo.varF_ap, Mo.varR_lf, Mo.varR_LS, Mo.varR_io, Mo.varR_ls, Mo.cF_ap, Mo.ofO_s, Mo.binV_s, Mo.bin2_ap, Mo.unV_s, Mo.un1_ap, Mo.fzE_d, Mo.fzE_r, Mo.fzR_LS, Mo.fzR_ls, Mo.fzs_n, Mo.fzs_c, Mo.vws_n, Mo.vws_c, Mo.vwsC_s, Mo.nilV_ap, Mo.stay1_t, Mo.consV_ap, Mo.okIf_T, Mo.tupF_ap, Mo.lstF_ap, Mo.frzO_ap, Mo.lfF_ap, Mo.callV_s, Mo.callF_ap, Mo.outV_r, Mo.outV_x, Mo.callD_ap, Mo.ixV_s, Mo.ixV_n, Mo.ixF_ap, Mo.noP_ap, Mo.intV_i, Mo.someP_ap, Mo.slV_s, Mo.slF_ap, Mo.boolV_b, Mo.boolF_ap, Mo.truW_s, Mo.truV_s, Mo.truF_ap, Mo.truD_b, Mo.truD_i, Mo.okB_ap, Mo.andF_ap, Mo.orF_ap, Mo.notF_ap, Mo.okV_ap, Mo.selV_b, Mo.andV_ap, Mo.orV_ap, Mo.ifF_ap, Mo.seqF_ap, Mo.nxF_ap, Mo.bkF_ap, Mo.retF_ap, Mo.exprF_ap, Mo.ofE_s, Mo.asgF_ap, Mo.asgE_ap, Mo.asgR_un, Mo.asgR_v, Mo.asgR_raw, Mo.setO_ap, Mo.ifS_ap, Mo.gNil_ap, Mo.nextE_s, Mo.gCons_ap, Mo.lsAt_ap, Mo.lsR_LS, Mo.lsR_io, Mo.lsR_ls, Mo.appF_ap, Mo.appG_s, Mo.appK_LS, Mo.okIf_le, Mo.okIf_lt, Mo.outS_nx, Mo.outS_rt, Mo.outS_ex, Mo.outI_rt, Mo.outI_nx, Mo.bTup_l, Mo.bTup_t, Mo.bInt_b, Mo.bInt_i, Mo.dropE_n, Mo.dropE_c, Mo.dropN_s, Mo.drop1R_un, Mo.drop1R_lf, Mo.restE_n, Mo.restE_c, Mo.restR_s, Mo.forF_ap, Mo.itV_s, Mo.itF_ap, Mo.argF_ap, Mo.items_l, Mo.items_t, Mo.yesF_ap, Mo.repO_ap, Mo.nilW_ap, Mo.consW_ap, Mo.parF_ap, Mo.parN_s, Mo.parE_n, Mo.parE_c, Mo.ioK_v, Mo.ioK_io, Mo.ioH_s, Mo.ioG_s, Mo.ioArg_r, Mo.joinF_ap, Mo.insF_ap, Mo.insG_s, Mo.insArg_s, Mo.insH_s, Mo.extF_ap, Mo.extG_s, Mo.extH_s, Mo.tryF_ap, Mo.tryK_nx, Mo.tryK_rt, Mo.tryK_ex, Mo.raiseF_ap, Mo.lr2F_ap, Mo.lr1F_ap, Mo.lrPi_ap, Mo.okI_tr, oAdd_i, oSub_i, oLt_i, oLe_i, oGt_i, oGe_i, oEq_i, oNe_i, len_S, List.getElem?_cons_zero, List.getElem?_cons_succ, List.set_cons_zero, List.set_cons_succ, List.map_cons, List.map_nil, List.replicate_succ, List.replicate_zero, List.cons_append, List.nil_append, List.length_cons, List.length_nil, Nat.reduceLeDiff, Nat.reduceAdd, Nat.reduceSub, Nat.zero_le, Nat.add_one_sub_one, Nat.sub_self, Nat.zero_add, decide_true, decide_false, Bool.not_true, Bool.not_false, Bool.and_self, Bool.true_and, Bool.and_true, r0, r1', j1', b1, vn, nn]
  | cons x r =>
    have ca : Asc (x :: r) := by rw [← h]; exact asc_filter ha _
    have cr : r.length ≤ 40 := by have := com_len (b := b) la; rw [h] at this; simp at this; omega
    have inr : ∀ y ∈ r, y ∈ a ∧ y ∈ b := fun y hy => inb y (by rw [h]; simp [hy])
    have j2 := judge_is (c := c) ha hb (List.pairwise_cons.mp ca).2 la lb cr inr fun y hy => by have := ba y (inr y hy).1; omega
    have w1 := wo_tail ha h
    have w2 := wo_tail hb (q1.trans h)
    have v2 : (if a.length ≤ b.length then (com (wo a r) b).isEmpty else (com (wo b r) a).isEmpty) = false := by
      split
      · exact List.isEmpty_eq_false_iff.mpr w1
      · exact List.isEmpty_eq_false_iff.mpr w2
    rw [v2] at j2
    have j2' : f_judge_met c [R a, R b, .tuple (r.map en)] = .ret (.bool false) := j2
    rw [h] at j1' nn cu
    have vn : (OT.ls []).view = .list [] := rfl
    simp only [List.map_cons, List.isEmpty_cons, List.drop_succ_cons, List.drop_zero] at j1' nn cu
    simp -implicitDefEqProofs only [Mo.show_LS, Mo.view_LS, ↓Mo.bind_bn, ↓Mo.tos_tn, ↓Mo.sthen_sn, ↓Mo.sel_sl, Mo.bn_ok, Mo.bn_ex, Mo.tn_ok, Mo.tn_ex, Mo.sn_nx, Mo.sn_rt, Mo.sn_bk, Mo.sn_ct, Mo.sn_ex, Mo.sl_t, Mo.sl_f, Mo.vw_d, Mo.vw_w, Mo.vw_r, Mo.vwR_LS, Mo.vwR_io, Mo.vwR_lf, Mo.stays_d, Mo.stays_r, Mo.stays_t, Mo.varF_ap, Mo.varR_lf, Mo.varR_LS, Mo.varR_io, Mo.varR_ls, Mo.cF_ap, Mo.ofO_s, Mo.binV_s, Mo.bin2_ap, Mo.unV_s, Mo.un1_ap, Mo.fzE_d, Mo.fzE_r, Mo.fzR_LS, Mo.fzR_ls, Mo.fzs_n, Mo.fzs_c, Mo.vws_n, Mo.vws_c, Mo.vwsC_s, Mo.nilV_ap, Mo.stay1_t, Mo.consV_ap, Mo.okIf_T, Mo.tupF_ap, Mo.lstF_ap, Mo.frzO_ap, Mo.lfF_ap, Mo.callV_s, Mo.callF_ap, Mo.outV_r, Mo.outV_x, Mo.callD_ap, Mo.ixV_s, Mo.ixV_n, Mo.ixF_ap, Mo.noP_ap, Mo.intV_i, Mo.someP_ap, Mo.slV_s, Mo.slF_ap, Mo.boolV_b, Mo.boolF_ap, Mo.truW_s, Mo.truV_s, Mo.truF_ap, Mo.truD_b, Mo.truD_i, Mo.okB_ap, Mo.andF_ap, Mo.orF_ap, Mo.notF_ap, Mo.okV_ap, Mo.selV_b, Mo.andV_ap, Mo.orV_ap, Mo.ifF_ap, Mo.seqF_ap, Mo.nxF_ap, Mo.bkF_ap, Mo.retF_ap, Mo.exprF_ap, Mo.ofE_s, Mo.asgF_ap, Mo.asgE_ap, Mo.asgR_un, Mo.asgR_v, Mo.asgR_raw, Mo.setO_ap, Mo.ifS_ap, Mo.gNil_ap, Mo.nextE_s, Mo.gCons_ap, Mo.lsAt_ap, Mo.lsR_LS, Mo.lsR_io, Mo.lsR_ls, Mo.appF_ap, Mo.appG_s, Mo.appK_LS, Mo.okIf_le, Mo.okIf_lt, Mo.outS_nx, Mo.outS_rt, Mo.outS_ex, Mo.outI_rt, Mo.outI_nx, Mo.bTup_l, Mo.bTup_t, Mo.bInt_b, Mo.bInt_i, Mo.dropE_n, Mo.dropE_c, Mo.dropN_s, Mo.drop1R_un, Mo.drop1R_lf, Mo.restE_n, Mo.restE_c, Mo.restR_s, Mo.forF_ap, Mo.itV_s, Mo.itF_ap, Mo.argF_ap, Mo.items_l, Mo.items_t, Mo.yesF_ap, Mo.repO_ap, Mo.nilW_ap, Mo.consW_ap, Mo.parF_ap, Mo.parN_s, Mo.parE_n, Mo.parE_c, Mo.ioK_v, Mo.ioK_io, Mo.ioH_s, Mo.ioG_s, Mo.ioArg_r, Mo.joinF_ap, Mo.insF_ap, Mo.insG_s, Mo.insArg_s, Mo.insH_s, Mo.extF_ap, Mo.extG_s, Mo.extH_s, Mo.tryF_ap, Mo.tryK_nx, Mo.tryK_rt, Mo.tryK_ex, Mo.raiseF_ap, Mo.lr2F_ap, Mo.lr1F_ap, Mo.lrPi_ap, Mo.okI_tr, oAdd_i, oSub_i, oLt_i, oLe_i, oGt_i, oGe_i, oEq_i, oNe_i, len_S, List.getElem?_cons_zero, List.getElem?_cons_succ, List.set_cons_zero, List.set_cons_succ, List.map_cons, List.map_nil, List.replicate_succ, List.replicate_zero, List.cons_append, List.nil_append, List.length_cons, List.length_nil, Nat.reduceLeDiff, Nat.reduceAdd, Nat.reduceSub, Nat.zero_le, Nat.add_one_sub_one, Nat.sub_self, Nat.zero_add, decide_true, decide_false, Bool.not_true, Bool.not_false, Bool.and_self, Bool.true_and, Bool.and_true, r0, r1', j1', b1, vn, nn, cu, j2', b2]
theorem t12_is {ρ : Mo.Env} : t12 c ρ = .rt (.bool true) ρ := by
  have sk : f_seek c [.tuple [], .int 0, .int 5] = .ret (.tuple [.int 0, .int 0]) := seek_is (c := c) (l := []) (a := 0) (g := 5) (by decide)
  have e : oEq (.tuple [.int 0, .int 0]) (.tuple [.int 0, .int 0]) = some (.bool true) := oEq_cm (n := 1) (.tup fun y hy => by
    rcases List.mem_cons.mp hy with z | z
    · rw [z]; exact .int
    · rcases List.mem_cons.mp z with z | z
      · rw [z]; exact .int
      · cases z) (.tup fun y hy => by
    rcases List.mem_cons.mp hy with z | z
    · rw [z]; exact .int
    · rcases List.mem_cons.mp z with z | z
      · rw [z]; exact .int
      · cases z)
  unfold t12
  simp -implicitDefEqProofs only [Mo.show_LS, Mo.view_LS, ↓Mo.bind_bn, ↓Mo.tos_tn, ↓Mo.sthen_sn, ↓Mo.sel_sl, Mo.bn_ok, Mo.bn_ex, Mo.tn_ok, Mo.tn_ex, Mo.sn_nx, Mo.sn_rt, Mo.sn_bk, Mo.sn_ct, Mo.sn_ex, Mo.sl_t, Mo.sl_f, Mo.vw_d, Mo.vw_w, Mo.vw_r, Mo.vwR_LS, Mo.vwR_io, Mo.vwR_lf, Mo.stays_d, Mo.stays_r, Mo.stays_t, Mo.varF_ap, Mo.varR_lf, Mo.varR_LS, Mo.varR_io, Mo.varR_ls, Mo.cF_ap, Mo.ofO_s, Mo.binV_s, Mo.bin2_ap, Mo.unV_s, Mo.un1_ap, Mo.fzE_d, Mo.fzE_r, Mo.fzR_LS, Mo.fzR_ls, Mo.fzs_n, Mo.fzs_c, Mo.vws_n, Mo.vws_c, Mo.vwsC_s, Mo.nilV_ap, Mo.stay1_t, Mo.consV_ap, Mo.okIf_T, Mo.tupF_ap, Mo.lstF_ap, Mo.frzO_ap, Mo.lfF_ap, Mo.callV_s, Mo.callF_ap, Mo.outV_r, Mo.outV_x, Mo.callD_ap, Mo.ixV_s, Mo.ixV_n, Mo.ixF_ap, Mo.noP_ap, Mo.intV_i, Mo.someP_ap, Mo.slV_s, Mo.slF_ap, Mo.boolV_b, Mo.boolF_ap, Mo.truW_s, Mo.truV_s, Mo.truF_ap, Mo.truD_b, Mo.truD_i, Mo.okB_ap, Mo.andF_ap, Mo.orF_ap, Mo.notF_ap, Mo.okV_ap, Mo.selV_b, Mo.andV_ap, Mo.orV_ap, Mo.ifF_ap, Mo.seqF_ap, Mo.nxF_ap, Mo.bkF_ap, Mo.retF_ap, Mo.exprF_ap, Mo.ofE_s, Mo.asgF_ap, Mo.asgE_ap, Mo.asgR_un, Mo.asgR_v, Mo.asgR_raw, Mo.setO_ap, Mo.ifS_ap, Mo.gNil_ap, Mo.nextE_s, Mo.gCons_ap, Mo.lsAt_ap, Mo.lsR_LS, Mo.lsR_io, Mo.lsR_ls, Mo.appF_ap, Mo.appG_s, Mo.appK_LS, Mo.okIf_le, Mo.okIf_lt, Mo.outS_nx, Mo.outS_rt, Mo.outS_ex, Mo.outI_rt, Mo.outI_nx, Mo.bTup_l, Mo.bTup_t, Mo.bInt_b, Mo.bInt_i, Mo.dropE_n, Mo.dropE_c, Mo.dropN_s, Mo.drop1R_un, Mo.drop1R_lf, Mo.restE_n, Mo.restE_c, Mo.restR_s, Mo.forF_ap, Mo.itV_s, Mo.itF_ap, Mo.argF_ap, Mo.items_l, Mo.items_t, Mo.yesF_ap, Mo.repO_ap, Mo.nilW_ap, Mo.consW_ap, Mo.parF_ap, Mo.parN_s, Mo.parE_n, Mo.parE_c, Mo.ioK_v, Mo.ioK_io, Mo.ioH_s, Mo.ioG_s, Mo.ioArg_r, Mo.joinF_ap, Mo.insF_ap, Mo.insG_s, Mo.insArg_s, Mo.insH_s, Mo.extF_ap, Mo.extG_s, Mo.extH_s, Mo.tryF_ap, Mo.tryK_nx, Mo.tryK_rt, Mo.tryK_ex, Mo.raiseF_ap, Mo.lr2F_ap, Mo.lr1F_ap, Mo.lrPi_ap, Mo.okI_tr, oAdd_i, oSub_i, oLt_i, oLe_i, oGt_i, oGe_i, oEq_i, oNe_i, len_S, List.getElem?_cons_zero, List.getElem?_cons_succ, List.set_cons_zero, List.set_cons_succ, List.map_cons, List.map_nil, List.replicate_succ, List.replicate_zero, List.cons_append, List.nil_append, List.length_cons, List.length_nil, Nat.reduceLeDiff, Nat.reduceAdd, Nat.reduceSub, Nat.zero_le, Nat.add_one_sub_one, Nat.sub_self, Nat.zero_add, decide_true, decide_false, Bool.not_true, Bool.not_false, Bool.and_self, Bool.true_and, Bool.and_true, sk, e]
end
end K88

/-! Lh88: places, parts; the end. -/
namespace K88
open PySem PySem.Spec PyProof.Rows L2 Mo
noncomputable def kB (c : Cs) : Mo.Env → SRes := (ifS (orF (boolF (bin2 true oNe (callD (f_place_in c) (consV true (varF 3) (consV true (ixF true (varF 3) (varF 7)) nilV))) (varF 7))) (orF (notF (truF (callD (cf_same_at 5) (consV true (callD (f_part c) (consV true (varF 3) (consV true (ixF true (varF 3) (varF 7)) (consV true (ixF true (varF 3) (un1 oNeg (cF (.int 1)))) nilV)))) (consV true (slF true true (varF 3) (someP (varF 7)) noP) nilV))))) (notF (truF (callD (cf_same_at 5) (consV true (callD (f_without c) (consV true (varF 3) (consV true (slF true true (varF 3) (someP (varF 7)) noP) nilV))) (consV true (slF true true (varF 3) noP (someP (varF 7))) nilV))))))) (retF (cF (.bool false))) nxF)
theorem item_last {l : List Nat} (h : 0 < l.length) : oItem (R l) (.int (-1)) = some (.int (gt l (l.length - 1) : Nat)) := by
  have key : atI (l.map fun n => PyData.int (n : Nat)) (-1) = (l.map fun n => PyData.int (n : Nat))[l.length - 1]? := by
    unfold atI ixN
    rw [List.length_map, if_neg (by decide), if_pos (by omega)]
    show (l.map fun n => PyData.int (n : Nat))[((-1 : Int) + (l.length : Int)).toNat]? = _
    congr 1
    omega
  show atI (l.map fun n => PyData.int (n : Nat)) (-1) = _
  rw [key, List.getElem?_map, gt_at (by omega)]
  rfl
section
variable {c : Cs} {ns : List Int} {t : OT} {s2 s3 s4 s5 s6 s7 s8 s9 s10 s11 s12 s13 s14 s15 s16 s17 s18 : Slot}
theorem kB_is {a b G : List Nat} (ha : Asc a) (la : a.length ≤ 40) {k : Nat} (hk : k < a.length) : kB c (EL ns t (.v (.lf (.list [R a, R b]))) (.v (.lf (R a))) (.v (.lf (.list (G.map en)))) s5 s6 (.v (.lf (.int (k : Nat)))) s8 (.v (.lf (.int ((metM a b).2.1 : Nat)))) (.v (.lf (.list ((com a b).map en)))) s11 s12 s13 s14 s15 s16 s17 s18) = .nx (EL ns t (.v (.lf (.list [R a, R b]))) (.v (.lf (R a))) (.v (.lf (.list (G.map en)))) s5 s6 (.v (.lf (.int (k : Nat)))) s8 (.v (.lf (.int ((metM a b).2.1 : Nat)))) (.v (.lf (.list ((com a b).map en)))) s11 s12 s13 s14 s15 s16 s17 s18) := by
  have it := item_R hk
  have il := item_last (l := a) (by omega)
  have pl := place_is (c := c) ha la hk
  have pa := part_is (c := c) ha la hk
  have asd : Asc (a.drop k) := List.Pairwise.drop ha
  have wi := without_is (c := c) ha asd la (by simp; omega)
  rw [wo_drop ha k] at wi
  unfold en at pl pa
  have s1 := same_R (l := a.drop k) (by simp; omega)
  have s2 := same_R (l := a.take k) (by simp; omega)
  have c1 := cutF_R (l := a) (i := k)
  have c2 := cutT_R (l := a) (j := k)
  have e1 : decide ((k : Int) = (k : Nat)) = true := decide_eq_true rfl
  have ng : oNeg (.int 1) = some (.int (-1)) := rfl
  unfold kB
  simp -implicitDefEqProofs only [Mo.show_LS, Mo.view_LS, ↓Mo.bind_bn, ↓Mo.tos_tn, ↓Mo.sthen_sn, ↓Mo.sel_sl, Mo.bn_ok, Mo.bn_ex, Mo.tn_ok, Mo.tn_ex, Mo.sn_nx, Mo.sn_rt, Mo.sn_bk, Mo.sn_ct, Mo.sn_ex, Mo.sl_t, Mo.sl_f, Mo.vw_d, Mo.vw_w, Mo.vw_r, Mo.vwR_LS, Mo.vwR_io, Mo.vwR_lf, Mo.stays_d, Mo.stays_r, Mo.stays_t, Mo.varF_ap, Mo.varR_lf, Mo.varR_LS, Mo.varR_io, Mo.varR_ls, Mo.cF_ap, Mo.ofO_s, Mo.binV_s, Mo.bin2_ap, Mo.unV_s, Mo.un1_ap, Mo.fzE_d, Mo.fzE_r, Mo.fzR_LS, Mo.fzR_ls, Mo.fzs_n, Mo.fzs_c, Mo.vws_n, Mo.vws_c, Mo.vwsC_s, Mo.nilV_ap, Mo.stay1_t, Mo.consV_ap, Mo.okIf_T, Mo.tupF_ap, Mo.lstF_ap, Mo.frzO_ap, Mo.lfF_ap, Mo.callV_s, Mo.callF_ap, Mo.outV_r, Mo.outV_x, Mo.callD_ap, Mo.ixV_s, Mo.ixV_n, Mo.ixF_ap, Mo.noP_ap, Mo.intV_i, Mo.someP_ap, Mo.slV_s, Mo.slF_ap, Mo.boolV_b, Mo.boolF_ap, Mo.truW_s, Mo.truV_s, Mo.truF_ap, Mo.truD_b, Mo.truD_i, Mo.okB_ap, Mo.andF_ap, Mo.orF_ap, Mo.notF_ap, Mo.okV_ap, Mo.selV_b, Mo.andV_ap, Mo.orV_ap, Mo.ifF_ap, Mo.seqF_ap, Mo.nxF_ap, Mo.bkF_ap, Mo.retF_ap, Mo.exprF_ap, Mo.ofE_s, Mo.asgF_ap, Mo.asgE_ap, Mo.asgR_un, Mo.asgR_v, Mo.asgR_raw, Mo.setO_ap, Mo.ifS_ap, Mo.gNil_ap, Mo.nextE_s, Mo.gCons_ap, Mo.lsAt_ap, Mo.lsR_LS, Mo.lsR_io, Mo.lsR_ls, Mo.appF_ap, Mo.appG_s, Mo.appK_LS, Mo.okIf_le, Mo.okIf_lt, Mo.outS_nx, Mo.outS_rt, Mo.outS_ex, Mo.outI_rt, Mo.outI_nx, Mo.bTup_l, Mo.bTup_t, Mo.bInt_b, Mo.bInt_i, Mo.dropE_n, Mo.dropE_c, Mo.dropN_s, Mo.drop1R_un, Mo.drop1R_lf, Mo.restE_n, Mo.restE_c, Mo.restR_s, Mo.forF_ap, Mo.itV_s, Mo.itF_ap, Mo.argF_ap, Mo.items_l, Mo.items_t, Mo.yesF_ap, Mo.repO_ap, Mo.nilW_ap, Mo.consW_ap, Mo.parF_ap, Mo.parN_s, Mo.parE_n, Mo.parE_c, Mo.ioK_v, Mo.ioK_io, Mo.ioH_s, Mo.ioG_s, Mo.ioArg_r, Mo.joinF_ap, Mo.insF_ap, Mo.insG_s, Mo.insArg_s, Mo.insH_s, Mo.extF_ap, Mo.extG_s, Mo.extH_s, Mo.tryF_ap, Mo.tryK_nx, Mo.tryK_rt, Mo.tryK_ex, Mo.raiseF_ap, Mo.lr2F_ap, Mo.lr1F_ap, Mo.lrPi_ap, Mo.okI_tr, oAdd_i, oSub_i, oLt_i, oLe_i, oGt_i, oGe_i, oEq_i, oNe_i, len_S, List.getElem?_cons_zero, List.getElem?_cons_succ, List.set_cons_zero, List.set_cons_succ, List.map_cons, List.map_nil, List.replicate_succ, List.replicate_zero, List.cons_append, List.nil_append, List.length_cons, List.length_nil, Nat.reduceLeDiff, Nat.reduceAdd, Nat.reduceSub, Nat.zero_le, Nat.add_one_sub_one, Nat.sub_self, Nat.zero_add, decide_true, decide_false, Bool.not_true, Bool.not_false, Bool.and_self, Bool.true_and, Bool.and_true, it, il, ng, pl, pa, wi, c1, c2, s1, s2, e1]
theorem t11_is {a b G : List Nat} (ha : Asc a) (la : a.length ≤ 40) (l7 : Lt s7) : ∃ t7', t11 c (EL ns t (.v (.lf (.list [R a, R b]))) (.v (.lf (R a))) (.v (.lf (.list (G.map en)))) s5 s6 s7 s8 (.v (.lf (.int ((metM a b).2.1 : Nat)))) (.v (.lf (.list ((com a b).map en)))) s11 s12 s13 s14 s15 s16 s17 s18) = .nx (EL ns t (.v (.lf (.list [R a, R b]))) (.v (.lf (R a))) (.v (.lf (.list (G.map en)))) s5 s6 (t7') s8 (.v (.lf (.int ((metM a b).2.1 : Nat)))) (.v (.lf (.list ((com a b).map en)))) s11 s12 s13 s14 s15 s16 s17 s18) := by
  have key := forGo_inv (ρ := (EL ns t (.v (.lf (.list [R a, R b]))) (.v (.lf (R a))) (.v (.lf (.list (G.map en)))) s5 s6 s7 s8 (.v (.lf (.int ((metM a b).2.1 : Nat)))) (.v (.lf (.list ((com a b).map en)))) s11 s12 s13 s14 s15 s16 s17 s18)) (tg := asgE 7) (b := kB c) (items := rngD 0 a.length) (fun _ ρ => ∃ u7, Lt u7 ∧ ρ = (EL ns t (.v (.lf (.list [R a, R b]))) (.v (.lf (R a))) (.v (.lf (.list (G.map en)))) s5 s6 (u7) s8 (.v (.lf (.int ((metM a b).2.1 : Nat)))) (.v (.lf (.list ((com a b).map en)))) s11 s12 s13 s14 s15 s16 s17 s18))
    ⟨s7, l7, rfl⟩ fun k hk ρ hp => by
      obtain ⟨u7, m7, e⟩ := hp
      subst e
      rw [rngD_len] at hk
      refine ⟨(EL ns t (.v (.lf (.list [R a, R b]))) (.v (.lf (R a))) (.v (.lf (.list (G.map en)))) s5 s6 (.v (.lf (.int (k : Nat)))) s8 (.v (.lf (.int ((metM a b).2.1 : Nat)))) (.v (.lf (.list ((com a b).map en)))) s11 s12 s13 s14 s15 s16 s17 s18), _, ?_, .inl (kB_is ha la hk), .v (.lf (.int (k : Nat))), .v, rfl⟩
      rw [rngD_get]
      rcases m7 with rfl | ⟨_, rfl⟩ <;> rfl
  obtain ⟨ρ', e1, t7', q7, e2⟩ := key
  refine ⟨t7', ?_⟩
  subst e2
  have r1 := rg1_n (n := a.length) (by omega)
  have ar : argF rg1 (consV true (callF bLen (consV true (varF 3) nilV)) nilV) (EL ns t (.v (.lf (.list [R a, R b]))) (.v (.lf (R a))) (.v (.lf (.list (G.map en)))) s5 s6 s7 s8 (.v (.lf (.int ((metM a b).2.1 : Nat)))) (.v (.lf (.list ((com a b).map en)))) s11 s12 s13 s14 s15 s16 s17 s18) = .ok (rngD 0 a.length) (EL ns t (.v (.lf (.list [R a, R b]))) (.v (.lf (R a))) (.v (.lf (.list (G.map en)))) s5 s6 s7 s8 (.v (.lf (.int ((metM a b).2.1 : Nat)))) (.v (.lf (.list ((com a b).map en)))) s11 s12 s13 s14 s15 s16 s17 s18) := by
    simp -implicitDefEqProofs only [Mo.show_LS, Mo.view_LS, ↓Mo.bind_bn, ↓Mo.tos_tn, ↓Mo.sthen_sn, ↓Mo.sel_sl, Mo.bn_ok, Mo.bn_ex, Mo.tn_ok, Mo.tn_ex, Mo.sn_nx, Mo.sn_rt, Mo.sn_bk, Mo.sn_ct, Mo.sn_ex, Mo.sl_t, Mo.sl_f, Mo.vw_d, Mo.vw_w, Mo.vw_r, Mo.vwR_LS, Mo.vwR_io, Mo.vwR_lf, Mo.stays_d, Mo.stays_r, Mo.stays_t, Mo.varF_ap, Mo.varR_lf, Mo.varR_LS, Mo.varR_io, Mo.varR_ls, Mo.cF_ap, Mo.ofO_s, Mo.binV_s, Mo.bin2_ap, Mo.unV_s, Mo.un1_ap, Mo.fzE_d, Mo.fzE_r, Mo.fzR_LS, Mo.fzR_ls, Mo.fzs_n, Mo.fzs_c, Mo.vws_n, Mo.vws_c, Mo.vwsC_s, Mo.nilV_ap, Mo.stay1_t, Mo.consV_ap, Mo.okIf_T, Mo.tupF_ap, Mo.lstF_ap, Mo.frzO_ap, Mo.lfF_ap, Mo.callV_s, Mo.callF_ap, Mo.outV_r, Mo.outV_x, Mo.callD_ap, Mo.ixV_s, Mo.ixV_n, Mo.ixF_ap, Mo.noP_ap, Mo.intV_i, Mo.someP_ap, Mo.slV_s, Mo.slF_ap, Mo.boolV_b, Mo.boolF_ap, Mo.truW_s, Mo.truV_s, Mo.truF_ap, Mo.truD_b, Mo.truD_i, Mo.okB_ap, Mo.andF_ap, Mo.orF_ap, Mo.notF_ap, Mo.okV_ap, Mo.selV_b, Mo.andV_ap, Mo.orV_ap, Mo.ifF_ap, Mo.seqF_ap, Mo.nxF_ap, Mo.bkF_ap, Mo.retF_ap, Mo.exprF_ap, Mo.ofE_s, Mo.asgF_ap, Mo.asgE_ap, Mo.asgR_un, Mo.asgR_v, Mo.asgR_raw, Mo.setO_ap, Mo.ifS_ap, Mo.gNil_ap, Mo.nextE_s, Mo.gCons_ap, Mo.lsAt_ap, Mo.lsR_LS, Mo.lsR_io, Mo.lsR_ls, Mo.appF_ap, Mo.appG_s, Mo.appK_LS, Mo.okIf_le, Mo.okIf_lt, Mo.outS_nx, Mo.outS_rt, Mo.outS_ex, Mo.outI_rt, Mo.outI_nx, Mo.bTup_l, Mo.bTup_t, Mo.bInt_b, Mo.bInt_i, Mo.dropE_n, Mo.dropE_c, Mo.dropN_s, Mo.drop1R_un, Mo.drop1R_lf, Mo.restE_n, Mo.restE_c, Mo.restR_s, Mo.forF_ap, Mo.itV_s, Mo.itF_ap, Mo.argF_ap, Mo.items_l, Mo.items_t, Mo.yesF_ap, Mo.repO_ap, Mo.nilW_ap, Mo.consW_ap, Mo.parF_ap, Mo.parN_s, Mo.parE_n, Mo.parE_c, Mo.ioK_v, Mo.ioK_io, Mo.ioH_s, Mo.ioG_s, Mo.ioArg_r, Mo.joinF_ap, Mo.insF_ap, Mo.insG_s, Mo.insArg_s, Mo.insH_s, Mo.extF_ap, Mo.extG_s, Mo.extH_s, Mo.tryF_ap, Mo.tryK_nx, Mo.tryK_rt, Mo.tryK_ex, Mo.raiseF_ap, Mo.lr2F_ap, Mo.lr1F_ap, Mo.lrPi_ap, Mo.okI_tr, oAdd_i, oSub_i, oLt_i, oLe_i, oGt_i, oGe_i, oEq_i, oNe_i, len_S, List.getElem?_cons_zero, List.getElem?_cons_succ, List.set_cons_zero, List.set_cons_succ, List.map_cons, List.map_nil, List.replicate_succ, List.replicate_zero, List.cons_append, List.nil_append, List.length_cons, List.length_nil, Nat.reduceLeDiff, Nat.reduceAdd, Nat.reduceSub, Nat.zero_le, Nat.add_one_sub_one, Nat.sub_self, Nat.zero_add, decide_true, decide_false, Bool.not_true, Bool.not_false, Bool.and_self, Bool.true_and, Bool.and_true, len_R, r1]
  have e7 : t11 c = forF (argF rg1 (consV true (callF bLen (consV true (varF 3) nilV)) nilV)) (asgE 7) (kB c) := by
    unfold t11 kB
    rfl
  rw [e7]
  refine (show forF _ _ _ _ = (argF rg1 (consV true (callF bLen (consV true (varF 3) nilV)) nilV) (EL ns t (.v (.lf (.list [R a, R b]))) (.v (.lf (R a))) (.v (.lf (.list (G.map en)))) s5 s6 s7 s8 (.v (.lf (.int ((metM a b).2.1 : Nat)))) (.v (.lf (.list ((com a b).map en)))) s11 s12 s13 s14 s15 s16 s17 s18)).tos fun is ρ1 => forGo (asgE 7) (kB c) is ρ1 from rfl).trans ?_
  rw [ar]
  exact e1
end
end K88

/-! Li88: the plain law. -/
namespace K88
open PySem PySem.Spec PyProof.Rows L2 Mo
theorem seq_as (f g h : Mo.Env → SRes) (ρ : Mo.Env) : seqF f (seqF g h) ρ = seqF (seqF f g) h ρ := by
  unfold seqF
  cases f ρ <;> rfl
theorem plain : Plain := by
  intro c ns hl
  have st : (Slot.raw ns :: List.replicate 18 Slot.un) = [.raw ns, .un, .un, .un, .un, .un, .un, .un, .un, .un, .un, .un, .un, .un, .un, .un, .un, .un, .un] := rfl
  have first := first_is (ρ := [.raw ns, .un, .un, .un, .un, .un, .un, .un, .un, .un, .un, .un, .un, .un, .un, .un, .un, .un, .un]) (ns := ns) rfl rfl hl
  have s1 : ([.raw ns, .un, .un, .un, .un, .un, .un, .un, .un, .un, .un, .un, .un, .un, .un, .un, .un, .un, .un] : Mo.Env).set 1 (.v (T 0 0 ns 1)) = (EL ns (T 0 0 ns 1) (.un) (.un) (.un) (.un) (.un) (.un) (.un) (.un) (.un) (.un) (.un) (.un) (.un) (.un) (.un) (.un) (.un)) := rfl
  rw [s1] at first
  obtain ⟨a, b, t, ha, hb, la, lb, ba, bb, p2⟩ := rows_is (c := c) (ns := ns) (t := T 0 0 ns 1) (s2 := .un) (s3 := .un) (s4 := .un) (s5 := .un) (s6 := .un) (s7 := .un) (s8 := .un) (s9 := .un) (s10 := .un) (s11 := .un) (s12 := .un) (s13 := .un) (s14 := .un) (s15 := .un) (s16 := .un) (s17 := .un) (s18 := .un) (St.zero ns) (by omega) .un
  have p3 := row0_is (c := c) (ns := ns) (t := t) (a := a) (b := b) (s3 := .un) (s4 := .un) (s5 := .un) (s6 := .un) (s7 := .un) (s8 := .un) (s9 := .un) (s10 := .un) (s11 := .un) (s12 := .un) (s13 := .un) (s14 := .un) (s15 := .un) (s16 := .un) (s17 := .un) (s18 := .un) .un
  obtain ⟨G, _, p4⟩ := goals_is (c := c) (ns := ns) (t := t) (a := a) (b := b) (s4 := .un) (s5 := .un) (s6 := .un) (s7 := .un) (s8 := .un) (s9 := .un) (s10 := .un) (s11 := .un) (s12 := .un) (s13 := .un) (s14 := .un) (s15 := .un) (s16 := .un) (s17 := .un) (s18 := .un) la .un .un
  obtain ⟨t5', t8, t9, t13, t14, q5, q8, q9, q13, q14, p5⟩ := all_is (c := c) (ns := ns) (t := t) (a := a) (b := b) (G := G) (s5 := .un) (s6 := .un) (s7 := .un) (s8 := .un) (s9 := .un) (s10 := .un) (s11 := .un) (s12 := .un) (s13 := .un) (s14 := .un) (s15 := .un) (s16 := .un) (s17 := .un) (s18 := .un) ha la .un .un .un .un .un .un
  obtain ⟨t6', t15, t16, t17, q6, q15, q16, q17, p67⟩ := met_law (c := c) (ns := ns) (t := t) (a := a) (b := b) (G := G) (s5 := t5') (s6 := .un) (s7 := .un) (s8 := t8) (s9 := t9) (s10 := .un) (s11 := .un) (s12 := .un) (s13 := t13) (s14 := t14) (s15 := .un) (s16 := .un) (s17 := .un) (s18 := .un) la lb .un q9 .un .un .un .un .un .un
  rw [(met_ok ha hb la lb).1] at p67
  have p8 := t8_is (c := c) (ns := ns) (t := t) (a := a) (b := b) (G := G) (s5 := t5') (s6 := t6') (s7 := .un) (s8 := t8) (s11 := .v (.lf (.int ((metM a b).2.2.1 : Nat)))) (s12 := .v (.lf (.int ((metM a b).2.2.2 : Nat)))) (s13 := t13) (s14 := t14) (s15 := t15) (s16 := t16) (s17 := t17) (s18 := .un) ha hb la lb
  have p9 := t9_is (c := c) (ns := ns) (t := t) (a := a) (b := b) (G := G) (s5 := t5') (s6 := t6') (s7 := .un) (s8 := t8) (s11 := .v (.lf (.int ((metM a b).2.2.1 : Nat)))) (s12 := .v (.lf (.int ((metM a b).2.2.2 : Nat)))) (s13 := t13) (s14 := t14) (s15 := t15) (s16 := t16) (s17 := t17) (s18 := .un) ha hb la lb .un
  have p10 := t10_is (c := c) (ns := ns) (t := t) (a := a) (b := b) (G := G) (s5 := t5') (s6 := t6') (s7 := .un) (s8 := t8) (s11 := .v (.lf (.int ((metM a b).2.2.1 : Nat)))) (s12 := .v (.lf (.int ((metM a b).2.2.2 : Nat)))) (s13 := t13) (s14 := t14) (s15 := t15) (s16 := t16) (s17 := t17) (s18 := .un) ha hb la lb ba
  obtain ⟨t7', p11⟩ := t11_is (c := c) (ns := ns) (t := t) (a := a) (b := b) (G := G) (s5 := t5') (s6 := t6') (s7 := .un) (s8 := t8) (s11 := .v (.lf (.int ((metM a b).2.2.1 : Nat)))) (s12 := .v (.lf (.int ((metM a b).2.2.2 : Nat)))) (s13 := t13) (s14 := t14) (s15 := t15) (s16 := t16) (s17 := t17) (s18 := .un) ha la .un
  refine ⟨(EL ns t (.v (.lf (.list [R a, R b]))) (.v (.lf (R a))) (.v (.lf (.list (G.map en)))) (t5') (t6') (t7') (t8) (.v (.lf (.int ((metM a b).2.1 : Nat)))) (.v (.lf (.list ((com a b).map en)))) (.v (.lf ((.int ((metM a b).2.2.1 : Nat))))) (.v (.lf ((.int ((metM a b).2.2.2 : Nat))))) (t13) (t14) (t15) (t16) (t17) (.un)), ?_⟩
  rw [st, law_eq]
  unfold t1
  rw [seqF_ap, first, sthen_nx, seqF_ap, p2, sthen_nx, seqF_ap, p3, sthen_nx, seqF_ap, p4, sthen_nx, seqF_ap, p5, sthen_nx, seq_as, seqF_ap, p67, sthen_nx, seqF_ap, p8, sthen_nx, seqF_ap, p9, sthen_nx, seqF_ap, p10, sthen_nx, seqF_ap, p11, sthen_nx]
  exact t12_is
end K88

open PySem PySem.W PyProof.Rows
set_option maxHeartbeats 0 in
theorem PySem.Challenge.cw_foundalways_k88_whole_seeks_from_all_pla_holds : PySem.Challenge.rw_foundalways_k88_whole_seeks_from_all_pla.Holds := by
  w_on; o_law; k_head; (case hw => w_witness2)
  k_fill
  refine Mo.walk_tabs (l := PySem.Challenge.rw_foundalways_k88_whole_seeks_from_all_pla) (n := 63) (k := 6) (x := "script") (CX := fun _ => L2.CX0) rfl (by decide) rfl ⟨rfl, by decide, by decide⟩ (fun w h Y => PySem.W.kIn_of Y) ?F (fun _ _ _ _ _ h => h)
  case F =>
    intro w mg fa h KX G hmg own
    refine' K88.all_mk K88.plain KX G hmg own ?a0 ?l0 ?c0 ?k0 ?a1 ?l1 ?c1 ?k1 ?a2 ?l2 ?c2 ?k2 ?a3 ?l3 ?c3 ?k3 ?a4 ?l4 ?c4 ?k4 ?a5 ?l5 ?c5 ?k5 ?a6 ?l6 ?c6 ?k6 ?a7 ?l7 ?c7 ?k7 ?a8 ?l8 ?c8 ?k8 ?a9 ?l9 ?c9 ?k9 ?a10 ?l10 ?c10 ?k10 ?a11 ?l11 ?c11 ?k11 ?a12 ?l12 ?c12 ?k12 ?a13 ?l13 ?c13 ?k13 ?z0 ?z1 ?z2 ?z3 ?z4 ?z5 ?z6 ?z7 ?z8 ?z9 ?z10 ?z11 ?xa0 ?xk0 ?xx0 ?xh0 ?xt0 ?xi0 ?xs0 ?ta0 ?tb0 ?tc0 ?td0 ?te0 ?tf0
    (case a0 => k_is); (case l0 => k_is); (case c0 => k_is); (case k0 => k_is); (case a1 => k_is); (case l1 => k_is); (case c1 => k_is); (case k1 => k_is); (case a2 => k_is); (case l2 => k_is); (case c2 => k_is); (case k2 => k_is); (case a3 => k_is); (case l3 => k_is); (case c3 => k_is); (case k3 => k_is); (case a4 => k_is); (case l4 => k_is); (case c4 => k_is); (case k4 => k_is); (case a5 => k_is); (case l5 => k_is); (case c5 => k_is); (case k5 => k_is); (case a6 => k_is); (case l6 => k_is); (case c6 => k_is); (case k6 => k_is); (case a7 => k_is); (case l7 => k_is); (case c7 => k_is); (case k7 => k_is); (case a8 => k_is); (case l8 => k_is); (case c8 => k_is); (case k8 => k_is); (case a9 => k_is); (case l9 => k_is); (case c9 => k_is); (case k9 => k_is); (case a10 => k_is); (case l10 => k_is); (case c10 => k_is); (case k10 => k_is); (case a11 => k_is); (case l11 => k_is); (case c11 => k_is); (case k11 => k_is); (case a12 => k_is); (case l12 => k_is); (case c12 => k_is); (case k12 => k_is); (case a13 => k_is); (case l13 => k_is); (case c13 => k_is); (case k13 => k_is); (case z0 => k_is); (case z1 => k_is); (case z2 => k_is); (case z3 => k_is); (case z4 => k_is); (case z5 => k_is); (case z6 => k_is); (case z7 => k_is); (case z8 => k_is); (case z9 => k_is); (case z10 => k_is); (case z11 => k_is); (case xa0 => k_is); (case xk0 => k_is); (case xx0 => k_exc); (case xh0 => k_is); (case xt0 => k_is); (case xi0 => k_is); (case xs0 => first | rfl | k_is); (case ta0 => first | rfl | k_is); (case tb0 => first | k_is | rfl | decide +kernel); (case tc0 => first | rfl | k_is); (case td0 => first | k_is | rfl | decide +kernel); (case te0 => first | k_is | rfl | decide +kernel); (case tf0 => first | decide +kernel | rfl | k_is)
