import PyProof.Rows.All
import Wide.All
import OpenK.AllK
import Wide.FinOn
import HandS.ForMost
import HandS.ForExc
import HandS.TryMany
import HandS.CallSlots
import HandS.Deep
import HandS.IsInst
import HandS.RevRange
import HandS.Rev
import HandS.StrMore
import HandS.TupSets
import HandS.SortInts
import HandS.DictTup
import HandS.TupLen
import HandS.Flow
import HandS.Small
import HandS.SetKeys
import KE.DataEq
import HandS.Conv
import PySem.Challenge.RW_twonests_k03_whole_seats
set_option Elab.async false
set_option linter.all false
set_option maxRecDepth 100000
set_option maxHeartbeats 4000000
namespace Tn
/-! Growth of the heap over data that stays; data of values; what a reading evaluates to. -/
open PySem PySem.Spec PyProof.Rows L2
/-! ### the heap H, and what of it stays for ever, G -/
def Ex (H H' : Hp) : Prop := ∀ a o, H a = some o → H' a = some o
theorem Ex.refl (H : Hp) : Ex H H := fun _ _ e => e
theorem Ex.trans {H H1 H2 : Hp} (a : Ex H H1) (b : Ex H1 H2) : Ex H H2 := fun _ _ e => b _ _ (a _ _ e)
theorem Ex.new {H : Hp} {p : Addr} {o : HO} (h : H p = none) : Ex H (upd H p o) := fun a u e => by
  rw [upd_ne (ne_of_none e h)]
  exact e
def isTp : HO → Bool
  | .tup _ => true
  | _ => false
/-- G grows to G', H to H'; only the objects at M may change; of what stood, tuples alone are met later -/
structure Gr (M : List Addr) (G H G' H' : Hp) : Prop where
  g : Ex G G'
  s : Ex G' H'
  n : ∀ b o, H b = some o → isTp o = false → G b = none → G' b = none
  h : ∀ b o, b ∉ M → H b = some o → H' b = some o
  a : ∀ b o, H b = some o → ∃ o', H' b = some o' ∧ (isTp o = false → isTp o' = false)
theorem Gr.refl {G H : Hp} (e : Ex G H) (M : List Addr) : Gr M G H G H := ⟨Ex.refl G, e, fun _ _ _ _ e => e, fun _ _ _ e => e, fun _ o e => ⟨o, e, fun z => z⟩⟩
theorem Gr.trans {M : List Addr} {G H G1 H1 G2 H2 : Hp} (x : Gr M G H G1 H1) (y : Gr M G1 H1 G2 H2) : Gr M G H G2 H2 :=
  ⟨x.g.trans y.g, y.s, fun b o e t q => by
    obtain ⟨o', e', t'⟩ := x.a b o e
    exact y.n b o' e' (t' t) (x.n b o e t q), fun b o m e => y.h b o m (x.h b o m e), fun b o e => by
    obtain ⟨o', e', t'⟩ := x.a b o e
    obtain ⟨o2, e2, t2⟩ := y.a b o' e'
    exact ⟨o2, e2, fun z => t2 (t' z)⟩⟩
theorem Gr.wide {M M' : List Addr} {G H G' H' : Hp} (x : Gr M G H G' H') (h : ∀ b ∈ M, b ∈ M') : Gr M' G H G' H' :=
  ⟨x.g, x.s, x.n, fun b o m e => x.h b o (fun q => m (h b q)) e, x.a⟩
theorem Gr.to {M : List Addr} {G H G' H' : Hp} (x : Gr [] G H G' H') : Gr M G H G' H' := x.wide fun _ q => nomatch q
theorem Gr.hx {G H G' H' : Hp} (x : Gr [] G H G' H') : Ex H H' := fun b o e => x.h b o (List.not_mem_nil) e
theorem Gr.fresh {M : List Addr} {G H G' H' : Hp} (x : Gr M G H G' H') {p : Addr} (h : H' p = none) : H p = none := by
  cases e : H p with
  | none => rfl
  | some o =>
    obtain ⟨o', e', _⟩ := x.a p o e
    rw [h] at e'
    cases e'
/-- a new object that may change later -/
theorem Gr.newM {G H : Hp} {p : Addr} {o : HO} (b : Ex G H) (h : H p = none) : Gr [] G H G (upd H p o) :=
  ⟨Ex.refl G, b.trans (Ex.new h), fun _ _ _ _ e => e, fun _ _ _ e => Ex.new h _ _ e, fun _ u e => ⟨u, Ex.new h _ _ e, fun z => z⟩⟩
theorem ex_none {G H : Hp} (b : Ex G H) {p : Addr} (h : H p = none) : G p = none := by
  cases e : G p with
  | none => rfl
  | some o =>
    have := b _ _ e
    rw [h] at this
    cases this
/-- a new object that stays -/
theorem Gr.newD {G H : Hp} {p : Addr} {o : HO} (b : Ex G H) (h : H p = none) : Gr [] G H (upd G p o) (upd H p o) :=
  ⟨Ex.new (ex_none b h), fun a u e => by
    by_cases q : a = p
    · subst q
      rw [upd_same] at e ⊢
      exact e
    · rw [upd_ne q] at e ⊢
      exact b _ _ e, fun a u e _ q => by
    rw [upd_ne (ne_of_none e h)]
    exact q, fun _ _ _ e => Ex.new h _ _ e, fun _ u e => ⟨u, Ex.new h _ _ e, fun z => z⟩⟩
/-- the object at l changes -/
theorem Gr.mut {G H : Hp} {l : Addr} {o : HO} (b : Ex G H) (h : G l = none) (t : isTp o = false) : Gr [l] G H G (upd H l o) :=
  ⟨Ex.refl G, fun a u e => by
    have q : a ≠ l := fun z => by
      rw [z, h] at e
      cases e
    rw [upd_ne q]
    exact b _ _ e, fun _ _ _ _ e => e, fun a u m e => by
    have q : a ≠ l := fun z => m (by rw [z]; exact List.mem_singleton.mpr rfl)
    rw [upd_ne q]
    exact e, fun a u e => by
    by_cases q : a = l
    · exact ⟨o, by rw [q, upd_same], fun _ => t⟩
    · exact ⟨u, by rw [upd_ne q]; exact e, fun z => z⟩⟩
/-- what changed by now stays -/
theorem Gr.fix {M : List Addr} {G H G' H' : Hp} {p : Addr} {o : HO} (x : Gr M G H G' H') (n : H p = none) (e : H' p = some o) (q : G' p = none) : Gr M G H (upd G' p o) H' :=
  ⟨x.g.trans (Ex.new q), fun a u w => by
    by_cases z : a = p
    · rw [z, upd_same] at w
      rw [z, e]
      exact w
    · rw [upd_ne z] at w
      exact x.s _ _ w, fun b o' w t z => by
    rw [upd_ne (ne_of_none w n)]
    exact x.n b o' w t z, x.h, x.a⟩
/-- tuples that stood are met -/
theorem Gr.meet {G H : Hp} (e : Ex G H) (P : Addr → Prop) [DecidablePred P] (h : ∀ b, P b → ∃ xs, H b = some (.tup xs)) : Gr [] G H (fun b => if P b then H b else G b) H :=
  ⟨fun a u w => by
    by_cases z : P a
    · show (if P a then H a else G a) = some u
      rw [if_pos z]
      exact e _ _ w
    · show (if P a then H a else G a) = some u
      rw [if_neg z]
      exact w, fun a u w => by
    have w' : (if P a then H a else G a) = some u := w
    by_cases z : P a
    · rw [if_pos z] at w'
      exact w'
    · rw [if_neg z] at w'
      exact e _ _ w', fun b o w t n => by
    show (if P b then H b else G b) = none
    by_cases z : P b
    · obtain ⟨xs, q⟩ := h b z
      rw [q] at w
      cases w
      cases t
    · rw [if_neg z]
      exact n, fun _ _ _ w => w, fun _ u w => ⟨u, w, fun z => z⟩⟩
/-! ### the data that a value is -/
mutual
def Dt (G : Hp) : PyData → V → Prop
  | .none, v => v = .non
  | .bool b, v => v = .bl b
  | .int i, v => v = .int i
  | .str s, v => v = .str s
  | .list ds, v => ∃ a xs, v = .ref a ∧ G a = some (.lst xs) ∧ Dts G ds xs
  | .tuple ds, v => ∃ a xs, v = .ref a ∧ G a = some (.tup xs) ∧ Dts G ds xs
  | .dict _, _ => False
def Dts (G : Hp) : List PyData → List V → Prop
  | [], vs => vs = []
  | d :: ds, vs => ∃ x xs, vs = x :: xs ∧ Dt G d x ∧ Dts G ds xs
end
mutual
theorem Dt.mono {G G' : Hp} (e : Ex G G') : ∀ (d : PyData) {v : V}, Dt G d v → Dt G' d v
  | .none, _, h => h
  | .bool _, _, h => h
  | .int _, _, h => h
  | .str _, _, h => h
  | .list ds, v, h => by
    obtain ⟨a, xs, h1, h2, h3⟩ := h
    exact ⟨a, xs, h1, e _ _ h2, Dts.mono e ds h3⟩
  | .tuple ds, v, h => by
    obtain ⟨a, xs, h1, h2, h3⟩ := h
    exact ⟨a, xs, h1, e _ _ h2, Dts.mono e ds h3⟩
  | .dict _, _, h => h
theorem Dts.mono {G G' : Hp} (e : Ex G G') : ∀ (ds : List PyData) {vs : List V}, Dts G ds vs → Dts G' ds vs
  | [], _, h => h
  | d :: ds, vs, h => by
    obtain ⟨x, xs, h1, h2, h3⟩ := h
    exact ⟨x, xs, h1, Dt.mono e d h2, Dts.mono e ds h3⟩
end
mutual
theorem Dt.dp {G H : Hp} {K : PySem.W.Frag} (e : Ex G H) : ∀ (d : PyData) {v : V}, Dt G d v → Dp K H v d
  | .none, _, h => by cases h; exact .non
  | .bool _, _, h => by cases h; exact .bl _
  | .int _, _, h => by cases h; exact .int _
  | .str _, _, h => by cases h; exact .str _
  | .list ds, v, h => by
    obtain ⟨a, xs, rfl, h2, h3⟩ := h
    exact .lst (SqL.of (e _ _ h2)) (Dts.dp e ds h3)
  | .tuple ds, v, h => by
    obtain ⟨a, xs, rfl, h2, h3⟩ := h
    exact .tup (SqT.of (e _ _ h2)) (Dts.dp e ds h3)
  | .dict _, _, h => h.elim
theorem Dts.dp {G H : Hp} {K : PySem.W.Frag} (e : Ex G H) : ∀ (ds : List PyData) {vs : List V}, Dts G ds vs → DpAll K H vs ds
  | [], _, h => by cases h; exact .nil
  | d :: ds, vs, h => by
    obtain ⟨x, xs, rfl, h2, h3⟩ := h
    exact .cons (Dt.dp e d h2) (Dts.dp e ds h3)
end
theorem Dt.gr {M : List Addr} {G H G' H' : Hp} {d : PyData} {v : V} (g : Gr M G H G' H') (h : Dt G d v) : Dt G' d v := Dt.mono g.g d h
theorem Dts.len {G : Hp} : ∀ {ds : List PyData} {vs : List V}, Dts G ds vs → vs.length = ds.length
  | [], _, h => by cases h; rfl
  | d :: ds, vs, h => by
    obtain ⟨x, xs, rfl, _, h3⟩ := h
    simp [Dts.len h3]
theorem Dts.get {G : Hp} : ∀ {ds : List PyData} {vs : List V} {i : Nat} {d : PyData}, Dts G ds vs → ds[i]? = some d → ∃ v, vs[i]? = some v ∧ Dt G d v
  | [], _, i, _, _, e => by simp at e
  | d :: ds, vs, 0, _, h, e => by
    obtain ⟨x, xs, rfl, h2, h3⟩ := h
    simp at e
    subst e
    exact ⟨x, rfl, h2⟩
  | d :: ds, vs, i + 1, _, h, e => by
    obtain ⟨x, xs, rfl, h2, h3⟩ := h
    simp at e
    obtain ⟨v, q1, q2⟩ := Dts.get h3 e
    exact ⟨v, by simpa using q1, q2⟩
theorem Dts.get' {G : Hp} : ∀ {ds : List PyData} {vs : List V} {i : Nat} {v : V}, Dts G ds vs → vs[i]? = some v → ∃ d, ds[i]? = some d ∧ Dt G d v
  | [], _, i, _, h, e => by cases h; simp at e
  | d :: ds, vs, 0, _, h, e => by
    obtain ⟨x, xs, rfl, h2, h3⟩ := h
    simp at e
    subst e
    exact ⟨d, rfl, h2⟩
  | d :: ds, vs, i + 1, _, h, e => by
    obtain ⟨x, xs, rfl, h2, h3⟩ := h
    simp at e
    obtain ⟨d', q1, q2⟩ := Dts.get' h3 e
    exact ⟨d', by simpa using q1, q2⟩
theorem Dts.app {G : Hp} : ∀ {ds es : List PyData} {vs ws : List V}, Dts G ds vs → Dts G es ws → Dts G (ds ++ es) (vs ++ ws)
  | [], _, _, _, h, k => by cases h; exact k
  | d :: ds, es, vs, ws, h, k => by
    obtain ⟨x, xs, rfl, h2, h3⟩ := h
    exact ⟨x, xs ++ ws, rfl, h2, Dts.app h3 k⟩
theorem Dts.snoc {G : Hp} {ds : List PyData} {vs : List V} {d : PyData} {v : V} (h : Dts G ds vs) (k : Dt G d v) : Dts G (ds ++ [d]) (vs ++ [v]) :=
  h.app ⟨v, [], rfl, k, rfl⟩
theorem Dts.drop {G : Hp} : ∀ {ds : List PyData} {vs : List V} (n : Nat), Dts G ds vs → Dts G (ds.drop n) (vs.drop n)
  | [], _, n, h => by cases h; simp [Dts]
  | d :: ds, vs, 0, h => h
  | d :: ds, vs, n + 1, h => by
    obtain ⟨x, xs, rfl, h2, h3⟩ := h
    exact Dts.drop n h3
theorem Dts.take {G : Hp} : ∀ {ds : List PyData} {vs : List V} (n : Nat), Dts G ds vs → Dts G (ds.take n) (vs.take n)
  | [], _, n, h => by cases h; simp [Dts]
  | d :: ds, vs, 0, h => by simp [Dts]
  | d :: ds, vs, n + 1, h => by
    obtain ⟨x, xs, rfl, h2, h3⟩ := h
    exact ⟨x, xs.take n, rfl, h2, Dts.take n h3⟩
theorem Dts.rev {G : Hp} : ∀ {ds : List PyData} {vs : List V}, Dts G ds vs → Dts G ds.reverse vs.reverse
  | [], _, h => by cases h; simp [Dts]
  | d :: ds, vs, h => by
    obtain ⟨x, xs, rfl, h2, h3⟩ := h
    simp only [List.reverse_cons]
    exact (Dts.rev h3).snoc h2
theorem Dts.ints {G : Hp} : ∀ (ns : List Int), Dts G (ns.map PyData.int) (ns.map V.int)
  | [] => rfl
  | n :: ns => ⟨_, _, rfl, rfl, Dts.ints ns⟩
theorem Dts.of_ints {G : Hp} : ∀ {ns : List Int} {vs : List V}, Dts G (ns.map PyData.int) vs → vs = ns.map V.int
  | [], _, h => h
  | n :: ns, _, h => by
    obtain ⟨x, xs, rfl, h2, h3⟩ := h
    rw [Dts.of_ints h3, h2]
    rfl
theorem Dts.strs {G : Hp} : ∀ (ns : List Str), Dts G (ns.map PyData.str) (ns.map V.str)
  | [] => rfl
  | n :: ns => ⟨_, _, rfl, rfl, Dts.strs ns⟩
theorem Dts.of_strs {G : Hp} : ∀ {ns : List Str} {vs : List V}, Dts G (ns.map PyData.str) vs → vs = ns.map V.str
  | [], _, h => h
  | n :: ns, _, h => by
    obtain ⟨x, xs, rfl, h2, h3⟩ := h
    rw [Dts.of_strs h3, h2]
    rfl
theorem Dts.mapGet {α : Type} {G : Hp} {enc : α → PyData} {xs : List α} {vs : List V} {i : Nat} {v : V} (h : Dts G (xs.map enc) vs) (e : vs[i]? = some v) : ∃ x, xs[i]? = some x ∧ Dt G (enc x) v := by
  obtain ⟨d, q1, q2⟩ := h.get' e
  rw [List.getElem?_map] at q1
  cases z : xs[i]? with
  | none => rw [z] at q1; cases q1
  | some x =>
    rw [z] at q1
    cases q1
    exact ⟨x, rfl, q2⟩
/-! ### what evaluates to what -/
def EvD (te : TE) (σ : L2.St) (G H : Hp) (d : PyData) : Prop := ∀ G1 H1, Gr [] G H G1 H1 → ∀ Q : VK, (∀ v G2 H2, Gr [] G1 H1 G2 H2 → Dt G2 d v → Q v H2) → te σ H1 Q
def EvV (te : TE) (σ : L2.St) (G H : Hp) (v : V) : Prop := ∀ G1 H1, Gr [] G H G1 H1 → ∀ Q : VK, (∀ G2 H2, Gr [] G1 H1 G2 H2 → Q v H2) → te σ H1 Q
/-- a new list, still its maker's own -/
def EvL (te : TE) (σ : L2.St) (G H : Hp) (ds : List PyData) : Prop := ∀ G1 H1, Gr [] G H G1 H1 → ∀ Q : VK, (∀ p xs G2 H2, Gr [] G1 H1 G2 H2 → H1 p = none → G2 p = none → H2 p = some (.lst xs) → Dts G2 ds xs → Q (.ref p) H2) → te σ H1 Q
def EvT (tt : TT) (σ : L2.St) (G H : Hp) (b : Bool) : Prop := ∀ G1 H1, Gr [] G H G1 H1 → ∀ Q : Bool → Hp → Prop, (∀ G2 H2, Gr [] G1 H1 G2 H2 → Q b H2) → tt σ H1 Q
/-- an argument: data, or the object at a -/
inductive FD where
  | dat (d : PyData) | obj (v : V)
def Fd (G : Hp) : FD → V → Prop
  | .dat d, v => Dt G d v
  | .obj u, v => v = u
def Fds (G : Hp) : List FD → List V → Prop
  | [], vs => vs = []
  | d :: ds, vs => ∃ x xs, vs = x :: xs ∧ Fd G d x ∧ Fds G ds xs
theorem Fd.mono {G G' : Hp} (e : Ex G G') : ∀ (d : FD) {v : V}, Fd G d v → Fd G' d v
  | .dat d, _, h => Dt.mono e d h
  | .obj _, _, h => h
theorem Fds.mono {G G' : Hp} (e : Ex G G') : ∀ (ds : List FD) {vs : List V}, Fds G ds vs → Fds G' ds vs
  | [], _, h => h
  | d :: ds, vs, h => by
    obtain ⟨x, xs, h1, h2, h3⟩ := h
    exact ⟨x, xs, h1, Fd.mono e d h2, Fds.mono e ds h3⟩
def EvA (ta : TA) (σ : L2.St) (G H : Hp) (ds : List FD) : Prop := ∀ G1 H1, Gr [] G H G1 H1 → ∀ Q : List V → Hp → Prop, (∀ vs G2 H2, Gr [] G1 H1 G2 H2 → Fds G2 ds vs → Q vs H2) → ta σ H1 Q
section
variable {σ : L2.St} {G H G' H' : Hp} {ta tb te tx : TE} {t u : TT} {v : V} {d d1 d2 : PyData} {b : Bool}
theorem EvD.gr (g : Gr [] G H G' H') (h : EvD te σ G H d) : EvD te σ G' H' d := fun G1 H1 g1 Q q => h G1 H1 (g.trans g1) Q q
theorem EvV.gr (g : Gr [] G H G' H') (h : EvV te σ G H v) : EvV te σ G' H' v := fun G1 H1 g1 Q q => h G1 H1 (g.trans g1) Q q
theorem EvL.gr {ds : List PyData} (g : Gr [] G H G' H') (h : EvL te σ G H ds) : EvL te σ G' H' ds := fun G1 H1 g1 Q q => h G1 H1 (g.trans g1) Q q
theorem EvT.gr (g : Gr [] G H G' H') (h : EvT t σ G H b) : EvT t σ G' H' b := fun G1 H1 g1 Q q => h G1 H1 (g.trans g1) Q q
theorem EvA.gr {ta : TA} {ds : List FD} (g : Gr [] G H G' H') (h : EvA ta σ G H ds) : EvA ta σ G' H' ds := fun G1 H1 g1 Q q => h G1 H1 (g.trans g1) Q q
theorem EvV.dat (h : EvV te σ G H v) (k : Dt G d v) : EvD te σ G H d := fun G1 H1 g Q q => h G1 H1 g Q fun G2 H2 g2 => q v G2 H2 g2 (Dt.mono (g.g.trans g2.g) d k)
theorem EvD.int {i : Int} (h : EvD te σ G H (.int i)) : EvV te σ G H (.int i) := fun G1 H1 g Q q => h G1 H1 g Q fun v G2 H2 g2 e => by cases e; exact q G2 H2 g2
theorem EvD.str {i : Str} (h : EvD te σ G H (.str i)) : EvV te σ G H (.str i) := fun G1 H1 g Q q => h G1 H1 g Q fun v G2 H2 g2 e => by cases e; exact q G2 H2 g2
theorem EvD.bl {i : Bool} (h : EvD te σ G H (.bool i)) : EvV te σ G H (.bl i) := fun G1 H1 g Q q => h G1 H1 g Q fun v G2 H2 g2 e => by cases e; exact q G2 H2 g2
theorem EvD.is {e : PyData} (h : EvD te σ G H d) (q : d = e) : EvD te σ G H e := q ▸ h
theorem EvT.is {c : Bool} (h : EvT t σ G H b) (q : b = c) : EvT t σ G H c := q ▸ h
theorem EvL.dat {ds : List PyData} (h : EvL te σ G H ds) : EvD te σ G H (.list ds) := fun G1 H1 g Q q => h G1 H1 g Q fun p xs G2 H2 g2 n q2 e k =>
  q (.ref p) (upd G2 p (.lst xs)) H2 (g2.fix n e q2) ⟨p, xs, rfl, upd_same, Dts.mono (Ex.new q2) ds k⟩
theorem ev_var {i : Nat} (h : σ[i]? = some (some v)) : EvV (tVar i) σ G H v := fun G1 H1 g Q q => ⟨v, h, q G1 H1 (Gr.refl g.s [])⟩
theorem ev_c : EvV (tC v) σ G H v := fun G1 H1 g Q q => q G1 H1 (Gr.refl g.s [])
/-- a two-place operation on data -/
def BinR (r : R2) (d1 d2 d : PyData) : Prop := ∀ (G H : Hp) (x y : V), Ex G H → Dt G d1 x → Dt G d2 y → ∀ Q : VK, (∀ v G2 H2, Gr [] G H G2 H2 → Dt G2 d v → Q v H2) → r x y H Q
theorem ev_bin {r : R2} (ha : EvD ta σ G H d1) (hb : EvD tb σ G H d2) (hr : BinR r d1 d2 d) : EvD (tOp r ta tb) σ G H d := fun G1 H1 g Q q =>
  ha G1 H1 g _ fun x G2 H2 g2 e1 => hb G2 H2 (g.trans g2) _ fun y G3 H3 g3 e2 => hr G3 H3 x y g3.s (Dt.mono g3.g d1 e1) e2 Q fun v G4 H4 g4 e => q v G4 H4 ((g2.trans g3).trans g4) e
def UnR1 (r : V → Hp → VK → Prop) (d1 d : PyData) : Prop := ∀ (G H : Hp) (x : V), Ex G H → Dt G d1 x → ∀ Q : VK, (∀ v G2 H2, Gr [] G H G2 H2 → Dt G2 d v → Q v H2) → r x H Q
theorem ev_un {r : V → Hp → VK → Prop} (ha : EvD ta σ G H d1) (hr : UnR1 r d1 d) : EvD (tUn r ta) σ G H d := fun G1 H1 g Q q =>
  ha G1 H1 g _ fun x G2 H2 g2 e1 => hr G2 H2 x g2.s e1 Q fun v G4 H4 g4 e => q v G4 H4 (g2.trans g4) e
theorem et_test (h : EvD te σ G H (.bool b)) : EvT (tTest te) σ G H b := fun G1 H1 g Q q => h G1 H1 g _ fun v G2 H2 g2 e => ⟨b, e, q G2 H2 g2⟩
theorem et_B (h : EvD te σ G H (.bool b)) : EvT (tB te) σ G H b := fun G1 H1 g Q q => h G1 H1 g _ fun v G2 H2 g2 e => ⟨b, e, q G2 H2 g2⟩
theorem et_and {c : Bool} (h1 : EvT t σ G H b) (h2 : b = true → EvT u σ G H c) : EvT (tAnd t u) σ G H (b && c) := fun G1 H1 g Q q =>
  h1 G1 H1 g _ fun G2 H2 g2 => by
    cases b with
    | false => exact iteF (q G2 H2 g2)
    | true => exact iteT (h2 rfl G2 H2 (g.trans g2) _ fun G3 H3 g3 => by simpa using q G3 H3 (g2.trans g3))
theorem et_or {c : Bool} (h1 : EvT t σ G H b) (h2 : b = false → EvT u σ G H c) : EvT (tOr t u) σ G H (b || c) := fun G1 H1 g Q q =>
  h1 G1 H1 g _ fun G2 H2 g2 => by
    cases b with
    | true => exact iteT (q G2 H2 g2)
    | false => exact iteF (h2 rfl G2 H2 (g.trans g2) _ fun G3 H3 g3 => by simpa using q G3 H3 (g2.trans g3))
theorem et_not (h : EvT t σ G H b) : EvT (tNot t) σ G H (!b) := fun G1 H1 g Q q => h G1 H1 g _ fun G2 H2 g2 => q G2 H2 g2
theorem ev_andV {c : Bool} (h1 : EvD ta σ G H (.bool b)) (h2 : b = true → EvD tb σ G H (.bool c)) : EvD (tAndV ta tb) σ G H (.bool (b && c)) := fun G1 H1 g Q q =>
  h1 G1 H1 g _ fun v G2 H2 g2 e => ⟨b, e, by
    cases b with
    | false => exact iteF (q _ G2 H2 g2 rfl)
    | true => exact iteT (h2 rfl G2 H2 (g.trans g2) _ fun v G3 H3 g3 e => q v G3 H3 (g2.trans g3) (by simpa using e))⟩
theorem ev_orV {c : Bool} (h1 : EvD ta σ G H (.bool b)) (h2 : b = false → EvD tb σ G H (.bool c)) : EvD (tOrV ta tb) σ G H (.bool (b || c)) := fun G1 H1 g Q q =>
  h1 G1 H1 g _ fun v G2 H2 g2 e => ⟨b, e, by
    cases b with
    | true => exact iteT (q _ G2 H2 g2 rfl)
    | false => exact iteF (h2 rfl G2 H2 (g.trans g2) _ fun v G3 H3 g3 e => q v G3 H3 (g2.trans g3) (by simpa using e))⟩
theorem ev_notV (h1 : EvD ta σ G H (.bool b)) : EvD (tNotV ta) σ G H (.bool (!b)) := fun G1 H1 g Q q =>
  h1 G1 H1 g _ fun v G2 H2 g2 e => ⟨b, e, q _ G2 H2 g2 rfl⟩
theorem ea_nil : EvA tNil σ G H [] := fun G1 H1 g Q q => q [] G1 H1 (Gr.refl g.s []) rfl
theorem ea_dat {tr : TA} {ds : List FD} (h : EvD ta σ G H d) (hr : EvA tr σ G H ds) : EvA (tCons ta tr) σ G H (.dat d :: ds) := fun G1 H1 g Q q =>
  h G1 H1 g _ fun v G2 H2 g2 e => hr G2 H2 (g.trans g2) _ fun vs G3 H3 g3 k => q (v :: vs) G3 H3 (g2.trans g3) ⟨v, vs, rfl, Dt.mono g3.g d e, k⟩
theorem ea_obj {tr : TA} {ds : List FD} (h : EvV ta σ G H v) (hr : EvA tr σ G H ds) : EvA (tCons ta tr) σ G H (.obj v :: ds) := fun G1 H1 g Q q =>
  h G1 H1 g _ fun G2 H2 g2 => hr G2 H2 (g.trans g2) _ fun vs G3 H3 g3 k => q (v :: vs) G3 H3 (g2.trans g3) ⟨v, vs, rfl, rfl, k⟩
/-- data alone -/
def datL (ds : List PyData) : List FD := ds.map FD.dat
theorem fds_dat : ∀ {ds : List PyData} {vs : List V}, Fds G (datL ds) vs → Dts G ds vs
  | [], _, h => h
  | d :: ds, vs, h => by
    obtain ⟨x, xs, h1, h2, h3⟩ := h
    exact ⟨x, xs, h1, h2, fds_dat h3⟩
theorem ev_tup {tA : TA} {ds : List PyData} (h : EvA tA σ G H (datL ds)) (hl : ds.length ≤ 1000) : EvD (tTup tA) σ G H (.tuple ds) := fun G1 H1 g Q q =>
  h G1 H1 g _ fun vs G2 H2 g2 k => by
    have k' := fds_dat k
    refine ⟨by rw [k'.len, sizeLine_eq]; omega, fun p hp => ?_⟩
    exact q (.ref p) (upd G2 p (.tup vs)) _ (g2.trans (Gr.newD g2.s hp)) ⟨p, vs, rfl, upd_same, Dts.mono (Ex.new (ex_none g2.s hp)) ds k'⟩
theorem ev_lst {tA : TA} {ds : List PyData} (h : EvA tA σ G H (datL ds)) (hl : ds.length ≤ 1000) : EvL (tLst tA) σ G H ds := fun G1 H1 g Q q =>
  h G1 H1 g _ fun vs G2 H2 g2 k => by
    have k' := fds_dat k
    refine ⟨by rw [k'.len, sizeLine_eq]; omega, fun p hp => ?_⟩
    exact q p vs G2 _ (g2.trans (Gr.newM g2.s hp)) (g2.fresh hp) (ex_none g2.s hp) upd_same k'
end

/-! Operations on data: readings, their rules, what they answer. -/
theorem sz {n : Nat} (h : n ≤ 1000000) : n ≤ sizeLine := by rw [sizeLine_eq]; omega
theorem szl {n : Nat} (h : n ≤ 1000000) : n < sizeLine := by rw [sizeLine_eq]; omega
/-! ### arithmetic -/
def rAddU : R2 := fun x y H Q => (∃ i j, x = .int i ∧ y = .int j ∧ Q (.int (i + j)) H) ∨ (∃ i j, x = .str i ∧ y = .str j ∧ i.length + j.length ≤ sizeLine ∧ Q (.str (i ++ j)) H) ∨ rCat x y H Q
def rSubU : R2 := rI0 fun i j => .int (i - j)
def rMulU : R2 := fun x y H Q => rI CMul (fun i j => .int (i * j)) x y H Q ∨ rRep x y H Q
def rModU : R2 := rI (fun _ j => 0 < j) fun i j => .int (i % j)
def rDivU : R2 := rI CDiv fun i j => .int (i / j)
def rPowU : R2 := rI CPow fun i j => .int (i ^ j.toNat)
def rNegU : V → Hp → VK → Prop := rU fun i => .int (-i)
section
variable {X : Cx}
theorem o_add : OpR X (binaryOp .Add) rAddU := OpR.or op_add (OpR.or op_add_str op_cat)
theorem o_sub : OpR X (binaryOp .Sub) rSubU := op_sub
theorem o_mul : OpR X (binaryOp .Mult) rMulU := OpR.or op_mul op_rep
theorem o_mod : OpR X (binaryOp .Mod) rModU := op_mod
theorem o_div : OpR X (binaryOp .FloorDiv) rDivU := op_fdiv
theorem o_pow : OpR X (binaryOp .Pow) rPowU := op_pow
theorem o_neg : UnR X (unaryOp .USub) rNegU := un_neg
end
theorem b_addI {i j : Int} : BinR rAddU (.int i) (.int j) (.int (i + j)) := fun G H x y b h1 h2 Q q => by
  cases h1; cases h2; exact .inl ⟨i, j, rfl, rfl, q _ G H (Gr.refl b []) rfl⟩
theorem b_addS {i j : Str} (h : i.length + j.length ≤ 1000000) : BinR rAddU (.str i) (.str j) (.str (i ++ j)) := fun G H x y b h1 h2 Q q => by
  cases h1; cases h2; exact .inr (.inl ⟨i, j, rfl, rfl, sz h, q _ G H (Gr.refl b []) rfl⟩)
theorem b_addL {ds es : List PyData} (h : ds.length + es.length ≤ 1000000) : BinR rAddU (.list ds) (.list es) (.list (ds ++ es)) := fun G H x y b h1 h2 Q q => by
  obtain ⟨a, xs, rfl, e1, k1⟩ := h1
  obtain ⟨c, ys, rfl, e2, k2⟩ := h2
  refine .inr (.inr ⟨a, c, xs, ys, rfl, rfl, b _ _ e1, b _ _ e2, by rw [k1.len, k2.len]; exact sz h, fun p hp => ?_⟩)
  exact q _ (upd G p (.lst (xs ++ ys))) _ (Gr.newD b hp) ⟨p, xs ++ ys, rfl, upd_same, Dts.mono (Ex.new (ex_none b hp)) _ (k1.app k2)⟩
theorem b_sub {i j : Int} : BinR rSubU (.int i) (.int j) (.int (i - j)) := fun G H x y b h1 h2 Q q => by
  cases h1; cases h2; exact ⟨i, j, rfl, rfl, q _ G H (Gr.refl b []) rfl⟩
theorem b_mul {i j : Int} (h : CMul i j) : BinR rMulU (.int i) (.int j) (.int (i * j)) := fun G H x y b h1 h2 Q q => by
  cases h1; cases h2; exact .inl ⟨i, j, rfl, rfl, h, q _ G H (Gr.refl b []) rfl⟩
theorem b_mod {i j : Int} (h : 0 < j) : BinR rModU (.int i) (.int j) (.int (i % j)) := fun G H x y b h1 h2 Q q => by
  cases h1; cases h2; exact ⟨i, j, rfl, rfl, h, q _ G H (Gr.refl b []) rfl⟩
theorem b_div {i j : Int} (h : 0 < j ∧ j < 1073741824) : BinR rDivU (.int i) (.int j) (.int (i / j)) := fun G H x y b h1 h2 Q q => by
  cases h1; cases h2; exact ⟨i, j, rfl, rfl, h, q _ G H (Gr.refl b []) rfl⟩
theorem b_pow {i j : Int} (h : CPow i j) : BinR rPowU (.int i) (.int j) (.int (i ^ j.toNat)) := fun G H x y b h1 h2 Q q => by
  cases h1; cases h2; exact ⟨i, j, rfl, rfl, h, q _ G H (Gr.refl b []) rfl⟩
theorem u_neg {i : Int} : UnR1 rNegU (.int i) (.int (-i)) := fun G H x b h1 Q q => by
  cases h1; exact ⟨i, rfl, q _ G H (Gr.refl b []) rfl⟩
/-! ### comparisons -/
/-- no dict within, not deep -/
def okD (d : PyData) : Bool := d.plain && Nat.ble d.depth 20
def okA (ds : List PyData) : Bool := PyData.plainAll ds && Nat.ble (PyData.depthAll ds) 20
theorem okD_of {d : PyData} (h : okD d = true) : d.plain = true ∧ d.depth ≤ 20 := by
  unfold okD at h
  rw [Bool.and_eq_true] at h
  exact ⟨h.1, Nat.le_of_ble_eq_true h.2⟩
theorem okA_of {d : List PyData} (h : okA d = true) : PyData.plainAll d = true ∧ PyData.depthAll d ≤ 20 := by
  unfold okA at h
  rw [Bool.and_eq_true] at h
  exact ⟨h.1, Nat.le_of_ble_eq_true h.2⟩
def rEqU (K : PySem.W.Frag) : R2 := fun x y H Q => ∃ d e, Dp K H x d ∧ Dp K H y e ∧ okD d = true ∧ okD e = true ∧ Q (.bl (PyData.eqv d e)) H
def rNeU (K : PySem.W.Frag) : R2 := fun x y H Q => ∃ d e, Dp K H x d ∧ Dp K H y e ∧ okD d = true ∧ okD e = true ∧ Q (.bl (!PyData.eqv d e)) H
def rLtU : R2 := fun x y H Q => rI0 (fun i j => .bl (decide (i < j))) x y H Q ∨ (∃ i j, x = .str i ∧ y = .str j ∧ Q (.bl (decide (i.cps.toList < j.cps.toList))) H)
def rLeU : R2 := fun x y H Q => rI0 (fun i j => .bl (decide (i ≤ j))) x y H Q ∨ (∃ i j, x = .str i ∧ y = .str j ∧ Q (.bl (!decide (j.cps.toList < i.cps.toList))) H)
def rGtU : R2 := fun x y H Q => rI0 (fun i j => .bl (decide (j < i))) x y H Q ∨ (∃ i j, x = .str i ∧ y = .str j ∧ Q (.bl (decide (j.cps.toList < i.cps.toList))) H)
def rGeU : R2 := fun x y H Q => rI0 (fun i j => .bl (decide (j ≤ i))) x y H Q ∨ (∃ i j, x = .str i ∧ y = .str j ∧ Q (.bl (!decide (i.cps.toList < j.cps.toList))) H)
def rIsU : R2 := fun x y H Q => y = .non ∧ Q (.bl (decide (x = .non))) H
def rIsNU : R2 := fun x y H Q => y = .non ∧ Q (.bl (!decide (x = .non))) H
/-- x in a list or tuple of data, in a dict, one sign in a text -/
def rInU (K : PySem.W.Frag) (neg : Bool) : R2 := fun x y H Q =>
  (∃ d ds, Dp K H x d ∧ (Dp K H y (.list ds) ∨ Dp K H y (.tuple ds)) ∧ okD d = true ∧ okA ds = true ∧ Q (.bl (xor neg (ds.any fun z => PyData.eqv z d))) H) ∨
  (∃ a o, y = .ref a ∧ DGet H a x o ∧ Q (.bl (xor neg o.isSome)) H) ∨
  (∃ (c : Nat) (z : Str), x = .str ⟨#[c]⟩ ∧ y = .str z ∧ Q (.bl (xor neg (decide (c ∈ z.cps.toList)))) H) ∨
  (∃ i j : Str, x = .str i ∧ y = .str j ∧ Q (.bl (xor neg (!(Builtin.Str.occurrences j i 0 j.length 1).isEmpty))) H)
section
variable {X : Cx}
theorem o_eq (hu : X.A.units + 64 < cLine) : OpR X (compareOp .Eq) (rEqU X.K) := by
  intro pins s σ H x y v u Q I rx ry h
  obtain ⟨d, e, hd, he, sd, se, q⟩ := h
  obtain ⟨as, r1⟩ := Dp.reads I d x v hd rx
  obtain ⟨bs, r2⟩ := Dp.reads I e y u he ry
  have := (okD_of sd).2
  exact SeqAt.eq_plain r1 r2 (okD_of sd).1 (okD_of se).1 (by omega) ⟨.bl _, H, I, rfl, q⟩
theorem o_ne (hu : X.A.units + 64 < cLine) : OpR X (compareOp .NotEq) (rNeU X.K) := by
  intro pins s σ H x y v u Q I rx ry h
  obtain ⟨d, e, hd, he, sd, se, q⟩ := h
  obtain ⟨as, r1⟩ := Dp.reads I d x v hd rx
  obtain ⟨bs, r2⟩ := Dp.reads I e y u he ry
  have := (okD_of sd).2
  exact SeqAt.ne_plain r1 r2 (okD_of sd).1 (okD_of se).1 (by omega) ⟨.bl _, H, I, rfl, q⟩
theorem o_lt : OpR X (compareOp .Lt) rLtU := OpR.or op_lt op_lt_str
theorem o_le : OpR X (compareOp .LtE) rLeU := OpR.or op_le op_le_str
theorem o_gt : OpR X (compareOp .Gt) rGtU := OpR.or op_gt op_gt_str
theorem o_ge : OpR X (compareOp .GtE) rGeU := OpR.or op_ge op_ge_str
theorem o_is : OpR X (compareOp .Is) rIsU := op_isN
theorem o_isn : OpR X (compareOp .IsNot) rIsNU := op_notN
theorem o_in (hu : X.A.units + 64 < cLine) : OpR X (compareOp .In) (rInU X.K false) := by
  intro pins s σ H x y v u Q I rx ry h
  rcases h with ⟨d, ds, hd, he, sd, se, q⟩ | ⟨a, o, rfl, g, q⟩ | h | h
  · obtain ⟨as, r1⟩ := Dp.reads I d x v hd rx
    have := (okD_of sd).2
    rw [Bool.false_xor] at q
    rcases he with he | he
    · obtain ⟨bs, r2⟩ := Dp.reads I (.list ds) y u he ry
      exact SeqAt.in_list_data r2 r1 (okA_of se).1 (okD_of sd).1 (by omega) ⟨.bl _, H, I, rfl, q⟩
    · obtain ⟨bs, r2⟩ := Dp.reads I (.tuple ds) y u he ry
      exact SeqAt.in_tuple_data r2 r1 (okA_of se).1 (okD_of sd).1 (by omega) ⟨.bl _, H, I, rfl, q⟩
  · cases ry
    rw [Bool.false_xor] at q
    exact d_in (by omega) I g rx fun s' I' => ⟨.bl _, H, I', rfl, q⟩
  · simp only [Bool.false_xor] at h
    exact op_in_sign pins s σ H x y v u Q I rx ry h
  · simp only [Bool.false_xor] at h
    exact op_in_str pins s σ H x y v u Q I rx ry h
theorem o_notin (hu : X.A.units + 64 < cLine) : OpR X (compareOp .NotIn) (rInU X.K true) := by
  intro pins s σ H x y v u Q I rx ry h
  rcases h with ⟨d, ds, hd, he, sd, se, q⟩ | ⟨a, o, rfl, g, q⟩ | h | h
  · obtain ⟨as, r1⟩ := Dp.reads I d x v hd rx
    have := (okD_of sd).2
    rw [Bool.true_xor] at q
    rcases he with he | he
    · obtain ⟨bs, r2⟩ := Dp.reads I (.list ds) y u he ry
      exact SeqAt.notIn_list_data r2 r1 (okA_of se).1 (okD_of sd).1 (by omega) ⟨.bl _, H, I, rfl, q⟩
    · obtain ⟨bs, r2⟩ := Dp.reads I (.tuple ds) y u he ry
      exact SeqAt.notIn_tuple_data r2 r1 (okA_of se).1 (okD_of sd).1 (by omega) ⟨.bl _, H, I, rfl, q⟩
  · cases ry
    rw [Bool.true_xor] at q
    exact d_notIn (by omega) I g rx fun s' I' => ⟨.bl _, H, I', rfl, q⟩
  · simp only [Bool.true_xor] at h
    exact op_notIn_sign pins s σ H x y v u Q I rx ry h
  · simp only [Bool.true_xor] at h
    exact op_notin_str pins s σ H x y v u Q I rx ry h
end
section
variable {K : PySem.W.Frag}
theorem b_eq {d e : PyData} (h1 : okD d = true) (h2 : okD e = true) : BinR (rEqU K) d e (.bool (PyData.eqv d e)) := fun G H x y b k1 k2 Q q =>
  ⟨d, e, Dt.dp b d k1, Dt.dp b e k2, h1, h2, q _ G H (Gr.refl b []) rfl⟩
theorem b_ne {d e : PyData} (h1 : okD d = true) (h2 : okD e = true) : BinR (rNeU K) d e (.bool (!PyData.eqv d e)) := fun G H x y b k1 k2 Q q =>
  ⟨d, e, Dt.dp b d k1, Dt.dp b e k2, h1, h2, q _ G H (Gr.refl b []) rfl⟩
theorem b_lt {i j : Int} : BinR rLtU (.int i) (.int j) (.bool (decide (i < j))) := fun G H x y b h1 h2 Q q => by
  cases h1; cases h2; exact .inl ⟨i, j, rfl, rfl, q _ G H (Gr.refl b []) rfl⟩
theorem b_le {i j : Int} : BinR rLeU (.int i) (.int j) (.bool (decide (i ≤ j))) := fun G H x y b h1 h2 Q q => by
  cases h1; cases h2; exact .inl ⟨i, j, rfl, rfl, q _ G H (Gr.refl b []) rfl⟩
theorem b_gt {i j : Int} : BinR rGtU (.int i) (.int j) (.bool (decide (j < i))) := fun G H x y b h1 h2 Q q => by
  cases h1; cases h2; exact .inl ⟨i, j, rfl, rfl, q _ G H (Gr.refl b []) rfl⟩
theorem b_ge {i j : Int} : BinR rGeU (.int i) (.int j) (.bool (decide (j ≤ i))) := fun G H x y b h1 h2 Q q => by
  cases h1; cases h2; exact .inl ⟨i, j, rfl, rfl, q _ G H (Gr.refl b []) rfl⟩
theorem b_leS {i j : Str} : BinR rLeU (.str i) (.str j) (.bool (!decide (j.cps.toList < i.cps.toList))) := fun G H x y b h1 h2 Q q => by
  cases h1; cases h2; exact .inr ⟨i, j, rfl, rfl, q _ G H (Gr.refl b []) rfl⟩
def isNon : PyData → Bool
  | .none => true
  | _ => false
theorem dt_non {G : Hp} {d : PyData} {v : V} (h : Dt G d v) : decide (v = .non) = isNon d := by
  cases d with
  | none => cases h; rfl
  | bool b => cases h; rfl
  | int b => cases h; rfl
  | str b => cases h; rfl
  | list ds => obtain ⟨a, xs, rfl, _⟩ := h; rfl
  | tuple ds => obtain ⟨a, xs, rfl, _⟩ := h; rfl
  | dict _ => exact h.elim
theorem b_is {d : PyData} : BinR rIsU d .none (.bool (isNon d)) := fun G H x y b h1 h2 Q q => by
  cases h2; exact ⟨rfl, by rw [dt_non h1]; exact q _ G H (Gr.refl b []) rfl⟩
theorem b_isn {d : PyData} : BinR rIsNU d .none (.bool (!isNon d)) := fun G H x y b h1 h2 Q q => by
  cases h2; exact ⟨rfl, by rw [dt_non h1]; exact q _ G H (Gr.refl b []) rfl⟩
theorem b_inL {neg : Bool} {d : PyData} {ds : List PyData} (h1 : okD d = true) (h2 : okA ds = true) : BinR (rInU K neg) d (.list ds) (.bool (xor neg (ds.any fun z => PyData.eqv z d))) := fun G H x y b k1 k2 Q q =>
  .inl ⟨d, ds, Dt.dp b d k1, .inl (Dt.dp b _ k2), h1, h2, q _ G H (Gr.refl b []) rfl⟩
theorem b_inT {neg : Bool} {d : PyData} {ds : List PyData} (h1 : okD d = true) (h2 : okA ds = true) : BinR (rInU K neg) d (.tuple ds) (.bool (xor neg (ds.any fun z => PyData.eqv z d))) := fun G H x y b k1 k2 Q q =>
  .inl ⟨d, ds, Dt.dp b d k1, .inr (Dt.dp b _ k2), h1, h2, q _ G H (Gr.refl b []) rfl⟩
theorem b_inC {neg : Bool} {c : Nat} {z : Str} : BinR (rInU K neg) (.str ⟨#[c]⟩) (.str z) (.bool (xor neg (decide (c ∈ z.cps.toList)))) := fun G H x y b k1 k2 Q q => by
  cases k1; cases k2; exact .inr (.inr (.inl ⟨c, z, rfl, rfl, q _ G H (Gr.refl b []) rfl⟩))
theorem b_inS {neg : Bool} {i z : Str} : BinR (rInU K neg) (.str i) (.str z) (.bool (xor neg (!(Builtin.Str.occurrences z i 0 z.length 1).isEmpty))) := fun G H x y b k1 k2 Q q => by
  cases k1; cases k2; exact .inr (.inr (.inr ⟨i, z, rfl, rfl, q _ G H (Gr.refl b []) rfl⟩))
end
/-! ### subscripts, slices, built-in calls -/
section
variable {K : PySem.W.Frag}
theorem b_ixL {ds : List PyData} {i : Int} {d : PyData} (h : atI ds i = some d) : BinR (rIx K) (.list ds) (.int i) d := fun G H x y b k1 k2 Q q => by
  obtain ⟨a, xs, rfl, e1, k1⟩ := k1
  cases k2
  unfold atI at h
  cases z : ixN ds.length i with
  | none => rw [z] at h; cases h
  | some j =>
    rw [z] at h
    obtain ⟨v, hv, dv⟩ := k1.get (show ds[j]? = some d from h)
    refine .inl ⟨a, xs, i, v, rfl, rfl, SqL.of (b _ _ e1), ?_, q v G H (Gr.refl b []) dv⟩
    unfold atI
    rw [k1.len, z]
    exact hv
theorem b_ixT {ds : List PyData} {i : Int} {d : PyData} (h : atI ds i = some d) : BinR (rIx K) (.tuple ds) (.int i) d := fun G H x y b k1 k2 Q q => by
  obtain ⟨a, xs, rfl, e1, k1⟩ := k1
  cases k2
  unfold atI at h
  cases z : ixN ds.length i with
  | none => rw [z] at h; cases h
  | some j =>
    rw [z] at h
    obtain ⟨v, hv, dv⟩ := k1.get (show ds[j]? = some d from h)
    refine .inr (.inl ⟨a, xs, i, v, rfl, rfl, SqT.of (b _ _ e1), ?_, q v G H (Gr.refl b []) dv⟩)
    unfold atI
    rw [k1.len, z]
    exact hv
theorem b_ixS {s : Str} {i : Int} {c : Nat} (hl : s.length ≤ 1000000) (h : atI s.cps.toList i = some c) : BinR (rIx K) (.str s) (.int i) (.str ⟨#[c]⟩) := fun G H x y b k1 k2 Q q => by
  cases k1; cases k2
  exact .inr (.inr ⟨s, i, c, rfl, rfl, sz hl, h, q _ G H (Gr.refl b []) rfl⟩)
end
/-- a slice's part -/
def EvO (to : TO) (σ : L2.St) (G H : Hp) (o : Option Int) : Prop := ∀ G1 H1, Gr [] G H G1 H1 → ∀ Q : Option Int → Hp → Prop, (∀ G2 H2, Gr [] G1 H1 G2 H2 → Q o H2) → to σ H1 Q
def rSlU (K : PySem.W.Frag) : V → Option Int → Option Int → Hp → VK → Prop := fun x lo hi H Q => rSlL K x lo hi H Q ∨ rSlS x lo hi H Q
theorem o_sl {X : Cx} : SlR X (rSlU X.K) := SlR.or sl_list sl_str
def cutL {α : Type} (xs : List α) (lo hi : Option Int) : List α := (xs.drop (HT.sIx xs.length 0 lo)).take (HT.sIx xs.length xs.length hi - HT.sIx xs.length 0 lo)
section
variable {K : PySem.W.Frag} {σ : L2.St} {G H : Hp} {ta tb te : TE} {tl th : TO} {t : TA} {lo hi : Option Int}
theorem eo_none : EvO tNoPart σ G H none := fun G1 H1 g Q q => q G1 H1 (Gr.refl g.s [])
theorem eo_some {i : Int} (h : EvD te σ G H (.int i)) : EvO (tPart te) σ G H (some i) := fun G1 H1 g Q q => h G1 H1 g _ fun v G2 H2 g2 e => ⟨i, e, q G2 H2 g2⟩
theorem ev_slS {z : Str} (h : EvD te σ G H (.str z)) (h1 : EvO tl σ G H lo) (h2 : EvO th σ G H hi) (hz : z.length ≤ 1000000) : EvD (tSl (rSlU K) te tl th) σ G H (.str (cutS z lo hi)) := fun G1 H1 g Q q =>
  h G1 H1 g _ fun v G2 H2 g2 e => h1 G2 H2 (g.trans g2) _ fun G3 H3 g3 => h2 G3 H3 ((g.trans g2).trans g3) _ fun G4 H4 g4 => .inr ⟨z, e, sz hz, q _ G4 H4 ((g2.trans g3).trans g4) rfl⟩
theorem el_sl {ds : List PyData} (h : EvD te σ G H (.list ds)) (h1 : EvO tl σ G H lo) (h2 : EvO th σ G H hi) : EvL (tSl (rSlU K) te tl th) σ G H (cutL ds lo hi) := fun G1 H1 g Q q =>
  h G1 H1 g _ fun v G2 H2 g2 e => h1 G2 H2 (g.trans g2) _ fun G3 H3 g3 => h2 G3 H3 ((g.trans g2).trans g3) _ fun G4 H4 g4 => by
    obtain ⟨a, xs, rfl, e1, k1⟩ := e
    have gg := g3.trans g4
    refine .inl ⟨a, xs, rfl, SqL.of (gg.s _ _ (gg.g _ _ e1)), fun p hp => ?_⟩
    refine q p _ G4 _ ((g2.trans gg).trans (Gr.newM gg.s hp)) ((g2.trans gg).fresh hp) (ex_none gg.s hp) upd_same ?_
    unfold cutL cutV
    rw [k1.len]
    exact Dts.take _ (Dts.drop _ (Dts.mono gg.g _ k1))
/-- a built-in's call by values -/
def CbR (r : List V → Hp → VK → Prop) (ds : List FD) (G H : Hp) (d : PyData) : Prop := ∀ G1 H1, Gr [] G H G1 H1 → ∀ vs, Fds G1 ds vs → ∀ Q : VK, (∀ v G2 H2, Gr [] G1 H1 G2 H2 → Dt G2 d v → Q v H2) → r vs H1 Q
def CbL (r : List V → Hp → VK → Prop) (ds : List FD) (G H : Hp) (es : List PyData) : Prop := ∀ G1 H1, Gr [] G H G1 H1 → ∀ vs, Fds G1 ds vs → ∀ Q : VK, (∀ p xs G2 H2, Gr [] G1 H1 G2 H2 → H1 p = none → G2 p = none → H2 p = some (.lst xs) → Dts G2 es xs → Q (.ref p) H2) → r vs H1 Q
theorem ev_cb {r : List V → Hp → VK → Prop} {ds : List FD} {d : PyData} (h : EvA t σ G H ds) (hr : CbR r ds G H d) : EvD (tCB r t) σ G H d := fun G1 H1 g Q q =>
  h G1 H1 g _ fun vs G2 H2 g2 k => hr G2 H2 (g.trans g2) vs k Q fun v G3 H3 g3 e => q v G3 H3 (g2.trans g3) e
theorem el_cb {r : List V → Hp → VK → Prop} {ds : List FD} {es : List PyData} (h : EvA t σ G H ds) (hr : CbL r ds G H es) : EvL (tCB r t) σ G H es := fun G1 H1 g Q q =>
  h G1 H1 g _ fun vs G2 H2 g2 k => hr G2 H2 (g.trans g2) vs k Q fun p xs G3 H3 g3 n m e z => q p xs G3 H3 (g2.trans g3) (g2.fresh n) m e z
/-- len -/
def rLenU (K : PySem.W.Frag) : List V → Hp → VK → Prop := fun xs H Q => (∃ x n, xs = [x] ∧ LenV K x H n ∧ Q (.int n) H) ∨ rLenT xs H Q ∨ (∃ a kvs, xs = [V.ref a] ∧ H a = some (.dK kvs) ∧ Q (.int kvs.length) H)
theorem c_len {X : Cx} : CallR X (.builtin "len") (rLenU X.K) := CallR.or call_len (CallR.or call_len_dT call_lenD)
theorem r_lenS {s : Str} (h : s.length ≤ 1000000) : CbR (rLenU K) [.dat (.str s)] G H (.int s.length) := fun G1 H1 g vs k Q q => by
  obtain ⟨x, xs, rfl, e, k2⟩ := k
  cases k2
  cases e
  exact .inl ⟨_, s.length, rfl, ⟨sz h, rfl⟩, q _ G1 H1 (Gr.refl g.s []) rfl⟩
theorem r_lenL {ds : List PyData} : CbR (rLenU K) [.dat (.list ds)] G H (.int ds.length) := fun G1 H1 g vs k Q q => by
  obtain ⟨x, xs, rfl, e, k2⟩ := k
  cases k2
  obtain ⟨a, ys, rfl, e1, k1⟩ := e
  exact .inl ⟨_, ys.length, rfl, .inl ⟨ys, SqL.of (g.s _ _ e1), rfl⟩, by rw [k1.len]; exact q _ G1 H1 (Gr.refl g.s []) rfl⟩
theorem r_lenT {ds : List PyData} : CbR (rLenU K) [.dat (.tuple ds)] G H (.int ds.length) := fun G1 H1 g vs k Q q => by
  obtain ⟨x, xs, rfl, e, k2⟩ := k
  cases k2
  obtain ⟨a, ys, rfl, e1, k1⟩ := e
  exact .inl ⟨_, ys.length, rfl, .inr ⟨ys, SqT.of (g.s _ _ e1), rfl⟩, by rw [k1.len]; exact q _ G1 H1 (Gr.refl g.s []) rfl⟩
/-- isinstance(data, a built-in class) -/
def kindD : PyData → String
  | .none => "NoneType" | .bool _ => "bool" | .int _ => "int" | .str _ => "str" | .list _ => "list" | .tuple _ => "tuple" | .dict _ => "dict"
theorem dt_ty {d : PyData} {v : V} (b : Ex G H) (h : Dt G d v) : TyX K H v (.type (kindD d)) := by
  cases d with
  | none => cases h; exact .base .non
  | bool b => cases h; exact .base (.bl b)
  | int b => cases h; exact .base (.int b)
  | str b => cases h; exact .base (.str b)
  | list ds => obtain ⟨a, xs, rfl, e, _⟩ := h; exact .base (.lst (b _ _ e))
  | tuple ds => obtain ⟨a, xs, rfl, e, _⟩ := h; exact .base (.tup (b _ _ e))
  | dict _ => exact h.elim
theorem r_isi {d : PyData} {n : String} {b : Bool} (h : kitB (kindD d) n = some b) : CbR (rIsi K) [.dat d, .obj (.ty n)] G H (.bool b) := fun G1 H1 g vs k Q q => by
  obtain ⟨x, xs, rfl, e, y, ys, rfl, e2, k2⟩ := k
  cases k2
  cases e2
  exact ⟨x, .ty n, _, _, b, rfl, .ty n, dt_ty g.s e, kit_ty h, q _ G1 H1 (Gr.refl g.s []) rfl⟩
/-- a method of a text, by values -/
def tMtS (K : PySem.W.Frag) (r : L2.St → V → List V → Hp → VK → Prop) (to : TE) (t : TA) : TE := tBMS K "str" r to t
def MtD (r : L2.St → V → List V → Hp → VK → Prop) (σ : L2.St) (z : Str) (ds : List PyData) (d : PyData) : Prop := ∀ (G H : Hp) (vs : List V), Ex G H → Dts G ds vs → ∀ Q : VK, (∀ v G2 H2, Gr [] G H G2 H2 → Dt G2 d v → Q v H2) → r σ (.str z) vs H Q
theorem ev_mtS {r : L2.St → V → List V → Hp → VK → Prop} {z : Str} {ds : List PyData} {d : PyData} (h : EvD te σ G H (.str z)) (ha : EvA t σ G H (datL ds)) (hr : MtD r σ z ds d) : EvD (tMtS K r te t) σ G H d := fun G1 H1 g Q q =>
  h G1 H1 g _ fun v G2 H2 g2 e => by
    cases e
    exact ⟨rfl, ha G2 H2 (g.trans g2) _ fun vs G3 H3 g3 k => hr G3 H3 vs g3.s (fds_dat k) Q fun v G4 H4 g4 e => q v G4 H4 ((g2.trans g3).trans g4) e⟩
def rFindU : L2.St → V → List V → Hp → VK → Prop := fun _ x xs H Q => ∃ a b, x = .str a ∧ xs = [.str b] ∧ Q (.int (Txt.find a b)) H
theorem m_find {X : Cx} : MtS X "str.find" rFindU := mt_find.toS
theorem d_find {a b : Str} : MtD rFindU σ a [.str b] (.int (Txt.find a b)) := fun G H vs b' k Q q => by
  obtain ⟨x, xs, rfl, e, k2⟩ := k
  cases k2; cases e
  exact ⟨a, _, rfl, rfl, q _ G H (Gr.refl b' []) rfl⟩
def rIndexU (W : WX) : L2.St → V → List V → Hp → VK → Prop := rIndexX W
theorem m_index {X : Cx} {W : WX} (hc : X.calm = true) (tk : Takes X W) : MtS X "str.index" (rIndexU W) := mt_indexX hc tk
theorem d_index {W : WX} {a b : Str} {k : Nat} (h : Txt.index0 a b = some k) : MtD (rIndexU W) σ a [.str b] (.int k) := fun G H vs b' kk Q q => by
  obtain ⟨x, xs, rfl, e, k2⟩ := kk
  cases k2; cases e
  refine ⟨a, b, rfl, rfl, fun k' e => ?_, fun e => ?_⟩
  · rw [h] at e
    cases e
    exact q _ G H (Gr.refl b' []) rfl
  · rw [h] at e
    cases e
end
/-! ### calls of defs: the answer is data -/
def PurD (sp : Sp) (vs : List V) (G H : Hp) (d : PyData) : Prop := ∀ (Q : VK) (E : XK), (∀ v G2 H2, Gr [] G H G2 H2 → Dt G2 d v → Q v H2) → sp vs H Q E
def PurL (sp : Sp) (vs : List V) (G H : Hp) (ds : List PyData) : Prop := ∀ (Q : VK) (E : XK), (∀ p xs G2 H2, Gr [] G H G2 H2 → H p = none → G2 p = none → H2 p = some (.lst xs) → Dts G2 ds xs → Q (.ref p) H2) → sp vs H Q E
section
variable {σ : L2.St} {G H : Hp} {ta : TE} {t : TA} {sp : Sp} {E : XK} {ds : List FD} {d : PyData} {es : List PyData}
theorem ev_call (h : EvA t σ G H ds) (hs : ∀ G1 H1 vs, Gr [] G H G1 H1 → Fds G1 ds vs → PurD sp vs G1 H1 d) : EvD (tCall sp [] E t) σ G H d := fun G1 H1 g Q q =>
  h G1 H1 g _ fun vs G2 H2 g2 k => by
    rw [List.append_nil]
    exact hs G2 H2 vs (g.trans g2) k Q E fun v G3 H3 g3 e => q v G3 H3 (g2.trans g3) e
theorem el_call (h : EvA t σ G H ds) (hs : ∀ G1 H1 vs, Gr [] G H G1 H1 → Fds G1 ds vs → PurL sp vs G1 H1 es) : EvL (tCall sp [] E t) σ G H es := fun G1 H1 g Q q =>
  h G1 H1 g _ fun vs G2 H2 g2 k => by
    rw [List.append_nil]
    exact hs G2 H2 vs (g.trans g2) k Q E fun p xs G3 H3 g3 n m e z => q p xs G3 H3 (g2.trans g3) (g2.fresh n) m e z
end
/-! ### statements -/
section
variable {σ : L2.St} {G H : Hp} {te : TE} {t : TT} {tu tw tz : TS} {D : Ends} {d : PyData} {v : V} {b : Bool}
theorem q_asg {i : Nat} (e : Ex G H) (h : EvD te σ G H d) (k : ∀ v G2 H2, Gr [] G H G2 H2 → Dt G2 d v → tz D (σ.set i (some v)) H2) : tSeq (tAsg te (gName i)) tz D σ H :=
  h G H (Gr.refl e []) _ fun v G2 H2 g e => k v G2 H2 g e
theorem q_asgI {i : Nat} {n : Int} (e : Ex G H) (h : EvD te σ G H (.int n)) (k : ∀ G2 H2, Gr [] G H G2 H2 → tz D (σ.set i (some (.int n))) H2) : tSeq (tAsg te (gName i)) tz D σ H :=
  q_asg e h fun v G2 H2 g e => by cases e; exact k G2 H2 g
theorem q_asgS {i : Nat} {n : Str} (e : Ex G H) (h : EvD te σ G H (.str n)) (k : ∀ G2 H2, Gr [] G H G2 H2 → tz D (σ.set i (some (.str n))) H2) : tSeq (tAsg te (gName i)) tz D σ H :=
  q_asg e h fun v G2 H2 g e => by cases e; exact k G2 H2 g
theorem q_asgB {i : Nat} {n : Bool} (e : Ex G H) (h : EvD te σ G H (.bool n)) (k : ∀ G2 H2, Gr [] G H G2 H2 → tz D (σ.set i (some (.bl n))) H2) : tSeq (tAsg te (gName i)) tz D σ H :=
  q_asg e h fun v G2 H2 g e => by cases e; exact k G2 H2 g
theorem q_asgL {i : Nat} {ds : List PyData} (e : Ex G H) (h : EvL te σ G H ds) (k : ∀ p xs G2 H2, Gr [] G H G2 H2 → H p = none → G2 p = none → H2 p = some (.lst xs) → Dts G2 ds xs → tz D (σ.set i (some (.ref p))) H2) : tSeq (tAsg te (gName i)) tz D σ H :=
  h G H (Gr.refl e []) _ fun p xs G2 H2 g n m e z => k p xs G2 H2 g n m e z
theorem q_ret (e : Ex G H) (h : EvD te σ G H d) (k : ∀ v G2 H2, Gr [] G H G2 H2 → Dt G2 d v → D.rt v H2) : tSeq (tRet te) tz D σ H :=
  h G H (Gr.refl e []) _ fun v G2 H2 g e => k v G2 H2 g e
theorem q_retL {ds : List PyData} (e : Ex G H) (h : EvL te σ G H ds) (k : ∀ p xs G2 H2, Gr [] G H G2 H2 → H p = none → G2 p = none → H2 p = some (.lst xs) → Dts G2 ds xs → D.rt (.ref p) H2) : tSeq (tRet te) tz D σ H :=
  h G H (Gr.refl e []) _ fun p xs G2 H2 g n m e z => k p xs G2 H2 g n m e z
theorem q_drop (e : Ex G H) (h : EvD te σ G H d) (k : ∀ G2 H2, Gr [] G H G2 H2 → tz D σ H2) : tSeq (tDrop te) tz D σ H :=
  h G H (Gr.refl e []) _ fun v G2 H2 g e => k G2 H2 g
theorem q_if (e : Ex G H) (h : EvT t σ G H b) (h1 : b = true → ∀ G2 H2, Gr [] G H G2 H2 → tu { D with nx := tz D } σ H2) (h2 : b = false → ∀ G2 H2, Gr [] G H G2 H2 → tw { D with nx := tz D } σ H2) : tSeq (tIfS t tu tw) tz D σ H :=
  h G H (Gr.refl e []) _ fun G2 H2 g => by
    cases b with
    | true => exact iteT (h1 rfl G2 H2 g)
    | false => exact iteF (h2 rfl G2 H2 g)
/-- an if without else -/
theorem q_when (e : Ex G H) (h : EvT t σ G H b) (h1 : b = true → ∀ G2 H2, Gr [] G H G2 H2 → tu { D with nx := tz D } σ H2) (h2 : b = false → ∀ G2 H2, Gr [] G H G2 H2 → tz D σ H2) : tSeq (tIfS t tu tNext) tz D σ H :=
  q_if e h h1 h2
theorem q_next (h : D.nx σ H) : tNext D σ H := h
/-- if c: x = e, where e is an int -/
theorem q_ifSet {i : Nat} {n : Int} {te : TE} (e : Ex G H) (h : EvT t σ G H b) (h1 : b = true → EvD te σ G H (.int n)) (h2 : b = false → σ.set i (some (.int n)) = σ) (k : ∀ G2 H2, Gr [] G H G2 H2 → tz D (σ.set i (some (.int n))) H2) : tSeq (tIfS t (tSeq (tAsg te (gName i)) tNext) tNext) tz D σ H :=
  q_if e h (fun q G2 H2 g => q_asgI g.s ((h1 q).gr g) fun G3 H3 g3 => k G3 H3 (g.trans g3)) fun q G2 H2 g => by
    have := k G2 H2 g
    rw [h2 q] at this
    exact this
/-- if c: x = e, told by the data that x is behind it -/
theorem q_ifD {i : Nat} {te : TE} (e : Ex G H) (h : EvT t σ G H b) (h1 : b = true → EvD te σ G H d) (h2 : b = false → ∃ v, Dt G d v ∧ σ.set i (some v) = σ) (k : ∀ v G2 H2, Gr [] G H G2 H2 → Dt G2 d v → tz D (σ.set i (some v)) H2) : tSeq (tIfS t (tSeq (tAsg te (gName i)) tNext) tNext) tz D σ H :=
  q_if e h (fun q G2 H2 g => q_asg g.s ((h1 q).gr g) fun v G3 H3 g3 e => k v G3 H3 (g.trans g3) e) fun q G2 H2 g => by
    obtain ⟨v, dv, es⟩ := h2 q
    have := k v G2 H2 g (Dt.mono g.g _ dv)
    rw [es] at this
    exact this
/-- a word of the slots and both heaps, over what stood -/
def Wd (G0 H0 : Hp) (I : L2.St → Hp → Hp → Prop) : L2.St → Hp → Prop := fun σ H => ∃ G, Gr [] G0 H0 G H ∧ I σ G H
theorem q_forS {s : Str} {j : Nat} {te : TE} (I : Nat → L2.St → Hp → Hp → Prop) (e : Ex G H) (h : EvD te σ G H (.str s)) (h0 : ∀ G1 H1, Gr [] G H G1 H1 → I 0 σ G1 H1)
    (hs : ∀ i c σ' G1 H1, Gr [] G H G1 H1 → s.cps.toList[i]? = some c → I i σ' G1 H1 → tu { D with nx := Wd G1 H1 (I (i + 1)), ct := Wd G1 H1 (I (i + 1)), bk := tz D } (σ'.set j (some (.str ⟨#[c]⟩))) H1)
    (hd : ∀ σ' G1 H1, Gr [] G H G1 H1 → I s.cps.toList.length σ' G1 H1 → tz D σ' H1) : tSeq (tFor (iStr te) (gName j) tu) tz D σ H := by
  refine h G H (Gr.refl e []) _ fun v G2 H2 g e2 => ⟨s, e2, ?_⟩
  refine ⟨fun i m σ' H' => m = s.cps.size - i ∧ ∃ G', Gr [] G H G' H' ∧ I i σ' G' H' ∧ i ≤ s.cps.size, ⟨_, rfl, G2, g, h0 G2 H2 g, Nat.zero_le _⟩, ?_⟩
  rintro i m σ' H' ⟨rfl, G', g', w, hi⟩
  by_cases c : i < s.cps.size
  · refine .inr ⟨c, Wd G' H' (I (i + 1)), ?_, ?_⟩
    · rintro σ2 H2 ⟨G2, g2, w2⟩
      exact ⟨s.cps.size - (i + 1), by omega, rfl, G2, g'.trans g2, w2, c⟩
    · rintro x H'' ⟨rfl, ch, hc, rfl⟩
      exact hs i ch σ' G' H'' g' (by rw [Array.getElem?_toList]; exact hc) w
  · have e3 : i = s.cps.size := by omega
    subst e3
    exact .inl ⟨Nat.le_refl _, hd σ' G' H' g' (by rw [Array.length_toList]; exact w)⟩
theorem q_forR {n : Int} {j : Nat} {tA : TA} (I : Nat → L2.St → Hp → Hp → Prop) (e : Ex G H) (h : EvA tA σ G H (datL [.int n])) (hn : n ≤ 1000000) (hn0 : -1000000 ≤ n) (h0 : ∀ G1 H1, Gr [] G H G1 H1 → I 0 σ G1 H1)
    (hs : ∀ (i : Nat) σ' G1 H1, Gr [] G H G1 H1 → (i : Int) < n → I i σ' G1 H1 → tu { D with nx := Wd G1 H1 (I (i + 1)), ct := Wd G1 H1 (I (i + 1)), bk := tz D } (σ'.set j (some (.int (i : Int)))) H1)
    (hd : ∀ σ' G1 H1, Gr [] G H G1 H1 → I n.toNat σ' G1 H1 → tz D σ' H1) : tSeq (tFor (iRng1 tA) (gName j) tu) tz D σ H := by
  refine h G H (Gr.refl e []) _ fun vs G2 H2 g e2 => ?_
  have e2' := fds_dat e2
  obtain ⟨x, xs, rfl, e3, e4⟩ := e2'
  cases e4
  cases e3
  refine ⟨n, rfl, by omega, by omega, ?_⟩
  refine ⟨fun i m σ' H' => m = n.toNat - i ∧ ∃ G', Gr [] G H G' H' ∧ I i σ' G' H' ∧ i ≤ n.toNat, ⟨_, rfl, G2, g, h0 G2 H2 g, Nat.zero_le _⟩, ?_⟩
  rintro i m σ' H' ⟨rfl, G', g', w, hi⟩
  by_cases c : i < n.toNat
  · refine .inr ⟨c, Wd G' H' (I (i + 1)), ?_, ?_⟩
    · rintro σ2 H2 ⟨G2, g2, w2⟩
      exact ⟨n.toNat - (i + 1), by omega, rfl, G2, g'.trans g2, w2, c⟩
    · rintro x H'' ⟨rfl, rfl⟩
      have : (0 : Int) + (i : Int) = (i : Int) := by omega
      show tu _ (σ'.set j (some (.int (0 + (i : Int))))) H''
      rw [this]
      exact hs i σ' G' H'' g' (by omega) w
  · have e3 : i = n.toNat := by omega
    subst e3
    exact .inl ⟨Nat.le_refl _, hd σ' G' H' g' w⟩
end

/-! Defs by their names; the tactic that evaluates a reading on data (a key of walk_at). -/
/-- the written part and where the classes stand -/
structure Tx where
  K : PySem.W.Frag
  a_Nests : Addr
  a_NestError : Addr
  a_NoNests : Addr
  a_NoName : Addr
  a_NoValue : Addr
  a_NoNest : Addr
  a_NoHome : Addr
  a_Taken : Addr
  a_Twice : Addr
  a_NoRoom : Addr
  a_Unknown : Addr
  a_NoNote : Addr
/-- an own exception class over ValueError -/
structure ExF (K : PySem.W.Frag) (mg : Str → Option Value) (nm : Str) (C : Addr) : Prop where
  x : PySem.W.excIn K C [.type "ValueError", .type "Exception", .type "BaseException", .type "object"] "ValueError.__new__" = true
  g : mg nm = some (.ref C)
  k : PySem.W.keepIn K (.ref C) = true
  b : PySem.W.subIn K (.ref C) (.type "BaseException") = some true
  t : PySem.W.typeIn K (.ref C) = some (.type "type")
def tRaiseU (W : WX) (C : Addr) : TS := fun _ σ H => W (.ref C) none σ H
structure Cal2 (P : Program) (w : World) (K : PySem.W.Frag) (mg : Str → Option Value) (base : Heap) (k : Nat) (x : Str) (sp : Sp) : Prop where
  ex : ∃ (f : Addr) (fd : FuncData) (ps : List Str), FnOk P w K mg base (L2.CX P w) k f fd ps sp ∧ mg x = some (.ref f) ∧ PySem.W.keepIn K (.ref f) = true ∧ Binds K fd ps []
structure Met2 (P : Program) (w : World) (K : PySem.W.Frag) (mg : Str → Option Value) (base : Heap) (k : Nat) (C : Addr) (m : Str) (sp : Sp) : Prop where
  ex : ∃ (f : Addr) (fd : FuncData) (ps : List Str), Cls K C ∧ Meth K C m f ∧ FnOk P w K mg base (L2.CX P w) k f fd ps sp ∧ Binds K fd ps []
structure Mak2 (P : Program) (w : World) (K : PySem.W.Frag) (mg : Str → Option Value) (base : Heap) (k : Nat) (x : Str) (C : Addr) (sp : Sp) : Prop where
  ex : ∃ (f : Addr) (fd : FuncData) (ps : List Str), Mk K C f ∧ FnOk P w K mg base (L2.CX P w) k f fd ps sp ∧ mg x = some (.ref C) ∧ Binds K fd ps []
section
variable {X : Cx} {k j : Nat} {C : Addr} {x m : Str} {sp : Sp} {E : XK} {p pos apos : Pos} {e o : Expr} {es : List Expr} {ta : TE} {t : TA}
theorem pe_gc {v : V} (hg : Gl X x) (h : ∃ u, X.mg x = some u ∧ RelV v u) (hd : (x == ("__debug__" : Str)) = false := by decide) : PE X (.Name x pos) (tC v) := by
  obtain ⟨u, hm, r⟩ := h
  exact pe_glob hg hm r hd
theorem pe_c2 (c : Cal2 X.prog X.w X.K X.mg X.base k x sp) (hr : Room j X.A) (hk : k ≤ j) (hx : Passes (L2.CX X.prog X.w) X E) (hg : Gl X x) (ha : PA X (e :: es) t)
    (hdb : (x == ("__debug__" : Str)) = false := by decide) (he : starEach (e :: es) X.env = (false, eval e X.env) :: starEach es X.env := by rfl) (hpl : (backTo pos (starEach es X.env)).any (·.1) = false := by rfl) :
    PE X (.Call (.Name x p) (e :: es) [] pos) (tCall sp [] E t) := by
  obtain ⟨f, fd, ps, F, hm, kp, b⟩ := c.ex
  exact pe_call F (hr.mono hk) hg hm kp b .nil hx ha hdb he hpl
theorem pe_mk2 (c : Mak2 X.prog X.w X.K X.mg X.base k x C sp) (hr : Room j X.A) (hk : k + 1 ≤ j) (hx : Passes (L2.CX X.prog X.w) X E) (hg : Gl X x) (ha : PA X (e :: es) t)
    (hdb : (x == ("__debug__" : Str)) = false := by decide) (he : starEach (e :: es) X.env = (false, eval e X.env) :: starEach es X.env := by rfl) (hpl : (backTo pos (starEach es X.env)).any (·.1) = false := by rfl) :
    PE X (.Call (.Name x p) (e :: es) [] pos) (tMake C sp [] E t) := by
  obtain ⟨f, fd, ps, M, F, hm, b⟩ := c.ex
  exact pe_make M F (hr.mono hk) hg hm b .nil hx ha hdb he hpl
theorem pe_m2 {pl : Sem Bool} (c : Met2 X.prog X.w X.K X.mg X.base k C m sp) (hr : Room j X.A) (hk : k ≤ j) (hx : Passes (L2.CX X.prog X.w) X E) (he : PE X o ta) (ha : PA X (e :: es) t)
    (hst : starEach (e :: es) X.env = (false, eval e X.env) :: starEach es X.env := by rfl) (hpl : (backTo pos (starEach es X.env)).any (·.1) = false := by rfl)
    (ht : eval (.Call (.Attribute o m apos) (e :: es) [] pos) X.env = (do
      let ov ← eval o X.env
      standAt apos.atName
      let (f, first) ← holding [ov] (getMethod ov m pl)
      callWith pos f first (backTo pos (starEach (e :: es) X.env)) (backToKw pos (keywordEach [] X.env))) := by rfl) :
    PE X (.Call (.Attribute o m apos) (e :: es) [] pos) (tMeth C m sp [] E ta t) := by
  obtain ⟨f, fd, ps, cl, M, F, b⟩ := c.ex
  exact pe_meth he cl M F (hr.mono hk) b .nil hx ha hst hpl ht
theorem pe_m20 {pl : Sem Bool} (c : Met2 X.prog X.w X.K X.mg X.base k C m sp) (hr : Room j X.A) (hk : k ≤ j) (hx : Passes (L2.CX X.prog X.w) X E) (he : PE X o ta)
    (ht : eval (.Call (.Attribute o m apos) [] [] pos) X.env = (do
      let ov ← eval o X.env
      standAt apos.atName
      let (f, first) ← holding [ov] (getMethod ov m pl)
      callWith pos f first (backTo pos (starEach [] X.env)) (backToKw pos (keywordEach [] X.env))) := by rfl) :
    PE X (.Call (.Attribute o m apos) [] [] pos) (tMeth C m sp [] E ta tNil) := by
  obtain ⟨f, fd, ps, cl, M, F, b⟩ := c.ex
  exact pe_meth0 he cl M F (hr.mono hk) b .nil hx ht
end
/-- what comes back: data; a new list -/
def RetD (G H : Hp) (d : PyData) (Q : VK) : Prop := ∀ v G2 H2, Gr [] G H G2 H2 → Dt G2 d v → Q v H2
def RetL (G H : Hp) (ds : List PyData) (Q : VK) : Prop := ∀ p xs G2 H2, Gr [] G H G2 H2 → H p = none → G2 p = none → H2 p = some (.lst xs) → Dts G2 ds xs → Q (.ref p) H2
theorem RetD.go {G H G1 H1 : Hp} {d : PyData} {Q : VK} (k : RetD G H d Q) (g : Gr [] G H G1 H1) : RetD G1 H1 d Q := fun v G2 H2 g2 e => k v G2 H2 (g.trans g2) e
theorem RetL.go {G H G1 H1 : Hp} {ds : List PyData} {Q : VK} (k : RetL G H ds Q) (g : Gr [] G H G1 H1) : RetL G1 H1 ds Q := fun p xs G2 H2 g2 n m e z => k p xs G2 H2 (g.trans g2) (g.fresh n) m e z
/-! ### scalars -/
section
variable {G : Hp}
theorem dt_int {i : Int} : Dt G (.int i) (.int i) := rfl
theorem dt_str {i : Str} : Dt G (.str i) (.str i) := rfl
theorem dt_bl {i : Bool} : Dt G (.bool i) (.bl i) := rfl
theorem dt_nn : Dt G .none .non := rfl
end
section
variable {σ : L2.St} {G H : Hp} {ta te : TE} {t tr : TA} {d : PyData} {ds : List PyData} {v : V}
theorem ea_nil' : EvA tNil σ G H (datL []) := ea_nil
theorem ea_cons' (h : EvD ta σ G H d) (hr : EvA tr σ G H (datL ds)) : EvA (tCons ta tr) σ G H (datL (d :: ds)) := ea_dat h hr
theorem ev_lstD (h : EvA t σ G H (datL ds)) (hl : ds.length ≤ 1000) : EvD (tLst t) σ G H (.list ds) := (ev_lst h hl).dat
theorem ev_len {t : TE} {K : PySem.W.Frag} {s : Str} (h : EvD t σ G H (.str s)) (hl : s.length ≤ 1000000) : EvD (tCB (rLenU K) (tCons t tNil)) σ G H (.int s.length) := ev_cb (ea_dat h ea_nil) (r_lenS hl)
theorem ev_lenL {t : TE} {K : PySem.W.Frag} {es : List PyData} (h : EvD t σ G H (.list es)) : EvD (tCB (rLenU K) (tCons t tNil)) σ G H (.int es.length) := ev_cb (ea_dat h ea_nil) r_lenL
theorem ev_lenT {t : TE} {K : PySem.W.Frag} {es : List PyData} (h : EvD t σ G H (.tuple es)) : EvD (tCB (rLenU K) (tCons t tNil)) σ G H (.int es.length) := ev_cb (ea_dat h ea_nil) r_lenT
theorem ev_isi {t : TE} {K : PySem.W.Frag} {n : String} {b : Bool} (h : EvD t σ G H d) (k : kitB (kindD d) n = some b) : EvD (tCB (rIsi K) (tCons t (tCons (tC (.ty n)) tNil))) σ G H (.bool b) := ev_cb (ea_dat h (ea_obj ev_c ea_nil)) (r_isi k)
theorem ev_find {to t : TE} {K : PySem.W.Frag} {a b : Str} (h : EvD to σ G H (.str a)) (k : EvD t σ G H (.str b)) : EvD (tMtS K rFindU to (tCons t tNil)) σ G H (.int (Txt.find a b)) := ev_mtS h (ea_cons' k ea_nil') d_find
theorem ev_index {to t : TE} {K : PySem.W.Frag} {W : WX} {a b : Str} {n : Nat} (h : EvD to σ G H (.str a)) (k : EvD t σ G H (.str b)) (e : Txt.index0 a b = some n) : EvD (tMtS K (rIndexU W) to (tCons t tNil)) σ G H (.int n) := ev_mtS h (ea_cons' k ea_nil') (d_index e)
end
theorem k_ii {x : Int} : kitB (kindD (.int x)) "int" = some true := by rfl
theorem k_ib {x : Int} : kitB (kindD (.int x)) "bool" = some false := by rfl
theorem k_bb {x : Bool} : kitB (kindD (.bool x)) "bool" = some true := by rfl
theorem k_bi {x : Bool} : kitB (kindD (.bool x)) "int" = some true := by rfl
theorem k_ss {x : Str} : kitB (kindD (.str x)) "str" = some true := by rfl
theorem k_tt {x : List PyData} : kitB (kindD (.tuple x)) "tuple" = some true := by rfl
theorem k_ll {x : List PyData} : kitB (kindD (.list x)) "list" = some true := by rfl
theorem eqv_i {x y : Int} : (PyData.int x).eqv (.int y) = (x == y) := by rfl
theorem eqv_b {x y : Bool} : (PyData.bool x).eqv (.bool y) = (x == y) := by rfl
theorem eqv_s {x y : Str} : (PyData.str x).eqv (.str y) = (x == y) := by rfl

/-! The tactic: walk_at with keys of our own. "dt" data of a value; "ev" what a reading evaluates to; "et" a test; "op" an operation; "sd" side conditions; "ex" the ground. -/
local macro_rules | `(tactic| walk_at "ex") => `(tactic| first | with_reducible assumption | exact Tn.Gr.s (by with_reducible assumption) | exact Tn.Ex.refl _)
local macro_rules | `(tactic| walk_at "sd") => `(tactic| first | with_reducible assumption | decide | rfl | omega | (constructor <;> omega) | exact Nat.le_of_ble_eq_true rfl)
local macro_rules | `(tactic| walk_at "dt") => `(tactic| first | with_reducible exact Tn.dt_int | with_reducible exact Tn.dt_str | with_reducible exact Tn.dt_bl | with_reducible exact Tn.dt_nn | with_reducible assumption | ((with_reducible apply Tn.Dt.gr); (· with_reducible assumption); (· walk_at "dt")) | fail "no")
local macro_rules | `(tactic| walk_at "op") => `(tactic| first
  | with_reducible exact Tn.b_addI | with_reducible exact Tn.b_sub | ((with_reducible apply Tn.b_mod); walk_at "sd") | ((with_reducible apply Tn.b_div); walk_at "sd") | ((with_reducible apply Tn.b_mul); walk_at "mul")
  | ((with_reducible apply Tn.b_addS); walk_at "sd") | ((with_reducible apply Tn.b_addL); walk_at "sd") | ((with_reducible apply Tn.b_pow); walk_at "sd")
  | with_reducible exact Tn.b_lt | with_reducible exact Tn.b_le | with_reducible exact Tn.b_gt | with_reducible exact Tn.b_ge
  | ((with_reducible apply Tn.b_eq) <;> walk_at "okd") | ((with_reducible apply Tn.b_ne) <;> walk_at "okd") | with_reducible exact Tn.b_is | with_reducible exact Tn.b_isn
  | with_reducible exact Tn.b_inC | ((with_reducible apply Tn.b_inL) <;> walk_at "okd") | ((with_reducible apply Tn.b_inT) <;> walk_at "okd")
  | ((with_reducible apply Tn.b_ixL); walk_at "ix") | ((with_reducible apply Tn.b_ixT); walk_at "ix") | ((with_reducible apply Tn.b_ixS) <;> walk_at "ix"))
local macro_rules | `(tactic| walk_at "okd") => `(tactic| first | with_reducible assumption | rfl)
local macro_rules | `(tactic| walk_at "mul") => `(tactic| first | (refine Or.inl ⟨?_, ?_⟩ <;> omega) | (refine Or.inr ⟨?_, ?_⟩ <;> omega) | with_reducible assumption)
local macro_rules | `(tactic| walk_at "ix") => `(tactic| first | with_reducible assumption | rfl | decide | omega)
local macro_rules | `(tactic| walk_at "call") => `(tactic| fail "no rule of ours")
local macro_rules | `(tactic| walk_at "arg") => `(tactic| first | exact Tn.ev_var rfl | walk_at "ev" | walk_at "sd")
local macro_rules | `(tactic| walk_at "ea") => `(tactic| first | with_reducible exact Tn.ea_nil' | ((with_reducible apply Tn.ea_cons'); (· walk_at "ev"); (· walk_at "ea")) | fail "no")
local macro_rules | `(tactic| walk_at "ev") => `(tactic| first
  | with_reducible assumption
  | exact Tn.EvV.dat (Tn.ev_var rfl) (by walk_at "dt")
  | exact Tn.EvV.dat Tn.ev_c (by walk_at "dt")
  | ((with_reducible apply Tn.ev_bin); (· walk_at "ev"); (· walk_at "ev"); (· walk_at "op"))
  | ((with_reducible apply Tn.ev_un); (· walk_at "ev"); (· with_reducible exact Tn.u_neg))
  | ((with_reducible apply Tn.ev_andV); (· walk_at "ev"); (· intro _; walk_at "ev"))
  | ((with_reducible apply Tn.ev_orV); (· walk_at "ev"); (· intro _; walk_at "ev"))
  | ((with_reducible apply Tn.ev_notV); walk_at "ev")
  | ((with_reducible apply Tn.ev_tup); (· walk_at "ea"); (· walk_at "sd"))
  | ((with_reducible apply Tn.ev_lstD); (· walk_at "ea"); (· walk_at "sd"))
  | ((with_reducible apply Tn.ev_len); (· walk_at "ev"); (· walk_at "sd"))
  | ((with_reducible apply Tn.ev_lenL); walk_at "ev")
  | ((with_reducible apply Tn.ev_lenT); walk_at "ev")
  | ((with_reducible apply Tn.ev_isi); (· walk_at "ev"); (· first | with_reducible exact Tn.k_ii | with_reducible exact Tn.k_ib | with_reducible exact Tn.k_bb | with_reducible exact Tn.k_bi | with_reducible exact Tn.k_ss | with_reducible exact Tn.k_tt | with_reducible exact Tn.k_ll | rfl))
  | ((with_reducible apply Tn.ev_find); (· walk_at "ev"); (· walk_at "ev"))
  | ((with_reducible apply Tn.ev_slS); (· walk_at "ev"); (· walk_at "eo"); (· walk_at "eo"); (· walk_at "sd"))
  | walk_at "call")
local macro_rules | `(tactic| walk_at "eo") => `(tactic| first | with_reducible exact Tn.eo_none | ((with_reducible apply Tn.eo_some); walk_at "ev"))
local macro_rules | `(tactic| walk_at "et") => `(tactic| first
  | ((with_reducible apply Tn.et_test); walk_at "ev")
  | ((with_reducible apply Tn.et_B); walk_at "ev")
  | ((with_reducible apply Tn.et_and); (· walk_at "et"); (· intro _; walk_at "et"))
  | ((with_reducible apply Tn.et_or); (· walk_at "et"); (· intro _; walk_at "et"))
  | ((with_reducible apply Tn.et_not); walk_at "et") | fail "no")
local macro_rules | `(tactic| walk_at "fin") => `(tactic| first | rfl | (simp [Tn.eqv_i, Tn.eqv_b, Tn.eqv_s]; done))
local macro_rules | `(tactic| walk_at "vs") => `(tactic| first | (rintro rfl; rfl) | (rintro ⟨a, b⟩; first | (subst a; rfl) | (revert b; walk_at "vs")))
/-! The defs of names.py. -/
abbrev SIGNS : Str := "abcdefghijklmnopqrstuvwxyz0123456789"
abbrev c_SIGNS : V := .str SIGNS
abbrev c_MOST_SIGNS : V := .int 12
def isSign (c : Nat) : Bool := decide (c ∈ SIGNS.cps.toList)
def okName (z : Str) : Bool := decide (1 ≤ z.length) && decide (z.length ≤ 12) && z.cps.toList.all isSign
theorem len_list (z : Str) : z.length = z.cps.toList.length := by simp [Str.length]
/-! ### is_name -/
def sp_is_name (T : Tx) : Sp := fun vs H Q _ => ∃ G z, Ex G H ∧ vs = [.str z] ∧ z.length ≤ 1000 ∧ RetD G H (.bool (okName z)) Q
abbrev N_is_name : List Str := ["name", "sign"]
def t_is_name (T : Tx) (E : XK) : TS :=
  (tSeq (tIfS (tOr (tTest (tOp (rLtU) (tCB (rLenU T.K) (tCons (tVar 0) tNil)) (tC (.int 1)))) (tTest (tOp (rGtU) (tCB (rLenU T.K) (tCons (tVar 0) tNil)) (tC c_MOST_SIGNS)))) (tSeq (tRet (tC (.bl false))) tNext) tNext) (tSeq (tFor (iStr (tVar 0)) (gName 1) (tSeq (tIfS (tTest (tOp (rInU T.K true) (tVar 1) (tC c_SIGNS))) (tSeq (tRet (tC (.bl false))) tNext) tNext) tNext)) (tSeq (tRet (tC (.bl true))) tNext)))
theorem all_take {p : Nat → Bool} {l : List Nat} {i c : Nat} (h : l[i]? = some c) (a : (l.take i).all p = true) (q : p c = true) : (l.take (i + 1)).all p = true := by
  rw [List.take_succ, h, List.all_append, a]
  simp [q]
theorem all_not {p : Nat → Bool} {l : List Nat} {i c : Nat} (h : l[i]? = some c) (q : p c = false) : l.all p = false := by
  rw [List.all_eq_false]
  exact ⟨c, List.mem_of_getElem? h, by simp [q]⟩
theorem pure_is_name {T : Tx} {vs : List V} {H : Hp} {Q : VK} {E : XK} (h : sp_is_name T vs H Q E) : t_is_name T E { nx := fun _ H' => Q .non H', rt := Q } (start ["name", "sign"] vs) H := by
  obtain ⟨G, z, e, rfl, hz, k⟩ := h
  refine q_when e (by walk_at "et") (fun c G2 H2 g => ?_) (fun c G2 H2 g => ?_)
  · refine q_ret g.s (d := .bool false) (by walk_at "ev") fun v G3 H3 g3 e3 => k v G3 H3 (g.trans g3) ?_
    have : okName z = false := by
      unfold okName
      simp at c
      rcases c with c | c
      · have : ¬ (1 ≤ z.length) := by omega
        simp [this]
      · have : ¬ (z.length ≤ 12) := by omega
        simp [this]
    rw [this]
    exact e3
  · refine q_forS (fun i σ' G1 H1 => ∃ v, σ' = [some (.str z), v] ∧ (z.cps.toList.take i).all isSign = true) g.s (s := z) (by walk_at "ev") (fun G1 H1 g1 => ⟨_, rfl, by simp⟩) ?_ ?_
    · rintro i c σ' G1 H1 g1 hc ⟨v, rfl, ha⟩
      refine q_when g1.s (by walk_at "et") (fun q G3 H3 g3 => ?_) (fun q G3 H3 g3 => ?_)
      · refine q_ret g3.s (d := .bool false) (by walk_at "ev") fun v G4 H4 g4 e4 => k v G4 H4 (((g.trans g1).trans g3).trans g4) ?_
        have : okName z = false := by
          unfold okName
          rw [all_not hc (p := isSign) (by unfold isSign; simpa using q)]
          simp
        rw [this]
        exact e4
      · refine q_next ⟨G3, g3, _, rfl, all_take hc ha (by unfold isSign; simpa using q)⟩
    · rintro σ' G1 H1 g1 ⟨v, rfl, ha⟩
      refine q_ret g1.s (d := .bool true) (by walk_at "ev") fun v G4 H4 g4 e4 => k v G4 H4 ((g.trans g1).trans g4) ?_
      have : okName z = true := by
        unfold okName
        rw [List.take_length] at ha
        simp at c
        simp [ha]
        omega
      rw [this]
      exact e4
theorem pur_is_name {T : Tx} {G H : Hp} {vs : List V} {z : Str} (e : Ex G H) (h : Fds G [.dat (.str z)] vs) (hz : z.length ≤ 1000) : PurD (sp_is_name T) vs G H (.bool (okName z)) := fun Q E k => by
  obtain ⟨x, xs, rfl, e1, e2⟩ := h
  cases e1; cases e2
  exact ⟨G, z, e, rfl, hz, k⟩
section
variable {T : Tx} {σ : L2.St} {G H : Hp} {a b c : TE} {E : XK}
theorem ev_is_name {z : Str} (h : EvD a σ G H (.str z)) (hz : z.length ≤ 1000) : EvD (tCall (sp_is_name T) [] E (tCons a tNil)) σ G H (.bool (okName z)) :=
  ev_call (ea_dat h ea_nil) fun _ _ _ g k => pur_is_name g.s k hz
end
local macro_rules | `(tactic| walk_at "call") => `(tactic| first | ((with_reducible apply Tn.ev_is_name) <;> walk_at "arg") | fail "no")
/-! ### home -/
def hstep (t n : Int) (a : Int) (c : Nat) : Int := (a * t + Txt.find SIGNS ⟨#[c]⟩ + 1) % n
def homeL (l : List Nat) (t n : Int) : Int := l.foldl (hstep t n) 0
abbrev homeN (z : Str) (t n : Int) : Int := homeL z.cps.toList t n
theorem homeL_take {l : List Nat} {i c : Nat} {t n : Int} (h : l[i]? = some c) : homeL (l.take (i + 1)) t n = hstep t n (homeL (l.take i) t n) c := by
  unfold homeL
  rw [List.take_succ, h, List.foldl_append]
  rfl
theorem homeL_bd {l : List Nat} {t n : Int} (hn : 0 < n) : 0 ≤ homeL l t n ∧ homeL l t n < n := by
  unfold homeL
  rcases List.eq_nil_or_concat l with rfl | ⟨l', c, rfl⟩
  · exact ⟨Int.le_refl _, hn⟩
  · rw [List.concat_eq_append, List.foldl_append]
    exact ⟨Int.emod_nonneg _ (by omega), Int.emod_lt_of_pos _ hn⟩
def sp_home (T : Tx) : Sp := fun vs H Q _ => ∃ G z t n, Ex G H ∧ vs = [.str z, .int t, .int n] ∧ 1 ≤ t ∧ t ≤ 1000000 ∧ 0 < n ∧ RetD G H (.int (homeN z t n)) Q
abbrev N_home : List Str := ["name", "times", "count", "number", "sign"]
def t_home (T : Tx) (E : XK) : TS :=
  (tSeq (tAsg (tC (.int 0)) (gName 3)) (tSeq (tFor (iStr (tVar 0)) (gName 4) (tSeq (tAsg (tOp rModU (tOp rAddU (tOp rAddU (tOp rMulU (tVar 3) (tVar 1)) (tMtS T.K rFindU (tC c_SIGNS) (tCons (tVar 4) tNil))) (tC (.int 1))) (tVar 2)) (gName 3)) tNext)) (tSeq (tRet (tVar 3)) tNext)))
theorem pure_home {T : Tx} {vs : List V} {H : Hp} {Q : VK} {E : XK} (h : sp_home T vs H Q E) : t_home T E { nx := fun _ H' => Q .non H', rt := Q } (start N_home vs) H := by
  obtain ⟨G, z, t, n, e, rfl, ht, ht2, hn, k⟩ := h
  refine q_asgI e (n := 0) (by walk_at "ev") fun G1 H1 g1 => ?_
  refine q_forS (fun i σ' G1 H1 => ∃ v, σ' = [some (.str z), some (.int t), some (.int n), some (.int (homeL (z.cps.toList.take i) t n)), v]) g1.s (s := z) (by walk_at "ev") (fun G1 H1 g1 => ⟨_, rfl⟩) ?_ ?_
  · rintro i c σ' G2 H2 g2 hc ⟨v, rfl⟩
    refine q_asg g2.s (by walk_at "ev") fun v G3 H3 g3 e3 => ?_
    cases e3
    refine q_next ⟨G3, g3, ?_⟩
    rw [homeL_take hc]
    exact ⟨_, rfl⟩
  · rintro σ' G2 H2 g2 ⟨v, rfl⟩
    refine q_ret g2.s (by walk_at "ev") fun v G3 H3 g3 e3 => k v G3 H3 ((g1.trans g2).trans g3) ?_
    rw [List.take_length] at e3
    exact e3
section
variable {T : Tx} {σ : L2.St} {G H : Hp} {a b c : TE} {E : XK}
theorem ev_home {z : Str} {t n : Int} (h1 : EvD a σ G H (.str z)) (h2 : EvD b σ G H (.int t)) (h3 : EvD c σ G H (.int n)) (ht : 1 ≤ t) (ht2 : t ≤ 1000000) (hn : 0 < n) : EvD (tCall (sp_home T) [] E (tCons a (tCons b (tCons c tNil)))) σ G H (.int (homeN z t n)) :=
  ev_call (ea_dat h1 (ea_dat h2 (ea_dat h3 ea_nil))) fun _ _ _ g k Q E q => by
    obtain ⟨x, xs, rfl, e1, y, ys, rfl, e2, w, ws, rfl, e3, e4⟩ := k
    cases e1; cases e2; cases e3; cases e4
    exact ⟨_, z, t, n, g.s, rfl, ht, ht2, hn, q⟩
end
local macro_rules | `(tactic| walk_at "call") => `(tactic| first | ((with_reducible apply Tn.ev_home) <;> walk_at "arg") | fail "no")

/-! The laws' helpers that read cells. -/
/-- the script stands at a, for ever -/
def Scr (K : PySem.W.Frag) (G : Hp) (a : Addr) (ns : List Int) : Prop := SqL K G a (ns.map V.int)
theorem Scr.mono {K : PySem.W.Frag} {G G' : Hp} {a : Addr} {ns : List Int} (e : Ex G G') (h : Scr K G a ns) : Scr K G' a ns := by
  rcases h with h | h
  · refine .inl ?_
    rcases h with h | ⟨o, h⟩
    · exact .inl (e _ _ h)
    · exact .inr ⟨o, e _ _ h⟩
  · exact .inr h
theorem Scr.gr {K : PySem.W.Frag} {M : List Addr} {G H G' H' : Hp} {a : Addr} {ns : List Int} (g : Gr M G H G' H') (h : Scr K G a ns) : Scr K G' a ns := h.mono g.g
theorem at_getD {l : List Nat} {i : Int} (h0 : 0 ≤ i) (h1 : i < l.length) : atI l i = some (l.getD i.toNat 0) := by
  obtain ⟨n, rfl⟩ : ∃ n : Nat, i = n := ⟨i.toNat, by omega⟩
  have : n < l.length := by omega
  refine atI_nat ?_
  rw [List.getElem?_eq_getElem this, Int.toNat_natCast, List.getD_eq_getElem?_getD, List.getElem?_eq_getElem this]
  rfl
local macro_rules | `(tactic| walk_at "ix") => `(tactic| first | ((apply Tn.at_getD <;> walk_at "sd")) | fail "no")
local macro_rules | `(tactic| walk_at "arg") => `(tactic| first | (((with_reducible apply Tn.Scr.gr); (· with_reducible assumption); (· walk_at "arg"))) | fail "no")
section
variable {K : PySem.W.Frag} {σ : L2.St} {G H : Hp} {ta tb : TE} {a : Addr} {ns : List Int}
theorem ev_scrLen (hs : Scr K G a ns) (h : EvV ta σ G H (.ref a)) : EvD (tCB (rLenU K) (tCons ta tNil)) σ G H (.int ns.length) := fun G1 H1 g Q q =>
  h G1 H1 g _ fun G2 H2 g2 => .inl ⟨_, ns.length, rfl, .inl ⟨_, (hs.mono (g.g.trans g2.g)).mono g2.s, by simp⟩, q _ G2 H2 g2 rfl⟩
theorem ev_scrIx {i n : Int} (hs : Scr K G a ns) (h : EvV ta σ G H (.ref a)) (hb : EvD tb σ G H (.int i)) (hi : 0 ≤ i) (hx : ns[i.toNat]? = some n) : EvD (tOp (rIx K) ta tb) σ G H (.int n) := fun G1 H1 g Q q =>
  h G1 H1 g _ fun G2 H2 g2 => hb G2 H2 (g.trans g2) _ fun v G3 H3 g3 e => by
    cases e
    refine .inl ⟨a, _, i, .int n, rfl, rfl, (hs.mono ((g.g.trans g2.g).trans g3.g)).mono g3.s, ?_, q _ G3 H3 (g2.trans g3) rfl⟩
    have : i = ((i.toNat : Nat) : Int) := by omega
    rw [this]
    exact atI_nat (by simp [hx])
end
/-! ### a cell of the script, or 0 -/
def cell (ns : List Int) (k : Int) : Int := ns.getD k.toNat 0
def sp__law_cell_at (T : Tx) : Sp := fun vs H Q _ => ∃ G a ns k, Ex G H ∧ vs = [.ref a, .int k] ∧ Scr T.K G a ns ∧ 0 ≤ k ∧ RetD G H (.int (cell ns k)) Q
abbrev N__law_cell_at : List Str := ["_law_script", "_law_k"]
def t__law_cell_at (T : Tx) (E : XK) : TS :=
  (tSeq (tIfS (tTest (tOp (rLtU) (tVar 1) (tCB (rLenU T.K) (tCons (tVar 0) tNil)))) (tSeq (tRet (tOp (rIx T.K) (tVar 0) (tVar 1))) tNext) tNext) (tSeq (tRet (tC (.int 0))) tNext))
theorem pure__law_cell_at {T : Tx} {vs : List V} {H : Hp} {Q : VK} {E : XK} (h : sp__law_cell_at T vs H Q E) : t__law_cell_at T E { nx := fun _ H' => Q .non H', rt := Q } (start N__law_cell_at vs) H := by
  obtain ⟨G, a, ns, k, e, rfl, hs, hk, q⟩ := h
  refine q_when (b := decide (k < (ns.length : Int))) e ?_ (fun c G2 H2 g => ?_) (fun c G2 H2 g => ?_)
  · refine et_test (ev_bin (d1 := .int k) (d2 := .int ns.length) (by walk_at "ev") (ev_scrLen hs (ev_var rfl)) b_lt)
  · have hc : k < (ns.length : Int) := by simpa using c
    have hn : k.toNat < ns.length := by omega
    refine q_ret g.s (ev_scrIx (hs.gr g) (ev_var rfl) (i := k) (by walk_at "ev") hk (List.getElem?_eq_getElem hn)) fun v G3 H3 g3 e3 => q v G3 H3 (g.trans g3) ?_
    have : cell ns k = ns[k.toNat] := by
      unfold cell
      rw [List.getD_eq_getElem?_getD, List.getElem?_eq_getElem hn]
      rfl
    rw [this]
    exact e3
  · have hc : ¬ k < (ns.length : Int) := by simpa using c
    refine q_ret g.s (d := .int 0) (by walk_at "ev") fun v G3 H3 g3 e3 => q v G3 H3 (g.trans g3) ?_
    have : cell ns k = 0 := by
      unfold cell
      rw [List.getD_eq_getElem?_getD, List.getElem?_eq_none (by omega)]
      rfl
    rw [this]
    exact e3
/-! ### mixed -/
def mixM (c k : Int) : Int := (c + 7919 * k + 11) * 48271 % 2147483647
def mixed (c k : Int) : Int := (mixM c k * mixM c k + 40692 * mixM c k) % 2147483399
theorem mixM_bd (c k : Int) : 0 ≤ mixM c k ∧ mixM c k < 2147483647 := ⟨Int.emod_nonneg _ (by decide), Int.emod_lt_of_pos _ (by decide)⟩
theorem mixed_bd (c k : Int) : 0 ≤ mixed c k ∧ mixed c k < 2147483399 := ⟨Int.emod_nonneg _ (by decide), Int.emod_lt_of_pos _ (by decide)⟩
def sp__law_mixed (T : Tx) : Sp := fun vs H Q _ => ∃ G c k, Ex G H ∧ vs = [.int c, .int k] ∧ RetD G H (.int (mixed c k)) Q
abbrev N__law_mixed : List Str := ["_law_cell", "_law_k", "_law_mix"]
def t__law_mixed (T : Tx) (E : XK) : TS :=
  (tSeq (tAsg (tOp rModU (tOp rMulU (tOp rAddU (tOp rAddU (tVar 0) (tOp rMulU (tC (.int 7919)) (tVar 1))) (tC (.int 11))) (tC (.int 48271))) (tC (.int 2147483647))) (gName 2)) (tSeq (tRet (tOp rModU (tOp rAddU (tOp rMulU (tVar 2) (tVar 2)) (tOp rMulU (tC (.int 40692)) (tVar 2))) (tC (.int 2147483399)))) tNext))
theorem pure__law_mixed {T : Tx} {vs : List V} {H : Hp} {Q : VK} {E : XK} (h : sp__law_mixed T vs H Q E) : t__law_mixed T E { nx := fun _ H' => Q .non H', rt := Q } (start N__law_mixed vs) H := by
  obtain ⟨G, c, k, e, rfl, q⟩ := h
  refine q_asgI (n := mixM c k) e (EvD.is (by walk_at "ev") (by rfl)) fun G2 H2 g => ?_
  have := mixM_bd c k
  exact q_ret g.s (d := .int (mixed c k)) (EvD.is (by walk_at "ev") (by rfl)) fun v G3 H3 g3 e3 => q v G3 H3 (g.trans g3) e3
section
variable {T : Tx} {σ : L2.St} {G H : Hp} {a b c : TE} {E : XK}
theorem ev_cell {s : Addr} {ns : List Int} {k : Int} (h1 : EvV a σ G H (.ref s)) (h2 : EvD b σ G H (.int k)) (hs : Scr T.K G s ns) (hk : 0 ≤ k) : EvD (tCall (sp__law_cell_at T) [] E (tCons a (tCons b tNil))) σ G H (.int (cell ns k)) :=
  ev_call (ea_obj h1 (ea_dat h2 ea_nil)) fun _ _ _ g k' Q E q => by
    obtain ⟨x, xs, rfl, e1, y, ys, rfl, e2, e4⟩ := k'
    cases e1; cases e2; cases e4
    exact ⟨_, s, ns, k, g.s, rfl, hs.gr g, hk, q⟩
theorem ev_mixed {x k : Int} (h1 : EvD a σ G H (.int x)) (h2 : EvD b σ G H (.int k)) : EvD (tCall (sp__law_mixed T) [] E (tCons a (tCons b tNil))) σ G H (.int (mixed x k)) :=
  ev_call (ea_dat h1 (ea_dat h2 ea_nil)) fun _ _ _ g k' Q E q => by
    obtain ⟨x, xs, rfl, e1, y, ys, rfl, e2, e4⟩ := k'
    cases e1; cases e2; cases e4
    exact ⟨_, _, _, g.s, rfl, q⟩
end
local macro_rules | `(tactic| walk_at "call") => `(tactic| first | ((with_reducible apply Tn.ev_cell) <;> walk_at "arg") | fail "no")
local macro_rules | `(tactic| walk_at "call") => `(tactic| first | ((with_reducible apply Tn.ev_mixed) <;> walk_at "arg") | fail "no")
/-- the law's promise -/
def spL (K : PySem.W.Frag) : Sp := fun vs H Q _ => ∃ G a ns, Ex G H ∧ vs = [.ref a] ∧ Scr K G a ns ∧ ns.length ≤ 63 ∧ RetD G H (.bool true) Q
theorem spL_entry {K : PySem.W.Frag} {H : Hp} {a : Addr} {ns : List Int} {E : XK} (hl : ns.length ≤ 63) (hS : SqL K H a (ns.map V.int)) : spL K [.ref a] H (fun v _ => v = .bl true) E :=
  ⟨H, a, ns, Ex.refl _, rfl, hS, hl, fun _ _ _ _ e => e⟩

/-! Own objects that change: lists, dicts with pairs of numbers as keys; loops over data. -/
/-! ### what stays may be widened for a while -/
/-- G' but at p as in G -/
def rst (G G' : Hp) (p : Addr) : Hp := fun a => if a = p then G p else G' a
theorem rst_ne {G G' : Hp} {p a : Addr} (h : a ≠ p) : rst G G' p a = G' a := if_neg h
theorem rst_eq {G G' : Hp} {p : Addr} : rst G G' p p = G p := if_pos rfl
theorem Ex.fx {G H : Hp} {p : Addr} {o : HO} (e : Ex G H) (h : H p = some o) : Ex (upd G p o) H := fun a u w => by
  by_cases z : a = p
  · rw [z, upd_same] at w
    rw [z, h]
    exact w
  · rw [upd_ne z] at w
    exact e _ _ w
theorem Gr.unfx {M : List Addr} {G H G' H' : Hp} {p : Addr} {o : HO} (e : Ex G H) (x : Gr M (upd G p o) H G' H') (h : H p = some o) : Gr M G H (rst G G' p) H' := by
  have k : Ex G (upd G p o) := fun a u w => by
    by_cases z : a = p
    · rw [z] at w ⊢
      rw [upd_same, ← h]
      exact e _ _ w
    · rw [upd_ne z]
      exact w
  refine ⟨fun a u w => ?_, fun a u w => ?_, fun b u w t n => ?_, x.h, x.a⟩
  · by_cases z : a = p
    · rw [z, rst_eq, ← z]
      exact w
    · rw [rst_ne z]
      exact x.g _ _ (k _ _ w)
  · by_cases z : a = p
    · rw [z, rst_eq] at w
      rw [z]
      have : o = u := by
        have := e _ _ w
        rw [h] at this
        cases this
        rfl
      rw [← this]
      exact x.s _ _ (x.g _ _ upd_same)
    · rw [rst_ne z] at w
      exact x.s _ _ w
  · by_cases z : b = p
    · rw [z, rst_eq, ← z]
      exact n
    · rw [rst_ne z]
      exact x.n b u w t (by rw [upd_ne z]; exact n)
theorem Gr.fx {G H G1 H1 : Hp} {p : Addr} {o : HO} (e : Ex G H) (g : Gr [] G H G1 H1) (h : H p = some o) : Gr [] (upd G p o) H (upd G1 p o) H1 :=
  ⟨fun a u w => by
    by_cases z : a = p
    · rw [z] at w ⊢
      rw [upd_same] at w ⊢
      exact w
    · rw [upd_ne z] at w ⊢
      exact g.g _ _ w, g.s.fx (g.hx _ _ h), fun b u w t n => by
    by_cases z : b = p
    · rw [z, upd_same] at n
      cases n
    · rw [upd_ne z] at n ⊢
      exact g.n b u w t n, g.h, g.a⟩
section
variable {σ : L2.St} {G H : Hp} {te : TE} {t : TT} {p : Addr} {o : HO} {b : Bool} {v : V}
theorem EvT.fx (e : Ex G H) (hp : H p = some o) (h : EvT t σ (upd G p o) H b) : EvT t σ G H b := fun G1 H1 g Q q =>
  h (upd G1 p o) H1 (Gr.fx e g hp) Q fun G2 H2 g2 => q _ H2 (Gr.unfx g.s g2 (g.hx _ _ hp))
theorem EvV.fx (e : Ex G H) (hp : H p = some o) (h : EvV te σ (upd G p o) H v) : EvV te σ G H v := fun G1 H1 g Q q =>
  h (upd G1 p o) H1 (Gr.fx e g hp) Q fun G2 H2 g2 => q _ H2 (Gr.unfx g.s g2 (g.hx _ _ hp))
theorem EvV.intD {i : Int} (h : EvV te σ G H (.int i)) : EvD te σ G H (.int i) := fun G1 H1 g Q q => h G1 H1 g Q fun G2 H2 g2 => q _ G2 H2 g2 rfl
theorem EvV.strD {i : Str} (h : EvV te σ G H (.str i)) : EvD te σ G H (.str i) := fun G1 H1 g Q q => h G1 H1 g Q fun G2 H2 g2 => q _ G2 H2 g2 rfl
theorem EvV.blD {i : Bool} (h : EvV te σ G H (.bl i)) : EvD te σ G H (.bool i) := fun G1 H1 g Q q => h G1 H1 g Q fun G2 H2 g2 => q _ G2 H2 g2 rfl
theorem EvD.fxI {i : Int} (e : Ex G H) (hp : H p = some o) (h : EvD te σ (upd G p o) H (.int i)) : EvD te σ G H (.int i) := (h.int.fx e hp).intD
theorem EvD.fxB {i : Bool} (e : Ex G H) (hp : H p = some o) (h : EvD te σ (upd G p o) H (.bool i)) : EvD te σ G H (.bool i) := (h.bl.fx e hp).blD
end
/-! ### what is iterated over -/
def ItOk (J : It) (ds : List PyData) (G H : Hp) : Prop := ∀ M G' H', Gr M G H G' H' → ∀ i, (i < ds.length → J.go i H' ∧ ∀ x H'', J.yld i H' x H'' → ∃ G'' d, Gr [] G' H' G'' H'' ∧ ds[i]? = some d ∧ Dt G'' d x) ∧ (ds.length ≤ i → J.stop i H')
def EvI (wi : TI) (σ : L2.St) (G H : Hp) (ds : List PyData) : Prop := ∀ G1 H1, Gr [] G H G1 H1 → ∀ R : It → Hp → Prop, (∀ J G2 H2, Gr [] G1 H1 G2 H2 → ItOk J ds G2 H2 → R J H2) → wi σ H1 R
section
variable {K : PySem.W.Frag} {σ : L2.St} {G H : Hp} {te ta tb : TE} {ds : List PyData} {lo hi : Int}
theorem ei_list (h : EvD te σ G H (.list ds)) : EvI (iList K te) σ G H ds := fun G1 H1 g R r => h G1 H1 g _ fun v G2 H2 g2 e => by
  obtain ⟨a, xs, rfl, ea, k⟩ := e
  refine ⟨a, rfl, ⟨xs, SqL.of (g2.s _ _ ea)⟩, r _ G2 H2 g2 fun M G3 H3 g3 i => ?_⟩
  have s3 : SqL K H3 a xs := SqL.of (g3.s _ _ (g3.g _ _ ea))
  refine ⟨fun hi => ?_, fun hi => ⟨xs, s3, by rw [k.len]; exact hi⟩⟩
  obtain ⟨v, hv, dv⟩ := k.get (List.getElem?_eq_getElem hi)
  refine ⟨⟨xs, v, s3, hv⟩, fun x H4 z => ?_⟩
  obtain ⟨rfl, z⟩ := z
  have := (z xs s3).symm.trans hv
  cases this
  exact ⟨G3, _, Gr.refl g3.s [], List.getElem?_eq_getElem hi, Dt.mono g3.g _ dv⟩
theorem ei_tup (h : EvD te σ G H (.tuple ds)) : EvI (iTup K te) σ G H ds := fun G1 H1 g R r => h G1 H1 g _ fun v G2 H2 g2 e => by
  obtain ⟨a, xs, rfl, ea, k⟩ := e
  refine ⟨a, rfl, ⟨xs, SqT.of (g2.s _ _ ea)⟩, r _ G2 H2 g2 fun M G3 H3 g3 i => ?_⟩
  have s3 : SqT K H3 a xs := SqT.of (g3.s _ _ (g3.g _ _ ea))
  refine ⟨fun hi => ?_, fun hi => ⟨xs, s3, by rw [k.len]; exact hi⟩⟩
  obtain ⟨v, hv, dv⟩ := k.get (List.getElem?_eq_getElem hi)
  refine ⟨⟨xs, v, s3, hv⟩, fun x H4 z => ?_⟩
  obtain ⟨rfl, z⟩ := z
  have := (z xs s3).symm.trans hv
  cases this
  exact ⟨G3, _, Gr.refl g3.s [], List.getElem?_eq_getElem hi, Dt.mono g3.g _ dv⟩
/-- lo, lo + 1, .., below hi -/
def rng (lo hi : Int) : List PyData := (List.range (hi - lo).toNat).map fun i => .int (lo + (i : Nat))
theorem rng_len : (rng lo hi).length = (hi - lo).toNat := by simp [rng]
theorem rng_get {i : Nat} (h : i < (hi - lo).toNat) : (rng lo hi)[i]? = some (.int (lo + (i : Nat))) := by
  simp [rng, h]
theorem itr_ok (b : Ex G H) : ItOk (Itr lo (hi - lo).toNat) (rng lo hi) G H := fun M G3 H3 g3 i => by
  rw [rng_len]
  refine ⟨fun hi => ⟨hi, fun x H4 z => ?_⟩, fun hi => hi⟩
  obtain ⟨rfl, rfl⟩ := z
  exact ⟨G3, _, Gr.refl g3.s [], rng_get hi, rfl⟩
theorem ei_rng1 {tA : TA} (h : EvA tA σ G H (datL [.int hi])) (b : hi ≤ 1000000 ∧ -1000000 ≤ hi) : EvI (iRng1 tA) σ G H (rng 0 hi) := fun G1 H1 g R r => h G1 H1 g _ fun vs G2 H2 g2 e => by
  obtain ⟨x, xs, rfl, e3, e4⟩ := fds_dat e
  cases e4
  cases e3
  refine ⟨hi, rfl, by omega, by omega, ?_⟩
  have := itr_ok (lo := 0) (hi := hi) g2.s
  rw [Int.sub_zero] at this
  exact r _ G2 H2 g2 this
theorem ei_rng2 {tA : TA} (h : EvA tA σ G H (datL [.int lo, .int hi])) (b : hi ≤ 1000000 ∧ -1000000 ≤ hi) (b2 : lo ≤ 1000000 ∧ -1000000 ≤ lo) : EvI (iRng2 tA) σ G H (rng lo hi) := fun G1 H1 g R r => h G1 H1 g _ fun vs G2 H2 g2 e => by
  obtain ⟨x, xs, rfl, e3, y, ys, rfl, e5, e4⟩ := fds_dat e
  cases e4
  cases e3
  cases e5
  exact ⟨lo, hi, rfl, ⟨by omega, by omega, by omega, by omega⟩, r _ G2 H2 g2 (itr_ok g2.s)⟩
theorem ei_rev (h1 : EvD ta σ G H (.int lo)) (h2 : EvD tb σ G H (.int hi)) (b : hi ≤ 1000000 ∧ -1000000 ≤ hi) (b2 : lo ≤ 1000000 ∧ -1000000 ≤ lo) : EvI (iRevR (tRg2 ta tb)) σ G H (rng lo hi).reverse := fun G1 H1 g R r =>
  h1 G1 H1 g _ fun v G2 H2 g2 e => h2 G2 H2 (g.trans g2) _ fun w G3 H3 g3 e' => by
    cases e
    cases e'
    refine ⟨lo, hi, rfl, rfl, by omega, by omega, by omega, by omega, r _ G3 H3 (g2.trans g3) fun M G4 H4 g4 i => ?_⟩
    rw [List.length_reverse, rng_len]
    refine ⟨fun hi' => ⟨hi', fun x H5 z => ?_⟩, fun hi => hi⟩
    obtain ⟨rfl, rfl⟩ := z
    refine ⟨G4, .int (lo + (((hi - lo).toNat : Nat) : Int) - 1 + (i : Nat) * -1), Gr.refl g4.s [], ?_, rfl⟩
    rw [List.getElem?_reverse (by rw [rng_len]; exact hi'), rng_len, rng_get (by omega)]
    congr 2
    omega
def signsL (s : Str) : List PyData := s.cps.toList.map fun c => .str ⟨#[c]⟩
theorem ei_str {s : Str} (h : EvD te σ G H (.str s)) : EvI (iStr te) σ G H (signsL s) := fun G1 H1 g R r => h G1 H1 g _ fun v G2 H2 g2 e => by
  cases e
  refine ⟨s, rfl, r _ G2 H2 g2 fun M G3 H3 g3 i => ?_⟩
  have l : (signsL s).length = s.cps.size := by simp [signsL]
  rw [l]
  refine ⟨fun hi => ⟨hi, fun x H4 z => ?_⟩, fun hi => hi⟩
  obtain ⟨rfl, c, hc, rfl⟩ := z
  refine ⟨G3, .str ⟨#[c]⟩, Gr.refl g3.s [], ?_, rfl⟩
  unfold signsL
  rw [List.getElem?_map, Array.getElem?_toList, hc]
  rfl
/-- (0, d0), (1, d1), .. -/
def enumL (ds : List PyData) : List PyData := ds.zipIdx.map fun e => .tuple [.int (e.2 : Nat), e.1]
theorem ei_enum {tA : TA} (h : EvA tA σ G H (datL [.list ds])) : EvI (iEnum K tA) σ G H (enumL ds) := fun G1 H1 g R r => h G1 H1 g _ fun vs G2 H2 g2 e => by
  obtain ⟨x, ys, rfl, e3, e4⟩ := fds_dat e
  cases e4
  obtain ⟨a, xs, rfl, ea, k⟩ := e3
  refine ⟨a, xs, rfl, SqL.of (g2.s _ _ ea), r _ G2 H2 g2 fun M G3 H3 g3 i => ?_⟩
  have s3 : SqL K H3 a xs := SqL.of (g3.s _ _ (g3.g _ _ ea))
  have l : (enumL ds).length = ds.length := by simp [enumL]
  rw [l]
  refine ⟨fun hi => ?_, fun hi => ⟨xs, s3, by rw [k.len]; exact hi⟩⟩
  obtain ⟨v, hv, dv⟩ := k.get (List.getElem?_eq_getElem hi)
  refine ⟨⟨xs, v, s3, hv⟩, fun x H4 z => ?_⟩
  obtain ⟨t, y, rfl, ht, rfl, z⟩ := z
  have := (z xs s3).symm.trans hv
  cases this
  refine ⟨_, .tuple [.int (i : Nat), ds[i]], Gr.newD g3.s ht, ?_, t, _, rfl, upd_same, .int (i : Nat), [v], rfl, rfl, v, [], rfl, Dt.mono (g3.g.trans (Ex.new (ex_none g3.s ht))) ds[i] dv, rfl⟩
  unfold enumL
  rw [List.getElem?_map, List.getElem?_zipIdx, List.getElem?_eq_getElem hi]
  simp
end
/-! ### loops -/
/-- a word of the slots and both heaps, over what stood; the objects at M may have changed -/
def WdM (M : List Addr) (G0 H0 : Hp) (I : L2.St → Hp → Hp → Prop) : L2.St → Hp → Prop := fun σ H => ∃ G, Gr M G0 H0 G H ∧ I σ G H
section
variable {σ : L2.St} {G H : Hp} {tb tz : TS} {tc : TT} {D : Ends} {wi : TI} {gt : TG} {ds : List PyData}
theorem q_for (M : List Addr) (I : Nat → L2.St → Hp → Hp → Prop) (e : Ex G H) (h : EvI wi σ G H ds) (h0 : ∀ G1 H1, Gr [] G H G1 H1 → I 0 σ G1 H1)
    (hs : ∀ i d σ' G1 H1, Gr M G H G1 H1 → ds[i]? = some d → I i σ' G1 H1 → ∀ x G2 H2, Gr [] G1 H1 G2 H2 → Dt G2 d x → gt x σ' H2 fun σ2 H3 => tb { D with nx := WdM M G1 H1 (I (i + 1)), ct := WdM M G1 H1 (I (i + 1)), bk := tz D } σ2 H3)
    (hd : ∀ σ' G1 H1, Gr M G H G1 H1 → I ds.length σ' G1 H1 → tz D σ' H1) : tSeq (tFor wi gt tb) tz D σ H := by
  refine h G H (Gr.refl e []) _ fun J G2 H2 g ok => ?_
  refine ⟨fun i m σ' H' => m = ds.length - i ∧ ∃ G', Gr M G2 H2 G' H' ∧ I i σ' G' H' ∧ i ≤ ds.length, ⟨_, rfl, G2, Gr.refl g.s M, h0 G2 H2 g, Nat.zero_le _⟩, ?_⟩
  rintro i m σ' H' ⟨rfl, G', g', w, hi⟩
  by_cases c : i < ds.length
  · obtain ⟨q1, q2⟩ := (ok M G' H' g' i).1 c
    refine .inr ⟨q1, WdM M G' H' (I (i + 1)), ?_, ?_⟩
    · rintro σ2 H2 ⟨G2, g2, w2⟩
      exact ⟨ds.length - (i + 1), by omega, rfl, G2, g'.trans g2, w2, c⟩
    · rintro x H'' z
      obtain ⟨G'', d, g3, q3, q4⟩ := q2 x H'' z
      exact hs i d σ' G' H' (g.to.trans g') q3 w x G'' H'' g3 q4
  · have e3 : i = ds.length := by omega
    subst e3
    exact .inl ⟨(ok M G' H' g' _).2 (Nat.le_refl _), hd σ' G' H' (g.to.trans g') w⟩
theorem q_while (M : List Addr) (I : Nat → L2.St → Hp → Hp → Prop) (m0 : Nat) (e : Ex G H) (h0 : I m0 σ G H)
    (hs : ∀ m σ' G1 H1, Gr M G H G1 H1 → I m σ' G1 H1 → ∃ b, EvT tc σ' G1 H1 b ∧
      (b = true → ∀ G2 H2, Gr [] G1 H1 G2 H2 → tb { D with nx := fun σ2 H3 => ∃ m', m' < m ∧ WdM M G1 H1 (I m') σ2 H3, ct := fun σ2 H3 => ∃ m', m' < m ∧ WdM M G1 H1 (I m') σ2 H3, bk := tz D } σ' H2) ∧
      (b = false → ∀ G2 H2, Gr [] G1 H1 G2 H2 → tz D σ' H2)) : tSeq (tWhile tc tb) tz D σ H := by
  refine ⟨fun m σ' H' => ∃ G', Gr M G H G' H' ∧ I m σ' G' H', ⟨m0, G, Gr.refl e M, h0⟩, ?_⟩
  rintro m σ' H' ⟨G', g', w⟩
  obtain ⟨b, hb, h1, h2⟩ := hs m σ' G' H' g' w
  refine hb G' H' (Gr.refl g'.s []) _ fun G2 H2 g2 => ?_
  cases b with
  | false => exact iteF (h2 rfl G2 H2 g2)
  | true =>
    refine iteT ⟨fun σ2 H3 => ∃ m', m' < m ∧ WdM M G' H' (I m') σ2 H3, ?_, h1 rfl G2 H2 g2⟩
    rintro σ2 H3 ⟨m', hm, G3, g3, w3⟩
    exact ⟨m', hm, G3, g'.trans g3, w3⟩
/-- a list of what a comprehension tells, item by item -/
theorem el_lc {tt : TT} {te : TE} {vs : List Nat} (F : Nat → PyData → Option PyData) (hl : ds.length ≤ 1000000) (h : EvI wi σ G H ds)
    (hs : ∀ i d x G1 H1, Gr [] G H G1 H1 → ds[i]? = some d → Dt G1 d x → ∀ k : L2.St → Hp → Prop, (∀ σ2, wipe σ2 vs = wipe σ vs → ∀ b, EvT tt σ2 G1 H1 b → (b = true → ∃ y, F i d = some y ∧ EvD te σ2 G1 H1 y) → (b = false → F i d = none) → k σ2 H1) → gt x (wipe σ vs) H1 k) :
    EvL (tLc wi gt tt te vs) σ G H (ds.zipIdx.filterMap fun e => F e.2 e.1) := fun G1 H1 g1 Q q =>
  h G1 H1 g1 _ fun J G2 H2 g2 ok L hL => by
    refine ⟨fun i m H' => m = ds.length - i ∧ i ≤ ds.length ∧ ∃ G' acc, Gr [] G2 H2 G' H' ∧ G' L = none ∧ H' L = some (.lst acc) ∧ acc.length ≤ i ∧ Dts G' ((ds.zipIdx.take i).filterMap fun e => F e.2 e.1) acc,
      ⟨_, rfl, Nat.zero_le _, G2, [], Gr.newM g2.s hL, ex_none g2.s hL, upd_same, Nat.le_refl _, rfl⟩, ?_⟩
    rintro i m H' ⟨rfl, hi, G', acc, g', n', a', la, k'⟩
    by_cases c : i < ds.length
    · obtain ⟨q1, q2⟩ := (ok [] G' H' g' i).1 c
      refine .inr ⟨q1, fun H3 => ∃ G3 acc, Gr [] G2 H2 G3 H3 ∧ G3 L = none ∧ H3 L = some (.lst acc) ∧ acc.length ≤ i + 1 ∧ Dts G3 ((ds.zipIdx.take (i + 1)).filterMap fun e => F e.2 e.1) acc, ?_, ?_⟩
      · rintro H3 ⟨G3, acc3, g3, n3, a3, l3, k3⟩
        exact ⟨ds.length - (i + 1), by omega, rfl, c, G3, acc3, g3, n3, a3, l3, k3⟩
      · rintro x H3 z
        obtain ⟨G3, d, g3, q3, q4⟩ := q2 x H3 z
        have tk : ds.zipIdx.take (i + 1) = ds.zipIdx.take i ++ [(d, i)] := by
          rw [List.take_succ, List.getElem?_zipIdx, q3]
          simp
        have a3 : H3 L = some (.lst acc) := g3.hx _ _ a'
        have n3 : G3 L = none := g3.n L _ a' rfl n'
        refine hs i d x G3 H3 (((g1.trans g2).trans g').trans g3) q3 q4 _ fun σ2 e2 b hb hy hn => ⟨e2, hb G3 H3 (Gr.refl g3.s []) _ fun G4 H4 g4 => ?_⟩
        cases b with
        | false =>
          refine iteF ⟨G4, acc, (g'.trans g3).trans g4, g4.n L _ a3 rfl n3, g4.hx _ _ a3, by omega, ?_⟩
          rw [tk, List.filterMap_append, show ([(d, i)] : List (PyData × Nat)).filterMap (fun e => F e.2 e.1) = [] by simp [hn rfl], List.append_nil]
          exact Dts.mono (g3.g.trans g4.g) _ k'
        | true =>
          obtain ⟨y, ey, hy⟩ := hy rfl
          refine iteT (hy G4 H4 g4 _ fun v G5 H5 g5 dv => ?_)
          have a5 : H5 L = some (.lst acc) := (g4.trans g5).hx _ _ a3
          have n5 : G5 L = none := (g4.trans g5).n L _ a3 rfl n3
          refine ⟨acc, a5, by have := szl (n := acc.length) (by omega); exact this, G5, acc ++ [v], ?_, n5, upd_same, by simp; omega, ?_⟩
          · refine ⟨((g'.trans g3).trans (g4.trans g5)).g, ((Gr.mut (o := .lst (acc ++ [v])) g5.s n5 rfl).s), ((g'.trans g3).trans (g4.trans g5)).n, fun b' u m w => ?_, fun b' u w => ?_⟩
            · have : b' ≠ L := ne_of_none w hL
              rw [upd_ne this]
              exact ((g'.trans g3).trans (g4.trans g5)).h b' u m w
            · have : b' ≠ L := ne_of_none w hL
              rw [upd_ne this]
              exact ((g'.trans g3).trans (g4.trans g5)).a b' u w
          · rw [tk, List.filterMap_append, show ([(d, i)] : List (PyData × Nat)).filterMap (fun e => F e.2 e.1) = [y] by simp [ey]]
            exact (Dts.mono (g3.g.trans (g4.g.trans g5.g)) _ k').snoc dv
    · have e3 : i = ds.length := by omega
      subst e3
      refine .inl ⟨(ok [] G' H' g' _).2 (Nat.le_refl _), ?_⟩
      rw [List.take_of_length_le (by simp)] at k'
      exact q L acc G' H' (g2.trans g') (g2.fresh hL) n' a' k'
end

/-! Tables of pairs; dicts with pairs of numbers as keys; own lists. -/
section
variable {κ α : Type} [DecidableEq κ]
def look (pl : List (κ × α)) (k : κ) : Option α := (pl.find? fun e => decide (e.1 = k)).map (·.2)
def put (pl : List (κ × α)) (k : κ) (x : α) : List (κ × α) := if (pl.any fun e => decide (e.1 = k)) = true then pl.map (fun e => if e.1 = k then (e.1, x) else e) else pl ++ [(k, x)]
def drp (pl : List (κ × α)) (k : κ) : List (κ × α) := pl.filter fun e => decide (e.1 ≠ k)
theorem look_nil {k : κ} : look ([] : List (κ × α)) k = none := rfl
theorem look_cons (e : κ × α) (pl : List (κ × α)) (k : κ) : look (e :: pl) k = if e.1 = k then some e.2 else look pl k := by
  unfold look
  rw [List.find?_cons]
  by_cases h : e.1 = k
  · simp [h]
  · simp [h]
theorem look_some_mem {pl : List (κ × α)} {k : κ} {x : α} (h : look pl k = some x) : (k, x) ∈ pl := by
  induction pl with
  | nil => cases h
  | cons e r ih =>
    rw [look_cons] at h
    by_cases z : e.1 = k
    · rw [if_pos z] at h
      cases h
      rw [← z]
      exact List.mem_cons_self ..
    · rw [if_neg z] at h
      exact List.mem_cons_of_mem _ (ih h)
theorem look_none_iff {pl : List (κ × α)} {k : κ} : look pl k = none ↔ k ∉ pl.map (·.1) := by
  induction pl with
  | nil => simp [look]
  | cons e r ih =>
    rw [look_cons]
    by_cases z : e.1 = k
    · simp [z]
    · rw [if_neg z, ih]
      simp [Ne.symm z]
theorem look_mem {pl : List (κ × α)} {k : κ} {x : α} (hn : (pl.map (·.1)).Nodup) (h : (k, x) ∈ pl) : look pl k = some x := by
  induction pl with
  | nil => cases h
  | cons e r ih =>
    rw [List.map_cons, List.nodup_cons] at hn
    rw [look_cons]
    rcases List.mem_cons.mp h with rfl | h
    · simp
    · have : e.1 ≠ k := fun z => hn.1 (by rw [z]; exact List.mem_map.mpr ⟨_, h, rfl⟩)
      rw [if_neg this]
      exact ih hn.2 h
theorem any_look (pl : List (κ × α)) (k : κ) : (pl.any fun e => decide (e.1 = k)) = (look pl k).isSome := by
  induction pl with
  | nil => rfl
  | cons e r ih =>
    rw [List.any_cons, ih, look_cons]
    by_cases z : e.1 = k <;> simp [z]
theorem look_map (pl : List (κ × α)) (k j : κ) (x : α) : look (pl.map fun e => if e.1 = k then (e.1, x) else e) j = (look pl j).map fun y => if j = k then x else y := by
  induction pl with
  | nil => rfl
  | cons e r ih =>
    rw [List.map_cons, look_cons, look_cons, ih]
    by_cases z : e.1 = k
    · rw [if_pos z]
      by_cases q : e.1 = j
      · have : j = k := q.symm.trans z
        simp [q, this]
      · simp [q]
    · rw [if_neg z]
      by_cases q : e.1 = j
      · have : j ≠ k := fun w => z (q.trans w)
        simp [q, this]
      · simp [q]
theorem look_append (pl ql : List (κ × α)) (k : κ) : look (pl ++ ql) k = (look pl k).or (look ql k) := by
  induction pl with
  | nil => simp [look_nil]
  | cons e r ih =>
    rw [List.cons_append, look_cons, look_cons, ih]
    by_cases z : e.1 = k <;> simp [z]
theorem look_put (pl : List (κ × α)) (k j : κ) (x : α) : look (put pl k x) j = if j = k then some x else look pl j := by
  unfold put
  rw [any_look]
  by_cases h : (look pl k).isSome = true
  · rw [if_pos h, look_map]
    by_cases z : j = k
    · rw [if_pos z, z]
      obtain ⟨y, hy⟩ := Option.isSome_iff_exists.mp h
      rw [hy]
      simp
    · rw [if_neg z]
      cases look pl j with
      | none => rfl
      | some y => simp [z]
  · rw [if_neg h, look_append, look_cons]
    by_cases z : j = k
    · subst z
      have : look pl j = none := by
        cases w : look pl j with
        | none => rfl
        | some y => rw [w] at h; exact absurd rfl h
      simp [this]
    · simp [z, Ne.symm z, look_nil]
theorem look_drp (pl : List (κ × α)) (k j : κ) : look (drp pl k) j = if j = k then none else look pl j := by
  induction pl with
  | nil => simp [drp, look]
  | cons e r ih =>
    unfold drp at ih ⊢
    rw [List.filter_cons]
    by_cases z : e.1 = k
    · simp only [z, ne_eq, not_true_eq_false, decide_false, Bool.false_eq_true, if_false]
      rw [ih, look_cons]
      by_cases q : j = k
      · simp [q]
      · simp [q, z, Ne.symm q]
    · simp only [z, ne_eq, not_false_eq_true, decide_true, if_true]
      rw [look_cons, ih, look_cons]
      by_cases q : j = k
      · have : e.1 ≠ j := fun w => z (w.trans q)
        simp [q, z]
      · simp [q]
theorem put_keys (pl : List (κ × α)) (k : κ) (x : α) : (put pl k x).map (·.1) = if (look pl k).isSome = true then pl.map (·.1) else pl.map (·.1) ++ [k] := by
  unfold put
  rw [any_look]
  by_cases h : (look pl k).isSome = true
  · rw [if_pos h, if_pos h, List.map_map]
    apply List.map_congr_left
    intro e _
    by_cases z : e.1 = k <;> simp [z]
  · rw [if_neg h, if_neg h, List.map_append]
    rfl
theorem put_nodup {pl : List (κ × α)} (hn : (pl.map (·.1)).Nodup) (k : κ) (x : α) : ((put pl k x).map (·.1)).Nodup := by
  rw [put_keys]
  by_cases h : (look pl k).isSome = true
  · rw [if_pos h]; exact hn
  · rw [if_neg h]
    have : look pl k = none := by simpa using h
    rw [List.nodup_append]
    exact ⟨hn, by simp, fun a ha b hb => by
      simp at hb
      subst hb
      intro q
      subst q
      exact look_none_iff.mp this ha⟩
theorem drp_nodup {pl : List (κ × α)} (hn : (pl.map (·.1)).Nodup) (k : κ) : ((drp pl k).map (·.1)).Nodup :=
  (List.filter_sublist.map _).nodup hn
theorem put_len_le (pl : List (κ × α)) (k : κ) (x : α) : (put pl k x).length ≤ pl.length + 1 := by
  unfold put
  split <;> simp
theorem drp_len_le (pl : List (κ × α)) (k : κ) : (drp pl k).length ≤ pl.length := List.length_filter_le ..
theorem drp_len {pl : List (κ × α)} (hn : (pl.map (·.1)).Nodup) {k : κ} {x : α} (h : look pl k = some x) : (drp pl k).length + 1 = pl.length := by
  induction pl with
  | nil => cases h
  | cons e r ih =>
    rw [List.map_cons, List.nodup_cons] at hn
    rw [look_cons] at h
    unfold drp at ih ⊢
    rw [List.filter_cons]
    by_cases z : e.1 = k
    · simp only [z, ne_eq, not_true_eq_false, decide_false, Bool.false_eq_true, if_false]
      rw [List.filter_eq_self.mpr]
      · simp
      · intro a ha
        have : a.1 ≠ k := fun q => hn.1 (by rw [z, ← q]; exact List.mem_map.mpr ⟨a, ha, rfl⟩)
        simpa using this
    · rw [if_neg z] at h
      simp only [z, ne_eq, not_false_eq_true, decide_true, if_true, List.length_cons]
      rw [ih hn.2 h]
theorem put_len_new {pl : List (κ × α)} {k : κ} {x : α} (h : look pl k = none) : (put pl k x).length = pl.length + 1 := by
  unfold put
  rw [any_look, h]
  simp
theorem put_new {pl : List (κ × α)} {k : κ} {x : α} (h : look pl k = none) : put pl k x = pl ++ [(k, x)] := by
  unfold put
  rw [any_look, h]
  simp
end
/-! ### a table as a dict with pairs as keys -/
abbrev Pl := Int × Int
def pk (k : Pl) : List Key := [Sum.inl k.1, Sum.inl k.2]
def pD (k : Pl) : PyData := .tuple [.int k.1, .int k.2]
theorem pk_inj {a b : Pl} : pk a = pk b ↔ a = b := by
  constructor
  · intro h
    unfold pk at h
    injection h with h1 h2
    injection h2 with h2 _
    injection h1 with h1
    injection h2 with h2
    exact Prod.ext h1 h2
  · rintro rfl
    rfl
section
variable {α : Type} {f : α → V}
def encT (f : α → V) (pl : List (Pl × α)) : List (List Key × V) := pl.map fun e => (pk e.1, f e.2)
theorem valV_enc (pl : List (Pl × α)) (k : Pl) : valV (encT f pl) (pk k) = (look pl k).map f := by
  unfold encT
  induction pl with
  | nil => rfl
  | cons e r ih =>
    rw [List.map_cons, look_cons]
    by_cases z : e.1 = k
    · rw [valV_pos (by rw [z]), if_pos z]
      rfl
    · rw [valV_neg (fun q => z (pk_inj.mp q)), if_neg z]
      exact ih
theorem putK_enc (pl : List (Pl × α)) (k : Pl) (x : α) : putK (encT f pl) (pk k) (f x) = encT f (put pl k x) := by
  unfold putK put
  rw [valV_any, valV_enc, any_look]
  have : ((look pl k).map f).isSome = (look pl k).isSome := by cases look pl k <;> rfl
  rw [this]
  by_cases h : (look pl k).isSome = true
  · rw [if_pos h, if_pos h]
    unfold encT
    rw [List.map_map, List.map_map]
    apply List.map_congr_left
    intro e _
    by_cases z : e.1 = k
    · simp [z]
    · simp [z, pk_inj]
  · rw [if_neg h, if_neg h]
    simp [encT]
theorem dropK_enc (pl : List (Pl × α)) (k : Pl) : dropK (encT f pl) (pk k) = encT f (drp pl k) := by
  unfold dropK drp encT
  rw [List.filter_map]
  congr 1
  apply List.filter_congr
  intro e _
  simp [pk_inj]
theorem encT_len (pl : List (Pl × α)) : (encT f pl).length = pl.length := by simp [encT]
end
theorem pD_dt {G : Hp} {k : Pl} {y : V} (h : Dt G (pD k) y) : ∃ b, y = .ref b ∧ G b = some (.tup ((pk k).map kV)) := by
  obtain ⟨b, xs, rfl, e, k⟩ := h
  obtain ⟨x, r, rfl, e1, y, r2, rfl, e2, e3⟩ := k
  cases e1
  cases e2
  cases e3
  exact ⟨b, rfl, e⟩
theorem dt_pD {G : Hp} {k : Pl} {b : Addr} (h : G b = some (.tup ((pk k).map kV))) : Dt G (pD k) (.ref b) :=
  ⟨b, _, rfl, h, .int k.1, [.int k.2], rfl, rfl, .int k.2, [], rfl, rfl, rfl⟩
/-! ### what takes out -/
section
variable {prog : Program} {w : World}
theorem meetsPop1 {K : Type} [DecidableEq K] {knd : HeapKind prog w K} {d b : Addr} {k : K} (hd : (d == sysModules) = false) :
    MeetsIn prog w (Builtin.«dict.pop» ⟨[.ref d, .ref b], []⟩) (fun A R s => ∃ xs p0, knd.room A.in1 ∧ knd.is s.heap k b ∧ s.heap.DictOfH knd d xs ∧ xs.length ≤ sizeLine ∧ atKey xs k = some p0 ∧
      ∀ p, atKey xs k = some p → ∀ h' tk, h'.DictOfH knd d (DT.dropH xs k) → Heap.SameBut d s.heap h' → R (.ok (.ret p.2)) { s with heap := h', toks := tk }) :=
  .of_wp fun A R s ⟨xs, p0, hu, hkey, hm, hsz, hthere, hsome⟩ => by
    obtain ⟨o, es, ep, ho, hc, hdat, he, his, hn⟩ := id hm
    have hes := size_of_entries he
    have hpart : (keyPart (Value.ref b)).isSome = false := rfl
    unfold Builtin.«dict.pop»
    refine wpAny_bind ?_
    unfold Builtin.Dict.keyAndDefault
    refine wpAny_bind (wpAny_notOrdered_dict hm.typeIs ?_)
    show wpAny _ _ (pure (d, Value.ref b, none)) _ _ s
    refine wpAny_pure ?_
    simp only [hpart, Bool.false_eq_true, if_false]
    refine wpAny_bind (wpAny_dictEntries ho hdat (wpAny_bind (wpAny_pure ?_)))
    have hem : es.isEmpty = false := by
      cases hem : es.isEmpty with
      | false => rfl
      | true =>
        have z : es.size = 0 := by simpa using hem
        have h0 : xs = [] := List.length_eq_zero_iff.mp (by omega)
        rw [h0] at hthere
        cases hthere
    rw [hem]
    simp only [Bool.false_eq_true, if_false]
    refine wpAny_bind (DT.takeH hu hkey hm hsz (fun hno => ?_) fun p e hp hev h' hm' hs' => ?_)
    · rw [hthere] at hno
      cases hno
    · simp only [Option.isNone_some, Bool.false_eq_true, if_false]
      exact wpAny_bind (wpAny_letGo (wpAny_pure ⟨e.val, rfl, by rw [hev]; exact hsome p hp h' _ hm' hs'⟩))
end
def rPop1T : V → List V → Hp → VK → Prop := fun x xs H Q => ∃ (a : Addr) (kvs : List (List Key × V)) (k : List Key) (b : Addr) (v : V), x = .ref a ∧ xs = [.ref b] ∧ H a = some (.dT kvs) ∧ H b = some (.tup (k.map kV)) ∧ valV kvs k = some v ∧ Q v (upd H a (.dT (dropK kvs k)))
def rPop1K : V → List V → Hp → VK → Prop := fun x xs H Q => ∃ (a : Addr) (kvs : List (Key × V)) (k : Key) (v : V), x = .ref a ∧ xs = [kV k] ∧ H a = some (.dK kvs) ∧ valV kvs k = some v ∧ Q v (upd H a (.dK (dropK kvs k)))
def rPopU : V → List V → Hp → VK → Prop := fun x xs H Q => rPop1T x xs H Q ∨ rPop1K x xs H Q
section
variable {X : Cx}
theorem mt_pop1T (hu : X.A.units + 1 < cLine) : MtR X "dict.pop" rPop1T := by
  intro pins s σ H x xs v us Q I rx rxs h
  obtain ⟨a, kvs, k, b, v0, rfl, rfl, ha, hb, hv, q1⟩ := h
  cases rx
  obtain ⟨u1, rfl, r1⟩ := vals1 rxs
  cases r1
  obtain ⟨z, hd, xs', rel, dd⟩ := dt_of I.hok ha
  have hz : xs'.length ≤ sizeLine := by rw [← Paired.length rel]; exact z
  have hth : ∃ p0, atKey xs' k = some p0 ∧ RelV v0 p0.2 := by
    have r := rel.val k
    rw [hv] at r
    cases e : atKey xs' k with
    | none =>
      rw [e] at r
      exact False.elim r
    | some p0 =>
      rw [e] at r
      exact ⟨p0, rfl, r⟩
  obtain ⟨p0, hp0, rv⟩ := hth
  refine call_meetsIn PySem.F.slot_dict_pop dd.typeIs PySem.F.entry_dict_pop (PySem.F.args_dict_pop_2 _ _) (meetsPop1 (knd := tupleKind (mixKind X.prog X.w)) (k := k) hd)
    ⟨xs', p0, tupleKind_room_in1 hu, key_of I.hok hb, dd, hz, hp0, fun p hp h' tk dd' hs => ?_⟩
  rw [hp0] at hp
  cases hp
  obtain ⟨o, es, ep, hq, h2, h3, h4, _, h5⟩ := dd'
  have I2 : Inv X pins σ (upd H a (.dT (dropK kvs k))) { s with heap := h', toks := tk } :=
    d_write I (by rw [ha]; exact True.intro) hs ⟨o, hq⟩ ⟨Nat.le_trans (dropK_le kvs k) z, hd, _, (DX.KT_drop k rel).keeps (fun c ys ec => (by rw [upd_ne (ne_of ec ha (fun z => nomatch z))]; exact ec)), o, es, ep, hq, h2, h3, h4, h5⟩
  show EP X pins σ Q p0.2 _
  exact ⟨v0, _, I2, rv, q1⟩
theorem mt_pop1K : MtR X "dict.pop" rPop1K := by
  intro pins s σ H x xs v us Q I rx rxs h
  obtain ⟨a, kvs, k, v0, rfl, rfl, ha, hv, q1⟩ := h
  cases rx
  obtain ⟨u1, rfl, r1⟩ := vals1 rxs
  exact d_pop I ha r1 hv (.inl rfl) fun w' s' I' rw' => ⟨v0, _, I', rw', q1⟩
theorem m_pop (hu : X.A.units + 1 < cLine) : MtR X "dict.pop" rPopU := MtR.or (mt_pop1T hu) mt_pop1K
end

/-! Reading and changing own dicts and lists. -/
section
variable {K : PySem.W.Frag} {σ : L2.St} {G H : Hp} {td ty tv te ta : TE} {tz : TS} {D : Ends} {d p : Addr} {α : Type} {f : α → V} {pl : List (Pl × α)} {k : Pl} {x : α}
theorem ev_dget (hd : EvV td σ G H (.ref d)) (hk : EvD ty σ G H (pD k)) (hH : H d = some (.dT (encT f pl))) (hl : look pl k = some x) : EvV (tDGet td ty) σ G H (f x) := fun G1 H1 g Q q =>
  hd G1 H1 g _ fun G2 H2 g2 => hk G2 H2 (g.trans g2) _ fun y G3 H3 g3 e => by
    obtain ⟨b, rfl, eb⟩ := pD_dt e
    have h3 : H3 d = some (.dT (encT f pl)) := ((g.trans g2).trans g3).hx _ _ hH
    refine ⟨d, f x, rfl, ?_, q G3 H3 (g2.trans g3)⟩
    have := DGet.t (k := pk k) h3 (g3.s _ _ eb)
    rw [valV_enc, hl] at this
    exact this
theorem ev_dgetI {pl : List (Pl × Int)} {x : Int} (hd : EvV td σ G H (.ref d)) (hk : EvD ty σ G H (pD k)) (hH : H d = some (.dT (encT V.int pl))) (hl : look pl k = some x) : EvD (tDGet td ty) σ G H (.int x) := (ev_dget hd hk hH hl).intD
theorem ev_dgetS {pl : List (Pl × Str)} {x : Str} (hd : EvV td σ G H (.ref d)) (hk : EvD ty σ G H (pD k)) (hH : H d = some (.dT (encT V.str pl))) (hl : look pl k = some x) : EvD (tDGet td ty) σ G H (.str x) := (ev_dget hd hk hH hl).strD
theorem ev_din {neg : Bool} (hd : EvV td σ G H (.ref d)) (hk : EvD ty σ G H (pD k)) (hH : H d = some (.dT (encT f pl))) : EvD (tOp (rInU K neg) ty td) σ G H (.bool (xor neg (look pl k).isSome)) := fun G1 H1 g Q q =>
  hk G1 H1 g _ fun y G2 H2 g2 e => hd G2 H2 (g.trans g2) _ fun G3 H3 g3 => by
    obtain ⟨b, rfl, eb⟩ := pD_dt e
    have h3 : H3 d = some (.dT (encT f pl)) := ((g.trans g2).trans g3).hx _ _ hH
    refine .inr (.inl ⟨d, _, rfl, DGet.t (k := pk k) h3 (g3.s _ _ (g3.g _ _ eb)), ?_⟩)
    rw [valV_enc]
    have : ((look pl k).map f).isSome = (look pl k).isSome := by cases look pl k <;> rfl
    rw [this]
    exact q _ G3 H3 (g2.trans g3) rfl
/-- d[k] = v, where v's evaluation may change d, too -/
theorem q_dput (hG : G d = none) (hv : ∀ Q : VK, (∀ G2 H2, Gr [d] G H G2 H2 → H2 d = some (.dT (encT f pl)) → Q (f x) H2) → tv σ H Q) (hd : ∀ G2 H2, Gr [d] G H G2 H2 → EvV td σ G2 H2 (.ref d)) (hk : ∀ G2 H2, Gr [d] G H G2 H2 → EvD ty σ G2 H2 (pD k))
    (h0 : H d = some o) (ho : isTp o = false) (hl : pl.length ≤ 100000) (kk : ∀ G2 H2, Gr [d] G H G2 H2 → H2 d = some (.dT (encT f (put pl k x))) → tz D σ H2) : tSeq (sDPut td ty tv) tz D σ H :=
  hv _ fun G2 H2 g2 h2 => hd G2 H2 g2 G2 H2 (Gr.refl g2.s []) _ fun G3 H3 g3 => hk G2 H2 g2 G3 H3 g3 _ fun y G4 H4 g4 e => by
    obtain ⟨b, rfl, eb⟩ := pD_dt e
    have gg := g3.trans g4
    have h4 : H4 d = some (.dT (encT f pl)) := gg.hx _ _ h2
    have gall := g2.trans gg.to
    refine ⟨d, _, rfl, DPut.t (k := pk k) h4 (g4.s _ _ eb) (by rw [encT_len, sizeLine_eq]; omega), ?_⟩
    rw [putK_enc]
    exact kk G4 _ (gall.trans (Gr.mut g4.s (gall.n d o h0 ho hG) rfl)) upd_same
theorem ev_dpop (hd : EvV td σ G H (.ref d)) (hk : EvD ty σ G H (pD k)) (e : Ex G H) (hG : G d = none) (hH : H d = some (.dT (encT f pl))) (hl : look pl k = some x) (Q : VK)
    (kk : ∀ G2 H2, Gr [d] G H G2 H2 → H2 d = some (.dT (encT f (drp pl k))) → Q (f x) H2) : tBM K "dict" rPopU td (tCons ty tNil) σ H Q :=
  hd G H (Gr.refl e []) _ fun G2 H2 g2 => by
    have h2 : H2 d = some (.dT (encT f pl)) := g2.hx _ _ hH
    refine ⟨.inr (.inr (.inl ⟨rfl, .inr ⟨_, h2⟩⟩)), hk G2 H2 g2 _ fun y G3 H3 g3 e => ?_⟩
    obtain ⟨b, rfl, eb⟩ := pD_dt e
    have h3 : H3 d = some (.dT (encT f pl)) := g3.hx _ _ h2
    refine .inl ⟨d, _, pk k, b, f x, rfl, rfl, h3, g3.s _ _ eb, by rw [valV_enc, hl]; rfl, ?_⟩
    rw [dropK_enc]
    exact kk G3 _ ((g2.trans g3).to.trans (Gr.mut g3.s ((g2.trans g3).n d _ hH rfl hG) rfl)) upd_same
/-- d = {} -/
theorem q_dnew {i : Nat} (e : Ex G H) (kk : ∀ d H2, Gr [] G H G H2 → H d = none → G d = none → H2 d = some (.dT []) → tz D (σ.set i (some (.ref d))) H2) : tSeq (tAsg tDNewT (gName i)) tz D σ H :=
  fun p hp => kk p _ (Gr.newM e hp) hp (ex_none e hp) upd_same
/-- xs.append(x) -/
theorem q_append {xs : List V} {x : PyData} (e : Ex G H) (ho : EvV ta σ G H (.ref p)) (hx : EvD te σ G H x) (hG : G p = none) (hH : H p = some (.lst xs)) (hl : xs.length ≤ 100000)
    (kk : ∀ v G2 H2, Gr [p] G H G2 H2 → Dt G2 x v → H2 p = some (.lst (xs ++ [v])) → tz D σ H2) : tSeq (tDrop (tBM K "list" rAppend ta (tCons te tNil))) tz D σ H :=
  ho G H (Gr.refl e []) _ fun G2 H2 g2 => by
    have h2 : H2 p = some (.lst xs) := g2.hx _ _ hH
    refine ⟨.inl ⟨rfl, xs, SqL.of h2⟩, hx G2 H2 g2 _ fun y G3 H3 g3 dy => ?_⟩
    have h3 : H3 p = some (.lst xs) := g3.hx _ _ h2
    have n3 := (g2.trans g3).n p _ hH rfl hG
    exact ⟨p, xs, y, rfl, rfl, h3, szl (by omega), kk y G3 _ ((g2.trans g3).to.trans (Gr.mut g3.s n3 rfl)) dy upd_same⟩
/-- xs[i] = x -/
theorem q_lset {xs : List V} {x : PyData} {i : Int} {j : Nat} (e : Ex G H) (hv : EvD tv σ G H x) (ho : EvV ta σ G H (.ref p)) (hi : EvD te σ G H (.int i)) (hG : G p = none) (hH : H p = some (.lst xs)) (hj : ixN xs.length i = some j)
    (kk : ∀ v G2 H2, Gr [p] G H G2 H2 → Dt G2 x v → H2 p = some (.lst (xs.set j v)) → tz D σ H2) : tSeq (tAsg tv (gSub ta te rSetL)) tz D σ H :=
  hv G H (Gr.refl e []) _ fun v G2 H2 g2 dv => ho G2 H2 g2 _ fun G3 H3 g3 => hi G3 H3 (g2.trans g3) _ fun w G4 H4 g4 dw => by
    cases dw
    have gg := (g2.trans g3).trans g4
    have h4 : H4 p = some (.lst xs) := gg.hx _ _ hH
    exact ⟨p, xs, i, j, rfl, rfl, h4, hj, kk v G4 _ (gg.to.trans (Gr.mut g4.s (gg.n p _ hH rfl hG) rfl)) (Dt.mono (g3.g.trans g4.g) _ dv) upd_same⟩
/-- a target of several names -/
theorem g_tup {ds : List PyData} {v : V} {n : Nat} {t : TGs} {Q : L2.St → Hp → Prop} (e : Ex G H) (h : Dt G (.tuple ds) v) (hn : ds.length = n) (kk : ∀ xs, Dts G ds xs → t xs σ H Q) : gTup K n t v σ H Q := by
  obtain ⟨a, xs, rfl, ea, k⟩ := h
  exact ⟨a, xs, rfl, SqT.of (e _ _ ea), by rw [k.len]; exact hn, kk xs k⟩
end
/-! ### list(..), sorted(..) -/
def rListU (K : PySem.W.Frag) : List V → Hp → VK → Prop := fun xs H Q => (∃ p ys, xs = [.ref p] ∧ (SqL K H p ys ∨ SqT K H p ys) ∧ ∀ l, H l = none → Q (.ref l) (upd H l (.lst ys))) ∨
  (∃ (a : Addr) (kvs : List (Key × V)), xs = [.ref a] ∧ Rd H a (.dK kvs) ∧ ∀ p, H p = none → Q (.ref p) (upd H p (.lst (kvs.map fun kv => kV kv.1)))) ∨
  (∃ d kvs, xs = [V.ref d] ∧ Rd H d (.dT kvs) ∧ ∀ p bs, H p = none → IsKeys H kvs bs → Q (.ref p) (upd H p (.lst (bs.map V.ref))))
theorem c_list {X : Cx} (hc : X.calm = true) : CallR X (.type "list") (rListU X.K) := CallR.or call_list_of (CallR.or (call_listD hc) (call_list_dT hc))
def rSortedU (K : PySem.W.Frag) : List V → Hp → VK → Prop := rSortedI K
theorem c_sortedI {X : Cx} : CallR X (.builtin "sorted") (rSortedU X.K) := cr_sortedI
theorem isKeys_get {α : Type} {f : α → V} {H : Hp} : ∀ {pl : List (Pl × α)} {bs : List Addr}, IsKeys H (encT f pl) bs → bs.length = pl.length ∧ ∀ (i : Nat) (b : Addr), bs[i]? = some b → ∃ e : Pl × α, pl[i]? = some e ∧ H b = some (.tup ((pk e.1).map kV))
  | [], _, h => by
    cases h
    exact ⟨rfl, fun i b e => by simp at e⟩
  | e :: r, _, h => by
    cases h with
    | cons h t =>
      obtain ⟨h1, h2⟩ := isKeys_get (f := f) t
      refine ⟨by simp [h1], fun i b q => ?_⟩
      cases i with
      | zero =>
        simp at q
        subst q
        exact ⟨e, rfl, h⟩
      | succ i =>
        simp at q
        obtain ⟨e', a, c⟩ := h2 i b q
        exact ⟨e', by simpa using a, c⟩
theorem isKeys_dts {α : Type} {f : α → V} {G H : Hp} : ∀ {pl : List (Pl × α)} {bs : List Addr}, IsKeys H (encT f pl) bs → (∀ b ∈ bs, ∀ o, H b = some o → G b = some o) → Dts G (pl.map fun e => pD e.1) (bs.map V.ref)
  | [], _, h, _ => by
    cases h
    rfl
  | e :: r, _, h, g => by
    cases h with
    | cons h t => exact ⟨_, _, rfl, dt_pD (g _ (List.mem_cons_self ..) _ h), isKeys_dts (f := f) t fun b hb => g b (List.mem_cons_of_mem _ hb)⟩
section
variable {K : PySem.W.Frag} {σ : L2.St} {G H : Hp} {te : TE}
theorem el_list {ds : List PyData} (h : EvD te σ G H (.list ds)) : EvL (tCB (rListU K) (tCons te tNil)) σ G H ds := el_cb (ea_dat h ea_nil) fun G1 H1 g vs k Q q => by
  obtain ⟨x, xs, rfl, e, k2⟩ := k
  cases k2
  obtain ⟨a, ys, rfl, e1, k1⟩ := e
  exact .inl ⟨a, ys, rfl, .inl (SqL.of (g.s _ _ e1)), fun l hl => q l ys G1 _ (Gr.newM g.s hl) hl (ex_none g.s hl) upd_same k1⟩
theorem el_listT {ds : List PyData} (h : EvD te σ G H (.tuple ds)) : EvL (tCB (rListU K) (tCons te tNil)) σ G H ds := el_cb (ea_dat h ea_nil) fun G1 H1 g vs k Q q => by
  obtain ⟨x, xs, rfl, e, k2⟩ := k
  cases k2
  obtain ⟨a, ys, rfl, e1, k1⟩ := e
  exact .inl ⟨a, ys, rfl, .inr (SqT.of (g.s _ _ e1)), fun l hl => q l ys G1 _ (Gr.newM g.s hl) hl (ex_none g.s hl) upd_same k1⟩
/-- list(d): its keys -/
theorem el_listD {α : Type} {f : α → V} {pl : List (Pl × α)} {d : Addr} (h : EvV te σ G H (.ref d)) (hH : H d = some (.dT (encT f pl))) : EvL (tCB (rListU K) (tCons te tNil)) σ G H (pl.map fun e => pD e.1) := fun G1 H1 g Q q =>
  h G1 H1 g _ fun G2 H2 g2 => by
    refine .inr (.inr ⟨d, _, rfl, .inl ((g.trans g2).hx _ _ hH), fun l bs hl hk => ?_⟩)
    have gm := Gr.meet g2.s (fun b => b ∈ bs) fun b hb => by
      obtain ⟨i, hi⟩ := List.getElem?_of_mem hb
      obtain ⟨e, _, he⟩ := (isKeys_get hk).2 i b hi
      exact ⟨_, he⟩
    refine q l (bs.map V.ref) _ _ ((g2.trans gm).trans (Gr.newM gm.s hl)) (g2.fresh hl) (ex_none gm.s hl) upd_same (isKeys_dts hk fun b hb o ho => ?_)
    show (if b ∈ bs then H2 b else G2 b) = some o
    rw [if_pos hb]
    exact ho
/-- sorted ints -/
theorem el_sortedI {ns : List Int} (h : EvD te σ G H (.list (ns.map PyData.int))) {ms : List Int} (hm : ∀ ns' : List Int, ns'.Perm ns → ns'.Pairwise (· ≤ ·) → ns' = ms) : EvL (tCB (rSortedU K) (tCons te tNil)) σ G H (ms.map PyData.int) := el_cb (ea_dat h ea_nil) fun G1 H1 g vs k Q q => by
  obtain ⟨x, xs, rfl, e, k2⟩ := k
  cases k2
  obtain ⟨a, ys, rfl, e1, k1⟩ := e
  have := Dts.of_ints k1
  subst this
  refine ⟨a, ns, rfl, SqL.of (g.s _ _ e1), fun ns' p hp hs hq => ?_⟩
  have := hm ns' hp hs
  subst this
  exact q p _ G1 _ (Gr.newM g.s hq) hq (ex_none g.s hq) upd_same (Dts.ints _)
/-- xs * n -/
theorem el_rep {ta tb : TE} {ds : List PyData} {n : Int} (h1 : EvL ta σ G H ds) (h2 : EvD tb σ G H (.int n)) (hn : n ≤ 1000000 ∧ -1000000 ≤ n) (hs : ds.length * n.toNat ≤ 1000000) : EvL (tOp rMulU ta tb) σ G H (List.replicate n.toNat ds).flatten := fun G1 H1 g Q q =>
  h1 G1 H1 g _ fun p xs G2 H2 g2 f2 n2 e2 k2 => h2 G2 H2 (g.trans g2) _ fun v G3 H3 g3 ev => by
    cases ev
    have e3 : H3 p = some (.lst xs) := g3.hx _ _ e2
    refine .inr ⟨p, n, xs, rfl, rfl, e3, by omega, by omega, by rw [k2.len]; exact sz hs, fun l hl => ?_⟩
    have gg := g2.trans g3
    refine q l _ G3 _ (gg.trans (Gr.newM g3.s hl)) (gg.fresh hl) (ex_none g3.s hl) upd_same ?_
    have : ∀ m : Nat, Dts G3 (List.replicate m ds).flatten (List.replicate m xs).flatten := by
      intro m
      induction m with
      | zero => rfl
      | succ m ih =>
        rw [List.replicate_succ, List.replicate_succ, List.flatten_cons, List.flatten_cons]
        exact (Dts.mono g3.g _ k2).app ih
    exact this _
end

/-! len(set(pairs)); small words. -/
def tLenSetT (K : PySem.W.Frag) (ta : TE) : TE := fun σ H Q => ta σ H fun x H1 => ∃ (l : Addr) (ks : List (Addr × List Int)), x = V.ref l ∧ SqL K H1 l (ks.map fun p => V.ref p.1) ∧ (∀ p ∈ ks, SqT K H1 p.1 (p.2.map V.int)) ∧ ks.length < 64 ∧
  ∀ D : List (List Int), D.Nodup → (∀ z, z ∈ D ↔ z ∈ ks.map (·.2)) → Q (.int D.length) H1
theorem pe_lenSetT {X : Cx} {a : Expr} {ta : TE} {p p2 q pos : Pos} (hc : X.calm = true) (hu : X.A.units + 64 < cLine) (hg : Gl X "len") (hm : X.mg "len" = none) (hg2 : Gl X "set") (hm2 : X.mg "set" = none) (ha : PE X a ta)
    (na : starEach [a] X.env = (false, eval a X.env) :: starEach [] X.env := by rfl) : PE X (.Call (.Name "len" p) [.Call (.Name "set" p2) [a] [] q] [] pos) (tLenSetT X.K ta) := by
  refine ⟨fun pins s σ H Q I h => ?_⟩
  refine Call_ (ld_blt I hg hm PySem.boot_len ?_)
  refine PyProof.Rows.callWith_builtin1 (PyProof.Rows.args_cons ?_ rfl) rfl rfl
  refine Call_ (ld_blt I hg2 hm2 PyProof.Rows.boot_set ?_)
  refine PyProof.Rows.callWith_type1 (PyProof.Rows.args_cons (thn (ha.run pins s σ H _ I h) fun v s1 ⟨x, H1, I1, r1, q1⟩ => PyProof.Rows.args_nil ?_) na) na rfl
  obtain ⟨l, ks, rfl, hl, hk, hf, q1⟩ := q1
  cases r1
  obtain ⟨its, rv, pl, hz⟩ := I1.list hl
  refine call_set_tups (P := X.prog) (w := X.w) ks (I1.ok.hd hc) pl.isList (by simpa using refs_of_vals rv) (fun p hp => I1.isT (hk p hp)) hf (by omega) fun h' tk L es ep t R g k => ?_
  refine PyProof.Rows.args_nil ?_
  obtain ⟨o, ho, hex, hd⟩ := R.ob
  have I2 : Inv X pins σ H1 { s1 with heap := h', toks := tk } := I1.kept k
  have hn := R.size (s := { s1 with heap := h', toks := tk })
  have hfew := R.few
  refine call_len_set ho hex hd (R.fits (s := { s1 with heap := h', toks := tk })) (by omega) ⟨.int (L.map (·.2)).length, H1, I2.tok _, ⟨_, by rw [List.length_map, hn]⟩, q1 (L.map (·.2)) R.nd fun z => ?_⟩
  constructor
  · intro hz
    obtain ⟨p, hp, rfl⟩ := List.mem_map.mp hz
    exact List.mem_map.mpr ⟨p, List.mem_of_mem_take (g.sub p hp), rfl⟩
  · intro hz
    obtain ⟨p, hp, rfl⟩ := List.mem_map.mp hz
    exact g.all p (by rw [List.take_length]; exact hp)
theorem nodup_len' {β : Type} [DecidableEq β] : ∀ {l m : List β}, l.Nodup → (∀ x ∈ l, x ∈ m) → l.length ≤ m.length
  | [], _, _, _ => Nat.zero_le _
  | x :: l, m, hn, h => by
    rw [List.nodup_cons] at hn
    have hx : x ∈ m := h x (List.mem_cons_self ..)
    have : l.length ≤ (m.erase x).length := nodup_len' hn.2 fun y hy => by
      have : y ≠ x := fun q => hn.1 (q ▸ hy)
      exact (List.mem_erase_of_ne this).mpr (h y (List.mem_cons_of_mem _ hy))
    rw [List.length_erase_of_mem hx] at this
    have : 0 < m.length := List.length_pos_of_mem hx
    simp
    omega
/-- each once -/
def ddp : List Pl → List Pl
  | [] => []
  | x :: r => if x ∈ r then ddp r else x :: ddp r
theorem mem_ddp (x : Pl) : ∀ l, x ∈ ddp l ↔ x ∈ l
  | [] => Iff.rfl
  | y :: r => by
    unfold ddp
    split
    · rename_i h
      rw [mem_ddp x r, List.mem_cons]
      exact ⟨.inr, fun q => q.elim (fun e => e ▸ h) id⟩
    · rw [List.mem_cons, List.mem_cons, mem_ddp x r]
theorem nd_ddp : ∀ l, (ddp l).Nodup
  | [] => List.nodup_nil
  | y :: r => by
    unfold ddp
    split
    · exact nd_ddp r
    · rename_i h
      exact List.nodup_cons.mpr ⟨fun q => h ((mem_ddp y r).mp q), nd_ddp r⟩
theorem ddp_len_le {l F : List Pl} (h : ∀ x ∈ l, x ∈ F) : (ddp l).length ≤ F.length := nodup_len' (nd_ddp l) fun x hx => h x ((mem_ddp x l).mp hx)
theorem ddp_nodup : ∀ {l : List Pl}, (ddp l).length = l.length ↔ l.Nodup
  | [] => by simp [ddp]
  | x :: r => by
    have h1 := ddp_len_le (l := r) (F := r) fun _ h => h
    have ih := ddp_nodup (l := r)
    unfold ddp
    rw [List.nodup_cons, List.length_cons]
    split
    · rename_i h
      constructor
      · intro q
        omega
      · rintro ⟨q, _⟩
        exact absurd h q
    · rename_i h
      rw [List.length_cons]
      constructor
      · intro q
        exact ⟨h, ih.mp (by omega)⟩
      · rintro ⟨_, q⟩
        have := ih.mpr q
        omega
theorem map_nodup_inj {α β : Type} {f : α → β} (hf : ∀ a b, f a = f b → a = b) : ∀ {l : List α}, l.Nodup → (l.map f).Nodup
  | [], _ => List.nodup_nil
  | x :: l, h => by
    rw [List.nodup_cons] at h
    rw [List.map_cons, List.nodup_cons]
    refine ⟨fun z => ?_, map_nodup_inj hf h.2⟩
    obtain ⟨y, hy, e⟩ := List.mem_map.mp z
    exact h.1 (hf _ _ e ▸ hy)
theorem pairs_ks {K : PySem.W.Frag} {G H : Hp} (b : Ex G H) : ∀ {l : List Pl} {xs : List V}, Dts G (l.map pD) xs → ∃ ks : List (Addr × List Int), xs = (ks.map fun p => V.ref p.1) ∧ (∀ p ∈ ks, SqT K H p.1 (p.2.map V.int)) ∧ ks.map (·.2) = l.map fun k => [k.1, k.2]
  | [], _, h => ⟨[], h, (fun _ q => absurd q List.not_mem_nil), rfl⟩
  | k :: l, _, h => by
    obtain ⟨x, r, rfl, h1, h2⟩ := h
    obtain ⟨ks, rfl, q2, q3⟩ := pairs_ks (K := K) b h2
    obtain ⟨t, rfl, ht⟩ := pD_dt h1
    refine ⟨(t, [k.1, k.2]) :: ks, rfl, fun p hp => ?_, by rw [List.map_cons, List.map_cons, q3]⟩
    rcases List.mem_cons.mp hp with rfl | hp
    · exact SqT.of (b _ _ ht)
    · exact q2 p hp
section
variable {K : PySem.W.Frag} {σ : L2.St} {G H : Hp} {te ta tb : TE} {v : V}
theorem ev_lenSet {l : List Pl} (h : EvD te σ G H (.list (l.map pD))) (hl : l.length < 64) : EvD (tLenSetT K te) σ G H (.int (ddp l).length) := fun G1 H1 g Q q => h G1 H1 g _ fun v G2 H2 g2 e => by
  obtain ⟨a, xs, rfl, ea, k⟩ := e
  obtain ⟨ks, rfl, q2, q3⟩ := pairs_ks (K := K) g2.s k
  have ln : ks.length = l.length := by
    have := congrArg List.length q3
    simpa using this
  refine ⟨a, ks, rfl, SqL.of (g2.s _ _ ea), q2, by omega, fun D hD hm => ?_⟩
  have inj : ∀ a b : Pl, (fun k : Pl => [k.1, k.2]) a = (fun k : Pl => [k.1, k.2]) b → a = b := fun a b e => by
    have e : [a.1, a.2] = [b.1, b.2] := e
    injection e with e1 e2
    injection e2 with e2 _
    exact Prod.ext e1 e2
  have : D.length = (ddp l).length := by
    have h1 := nodup_len' hD (m := (ddp l).map fun k => [k.1, k.2]) fun z hz => by
      have := (hm z).mp hz
      rw [q3] at this
      obtain ⟨k, hk, rfl⟩ := List.mem_map.mp this
      exact List.mem_map.mpr ⟨k, (mem_ddp k l).mpr hk, rfl⟩
    have h2 := nodup_len' (map_nodup_inj inj (nd_ddp l)) (m := D) fun z hz => by
      obtain ⟨k, hk, rfl⟩ := List.mem_map.mp hz
      refine (hm _).mpr ?_
      rw [q3]
      exact List.mem_map.mpr ⟨k, (mem_ddp k l).mp hk, rfl⟩
    rw [List.length_map] at h1 h2
    omega
  rw [this]
  exact q _ G2 H2 g2 rfl
/-- an object out of a tuple -/
theorem ev_ixTV {t : Addr} {xs : List V} {i : Int} (h : EvV ta σ G H (.ref t)) (hb : EvD tb σ G H (.int i)) (ht : G t = some (.tup xs)) (hx : atI xs i = some v) : EvV (tOp (rIx K) ta tb) σ G H v := fun G1 H1 g Q q =>
  h G1 H1 g _ fun G2 H2 g2 => hb G2 H2 (g.trans g2) _ fun w G3 H3 g3 e => by
    cases e
    exact .inr (.inl ⟨t, xs, i, v, rfl, rfl, SqT.of (((g.trans g2).trans g3).s _ _ (((g.trans g2).trans g3).g _ _ ht)), hx, q G3 H3 (g2.trans g3)⟩)
end
theorem atI_ints {l : List Int} {i : Int} (h0 : 0 ≤ i) (h1 : i < l.length) : atI (l.map PyData.int) i = some (.int (l.getD i.toNat 0)) := by
  obtain ⟨n, rfl⟩ : ∃ n : Nat, i = n := ⟨i.toNat, by omega⟩
  have : n < l.length := by omega
  refine atI_nat ?_
  rw [List.getElem?_map, List.getElem?_eq_getElem this, Int.toNat_natCast, List.getD_eq_getElem?_getD, List.getElem?_eq_getElem this]
  rfl
/-- what was new may stay -/
theorem Ex.upd2 {G : Hp} {p : Addr} {o : HO} (n : G p = none) : Ex G (upd G p o) := Ex.new n

/-! seats: the plain part. A table of taken places; ways; what a way's shift does. -/
theorem nodup_len {β : Type} [DecidableEq β] : ∀ {l m : List β}, l.Nodup → (∀ x ∈ l, x ∈ m) → l.length ≤ m.length
  | [], _, _, _ => Nat.zero_le _
  | x :: l, m, hn, h => by
    rw [List.nodup_cons] at hn
    have hx : x ∈ m := h x (List.mem_cons_self ..)
    have : l.length ≤ (m.erase x).length := nodup_len hn.2 fun y hy => by
      have : y ≠ x := fun q => hn.1 (q ▸ hy)
      exact (List.mem_erase_of_ne this).mpr (h y (List.mem_cons_of_mem _ hy))
    rw [List.length_erase_of_mem hx] at this
    have : 0 < m.length := List.length_pos_of_mem hx
    simp
    omega
abbrev Pt := List (Pl × Int)
def pr (ps : List Pl) (n : Int) : Pl := ps.getD n.toNat (0, 0)
/-- the other home of a pair's place -/
def oth (p : Pl) (k : Pl) : Pl := if k.1 = 0 then (1, p.2) else (0, p.1)
/-- k is one of the pair's places -/
def isHome (p : Pl) (k : Pl) : Prop := k = (0, p.1) ∨ k = (1, p.2)
theorem oth_home (p k : Pl) : isHome p (oth p k) := by
  unfold oth isHome
  split
  · exact .inr rfl
  · exact .inl rfl
theorem home_oth {p k j : Pl} (h : isHome p k) (q : isHome p j) : j = k ∨ j = oth p k := by
  unfold oth
  rcases h with rfl | rfl <;> rcases q with rfl | rfl <;> simp
theorem home_row {p k : Pl} (h : isHome p k) : k.1 = 0 ∨ k.1 = 1 := by
  rcases h with rfl | rfl
  · exact .inl rfl
  · exact .inr rfl
structure PtOk (ps : List Pl) (c : Int) (pt : Pt) : Prop where
  nd : (pt.map (·.1)).Nodup
  hm : ∀ k n, look pt k = some n → 0 ≤ n ∧ n < c ∧ isHome (pr ps n) k
  inj : ∀ i j n, look pt i = some n → look pt j = some n → i = j
  all : ∀ n : Int, 0 ≤ n → n < c → ∃ k, look pt k = some n
  len : (pt.length : Int) ≤ c
def nextM (ps : List Pl) (pt : Pt) (k : Pl) : Option Pl := (look pt k).map fun n => oth (pr ps n) k
/-- going along: as far as f tells, found by now, the last of them -/
inductive Way (ps : List Pl) (pt : Pt) : List Pl → Prop
  | one (k : Pl) : Way ps pt [k]
  | more {w : List Pl} {k o : Pl} (h : Way ps pt (w ++ [k])) (e : nextM ps pt k = some o) (n : o ∉ w ++ [k]) : Way ps pt (w ++ [k] ++ [o])
theorem Way.ne {ps : List Pl} {pt : Pt} {w : List Pl} (h : Way ps pt w) : w ≠ [] := by
  cases h <;> simp
theorem Way.nd {ps : List Pl} {pt : Pt} {w : List Pl} (h : Way ps pt w) : w.Nodup := by
  induction h with
  | one k => simp
  | more h e n ih =>
    rw [List.nodup_append]
    refine ⟨ih, by simp, fun a ha b hb => ?_⟩
    simp at hb
    subst hb
    intro q
    subst q
    exact n ha
theorem Way.step {ps : List Pl} {pt : Pt} {w : List Pl} (h : Way ps pt w) : ∀ i a b, w[i]? = some a → w[i + 1]? = some b → nextM ps pt a = some b := by
  induction h with
  | one k =>
    intro i a b _ h2
    simp at h2
  | @more w k o h e n ih =>
    intro i a b h1 h2
    by_cases c : i + 1 < (w ++ [k]).length
    · rw [List.getElem?_append_left c] at h2
      rw [List.getElem?_append_left (by omega)] at h1
      exact ih i a b h1 h2
    · have hi : i + 1 < (w ++ [k] ++ [o]).length := by
        have := (List.getElem?_eq_some_iff.mp h2).1
        exact this
      simp at hi c
      have : i = w.length := by omega
      subst this
      simp at h1 h2
      subst h1
      subst h2
      exact e
theorem next_key {ps : List Pl} {pt : Pt} {a b : Pl} (h : nextM ps pt a = some b) : (look pt a).isSome = true := by
  unfold nextM at h
  cases e : look pt a with
  | none => rw [e] at h; cases h
  | some n => rfl
theorem key_mem {pt : Pt} {a : Pl} (h : (look pt a).isSome = true) : a ∈ pt.map (·.1) := by
  rw [← any_look] at h
  simp at h
  simp
  exact h
/-- a way that goes on is short -/
theorem Way.short {ps : List Pl} {pt : Pt} {w : List Pl} {k o : Pl} (h : Way ps pt (w ++ [k])) (e : nextM ps pt k = some o) : (w ++ [k]).length ≤ pt.length := by
  have := nodup_len (m := pt.map (·.1)) h.nd fun x hx => by
    obtain ⟨i, hi⟩ := List.getElem?_of_mem hx
    have hl := (List.getElem?_eq_some_iff.mp hi).1
    by_cases c : i + 1 < (w ++ [k]).length
    · exact key_mem (next_key (h.step i x _ hi (List.getElem?_eq_getElem c)))
    · have : i = w.length := by simp at hl c; omega
      subst this
      simp at hi
      subst hi
      exact key_mem (next_key e)
  simpa using this
/-- the way that way_from tells -/
structure WayEnd (ps : List Pl) (pt : Pt) (k : Pl) (w : List Pl) : Prop where
  way : Way ps pt w
  hd : w.head? = some k
  fin : ∀ l o, w.getLast? = some l → nextM ps pt l = some o → o ∈ w
theorem way_len {ps : List Pl} {pt : Pt} {w : List Pl} (h : Way ps pt w) : w.length ≤ pt.length + 1 := by
  cases h with
  | one k => simp
  | more h e n =>
    have := h.short e
    simp at this ⊢
    omega
/-- all but the last of a way are taken -/
theorem Way.taken {ps : List Pl} {pt : Pt} {w : List Pl} (h : Way ps pt w) {i : Nat} {a : Pl} (h1 : w[i]? = some a) (h2 : i + 1 < w.length) : (look pt a).isSome = true :=
  next_key (h.step i a _ h1 (List.getElem?_eq_getElem h2))
/-! ### the shift, k from the last down to 1 -/
def shiftA (pt : Pt) (w : List Pl) : Nat → Pt
  | 0 => pt
  | i + 1 => put (drp (shiftA pt w i) (w.getD (w.length - 1 - i - 1) (0, 0))) (w.getD (w.length - 1 - i) (0, 0)) ((look (shiftA pt w i) (w.getD (w.length - 1 - i - 1) (0, 0))).getD 0)
theorem getD_of {β : Type} {w : List β} {i : Nat} {a d : β} (h : w[i]? = some a) : w.getD i d = a := by
  rw [List.getD_eq_getElem?_getD, h]
  rfl
theorem nd_get {β : Type} {w : List β} (h : w.Nodup) {i j : Nat} {a : β} (h1 : w[i]? = some a) (h2 : w[j]? = some a) : i = j := by
  have l1 := (List.getElem?_eq_some_iff.mp h1).1
  have l2 := (List.getElem?_eq_some_iff.mp h2).1
  exact (List.getElem?_inj l1 h).mp (h1.trans h2.symm)
/-- i steps done: places behind the first len - 1 - i have the values of those ahead -/
theorem shiftA_look {ps : List Pl} {pt : Pt} {w : List Pl} (h : Way ps pt w) : ∀ i, i ≤ w.length - 1 →
    (∀ j a b, w.length - 1 - i ≤ j → w[j]? = some a → w[j + 1]? = some b → look (shiftA pt w i) b = look pt a) ∧
    (∀ a, 0 < i → w[w.length - 1 - i]? = some a → look (shiftA pt w i) a = none) ∧
    (∀ j a, j < w.length - 1 - i → w[j]? = some a → look (shiftA pt w i) a = look pt a) ∧
    (∀ a, i = 0 → look (shiftA pt w i) a = look pt a) ∧
    (∀ a, a ∉ w → look (shiftA pt w i) a = look pt a) := by
  intro i
  induction i with
  | zero =>
    intro _
    refine ⟨fun j a b hj h1 h2 => ?_, fun a z => absurd z (Nat.lt_irrefl _), fun _ _ _ _ => rfl, fun _ _ => rfl, fun _ _ => rfl⟩
    have := (List.getElem?_eq_some_iff.mp h2).1
    omega
  | succ i ih =>
    intro hi
    obtain ⟨s1, s2, s3, s4, s5⟩ := ih (by omega)
    obtain ⟨x, hx⟩ : ∃ x, w[w.length - 1 - i - 1]? = some x := ⟨_, List.getElem?_eq_getElem (by omega)⟩
    obtain ⟨y, hy⟩ : ∃ y, w[w.length - 1 - i]? = some y := ⟨_, List.getElem?_eq_getElem (by omega)⟩
    have nxy : x ≠ y := fun z => by
      have := nd_get h.nd hx (z ▸ hy)
      omega
    have tx : (look pt x).isSome = true := h.taken hx (by omega)
    obtain ⟨n, hn⟩ := Option.isSome_iff_exists.mp tx
    have lx : look (shiftA pt w i) x = some n := (s3 _ x (by omega) hx).trans hn
    have e : ∀ a, look (shiftA pt w (i + 1)) a = if a = y then some n else if a = x then none else look (shiftA pt w i) a := fun a => by
      show look (put (drp (shiftA pt w i) (w.getD (w.length - 1 - i - 1) (0, 0))) (w.getD (w.length - 1 - i) (0, 0)) ((look (shiftA pt w i) (w.getD (w.length - 1 - i - 1) (0, 0))).getD 0)) a = _
      rw [look_put, getD_of hx, getD_of hy, look_drp, lx]
      rfl
    refine ⟨fun j a b hj h1 h2 => ?_, fun a _ h1 => ?_, fun j a hj h1 => ?_, fun _ z => absurd z (Nat.succ_ne_zero _), fun a ha => ?_⟩
    · rw [e]
      by_cases c : j + 1 = w.length - 1 - i
      · have : b = y := by
          rw [c, hy] at h2
          cases h2
          rfl
        have : a = x := by
          have : j = w.length - 1 - i - 1 := by omega
          rw [this, hx] at h1
          cases h1
          rfl
        simp [*]
      · have b1 : b ≠ y := fun z => c (nd_get h.nd (z ▸ h2) hy)
        have b2 : b ≠ x := fun z => by
          have := nd_get h.nd (z ▸ h2) hx
          omega
        rw [if_neg b1, if_neg b2]
        exact s1 j a b (by omega) h1 h2
    · have : a = x := by
        rw [show w.length - 1 - (i + 1) = w.length - 1 - i - 1 by omega, hx] at h1
        cases h1
        rfl
      rw [e, this, if_neg nxy, if_pos rfl]
    · have b1 : a ≠ y := fun z => by
        have := nd_get h.nd (z ▸ h1) hy
        omega
      have b2 : a ≠ x := fun z => by
        have := nd_get h.nd (z ▸ h1) hx
        omega
      rw [e, if_neg b1, if_neg b2]
      exact s3 j a (by omega) h1
    · have b1 : a ≠ y := fun z => ha (z ▸ List.mem_of_getElem? hy)
      have b2 : a ≠ x := fun z => ha (z ▸ List.mem_of_getElem? hx)
      rw [e, if_neg b1, if_neg b2]
      exact s5 a ha
theorem shiftA_nd {pt : Pt} {w : List Pl} (h : (pt.map (·.1)).Nodup) : ∀ i, ((shiftA pt w i).map (·.1)).Nodup
  | 0 => h
  | i + 1 => put_nodup (drp_nodup (shiftA_nd h i) _) _ _
theorem shiftA_len {ps : List Pl} {pt : Pt} {w : List Pl} (h : Way ps pt w) (hn : (pt.map (·.1)).Nodup) : ∀ i, i ≤ w.length - 1 → (shiftA pt w i).length ≤ pt.length
  | 0, _ => Nat.le_refl _
  | i + 1, hi => by
    obtain ⟨x, hx⟩ : ∃ x, w[w.length - 1 - i - 1]? = some x := ⟨_, List.getElem?_eq_getElem (by omega)⟩
    obtain ⟨n, hn'⟩ := Option.isSome_iff_exists.mp (h.taken hx (by omega))
    have lx := ((shiftA_look h i (by omega)).2.2.1 _ x (by omega) hx).trans hn'
    have h1 := drp_len (shiftA_nd hn i) lx
    have h2 := put_len_le (drp (shiftA pt w i) (w.getD (w.length - 1 - i - 1) (0, 0))) (w.getD (w.length - 1 - i) (0, 0)) ((look (shiftA pt w i) (w.getD (w.length - 1 - i - 1) (0, 0))).getD 0)
    have h3 := shiftA_len h hn i (by omega)
    rw [getD_of hx] at h2
    have : (shiftA pt w (i + 1)).length = (put (drp (shiftA pt w i) x) (w.getD (w.length - 1 - i) (0, 0)) ((look (shiftA pt w i) x).getD 0)).length := by
      show (put (drp (shiftA pt w i) (w.getD (w.length - 1 - i - 1) (0, 0))) _ ((look (shiftA pt w i) (w.getD (w.length - 1 - i - 1) (0, 0))).getD 0)).length = _
      rw [getD_of hx]
    omega
/-- the table behind the shift and the new pair -/
def seatM (pt : Pt) (w : List Pl) (n : Int) : Pt := put (shiftA pt w (w.length - 1)) (w.getD 0 (0, 0)) n
theorem seat_look {ps : List Pl} {pt : Pt} {w : List Pl} {n : Int} (h : Way ps pt w) :
    (∀ a, w[0]? = some a → look (seatM pt w n) a = some n) ∧ (∀ j a b, w[j]? = some a → w[j + 1]? = some b → look (seatM pt w n) b = look pt a) ∧ (∀ a, a ∉ w → look (seatM pt w n) a = look pt a) := by
  obtain ⟨s1, s2, s3, s4, s5⟩ := shiftA_look h (w.length - 1) (Nat.le_refl _)
  have hne := h.ne
  obtain ⟨x, hx⟩ : ∃ x, w[0]? = some x := ⟨_, List.getElem?_eq_getElem (List.length_pos_iff.mpr hne)⟩
  have e : ∀ a, look (seatM pt w n) a = if a = x then some n else look (shiftA pt w (w.length - 1)) a := fun a => by
    unfold seatM
    rw [look_put, getD_of hx]
  refine ⟨fun a h1 => ?_, fun j a b h1 h2 => ?_, fun a ha => ?_⟩
  · rw [hx] at h1
    cases h1
    rw [e, if_pos rfl]
  · have : b ≠ x := fun z => by
      have := nd_get h.nd (z ▸ h2) hx
      omega
    rw [e, if_neg this]
    exact s1 j a b (by omega) h1 h2
  · have : a ≠ x := fun z => ha (z ▸ List.mem_of_getElem? hx)
    rw [e, if_neg this]
    exact s5 a ha
theorem mem_idx {β : Type} [DecidableEq β] (a : β) (w : List β) : a ∉ w ∨ ∃ i : Nat, w[i]? = some a := by
  by_cases h : a ∈ w
  · exact .inr (List.getElem?_of_mem h)
  · exact .inl h
theorem seat_ok {ps : List Pl} {c : Int} {pt : Pt} {w : List Pl} (O : PtOk ps c pt) (hc : 0 ≤ c) (h : Way ps pt w) (hf : ∀ l, w.getLast? = some l → look pt l = none) (h0 : ∀ a, w[0]? = some a → isHome (pr ps c) a) : PtOk ps (c + 1) (seatM pt w c) := by
  obtain ⟨q1, q2, q3⟩ := seat_look (n := c) h
  have hne := h.ne
  have lst : ∀ i a, w[i]? = some a → (look pt a).isSome = true → i + 1 < w.length := fun i a hi ha => by
    have hl := (List.getElem?_eq_some_iff.mp hi).1
    by_cases z : i + 1 < w.length
    · exact z
    · have : w.getLast? = some a := by
        rw [List.getLast?_eq_getElem?, show w.length - 1 = i by omega]
        exact hi
      rw [hf a this] at ha
      cases ha
  -- each place by its case
  have cs : ∀ k, (w[0]? = some k ∧ look (seatM pt w c) k = some c) ∨ (∃ j a, w[j]? = some a ∧ w[j + 1]? = some k ∧ look (seatM pt w c) k = look pt a) ∨ (k ∉ w ∧ look (seatM pt w c) k = look pt k) := fun k => by
    rcases mem_idx k w with z | ⟨i, hi⟩
    · exact .inr (.inr ⟨z, q3 k z⟩)
    · cases i with
      | zero => exact .inl ⟨hi, q1 k hi⟩
      | succ j =>
        have hl := (List.getElem?_eq_some_iff.mp hi).1
        exact .inr (.inl ⟨j, _, List.getElem?_eq_getElem (by omega), hi, q2 j _ k (List.getElem?_eq_getElem (by omega)) hi⟩)
  refine ⟨put_nodup (shiftA_nd O.nd _) _ _, fun k n hk => ?_, fun i j n hi hj => ?_, fun n n0 n1 => ?_, ?_⟩
  · rcases cs k with ⟨a1, a2⟩ | ⟨j, a, a1, a2, a3⟩ | ⟨a1, a2⟩
    · rw [a2] at hk
      cases hk
      exact ⟨hc, by omega, h0 k a1⟩
    · rw [a3] at hk
      obtain ⟨b1, b2, b3⟩ := O.hm a n hk
      refine ⟨b1, by omega, ?_⟩
      have := h.step j a k a1 a2
      unfold nextM at this
      rw [hk] at this
      cases this
      exact oth_home _ _
    · rw [a2] at hk
      obtain ⟨b1, b2, b3⟩ := O.hm k n hk
      exact ⟨b1, by omega, b3⟩
  · rcases cs i with ⟨a1, a2⟩ | ⟨s, a, a1, a2, a3⟩ | ⟨a1, a2⟩
    · rw [a2] at hi
      cases hi
      rcases cs j with ⟨b1, b2⟩ | ⟨t, b, b1, b2, b3⟩ | ⟨b1, b2⟩
      · rw [a1] at b1
        cases b1
        rfl
      · rw [b3] at hj
        have := (O.hm b c hj).2.1
        omega
      · rw [b2] at hj
        have := (O.hm j c hj).2.1
        omega
    · rw [a3] at hi
      rcases cs j with ⟨b1, b2⟩ | ⟨t, b, b1, b2, b3⟩ | ⟨b1, b2⟩
      · rw [b2] at hj
        cases hj
        have := (O.hm a c hi).2.1
        omega
      · rw [b3] at hj
        have e := O.inj a b n hi hj
        subst e
        have := nd_get h.nd a1 b1
        subst this
        rw [a2] at b2
        cases b2
        rfl
      · rw [b2] at hj
        have e := O.inj a j n hi hj
        subst e
        exact absurd (List.mem_of_getElem? a1) b1
    · rw [a2] at hi
      rcases cs j with ⟨b1, b2⟩ | ⟨t, b, b1, b2, b3⟩ | ⟨b1, b2⟩
      · rw [b2] at hj
        cases hj
        have := (O.hm i c hi).2.1
        omega
      · rw [b3] at hj
        have e := O.inj i b n hi hj
        subst e
        exact absurd (List.mem_of_getElem? b1) a1
      · rw [b2] at hj
        exact O.inj i j n hi hj
  · by_cases z : n = c
    · subst z
      obtain ⟨x, hx⟩ : ∃ x, w[0]? = some x := ⟨_, List.getElem?_eq_getElem (List.length_pos_iff.mpr hne)⟩
      exact ⟨x, q1 x hx⟩
    · obtain ⟨k, hk⟩ := O.all n n0 (by omega)
      rcases mem_idx k w with a | ⟨i, hi⟩
      · exact ⟨k, (q3 k a).trans hk⟩
      · have := lst i k hi (by rw [hk]; rfl)
        exact ⟨_, (q2 i k _ hi (List.getElem?_eq_getElem this)).trans hk⟩
  · have l1 := shiftA_len h O.nd (w.length - 1) (Nat.le_refl _)
    have l2 := put_len_le (shiftA pt w (w.length - 1)) (w.getD 0 (0, 0)) c
    have := O.len
    unfold seatM
    omega

/-! seats: the walks. -/
section
variable {σ : L2.St} {G H : Hp} {te : TE} {tz : TS} {D : Ends} {gt : TG} {d : PyData}
theorem q_asgG (e : Ex G H) (h : EvD te σ G H d) (k : ∀ v G2 H2, Gr [] G H G2 H2 → Dt G2 d v → gt v σ H2 fun σ2 H3 => tz D σ2 H3) : tSeq (tAsg te gt) tz D σ H :=
  h G H (Gr.refl e []) _ fun v G2 H2 g e => k v G2 H2 g e
theorem q_callM {sp : Sp} {E : XK} {t : TA} {ds : List FD} (e : Ex G H) (h : EvA t σ G H ds) (hs : ∀ G1 H1 vs, Gr [] G H G1 H1 → Fds G1 ds vs → sp vs H1 (fun _ H2 => tz D σ H2) E) : tSeq (tDrop (tCall sp [] E t)) tz D σ H :=
  h G H (Gr.refl e []) _ fun vs G2 H2 g k => by
    rw [List.append_nil]
    exact hs G2 H2 vs g k
theorem q_retV {v : V} (e : Ex G H) (h : EvV te σ G H v) (k : ∀ G2 H2, Gr [] G H G2 H2 → D.rt v H2) : tSeq (tRet te) tz D σ H :=
  h G H (Gr.refl e []) _ fun G2 H2 g => k G2 H2 g
/-- what changed was new -/
theorem _root_.Tn.Gr.own {M : List Addr} {G H G1 H1 G2 H2 : Hp} (x : Gr [] G H G1 H1) (y : Gr M G1 H1 G2 H2) (n : ∀ b ∈ M, H b = none) : Gr [] G H G2 H2 :=
  have z := x.to.trans y
  ⟨z.g, z.s, z.n, fun b o _ w => z.h b o (fun m => by rw [n b m] at w; cases w) w, z.a⟩
/-- return (w, own list) -/
theorem q_retP {w : Str} {P : List Int → Addr → Prop} (e : Ex G H) (hl : ∀ Q : VK, (∀ ns p G2 H2, P ns p → Gr [] G H G2 H2 → G2 p = none → H2 p = some (.lst (ns.map V.int)) → Q (.ref p) H2) → te σ H Q)
    (k : ∀ ns q t G2 H2, P ns q → Gr [] G H G2 H2 → G2 q = none → H2 q = some (.lst (ns.map V.int)) → G2 t = some (.tup [.str w, .ref q]) → D.rt (.ref t) H2) : tSeq (tRet (tTup (tCons (tC (.str w)) (tCons te tNil)))) tz D σ H :=
  hl _ fun ns q G2 H2 hp g2 n2 e2 => ⟨by rw [sizeLine_eq]; exact Nat.le_of_ble_eq_true rfl, fun t ht => by
    have nq : q ≠ t := ne_of_none e2 ht
    refine k ns q t _ _ hp (g2.trans (Gr.newD g2.s ht)) (by rw [upd_ne nq]; exact n2) (by rw [upd_ne nq]; exact e2) upd_same⟩
end
theorem pD_eqv (a b : Pl) : PyData.eqv (pD a) (pD b) = decide (a = b) := by
  show (a.1 == b.1 && (a.2 == b.2 && true)) = decide (a = b)
  rw [Bool.eq_iff_iff]
  simp [Prod.ext_iff]
theorem pD_any (o : Pl) (fs : List Pl) : ((fs.map pD).any fun z => PyData.eqv z (pD o)) = decide (o ∈ fs) := by
  induction fs with
  | nil => rfl
  | cons a r ih =>
    rw [List.map_cons, List.any_cons, ih, pD_eqv]
    by_cases z : a = o
    · simp [z]
    · simp [z, Ne.symm z]
theorem pD_plain : ∀ fs : List Pl, PyData.plainAll (fs.map pD) = true ∧ PyData.depthAll (fs.map pD) ≤ 5
  | [] => ⟨rfl, Nat.zero_le _⟩
  | a :: r => by
    obtain ⟨h1, h2⟩ := pD_plain r
    constructor
    · show (PyData.plain (pD a) && PyData.plainAll (r.map pD)) = true
      rw [h1]
      rfl
    · show max (PyData.depth (pD a)) (PyData.depthAll (r.map pD)) ≤ 5
      have : PyData.depth (pD a) ≤ 5 := Nat.le_of_ble_eq_true rfl
      omega
theorem okA_pD (fs : List Pl) : okA (fs.map pD) = true := by
  obtain ⟨h1, h2⟩ := pD_plain fs
  unfold okA
  rw [h1, Nat.ble_eq_true_of_le (Nat.le_trans h2 (by decide))]
  rfl
theorem atI_pD {ps : List Pl} {n : Int} (h0 : 0 ≤ n) (h1 : n < ps.length) : atI (ps.map pD) n = some (pD (pr ps n)) := by
  obtain ⟨m, rfl⟩ : ∃ m : Nat, n = m := ⟨n.toNat, by omega⟩
  have hm : m < ps.length := by omega
  refine atI_nat ?_
  rw [List.getElem?_map, List.getElem?_eq_getElem hm]
  unfold pr
  rw [Int.toNat_natCast, List.getD_eq_getElem?_getD, List.getElem?_eq_getElem hm]
  rfl
def oD : Option Pl → PyData
  | none => .none
  | some k => pD k
/-! ### next_place -/
def sp_next_place (T : Tx) : Sp := fun vs H Q _ => ∃ G p d y ps c pt k, Ex G H ∧ vs = [p, .ref d, y] ∧ Dt G (.list (ps.map pD)) p ∧ H d = some (.dT (encT V.int pt)) ∧ Dt G (pD k) y ∧ PtOk ps c pt ∧ c ≤ (ps.length : Int) ∧ (k.1 = 0 ∨ k.1 = 1) ∧ RetD G H (oD (nextM ps pt k)) Q
abbrev N_next_place : List Str := ["pairs", "places", "place", "a", "b"]
def t_next_place (T : Tx) (E : XK) : TS :=
  (tSeq (tIfS (tTest (tOp (rInU T.K true) (tVar 2) (tVar 1))) (tSeq (tRet (tC .non)) tNext) tNext) (tSeq (tAsg (tOp (rIx T.K) (tVar 0) (tDGet (tVar 1) (tVar 2))) (gTup T.K 2 (gCons (gName 3) (gCons (gName 4) gNil)))) (tSeq (tIfS (tTest (tOp (rEqU T.K) (tOp (rIx T.K) (tVar 2) (tC (.int 0))) (tC (.int 0)))) (tSeq (tRet (tTup (tCons (tC (.int 1)) (tCons (tVar 4) tNil)))) tNext) tNext) (tSeq (tRet (tTup (tCons (tC (.int 0)) (tCons (tVar 3) tNil)))) tNext))))
theorem pure_next_place {T : Tx} {vs : List V} {H : Hp} {Q : VK} {E : XK} (h : sp_next_place T vs H Q E) : t_next_place T E { nx := fun _ H' => Q .non H', rt := Q } (start N_next_place vs) H := by
  obtain ⟨G, p, d, y, ps, c, pt, k, e, rfl, hp, hd, hk, O, hc, hr, q⟩ := h
  refine q_when e (EvT.is (et_test (ev_din (ev_var rfl) (EvV.dat (ev_var rfl) hk) hd)) rfl) (fun z G1 H1 g1 => ?_) fun z G1 H1 g1 => ?_
  · refine q_ret g1.s (d := .none) (by walk_at "ev") fun v G2 H2 g2 e2 => q v G2 H2 (g1.trans g2) ?_
    have : look pt k = none := by
      cases w : look pt k with
      | none => rfl
      | some n => rw [w] at z; cases z
    unfold nextM
    rw [this]
    exact e2
  · obtain ⟨n, hn⟩ : ∃ n, look pt k = some n := by
      cases w : look pt k with
      | none => rw [w] at z; cases z
      | some n => exact ⟨n, rfl⟩
    obtain ⟨n0, n1, _⟩ := O.hm k n hn
    have d1 := g1.hx _ _ hd
    have p1 : Dt G1 (.list (ps.map pD)) p := Dt.gr g1 hp
    have k1 : Dt G1 (pD k) y := Dt.gr g1 hk
    refine q_asgG g1.s (ev_bin (EvV.dat (ev_var rfl) p1) (ev_dgetI (ev_var rfl) (EvV.dat (ev_var rfl) k1) d1 hn) (b_ixL (atI_pD n0 (by omega)))) fun v G2 H2 g2 e2 => ?_
    refine g_tup g2.s e2 rfl fun xs hx => ?_
    obtain ⟨_, _, rfl, e3, _, _, rfl, e4, e5⟩ := hx
    cases e3
    cases e4
    cases e5
    refine ⟨_, _, rfl, _, _, rfl, rfl, ?_⟩
    have k2 : Dt G2 (pD k) y := Dt.gr g2 k1
    have en : nextM ps pt k = some (oth (pr ps n) k) := by
      unfold nextM
      rw [hn]
      rfl
    refine q_when (b := decide (k.1 = 0)) g2.s (EvT.is (et_test (ev_bin (ev_bin (EvV.dat (ev_var rfl) k2) (by walk_at "ev") (b_ixT (ds := [.int k.1, .int k.2]) (i := 0) (d := .int k.1) rfl)) (by walk_at "ev") (by walk_at "op"))) (by rfl)) (fun z G3 H3 g3 => ?_) fun z G3 H3 g3 => ?_
    · have z := of_decide_eq_true z
      refine q_ret g3.s (d := .tuple [.int 1, .int (pr ps n).2]) (by walk_at "ev") fun v G4 H4 g4 e4 => q v G4 H4 ((g1.trans g2).trans (g3.trans g4)) ?_
      rw [en]
      unfold oth
      rw [if_pos z]
      exact e4
    · have z := of_decide_eq_false z
      refine q_ret g3.s (d := .tuple [.int 0, .int (pr ps n).1]) (by walk_at "ev") fun v G4 H4 g4 e4 => q v G4 H4 ((g1.trans g2).trans (g3.trans g4)) ?_
      rw [en]
      unfold oth
      rw [if_neg z]
      exact e4
/-! ### way_from -/
def wayGo (ps : List Pl) (pt : Pt) : Nat → List Pl → Pl → List Pl
  | 0, fs, _ => fs
  | f + 1, fs, l => match nextM ps pt l with
    | none => fs
    | some o => if o ∈ fs then fs else wayGo ps pt f (fs ++ [o]) o
def wayM (ps : List Pl) (pt : Pt) (k : Pl) : List Pl := wayGo ps pt (pt.length + 1) [k] k
theorem wayGo_end {ps : List Pl} {pt : Pt} {k : Pl} : ∀ (f : Nat) (w : List Pl) (l : Pl), Way ps pt (w ++ [l]) → (w ++ [l]).head? = some k → pt.length + 2 ≤ f + (w ++ [l]).length → WayEnd ps pt k (wayGo ps pt f (w ++ [l]) l)
  | 0, w, l, h, hd, hf => by
    have := way_len h
    omega
  | f + 1, w, l, h, hd, hf => by
    unfold wayGo
    cases e : nextM ps pt l with
    | none => exact ⟨h, hd, fun a o ha ho => by
        simp at ha
        subst ha
        rw [e] at ho
        cases ho⟩
    | some o =>
      by_cases z : o ∈ w ++ [l]
      · show WayEnd ps pt k (if o ∈ w ++ [l] then w ++ [l] else _)
        rw [if_pos z]
        exact ⟨h, hd, fun a b ha ho => by
          simp at ha
          subst ha
          rw [e] at ho
          cases ho
          exact z⟩
      · show WayEnd ps pt k (if o ∈ w ++ [l] then w ++ [l] else _)
        rw [if_neg z]
        refine wayGo_end f (w ++ [l]) o (.more h e z) (by simp at hd ⊢; rw [hd]) ?_
        simp at hf ⊢
        omega
theorem wayM_end (ps : List Pl) (pt : Pt) (k : Pl) : WayEnd ps pt k (wayM ps pt k) := wayGo_end (pt.length + 1) [] k (.one k) rfl (by simp)
def sp_way_from (T : Tx) : Sp := fun vs H Q _ => ∃ G p d y ps c pt k, Ex G H ∧ vs = [p, .ref d, y] ∧ Dt G (.list (ps.map pD)) p ∧ H d = some (.dT (encT V.int pt)) ∧ Dt G (pD k) y ∧ PtOk ps c pt ∧ c ≤ (ps.length : Int) ∧ ps.length ≤ 10000 ∧ (k.1 = 0 ∨ k.1 = 1) ∧ RetL G H ((wayM ps pt k).map pD) Q
section
variable {T : Tx} {σ : L2.St} {G H : Hp} {a b c : TE} {E : XK} {p : V} {d : Addr} {ps : List Pl} {cc : Int} {pt : Pt} {k : Pl}
theorem ev_next (h1 : EvD a σ G H (.list (ps.map pD))) (h2 : EvV b σ G H (.ref d)) (h3 : EvD c σ G H (pD k)) (hd : H d = some (.dT (encT V.int pt))) (O : PtOk ps cc pt) (hc : cc ≤ (ps.length : Int)) (hr : k.1 = 0 ∨ k.1 = 1) :
    EvD (tCall (sp_next_place T) [] E (tCons a (tCons b (tCons c tNil)))) σ G H (oD (nextM ps pt k)) :=
  ev_call (ea_dat h1 (ea_obj h2 (ea_dat h3 ea_nil))) fun _ _ _ g k' Q E q => by
    obtain ⟨x, xs, rfl, e1, y, ys, rfl, e2, z, zs, rfl, e3, e4⟩ := k'
    cases e2
    cases e4
    exact ⟨_, _, d, _, ps, cc, pt, k, g.s, rfl, e1, g.hx _ _ hd, e3, O, hc, hr, q⟩
theorem el_way (h1 : EvD a σ G H (.list (ps.map pD))) (h2 : EvV b σ G H (.ref d)) (h3 : EvD c σ G H (pD k)) (hd : H d = some (.dT (encT V.int pt))) (O : PtOk ps cc pt) (hc : cc ≤ (ps.length : Int)) (hl : ps.length ≤ 10000) (hr : k.1 = 0 ∨ k.1 = 1) :
    EvL (tCall (sp_way_from T) [] E (tCons a (tCons b (tCons c tNil)))) σ G H ((wayM ps pt k).map pD) :=
  el_call (ea_dat h1 (ea_obj h2 (ea_dat h3 ea_nil))) fun _ _ _ g k' Q E q => by
    obtain ⟨x, xs, rfl, e1, y, ys, rfl, e2, z, zs, rfl, e3, e4⟩ := k'
    cases e2
    cases e4
    exact ⟨_, _, d, _, ps, cc, pt, k, g.s, rfl, e1, g.hx _ _ hd, e3, O, hc, hl, hr, q⟩
end
theorem way_row {ps : List Pl} {pt : Pt} {w : List Pl} {k : Pl} (h : Way ps pt w) (h0 : ∀ a, w[0]? = some a → a.1 = 0 ∨ a.1 = 1) (hk : k ∈ w) : k.1 = 0 ∨ k.1 = 1 := by
  obtain ⟨i, hi⟩ := List.getElem?_of_mem hk
  cases i with
  | zero => exact h0 k hi
  | succ i =>
    have hl := (List.getElem?_eq_some_iff.mp hi).1
    have := h.step i _ k (List.getElem?_eq_getElem (by omega)) hi
    unfold nextM at this
    cases e : look pt w[i] with
    | none => rw [e] at this; cases this
    | some n =>
      rw [e] at this
      cases this
      unfold oth
      split
      · exact .inr rfl
      · exact .inl rfl
abbrev N_way_from : List Str := ["pairs", "places", "place", "found", "other"]
def t_way_from (T : Tx) (E : XK) : TS :=
  (tSeq (tAsg (tLst (tCons (tVar 2) tNil)) (gName 3)) (tSeq (tAsg (tCall (sp_next_place T) [] E (tCons (tVar 0) (tCons (tVar 1) (tCons (tVar 2) tNil)))) (gName 4)) (tSeq (tWhile (tAnd (tTest (tOp (rIsNU) (tVar 4) (tC .non))) (tTest (tOp (rInU T.K true) (tVar 4) (tVar 3)))) (tSeq (tDrop (tBM T.K "list" rAppend (tVar 3) (tCons (tVar 4) tNil))) (tSeq (tAsg (tCall (sp_next_place T) [] E (tCons (tVar 0) (tCons (tVar 1) (tCons (tVar 4) tNil)))) (gName 4)) tNext))) (tSeq (tRet (tVar 3)) tNext))))
theorem pure_way_from {T : Tx} {vs : List V} {H : Hp} {Q : VK} {E : XK} (h : sp_way_from T vs H Q E) : t_way_from T E { nx := fun _ H' => Q .non H', rt := Q } (start N_way_from vs) H := by
  obtain ⟨G, p, d, y, ps, c, pt, k, e, rfl, hp, hd, hk, O, hc, hl, hr, q⟩ := h
  have hpl : pt.length ≤ 10000 := by
    have := O.len
    omega
  refine q_asgL e (ev_lst (ds := [pD k]) (ea_dat (EvV.dat (ev_var rfl) hk) ea_nil) (by walk_at "sd")) fun f xs G1 H1 g1 f1 n1 e1 k1 => ?_
  refine q_asg g1.s (ev_next (EvV.dat (ev_var rfl) (Dt.gr g1 hp)) (ev_var rfl) (EvV.dat (ev_var rfl) (Dt.gr g1 hk)) (g1.hx _ _ hd) O hc hr) fun v G2 H2 g2 e2 => ?_
  have nd : d ≠ f := ne_of_none hd f1
  have gg := g1.trans g2
  refine q_while [f] (fun m σ' G' H' => ∃ w l v xs, σ' = [some p, some (.ref d), some y, some (.ref f), some v] ∧ Way ps pt (w ++ [l]) ∧ (w ++ [l]).head? = some k ∧ m + (w ++ [l]).length = pt.length + 2 ∧ wayGo ps pt m (w ++ [l]) l = wayM ps pt k ∧
    Dt G' (oD (nextM ps pt l)) v ∧ H' f = some (.lst xs) ∧ G' f = none ∧ Dts G' ((w ++ [l]).map pD) xs) (pt.length + 1) g2.s
    ⟨[], k, v, xs, rfl, .one k, rfl, rfl, rfl, e2, g2.hx _ _ e1, g2.n f _ e1 rfl n1, Dts.mono g2.g _ k1⟩ ?_
  rintro m σ' G3 H3 g3 ⟨w, l, v, xs, rfl, hw, hh, hm, hg, hv, hf, nf, kf⟩
  have d3 : H3 d = some (.dT (encT V.int pt)) := g3.h d _ (by simpa using nd) (gg.hx _ _ hd)
  have p3 : Dt G3 (.list (ps.map pD)) p := Dt.gr g3 (Dt.gr gg hp)
  have dl : Dt (upd G3 f (.lst xs)) (.list ((w ++ [l]).map pD)) (.ref f) := ⟨f, xs, rfl, upd_same, Dts.mono (Ex.new nf) _ kf⟩
  have hv' : Dt (upd G3 f (.lst xs)) (oD (nextM ps pt l)) v := Dt.mono (Ex.new nf) _ hv
  have rw' : ∀ a, (w ++ [l])[0]? = some a → a.1 = 0 ∨ a.1 = 1 := fun a ha => by
    rw [List.head?_eq_getElem?, ha] at hh
    cases hh
    exact hr
  cases en : nextM ps pt l with
  | none =>
    rw [en] at hv'
    refine ⟨false, EvT.fx g3.s hf (EvT.is (et_and (b := false) (c := true) (et_test (ev_bin (d1 := .none) (EvV.dat (ev_var rfl) hv') (by walk_at "ev") b_isn)) fun z => nomatch z) rfl), (fun z => nomatch z), fun _ G4 H4 g4 => ?_⟩
    refine q_retV g4.s (ev_var rfl) fun G5 H5 g5 => ?_
    have ew : w ++ [l] = wayM ps pt k := by
      rw [← hg]
      cases m with
      | zero => rfl
      | succ m => unfold wayGo; rw [en]
    have g45 := g4.trans g5
    rw [← ew] at q
    exact q f xs G5 H5 (gg.own (g3.trans g45.to) (by simpa using f1)) f1 (g45.n f _ hf rfl nf) (g45.hx _ _ hf) (Dts.mono g45.g _ kf)
  | some o =>
    rw [en] at hv'
    have or : o.1 = 0 ∨ o.1 = 1 := by
      unfold nextM at en
      cases z : look pt l with
      | none => rw [z] at en; cases en
      | some n =>
        rw [z] at en
        cases en
        unfold oth
        split
        · exact .inr rfl
        · exact .inl rfl
    refine ⟨!decide (o ∈ w ++ [l]), EvT.fx g3.s hf (EvT.is (et_and (b := true) (et_test (ev_bin (d1 := pD o) (EvV.dat (ev_var rfl) hv') (by walk_at "ev") b_isn)) fun _ => et_test (ev_bin (d1 := pD o) (EvV.dat (ev_var rfl) hv') (EvV.dat (ev_var rfl) dl) (b_inL rfl (okA_pD _)))) (by rw [pD_any]; simp)), fun z G4 H4 g4 => ?_, fun z G4 H4 g4 => ?_⟩
    · have zo : o ∉ w ++ [l] := by simpa using z
      have hv4 : Dt G4 (pD o) v := Dt.gr g4 (by rw [en] at hv; exact hv)
      refine q_append g4.s (ev_var rfl) (EvV.dat (ev_var rfl) hv4) (g4.n f _ hf rfl nf) (g4.hx _ _ hf) (by have := hw.short en; rw [kf.len, List.length_map]; omega) fun u G5 H5 g5 du h5 => ?_
      have d4 : H4 d = some (.dT (encT V.int pt)) := g4.hx _ _ d3
      have d5 : H5 d = some (.dT (encT V.int pt)) := g5.h d _ (by simpa using nd) d4
      refine q_asg g5.s (ev_next (EvV.dat (ev_var rfl) (Dt.gr g5 (Dt.gr g4 p3))) (ev_var rfl) (EvV.dat (ev_var rfl) (Dt.gr g5 hv4)) d5 O hc or) fun v6 G6 H6 g6 e6 => ?_
      have g46 := (g4.to.trans g5).trans g6.to
      refine q_next ⟨m - 1, ?_, G6, g46, w ++ [l], o, v6, xs ++ [u], rfl, .more hw en zo, ?_, ?_, ?_, e6, g6.hx _ _ h5, g46.n f _ hf rfl nf, ?_⟩
      · have := hw.short en
        omega
      · simp at hh ⊢
        rw [hh]
      · have := hw.short en
        simp at hm this ⊢
        omega
      · have := hw.short en
        cases m with
        | zero => simp at hm this; omega
        | succ m =>
          rw [← hg]
          show _ = wayGo ps pt (m + 1) (w ++ [l]) l
          rw [wayGo, en]
          show _ = if o ∈ w ++ [l] then _ else _
          rw [if_neg zo]
          rfl
      · rw [List.map_append]
        exact (Dts.mono g46.g _ kf).snoc (Dt.gr g6 du)
    · have zo : o ∈ w ++ [l] := by
        rw [Bool.not_eq_false'] at z
        exact of_decide_eq_true z
      refine q_retV g4.s (ev_var rfl) fun G5 H5 g5 => ?_
      have ew : w ++ [l] = wayM ps pt k := by
        rw [← hg]
        cases m with
        | zero => rfl
        | succ m =>
          rw [wayGo, en]
          show _ = if o ∈ w ++ [l] then _ else _
          rw [if_pos zo]
      have g45 := g4.trans g5
      rw [← ew] at q
      exact q f xs G5 H5 (gg.own (g3.trans g45.to) (by simpa using f1)) f1 (g45.n f _ hf rfl nf) (g45.hx _ _ hf) (Dts.mono g45.g _ kf)
/-! ### shifted -/
def sp_shifted (T : Tx) : Sp := fun vs H Q _ => ∃ G d wv ps pt w, Ex G H ∧ vs = [.ref d, wv] ∧ Dt G (.list (w.map pD)) wv ∧ H d = some (.dT (encT V.int pt)) ∧ G d = none ∧ Way ps pt w ∧ (pt.map (·.1)).Nodup ∧ pt.length ≤ 10000 ∧ ∀ G2 H2, Gr [d] G H G2 H2 → H2 d = some (.dT (encT V.int (shiftA pt w (w.length - 1)))) → Q .non H2
abbrev N_shifted : List Str := ["places", "way", "k"]
def t_shifted (T : Tx) (E : XK) : TS :=
  (tSeq (tFor (iRevR (tRg2 (tC (.int 1)) (tCB (rLenU T.K) (tCons (tVar 1) tNil)))) (gName 2) (tSeq (sDPut (tVar 0) (tOp (rIx T.K) (tVar 1) (tVar 2)) (tBM T.K "dict" rPopU (tVar 0) (tCons (tOp (rIx T.K) (tVar 1) (tOp rSubU (tVar 2) (tC (.int 1)))) tNil))) tNext)) tNext)
theorem pure_shifted {T : Tx} {vs : List V} {H : Hp} {Q : VK} {E : XK} (h : sp_shifted T vs H Q E) : t_shifted T E { nx := fun _ H' => Q .non H', rt := Q } (start N_shifted vs) H := by
  obtain ⟨G, d, wv, ps, pt, w, e, rfl, hw, hd, nd, W, hn, hl, q⟩ := h
  have wl := way_len W
  have hne := List.length_pos_iff.mpr W.ne
  refine q_for [d] (fun i σ' G' H' => ∃ v, σ' = [some (.ref d), some wv, v] ∧ H' d = some (.dT (encT V.int (shiftA pt w i)))) e (ei_rev (lo := 1) (hi := w.length) (by walk_at "ev") (EvD.is (ev_lenL (EvV.dat (ev_var rfl) hw)) (by rw [List.length_map])) (by omega) (by omega)) (fun G1 H1 g1 => ⟨_, rfl, g1.hx _ _ hd⟩) ?_ ?_
  · rintro i dd σ' G1 H1 g1 hi ⟨v, rfl, h1⟩ x G2 H2 g2 dx
    have li : i < w.length - 1 := by
      have := (List.getElem?_eq_some_iff.mp hi).1
      rw [List.length_reverse, rng_len] at this
      omega
    rw [List.getElem?_reverse (by rw [rng_len]; omega), rng_len, rng_get (by omega)] at hi
    cases hi
    cases dx
    have ek : (1 : Int) + (((w.length : Int) - 1).toNat - 1 - i : Nat) = ((w.length - 1 - i : Nat) : Int) := by omega
    rw [ek]
    have w2 : Dt G2 (.list (w.map pD)) wv := Dt.gr g2 (Dt.gr g1 hw)
    have hd2 : H2 d = some (.dT (encT V.int (shiftA pt w i))) := g2.hx _ _ h1
    have n2 : G2 d = none := g2.n d _ h1 rfl (g1.n d _ hd rfl nd)
    obtain ⟨y, hy⟩ : ∃ y, w[w.length - 1 - i]? = some y := ⟨_, List.getElem?_eq_getElem (by omega)⟩
    obtain ⟨x, hx⟩ : ∃ x, w[w.length - 1 - i - 1]? = some x := ⟨_, List.getElem?_eq_getElem (by omega)⟩
    obtain ⟨n, hn'⟩ := Option.isSome_iff_exists.mp (W.taken hx (by omega))
    have lx := ((shiftA_look W i (by omega)).2.2.1 _ x (by omega) hx).trans hn'
    have at1 : atI (w.map pD) ((w.length - 1 - i : Nat) : Int) = some (pD y) := atI_nat (by rw [List.getElem?_map, hy]; rfl)
    have at2 : atI (w.map pD) (((w.length - 1 - i : Nat) : Int) - 1) = some (pD x) := by
      rw [show ((w.length - 1 - i : Nat) : Int) - 1 = ((w.length - 1 - i - 1 : Nat) : Int) by omega]
      exact atI_nat (by rw [List.getElem?_map, hx]; rfl)
    refine q_dput (f := V.int) (pl := drp (shiftA pt w i) x) (k := y) (x := n) n2 (fun Q q => ev_dpop (f := V.int) (ev_var rfl) (ev_bin (EvV.dat (ev_var rfl) w2) (ev_bin (EvV.dat (ev_var rfl) dt_int) (by walk_at "ev") b_sub) (b_ixL at2)) g2.s n2 hd2 lx Q q)
      (fun G3 H3 g3 => ev_var rfl) (fun G3 H3 g3 => ev_bin (EvV.dat (ev_var rfl) (Dt.gr g3 w2)) (EvV.dat (ev_var rfl) dt_int) (b_ixL at1)) hd2 rfl ?_ fun G3 H3 g3 h3 => ?_
    · have h1 := drp_len_le (shiftA pt w i) x
      have h2 := shiftA_len W hn i (by omega)
      omega
    · refine q_next ⟨G3, g2.to.trans g3, _, rfl, ?_⟩
      rw [h3]
      show _ = some (HO.dT (encT V.int (put (drp (shiftA pt w i) (w.getD (w.length - 1 - i - 1) (0, 0))) (w.getD (w.length - 1 - i) (0, 0)) ((look (shiftA pt w i) (w.getD (w.length - 1 - i - 1) (0, 0))).getD 0))))
      rw [getD_of hx, getD_of hy, lx]
      rfl
  · rintro σ' G1 H1 g1 ⟨v, rfl, h1⟩
    rw [List.length_reverse, rng_len] at h1
    exact q G1 H1 g1 (by rw [h1, show ((w.length : Int) - 1).toNat = w.length - 1 by omega])
/-! ### owners -/
def numsM (pt : Pt) (acc : List Int) (fs : List Pl) : List Int := fs.foldl (fun acc k => if (look pt k).getD 0 ∈ acc then acc else acc ++ [(look pt k).getD 0]) acc
theorem numsM_snoc (pt : Pt) (acc : List Int) (fs : List Pl) (k : Pl) : numsM pt acc (fs ++ [k]) = if (look pt k).getD 0 ∈ numsM pt acc fs then numsM pt acc fs else numsM pt acc fs ++ [(look pt k).getD 0] := by
  unfold numsM
  rw [List.foldl_append]
  rfl
theorem numsM_len (pt : Pt) (acc : List Int) (fs : List Pl) : (numsM pt acc fs).length ≤ acc.length + fs.length := by
  unfold numsM
  induction fs generalizing acc with
  | nil => simp
  | cons k r ih =>
    rw [List.foldl_cons]
    refine Nat.le_trans (ih _) ?_
    split <;> simp <;> omega
def sp_owners (T : Tx) : Sp := fun vs H Q _ => ∃ (G : Hp) (d : Addr) (fv : V) (pt : Pt) (fs : List Pl) (n : Int), Ex G H ∧ vs = [.ref d, fv, .int n] ∧ Dt G (.list (fs.map pD)) fv ∧ H d = some (.dT (encT V.int pt)) ∧ (∀ k ∈ fs, (look pt k).isSome = true) ∧ fs.length ≤ 50000 ∧
  ∀ (ns' : List Int) p G2 H2, ns'.Perm (numsM pt [n] fs) → ns'.Pairwise (· ≤ ·) → Gr [] G H G2 H2 → H p = none → G2 p = none → H2 p = some (.lst (ns'.map V.int)) → Q (.ref p) H2
abbrev N_owners : List Str := ["places", "found", "number", "numbers", "place"]
def t_owners (T : Tx) (E : XK) : TS :=
  (tSeq (tAsg (tLst (tCons (tVar 2) tNil)) (gName 3)) (tSeq (tFor (iList T.K (tVar 1)) (gName 4) (tSeq (tIfS (tTest (tOp (rInU T.K true) (tDGet (tVar 0) (tVar 4)) (tVar 3))) (tSeq (tDrop (tBM T.K "list" rAppend (tVar 3) (tCons (tDGet (tVar 0) (tVar 4)) tNil))) tNext) tNext) tNext)) (tSeq (tRet (tCB (rSortedU T.K) (tCons (tVar 3) tNil))) tNext)))
theorem any_int (n : Int) (ns : List Int) : ((ns.map PyData.int).any fun z => PyData.eqv z (.int n)) = decide (n ∈ ns) := by
  induction ns with
  | nil => rfl
  | cons a r ih =>
    rw [List.map_cons, List.any_cons, ih, eqv_i]
    by_cases z : a = n
    · simp [z]
    · simp [z, Ne.symm z]
theorem okA_ints : ∀ ns : List Int, okA (ns.map PyData.int) = true := fun ns => by
  have : PyData.plainAll (ns.map PyData.int) = true ∧ PyData.depthAll (ns.map PyData.int) ≤ 5 := by
    induction ns with
    | nil => exact ⟨rfl, Nat.zero_le _⟩
    | cons a r ih =>
      constructor
      · show (PyData.plain (.int a) && PyData.plainAll (r.map PyData.int)) = true
        rw [ih.1]
        rfl
      · show max (PyData.depth (.int a)) (PyData.depthAll (r.map PyData.int)) ≤ 5
        have : PyData.depth (.int a) ≤ 5 := Nat.le_of_ble_eq_true rfl
        omega
  unfold okA
  rw [this.1, Nat.ble_eq_true_of_le (Nat.le_trans this.2 (by decide))]
  rfl
theorem pure_owners {T : Tx} {vs : List V} {H : Hp} {Q : VK} {E : XK} (h : sp_owners T vs H Q E) : t_owners T E { nx := fun _ H' => Q .non H', rt := Q } (start N_owners vs) H := by
  obtain ⟨G, d, fv, pt, fs, n, e, rfl, hf, hd, ht, hl, q⟩ := h
  refine q_asgL e (ev_lst (ds := [.int n]) (ea_dat (EvV.dat (ev_var rfl) dt_int) ea_nil) (by walk_at "sd")) fun a xs G1 H1 g1 f1 n1 e1 k1 => ?_
  have nd : d ≠ a := ne_of_none hd f1
  have k1 : xs = [V.int n] := Dts.of_ints (ns := [n]) k1
  subst k1
  refine q_for [a] (fun i σ' G' H' => ∃ v, σ' = [some (.ref d), some fv, some (.int n), some (.ref a), v] ∧ H' a = some (.lst ((numsM pt [n] (fs.take i)).map V.int))) g1.s (ei_list (EvV.dat (ev_var rfl) (Dt.gr g1 hf))) (fun G2 H2 g2 => ⟨_, rfl, g2.hx _ _ e1⟩) ?_ ?_
  · rintro i dd σ' G2 H2 g2 hi ⟨v, rfl, h2⟩ x G3 H3 g3 dx
    rw [List.getElem?_map] at hi
    cases hk : fs[i]? with
    | none => rw [hk] at hi; cases hi
    | some k =>
      rw [hk] at hi
      cases hi
      obtain ⟨m, hm⟩ := Option.isSome_iff_exists.mp (ht k (List.mem_of_getElem? hk))
      have d3 : H3 d = some (.dT (encT V.int pt)) := g3.hx _ _ (g2.h d _ (by simpa using nd) (g1.hx _ _ hd))
      have a3 := g3.hx _ _ h2
      have n3 : G3 a = none := g3.n a _ h2 rfl (g2.n a _ e1 rfl n1)
      have ln : (numsM pt [n] (fs.take i)).length ≤ 50001 := by
        have := numsM_len pt [n] (fs.take i)
        have := List.length_take_le i fs
        simp at *
        omega
      have tk : fs.take (i + 1) = fs.take i ++ [k] := by rw [List.take_succ, hk]; rfl
      have dl : Dt (upd G3 a (.lst ((numsM pt [n] (fs.take i)).map V.int))) (.list ((numsM pt [n] (fs.take i)).map PyData.int)) (.ref a) := ⟨a, _, rfl, upd_same, Dts.ints _⟩
      refine q_if (b := !decide (m ∈ numsM pt [n] (fs.take i))) g3.s (EvT.fx g3.s a3 (EvT.is (et_test (ev_bin (ev_dgetI (ev_var rfl) (EvV.dat (ev_var rfl) (Dt.mono (Ex.new n3) _ dx)) d3 hm) (EvV.dat (ev_var rfl) dl) (b_inL rfl (okA_ints _)))) (by rw [any_int]; simp))) (fun z G4 H4 g4 => ?_) fun z G4 H4 g4 => ?_
      · have z : m ∉ numsM pt [n] (fs.take i) := by simpa using z
        refine q_append (x := .int m) g4.s (ev_var rfl) (ev_dgetI (ev_var rfl) (EvV.dat (ev_var rfl) (Dt.gr g4 dx)) (g4.hx _ _ d3) hm) (g4.n a _ a3 rfl n3) (g4.hx _ _ a3) (by rw [List.length_map]; omega) fun u G5 H5 g5 du h5 => ?_
        cases du
        refine q_next (q_next ⟨G5, (g3.trans g4).to.trans g5, _, rfl, ?_⟩)
        rw [h5, tk, numsM_snoc, hm]
        show _ = some (HO.lst ((if m ∈ _ then _ else _ ++ [m] : List Int).map V.int))
        rw [if_neg z, List.map_append]
        rfl
      · have z : m ∈ numsM pt [n] (fs.take i) := by simpa using z
        refine q_next (q_next ⟨G4, (g3.trans g4).to, _, rfl, ?_⟩)
        rw [g4.hx _ _ a3, tk, numsM_snoc, hm]
        show _ = some (HO.lst ((if m ∈ _ then _ else _ ++ [m] : List Int).map V.int))
        rw [if_pos z]
  · rintro σ' G2 H2 g2 ⟨v, rfl, h2⟩
    rw [List.length_map, List.take_length] at h2
    have n2 : G2 a = none := g2.n a _ e1 rfl n1
    refine ⟨.ref a, rfl, a, _, rfl, SqL.of h2, fun ns' p hp hs hq => ?_⟩
    have gn := Gr.newM (o := .lst (ns'.map V.int)) g2.s hq
    exact q ns' p G2 _ hp hs (g1.own (g2.trans gn.to) (by simpa using f1)) ((g1.to.trans g2).fresh hq) (ex_none g2.s hq) upd_same
/-! ### seated: what its answer is -/
def plc (ps : List Pl) (ns : List Int) (i : Nat) : Pl := (ns.getD i 0, if ns.getD i 0 = 0 then (ps.getD i (0, 0)).1 else (ps.getD i (0, 0)).2)
def SeatYes (ps : List Pl) (ns : List Int) : Prop := ns.length = ps.length ∧ (∀ n ∈ ns, n = 0 ∨ n = 1) ∧ ∀ i j, i < ps.length → j < ps.length → plc ps ns i = plc ps ns j → i = j
def SeatNo (ps : List Pl) (ns : List Int) : Prop := ns.Pairwise (· < ·) ∧ (∀ n ∈ ns, 0 ≤ n ∧ n < ps.length) ∧ ∃ F : List Pl, F.length < ns.length ∧ ∀ n ∈ ns, (0, (pr ps n).1) ∈ F ∧ (1, (pr ps n).2) ∈ F
def SeatOk (ps : List Pl) (w : Str) (ns : List Int) : Prop := (w = "yes" ∧ SeatYes ps ns) ∨ (w = "no" ∧ SeatNo ps ns)
theorem numsM_nd (pt : Pt) : ∀ (fs : List Pl) (acc : List Int), acc.Nodup → (numsM pt acc fs).Nodup
  | [], _, h => h
  | k :: r, acc, h => by
    show (numsM pt (if (look pt k).getD 0 ∈ acc then acc else acc ++ [(look pt k).getD 0]) r).Nodup
    refine numsM_nd pt r _ ?_
    split
    · exact h
    · rename_i z
      rw [List.nodup_append]
      exact ⟨h, by simp, fun a ha b hb => by
        simp at hb
        subst hb
        intro q
        subst q
        exact z ha⟩
theorem numsM_mem (pt : Pt) (x : Int) : ∀ (fs : List Pl) (acc : List Int), x ∈ numsM pt acc fs ↔ x ∈ acc ∨ ∃ k ∈ fs, (look pt k).getD 0 = x
  | [], acc => by simp [numsM]
  | k :: r, acc => by
    show x ∈ numsM pt (if (look pt k).getD 0 ∈ acc then acc else acc ++ [(look pt k).getD 0]) r ↔ _
    rw [numsM_mem pt x r]
    split
    · rename_i z
      constructor
      · rintro (h | ⟨j, hj, h⟩)
        · exact .inl h
        · exact .inr ⟨j, List.mem_cons_of_mem _ hj, h⟩
      · rintro (h | ⟨j, hj, h⟩)
        · exact .inl h
        · rcases List.mem_cons.mp hj with rfl | hj
          · exact .inl (h ▸ z)
          · exact .inr ⟨j, hj, h⟩
    · constructor
      · rintro (h | ⟨j, hj, h⟩)
        · rcases List.mem_append.mp h with h | h
          · exact .inl h
          · simp at h
            exact .inr ⟨k, List.mem_cons_self .., h.symm⟩
        · exact .inr ⟨j, List.mem_cons_of_mem _ hj, h⟩
      · rintro (h | ⟨j, hj, h⟩)
        · exact .inl (List.mem_append_left _ h)
        · rcases List.mem_cons.mp hj with rfl | hj
          · exact .inl (List.mem_append_right _ (by simp [h]))
          · exact .inr ⟨j, hj, h⟩
theorem sorted_strict : ∀ {l : List Int}, l.Pairwise (· ≤ ·) → l.Nodup → l.Pairwise (· < ·)
  | [], _, _ => .nil
  | x :: l, h, n => by
    rw [List.pairwise_cons] at h
    rw [List.nodup_cons] at n
    exact .cons (fun y hy => by
      have := h.1 y hy
      have : x ≠ y := fun q => n.1 (q ▸ hy)
      omega) (sorted_strict h.2 n.2)
theorem nodup_inj {α β : Type} {f : α → β} : ∀ {l : List α}, l.Nodup → (∀ x ∈ l, ∀ y ∈ l, f x = f y → x = y) → (l.map f).Nodup
  | [], _, _ => List.nodup_nil
  | x :: l, h, g => by
    rw [List.nodup_cons] at h
    rw [List.map_cons, List.nodup_cons]
    refine ⟨fun z => ?_, nodup_inj h.2 fun a ha b hb => g a (List.mem_cons_of_mem _ ha) b (List.mem_cons_of_mem _ hb)⟩
    obtain ⟨y, hy, e⟩ := List.mem_map.mp z
    have := g y (List.mem_cons_of_mem _ hy) x (List.mem_cons_self ..) e
    exact h.1 (this ▸ hy)
/-- both ways lead back: too few places -/
theorem seat_no {ps : List Pl} {c : Int} {pt : Pt} {w1 w2 : List Pl} {ns : List Int} (O : PtOk ps c pt) (hc : 0 ≤ c) (hl : c < ps.length) (h1 : WayEnd ps pt (0, (pr ps c).1) w1) (h2 : WayEnd ps pt (1, (pr ps c).2) w2)
    (t1 : ∀ l, w1.getLast? = some l → (look pt l).isSome = true) (t2 : ∀ l, w2.getLast? = some l → (look pt l).isSome = true) (hp : ns.Perm (numsM pt [c] (w1 ++ w2))) (hs : ns.Pairwise (· ≤ ·)) : SeatNo ps ns := by
  have tk : ∀ k ∈ w1 ++ w2, ∃ n, look pt k = some n := fun k hk => by
    refine Option.isSome_iff_exists.mp ?_
    have one : ∀ {w : List Pl}, Way ps pt w → (∀ l, w.getLast? = some l → (look pt l).isSome = true) → k ∈ w → (look pt k).isSome = true := fun {w} hw t hk => by
      obtain ⟨i, hi⟩ := List.getElem?_of_mem hk
      have hl := (List.getElem?_eq_some_iff.mp hi).1
      by_cases z : i + 1 < w.length
      · exact hw.taken hi z
      · refine t k ?_
        rw [List.getLast?_eq_getElem?, show w.length - 1 = i by omega]
        exact hi
    rcases List.mem_append.mp hk with hk | hk
    · exact one h1.way t1 hk
    · exact one h2.way t2 hk
  have cl : ∀ k ∈ w1 ++ w2, ∀ o, nextM ps pt k = some o → o ∈ w1 ++ w2 := fun k hk o ho => by
    have one : ∀ {w : List Pl} {k0 : Pl}, WayEnd ps pt k0 w → k ∈ w → o ∈ w := fun {w k0} hw hk => by
      obtain ⟨i, hi⟩ := List.getElem?_of_mem hk
      have hl := (List.getElem?_eq_some_iff.mp hi).1
      by_cases z : i + 1 < w.length
      · have := hw.way.step i k _ hi (List.getElem?_eq_getElem z)
        rw [this] at ho
        cases ho
        exact List.getElem_mem ..
      · refine hw.fin k o ?_ ho
        rw [List.getLast?_eq_getElem?, show w.length - 1 = i by omega]
        exact hi
    rcases List.mem_append.mp hk with hk | hk
    · exact List.mem_append_left _ (one h1 hk)
    · exact List.mem_append_right _ (one h2 hk)
  have m1 : (0, (pr ps c).1) ∈ w1 ++ w2 := List.mem_append_left _ (List.mem_of_mem_head? (by rw [h1.hd]; rfl))
  have m2 : (1, (pr ps c).2) ∈ w1 ++ w2 := List.mem_append_right _ (List.mem_of_mem_head? (by rw [h2.hd]; rfl))
  have nd : ns.Nodup := hp.nodup_iff.mpr (numsM_nd pt _ _ (by simp))
  have mem : ∀ x, x ∈ ns ↔ x = c ∨ ∃ k ∈ w1 ++ w2, look pt k = some x := fun x => by
    rw [hp.mem_iff, numsM_mem]
    constructor
    · rintro (h | ⟨k, hk, h⟩)
      · exact .inl (by simpa using h)
      · obtain ⟨n, hn⟩ := tk k hk
        rw [hn] at h
        exact .inr ⟨k, hk, by rw [hn, ← h]; rfl⟩
    · rintro (h | ⟨k, hk, h⟩)
      · exact .inl (by simp [h])
      · exact .inr ⟨k, hk, by rw [h]; rfl⟩
  refine ⟨sorted_strict hs nd, fun n hn => ?_, (pt.map (·.1)).filter (fun k => decide (k ∈ w1 ++ w2)), ?_, fun n hn => ?_⟩
  · rcases (mem n).mp hn with rfl | ⟨k, hk, e⟩
    · exact ⟨hc, hl⟩
    · have := O.hm k n e
      exact ⟨this.1, by omega⟩
  · have F1 : ((pt.map (·.1)).filter (fun k => decide (k ∈ w1 ++ w2))).Nodup := O.nd.filter _
    have F2 := nodup_inj (f := fun k => (look pt k).getD 0) F1 fun x hx y hy e => by
      obtain ⟨a, ha⟩ := tk x (by simpa using (List.mem_filter.mp hx).2)
      obtain ⟨b, hb⟩ := tk y (by simpa using (List.mem_filter.mp hy).2)
      have e : (look pt x).getD 0 = (look pt y).getD 0 := e
      rw [ha, hb] at e
      have e : a = b := e
      rw [← e] at hb
      exact O.inj x y a ha hb
    have F3 := nodup_len (l := c :: ((pt.map (·.1)).filter (fun k => decide (k ∈ w1 ++ w2))).map fun k => (look pt k).getD 0) (m := ns) (by
      rw [List.nodup_cons]
      refine ⟨fun z => ?_, F2⟩
      obtain ⟨k, hk, e⟩ := List.mem_map.mp z
      obtain ⟨n, hn⟩ := tk k (by simpa using (List.mem_filter.mp hk).2)
      rw [hn] at e
      have e : n = c := e
      have := (O.hm k n hn).2.1
      omega) fun x hx => by
      rcases List.mem_cons.mp hx with rfl | hx
      · exact (mem _).mpr (.inl rfl)
      · obtain ⟨k, hk, e⟩ := List.mem_map.mp hx
        have hk2 : k ∈ w1 ++ w2 := by simpa using (List.mem_filter.mp hk).2
        obtain ⟨n, hn⟩ := tk k hk2
        rw [hn] at e
        have e : n = x := e
        exact (mem x).mpr (.inr ⟨k, hk2, by rw [hn, e]⟩)
    simp only [List.length_cons, List.length_map] at F3
    omega
  · have inF : ∀ k ∈ w1 ++ w2, k ∈ (pt.map (·.1)).filter (fun k => decide (k ∈ w1 ++ w2)) := fun k hk => by
      obtain ⟨m, hm⟩ := tk k hk
      exact List.mem_filter.mpr ⟨key_mem (by rw [hm]; rfl), by simpa using hk⟩
    rcases (mem n).mp hn with rfl | ⟨k, hk, e⟩
    · exact ⟨inF _ m1, inF _ m2⟩
    · have hh := (O.hm k n e).2.2
      have hx : oth (pr ps n) k ∈ w1 ++ w2 := cl k hk _ (by unfold nextM; rw [e]; rfl)
      have two : ∀ j, isHome (pr ps n) j → j ∈ (pt.map (·.1)).filter (fun k => decide (k ∈ w1 ++ w2)) := fun j hj => by
        rcases home_oth hh hj with rfl | rfl
        · exact inF _ hk
        · exact inF _ hx
      exact ⟨two _ (.inl rfl), two _ (.inr rfl)⟩

/-! seated: the walk. -/
def sp_seated (T : Tx) : Sp := fun vs H Q _ => ∃ (G : Hp) (p : Addr) (xs : List V) (ps : List Pl), Ex G H ∧ vs = [.ref p] ∧ H p = some (.lst xs) ∧ Dts G (ps.map pD) xs ∧ ps.length ≤ 1000 ∧
  ∀ (w : Str) (ns : List Int) (t q : Addr) (G2 H2 : Hp), SeatOk ps w ns → Gr [] G H G2 H2 → H q = none → G2 q = none → H2 q = some (.lst (ns.map V.int)) → G2 t = some (.tup [.str w, .ref q]) → Q (.ref t) H2
abbrev N_seated : List Str := ["pairs", "places", "number", "pair", "ways", "row", "good", "way", "rows", "place"]
def t_seated (T : Tx) (E : XK) : TS :=
  (tSeq (tAsg tDNewT (gName 1)) (tSeq (tFor (iEnum T.K (tCons (tVar 0) tNil)) (gTup T.K 2 (gCons (gName 2) (gCons (gName 3) gNil))) (tSeq (tAsg (tLc (iRng1 (tCons (tC (.int 2)) tNil)) (gName 5) tYes (tCall (sp_way_from T) [] E0 (tCons (tVar 0) (tCons (tVar 1) (tCons (tTup (tCons (tVar 5) (tCons (tOp (rIx T.K) (tVar 3) (tVar 5)) tNil))) tNil)))) [5]) (gName 4)) (tSeq (tAsg (tLc (iList T.K (tVar 4)) (gName 7) (tTest (tOp (rInU T.K true) (tOp (rIx T.K) (tVar 7) (tUn rNegU (tC (.int 1)))) (tVar 1))) (tVar 7) [7]) (gName 6)) (tSeq (tIfS (tTest (tOp (rEqU T.K) (tVar 6) (tLst tNil))) (tSeq (tRet (tTup (tCons (tC (.str "no")) (tCons (tCall (sp_owners T) [] E (tCons (tVar 1) (tCons (tOp rAddU (tOp (rIx T.K) (tVar 4) (tC (.int 0))) (tOp (rIx T.K) (tVar 4) (tC (.int 1)))) (tCons (tVar 2) tNil)))) tNil)))) tNext) tNext) (tSeq (tDrop (tCall (sp_shifted T) [] E (tCons (tVar 1) (tCons (tOp (rIx T.K) (tVar 6) (tC (.int 0))) tNil)))) (tSeq (sDPut (tVar 1) (tOp (rIx T.K) (tOp (rIx T.K) (tVar 6) (tC (.int 0))) (tC (.int 0))) (tVar 2)) tNext)))))) (tSeq (tAsg (tOp rMulU (tLst (tCons (tC (.int 0)) tNil)) (tCB (rLenU T.K) (tCons (tVar 0) tNil))) (gName 8)) (tSeq (tFor (iList T.K (tCB (rListU T.K) (tCons (tVar 1) tNil))) (gName 9) (tSeq (tAsg (tOp (rIx T.K) (tVar 9) (tC (.int 0))) (gSub (tVar 8) (tDGet (tVar 1) (tVar 9)) rSetL)) tNext)) (tSeq (tRet (tTup (tCons (tC (.str "yes")) (tCons (tVar 8) tNil)))) tNext)))))
section
variable {T : Tx} {σ : L2.St} {G H : Hp} {a b c : TE} {E : XK} {tz : TS} {D : Ends}
theorem q_shift {d : Addr} {pt : Pt} {w : List Pl} {ps : List Pl} (e : Ex G H) (h1 : EvV a σ G H (.ref d)) (h2 : EvD b σ G H (.list (w.map pD))) (hd : H d = some (.dT (encT V.int pt))) (nd : G d = none) (W : Way ps pt w) (hn : (pt.map (·.1)).Nodup) (hl : pt.length ≤ 10000)
    (k : ∀ G2 H2, Gr [d] G H G2 H2 → H2 d = some (.dT (encT V.int (shiftA pt w (w.length - 1)))) → tz D σ H2) : tSeq (tDrop (tCall (sp_shifted T) [] E (tCons a (tCons b tNil)))) tz D σ H :=
  q_callM e (ea_obj h1 (ea_dat h2 ea_nil)) fun G1 H1 vs g k' => by
    obtain ⟨x, xs, rfl, e1, y, ys, rfl, e2, e4⟩ := k'
    cases e1
    cases e4
    exact ⟨G1, d, y, ps, pt, w, g.s, rfl, e2, g.hx _ _ hd, g.n d _ hd rfl nd, W, hn, hl, fun G2 H2 g2 h => k G2 H2 (g.to.trans g2) h⟩
theorem x_owners {d : Addr} {pt : Pt} {fs : List Pl} {n : Int} (h1 : EvV a σ G H (.ref d)) (h2 : EvD b σ G H (.list (fs.map pD))) (h3 : EvD c σ G H (.int n)) (hd : H d = some (.dT (encT V.int pt))) (ht : ∀ k ∈ fs, (look pt k).isSome = true) (hl : fs.length ≤ 50000) (e : Ex G H) (Q : VK)
    (k : ∀ (ns : List Int) p G2 H2, (ns.Perm (numsM pt [n] fs) ∧ ns.Pairwise (· ≤ ·) ∧ H p = none) → Gr [] G H G2 H2 → G2 p = none → H2 p = some (.lst (ns.map V.int)) → Q (.ref p) H2) : tCall (sp_owners T) [] E (tCons a (tCons b (tCons c tNil))) σ H Q :=
  ea_obj h1 (ea_dat h2 (ea_dat h3 ea_nil)) G H (Gr.refl e []) _ fun vs G1 H1 g k' => by
    obtain ⟨x, xs, rfl, e1, y, ys, rfl, e2, z, zs, rfl, e3, e4⟩ := k'
    cases e1
    cases e3
    cases e4
    exact ⟨G1, d, y, pt, fs, n, g.s, rfl, e2, g.hx _ _ hd, ht, hl, fun ns' p G2 H2 hp hs g2 f2 n2 e2 => k ns' p G2 H2 ⟨hp, hs, g.fresh f2⟩ (g.trans g2) n2 e2⟩
end
def lastD (w : List Pl) : Pl := w.getLast?.getD (0, 0)
def isFree (pt : Pt) (w : List Pl) : Bool := !(look pt (lastD w)).isSome
def wayD (w : List Pl) : PyData := .list (w.map pD)
def goodL (pt : Pt) (w1 w2 : List Pl) : List (List Pl) := [w1, w2].filter (isFree pt)
theorem atI_last {w : List Pl} (h : w ≠ []) : atI (w.map pD) (-1) = some (pD (lastD w)) := by
  have hl := List.length_pos_iff.mpr h
  unfold atI
  have : ixN (w.map pD).length (-1) = some (w.length - 1) := by
    unfold ixN
    rw [List.length_map]
    simp
    omega
  rw [this]
  show (w.map pD)[w.length - 1]? = _
  rw [List.getElem?_map, ← List.getLast?_eq_getElem?]
  unfold lastD
  cases z : w.getLast? with
  | none => exact absurd (List.getLast?_eq_none_iff.mp z) h
  | some l => rfl
/-- data without dicts, not deep -/
def OkN (n : Nat) (d : PyData) : Prop := d.plain = true ∧ d.depth ≤ n
theorem okn_all {n : Nat} : ∀ {ds : List PyData}, (∀ d ∈ ds, OkN n d) → PyData.plainAll ds = true ∧ PyData.depthAll ds ≤ n
  | [], _ => ⟨rfl, Nat.zero_le _⟩
  | d :: ds, h => by
    obtain ⟨a1, a2⟩ := h d (List.mem_cons_self ..)
    obtain ⟨b1, b2⟩ := okn_all (ds := ds) fun x hx => h x (List.mem_cons_of_mem _ hx)
    constructor
    · show (PyData.plain d && PyData.plainAll ds) = true
      rw [a1, b1]
      rfl
    · show max (PyData.depth d) (PyData.depthAll ds) ≤ n
      omega
theorem okn_list {n : Nat} {ds : List PyData} (h : ∀ d ∈ ds, OkN n d) : OkN (n + 1) (.list ds) := by
  obtain ⟨h1, h2⟩ := okn_all h
  exact ⟨h1, Nat.succ_le_succ h2⟩
theorem okn_tup {n : Nat} {ds : List PyData} (h : ∀ d ∈ ds, OkN n d) : OkN (n + 1) (.tuple ds) := by
  obtain ⟨h1, h2⟩ := okn_all h
  exact ⟨h1, Nat.succ_le_succ h2⟩
theorem okn_int {n : Nat} {i : Int} : OkN n (.int i) := ⟨rfl, Nat.zero_le _⟩
theorem okn_str {n : Nat} {i : Str} : OkN n (.str i) := ⟨rfl, Nat.zero_le _⟩
theorem okn_bool {n : Nat} {i : Bool} : OkN n (.bool i) := ⟨rfl, Nat.zero_le _⟩
theorem okn_non {n : Nat} : OkN n .none := ⟨rfl, Nat.zero_le _⟩
theorem OkN.d {n : Nat} {d : PyData} (h : OkN n d) (hn : n ≤ 20) : okD d = true := by
  unfold okD
  rw [h.1, Nat.ble_eq_true_of_le (Nat.le_trans h.2 hn)]
  rfl
theorem okN_A {n : Nat} {ds : List PyData} (h : ∀ d ∈ ds, OkN n d) (hn : n ≤ 20) : okA ds = true := by
  obtain ⟨h1, h2⟩ := okn_all h
  unfold okA
  rw [h1, Nat.ble_eq_true_of_le (Nat.le_trans h2 hn)]
  rfl
theorem okn_pD (k : Pl) : OkN 1 (pD k) := okn_tup fun d hd => by
  simp at hd
  rcases hd with rfl | rfl <;> exact okn_int
theorem okn_wayD (w : List Pl) : OkN 2 (wayD w) := okn_list fun d hd => by
  obtain ⟨k, _, rfl⟩ := List.mem_map.mp hd
  exact okn_pD k
theorem et_yes {σ : L2.St} {G H : Hp} : EvT tYes σ G H true := fun G1 H1 g Q q => q G1 H1 (Gr.refl g.s [])
theorem seat_yes {ps : List Pl} {pt : Pt} {rs : List Int} (O : PtOk ps ps.length pt) (hl : rs.length = ps.length) (h01 : ∀ r ∈ rs, r = 0 ∨ r = 1) (hr : ∀ k n, look pt k = some n → rs[n.toNat]? = some k.1) : SeatYes ps rs := by
  have key : ∀ i, i < ps.length → ∃ k, look pt k = some (i : Int) ∧ plc ps rs i = k := fun i hi => by
    obtain ⟨k, hk⟩ := O.all i (by omega) (by omega)
    refine ⟨k, hk, ?_⟩
    have h1 := hr k i hk
    have h2 := (O.hm k i hk).2.2
    rw [Int.toNat_natCast] at h1
    unfold plc
    rw [getD_of h1]
    have e : pr ps (i : Int) = ps.getD i (0, 0) := rfl
    rw [e] at h2
    rcases h2 with rfl | rfl
    · simp
    · simp
  refine ⟨hl, h01, fun i j hi hj e => ?_⟩
  obtain ⟨k, hk, ek⟩ := key i hi
  obtain ⟨k', hk', ek'⟩ := key j hj
  have : k = k' := by rw [← ek, ← ek', e]
  rw [this, hk'] at hk
  have : (j : Int) = i := Option.some.inj hk
  omega
theorem at_zero {β : Type} {x : β} {l : List β} : atI (x :: l) 0 = some x := (atI_nat (by rfl : (x :: l)[0]? = some x) : atI (x :: l) ((0 : Nat) : Int) = some x)
theorem ptOk_nil (ps : List Pl) : PtOk ps (0 : Nat) [] := ⟨List.nodup_nil, (fun k n h => by cases h), (fun i j n h _ => by cases h), (fun n a b => absurd b (by omega)), by simp⟩
theorem core_seated {T : Tx} {G H : Hp} {p : Addr} {xs : List V} {ps : List Pl} {E : XK} {D : Ends} (e : Ex G H) (hp : G p = some (.lst xs)) (hx : Dts G (ps.map pD) xs) (hl : ps.length ≤ 1000)
    (q : ∀ (w : Str) (ns : List Int) (t q : Addr) (G2 H2 : Hp), SeatOk ps w ns → Gr [] G H G2 H2 → H q = none → G2 q = none → H2 q = some (.lst (ns.map V.int)) → G2 t = some (.tup [.str w, .ref q]) → D.rt (.ref t) H2) : t_seated T E D (start N_seated [.ref p]) H := by
  have dp : Dt G (.list (ps.map pD)) (.ref p) := ⟨p, xs, rfl, hp, hx⟩
  refine q_dnew e fun d H1 g1 fd nd hd => ?_
  refine q_for [d] (fun i σ' G' H' => ∃ v2 v3 v4 v6 pt, σ' = [some (.ref p), some (.ref d), v2, v3, v4, none, v6, none, none, none] ∧ H' d = some (.dT (encT V.int pt)) ∧ PtOk ps i pt) g1.s
    (ei_enum (ea_dat (EvV.dat (ev_var rfl) (Dt.gr g1 dp)) ea_nil)) (fun G2 H2 g2 => ⟨none, none, none, none, [], rfl, g2.hx _ _ hd, ptOk_nil ps⟩) ?_ ?_
  · rintro i dd σ' G2 H2 g2 hi ⟨v2, v3, v4, v6, pt, rfl, h2, O⟩ x G3 H3 g3 dx
    have hil : i < ps.length := by
      have := (List.getElem?_eq_some_iff.mp hi).1
      simpa [enumL] using this
    have hdd : dd = .tuple [.int i, pD (pr ps i)] := by
      unfold enumL at hi
      rw [List.getElem?_map, List.getElem?_zipIdx, List.getElem?_map, List.getElem?_eq_getElem hil] at hi
      simp at hi
      rw [← hi]
      unfold pr
      simp [List.getD_eq_getElem?_getD, hil]
    subst hdd
    refine g_tup g3.s dx rfl fun ys hy => ?_
    obtain ⟨_, _, rfl, e3, y, _, rfl, e4, e5⟩ := hy
    cases e3
    cases e5
    refine ⟨_, _, rfl, _, _, rfl, rfl, ?_⟩
    generalize hab : pr ps i = ab at e4
    obtain ⟨a, b⟩ := ab
    have g23 := g2.trans g3.to
    have d3 : H3 d = some (.dT (encT V.int pt)) := g3.hx _ _ h2
    have n3 : G3 d = none := g23.n d _ hd rfl nd
    have p3 : Dt G3 (.list (ps.map pD)) (.ref p) := Dt.gr g23 (Dt.gr g1 dp)
    have hO : (i : Int) ≤ ps.length := by omega
    have hpl : pt.length ≤ 1000 := by
      have := O.len
      omega
    -- the ways
    refine q_asg (d := .list [wayD (wayM ps pt (0, a)), wayD (wayM ps pt (1, b))]) g3.s (EvL.dat (el_lc (ds := rng 0 2) (fun j _ => some (wayD (wayM ps pt ((j : Nat), if j = 0 then a else b)))) (by simp [rng]) (ei_rng1 (by walk_at "ea") (by decide)) fun j dj x G4 H4 g4 hj dx k kk => ?_)) fun v4' G4 H4 g4 e4' => ?_
    · have lj : j < 2 := by
        have := (List.getElem?_eq_some_iff.mp hj).1
        simpa [rng] using this
      rw [rng_get (by simpa using lj)] at hj
      cases hj
      cases dx
      have jj : (0 : Int) + (j : Nat) = j := by omega
      rw [jj]
      refine kk _ rfl true et_yes (fun _ => ⟨_, rfl, EvL.dat (el_way (EvV.dat (ev_var rfl) (Dt.gr g4 p3)) (ev_var rfl) (ev_tup (ds := [.int j, .int (if j = 0 then a else b)]) (ea_dat (EvV.dat (ev_var rfl) dt_int) (ea_dat (ev_bin (EvV.dat (ev_var rfl) (Dt.gr g4 e4)) (EvV.dat (ev_var rfl) dt_int) (b_ixT (ds := [.int a, .int b]) (i := j) ?_)) ea_nil)) (by walk_at "sd")) (g4.hx _ _ d3) O hO (by omega) ?_)⟩) (fun z => nomatch z)
      · match j, lj with
        | 0, _ => rfl
        | 1, _ => rfl
      · show ((j : Nat) : Int) = 0 ∨ ((j : Nat) : Int) = 1
        omega
    generalize hw0 : wayM ps pt (0, a) = w0 at e4'
    generalize hw1 : wayM ps pt (1, b) = w1 at e4'
    have W0 : WayEnd ps pt (0, (pr ps i).1) w0 := by rw [← hw0, hab]; exact wayM_end ..
    have W1 : WayEnd ps pt (1, (pr ps i).2) w1 := by rw [← hw1, hab]; exact wayM_end ..
    have d4 := g4.hx _ _ d3
    -- the good ones
    refine q_asg (d := .list ((goodL pt w0 w1).map wayD)) g4.s (EvD.is (EvL.dat (el_lc (ds := [wayD w0, wayD w1]) (fun j dj => if isFree pt (if j = 0 then w0 else w1) = true then some dj else none) (by simp) (ei_list (EvV.dat (ev_var rfl) e4')) fun j dj x G5 H5 g5 hj dx k kk => ?_)) ?_) fun v6' G5 H5 g5 e6' => ?_
    · have : ∃ w : List Pl, w ≠ [] ∧ w = (if j = 0 then w0 else w1) ∧ dj = wayD w := by
        match j, hj with
        | 0, hj => cases hj; exact ⟨w0, W0.way.ne, rfl, rfl⟩
        | 1, hj => cases hj; exact ⟨w1, W1.way.ne, rfl, rfl⟩
      obtain ⟨w, nw, ew, rfl⟩ := this
      rw [← ew] at kk
      refine kk _ rfl (isFree pt w) (EvT.is (et_test (ev_din (k := lastD w) (ev_var rfl) (ev_bin (EvV.dat (ev_var rfl) dx) (ev_un (EvV.dat ev_c dt_int) u_neg) (b_ixL (atI_last nw))) (g5.hx _ _ d4))) ?_) (fun z => ⟨wayD w, by rw [if_pos z], EvV.dat (ev_var rfl) dx⟩) fun z => by rw [z]; rfl
      unfold isFree
      cases (look pt (lastD w)).isSome <;> rfl
    · unfold goodL
      cases z0 : isFree pt w0 <;> cases z1 : isFree pt w1 <;> simp [z0, z1, List.zipIdx]
    have d5 := g5.hx _ _ d4
    have e5' := Dt.gr g5 e4'
    have g25 := g2.trans ((g3.trans (g4.trans g5)).to)
    -- none is good
    have okg : OkN 3 (.list ((goodL pt w0 w1).map wayD)) := okn_list fun d hd => by
      obtain ⟨k, _, rfl⟩ := List.mem_map.mp hd
      exact okn_wayD k
    have good_nil : goodL pt w0 w1 = [] → isFree pt w0 = false ∧ isFree pt w1 = false := fun z => by
      unfold goodL at z
      rw [List.filter_eq_nil_iff] at z
      exact ⟨by simpa using z w0 (by simp), by simpa using z w1 (by simp)⟩
    refine q_when (b := decide (goodL pt w0 w1 = [])) g5.s (EvT.is (et_test (ev_bin (EvV.dat (ev_var rfl) e6') (ev_lstD (ds := []) ea_nil (by decide)) (b_eq (okg.d (by decide)) rfl))) ?_) (fun z G6 H6 g6 => ?_) fun z G6 H6 g6 => ?_
    · cases goodL pt w0 w1 <;> rfl
    · obtain ⟨f0, f1⟩ := good_nil (of_decide_eq_true z)
      have tk : ∀ w, isFree pt w = false → ∀ l, w.getLast? = some l → (look pt l).isSome = true := fun w hw l hl => by
        unfold isFree lastD at hw
        rw [hl] at hw
        simpa using hw
      have all : ∀ {w : List Pl} {k0 : Pl}, WayEnd ps pt k0 w → isFree pt w = false → ∀ k ∈ w, (look pt k).isSome = true := fun {w k0} hw hf k hk => by
        obtain ⟨i, hi⟩ := List.getElem?_of_mem hk
        have hl := (List.getElem?_eq_some_iff.mp hi).1
        by_cases z : i + 1 < w.length
        · exact hw.way.taken hi z
        · refine tk w hf k ?_
          rw [List.getLast?_eq_getElem?, show w.length - 1 = i by omega]
          exact hi
      have l0 := way_len W0.way
      have l1 := way_len W1.way
      have e6 := Dt.gr g6 e5'
      refine q_retP (P := fun ns p => (ns.Perm (numsM pt [(i : Int)] (w0 ++ w1)) ∧ ns.Pairwise (· ≤ ·)) ∧ H6 p = none) g6.s (fun Q k => x_owners (fs := w0 ++ w1) (ev_var rfl) (EvD.is (ev_bin (ev_bin (d1 := .list [wayD w0, wayD w1]) (EvV.dat (ev_var rfl) e6) (EvV.dat ev_c dt_int) (b_ixL (i := 0) (d := wayD w0) rfl)) (ev_bin (d1 := .list [wayD w0, wayD w1]) (EvV.dat (ev_var rfl) e6) (EvV.dat ev_c dt_int) (b_ixL (i := 1) (d := wayD w1) rfl)) (b_addL (ds := w0.map pD) (es := w1.map pD) (by simp; omega))) (by rw [List.map_append])) (EvV.dat (ev_var rfl) dt_int) (g6.hx _ _ d5) ?_ (by simp; omega) g6.s Q
        fun ns p G7 H7 hP g7 n7 e7 => k ns p G7 H7 ⟨⟨hP.1, hP.2.1⟩, hP.2.2⟩ g7 n7 e7) fun ns r t G7 H7 hP g7 n7 e7 t7 => ?_
      · intro k hk
        rcases List.mem_append.mp hk with hk | hk
        · exact all W0 f0 k hk
        · exact all W1 f1 k hk
      · refine q "no" ns t r G7 H7 (.inr ⟨rfl, seat_no O (by omega) (by omega) W0 W1 (tk w0 f0) (tk w1 f1) hP.1.1 hP.1.2⟩) (g1.own ((g25.trans g6.to).trans g7.to) (by simpa using fd)) ((g1.to.trans (g25.trans g6.to)).fresh hP.2) n7 e7 t7
    -- one is
    · have hg : goodL pt w0 w1 ≠ [] := of_decide_eq_false z
      obtain ⟨w, r, hgw⟩ : ∃ w r, goodL pt w0 w1 = w :: r := by
        cases zz : goodL pt w0 w1 with
        | nil => exact absurd zz hg
        | cons w r => exact ⟨w, r, rfl⟩
      have wm : w ∈ goodL pt w0 w1 := by rw [hgw]; exact List.mem_cons_self ..
      have wf : isFree pt w = true := (List.mem_filter.mp wm).2
      have we : ∃ k0, isHome (pr ps i) k0 ∧ WayEnd ps pt k0 w := by
        have := (List.mem_filter.mp wm).1
        simp at this
        rcases this with rfl | rfl
        · exact ⟨_, .inl rfl, W0⟩
        · exact ⟨_, .inr rfl, W1⟩
      obtain ⟨k0, hk0, W⟩ := we
      rw [hgw] at e6'
      have n5 : G5 d = none := g25.n d _ hd rfl nd
      have g26 := g25.trans g6.to
      have d6 := g6.hx _ _ d5
      have n6 : G6 d = none := g26.n d _ hd rfl nd
      have e6 : Dt G6 (.list (wayD w :: r.map wayD)) v6' := Dt.gr g6 e6'
      have h0 : w[0]? = some k0 := by rw [← List.head?_eq_getElem?]; exact W.hd
      refine q_shift (T := T) (pt := pt) (w := w) g6.s (ev_var rfl) (ev_bin (EvV.dat (ev_var rfl) e6) (EvV.dat ev_c dt_int) (b_ixL (i := 0) (d := wayD w) at_zero)) d6 n6 W.way O.nd (by omega) fun G7 H7 g7 d7 => ?_
      have e7 : Dt G7 (.list (wayD w :: r.map wayD)) v6' := Dt.gr g7 e6
      have n7 : G7 d = none := (g26.trans g7).n d _ hd rfl nd
      have at0 : atI (w.map pD) 0 = some (pD k0) := by
        have h00 : (w.map pD)[0]? = some (pD k0) := by rw [List.getElem?_map, h0]; rfl
        exact (atI_nat h00 : atI (w.map pD) ((0 : Nat) : Int) = some (pD k0))
      refine q_dput (f := V.int) (pl := shiftA pt w (w.length - 1)) (k := k0) (x := (i : Int)) n7 (fun Q k => EvD.int (i := (i : Int)) (EvV.dat (ev_var rfl) dt_int) G7 H7 (Gr.refl g7.s []) Q fun G8 H8 g8 => k G8 H8 g8.to (g8.hx _ _ d7)) (fun G8 H8 g8 => ev_var rfl)
        (fun G8 H8 g8 => ev_bin (ev_bin (EvV.dat (ev_var rfl) (Dt.gr g8 e7)) (EvV.dat ev_c dt_int) (b_ixL (i := 0) (d := wayD w) at_zero)) (EvV.dat ev_c dt_int) (b_ixL at0)) d7 rfl ?_ fun G8 H8 g8 d8 => ?_
      · have := shiftA_len W.way O.nd (w.length - 1) (Nat.le_refl _)
        omega
      · refine q_next ⟨G8, ((g3.trans (g4.trans (g5.trans g6))).to.trans g7).trans g8, some (.int i), _, some v4', some v6', seatM pt w i, rfl, ?_, ?_⟩
        · rw [d8]
          unfold seatM
          rw [getD_of h0]
        · have := seat_ok O (by omega) W.way (fun l hl => by
            unfold isFree lastD at wf
            rw [hl] at wf
            simpa using wf) fun a ha => by
            rw [h0] at ha
            cases ha
            exact hk0
          exact_mod_cast this
  · rintro σ' G2 H2 g2 ⟨v2, v3, v4, v6, pt, rfl, h2, O⟩
    have el : (enumL (ps.map pD)).length = ps.length := by simp [enumL]
    rw [el] at O
    have g12 := g1.to.trans g2
    have p2 : Dt G2 (.list (ps.map pD)) (.ref p) := Dt.gr g2 (Dt.gr g1 dp)
    refine q_asgL (ds := (List.replicate ps.length (0 : Int)).map PyData.int) g2.s (fun G3 H3 g3 Q k => el_rep (ds := [.int 0]) (n := ps.length) (ev_lst (ea_dat (EvV.dat ev_c dt_int) ea_nil) (by walk_at "sd")) (EvD.is (ev_lenL (EvV.dat (ev_var rfl) p2)) (by rw [List.length_map])) (by omega) (by simp; omega) G3 H3 g3 Q fun q xs G4 H4 g4 f4 n4 e4 k4 => k q xs G4 H4 g4 f4 n4 e4 (by
      have : (List.replicate (ps.length : Int).toNat [PyData.int 0]).flatten = (List.replicate ps.length (0 : Int)).map PyData.int := by
        rw [Int.toNat_natCast, List.map_replicate]
        generalize ps.length = m
        induction m with
        | zero => rfl
        | succ m ih => rw [List.replicate_succ, List.flatten_cons, ih, List.replicate_succ]; rfl
      rw [← this]
      exact k4)) fun r rx G3 H3 g3 f3 n3 e3 k3 => ?_
    have k3 := Dts.of_ints k3
    subst k3
    have nr : d ≠ r := ne_of_none h2 f3
    have d3 := g3.hx _ _ h2
    refine q_for [r] (fun i σ' G' H' => ∃ (v9 : Option V) (rs : List Int), σ' = [some (.ref p), some (.ref d), v2, v3, v4, none, v6, none, some (.ref r), v9] ∧ H' r = some (.lst (rs.map V.int)) ∧ rs.length = ps.length ∧ (∀ z ∈ rs, z = 0 ∨ z = 1) ∧ ∀ (j : Nat) (e : Pl × Int), j < i → pt[j]? = some e → rs[e.2.toNat]? = some e.1.1) g3.s
      (ei_list (EvL.dat (el_listD (ev_var rfl) d3))) (fun G4 H4 g4 => ⟨none, List.replicate ps.length 0, rfl, g4.hx _ _ e3, by simp, fun z hz => .inl (List.eq_of_mem_replicate hz), fun j e hj => absurd hj (Nat.not_lt_zero _)⟩) ?_ ?_
    · rintro i dd σ' G4 H4 g4 hi ⟨v9, rs, rfl, r4, l4, z4, j4⟩ x G5 H5 g5 dx
      rw [List.getElem?_map] at hi
      cases hk : pt[i]? with
      | none => rw [hk] at hi; cases hi
      | some ke =>
        obtain ⟨k, n⟩ := ke
        rw [hk] at hi
        cases hi
        have lk : look pt k = some n := look_mem O.nd (List.mem_of_getElem? hk)
        obtain ⟨n0, n1, nh⟩ := O.hm k n lk
        have d5 : H5 d = some (.dT (encT V.int pt)) := g5.hx _ _ (g4.h d _ (by simpa using nr) d3)
        have r5 := g5.hx _ _ r4
        have nr5 : G5 r = none := (g4.trans g5.to).n r _ e3 rfl n3
        refine q_lset (x := .int k.1) (i := n) (j := n.toNat) g5.s (ev_bin (EvV.dat (ev_var rfl) dx) (EvV.dat ev_c dt_int) (b_ixT (ds := [.int k.1, .int k.2]) (i := 0) rfl)) (ev_var rfl) (ev_dgetI (ev_var rfl) (EvV.dat (ev_var rfl) dx) d5 lk) nr5 r5 ?_ fun v G6 H6 g6 dv h6 => ?_
        · unfold ixN
          rw [List.length_map, l4, if_pos n0, if_pos n1]
        · cases dv
          refine q_next ⟨G6, g5.to.trans g6, _, rs.set n.toNat k.1, rfl, by rw [h6, List.map_set], by simpa using l4, fun z hz => ?_, fun j e hj he => ?_⟩
          · rcases List.mem_or_eq_of_mem_set hz with hz | rfl
            · exact z4 z hz
            · exact home_row nh
          · by_cases c : j = i
            · subst c
              rw [hk] at he
              cases he
              rw [List.getElem?_set_self (by omega)]
            · have : e.2.toNat ≠ n.toNat := fun q => by
                obtain ⟨k', n'⟩ := e
                have lk' : look pt k' = some n' := look_mem O.nd (List.mem_of_getElem? he)
                have m0 := (O.hm k' n' lk').1
                have q : n'.toNat = n.toNat := q
                have : n' = n := by omega
                subst this
                have := O.inj k k' n' lk lk'
                subst this
                have h1 : (pt.map (·.1))[j]? = some k := by rw [List.getElem?_map, he]; rfl
                have h2 : (pt.map (·.1))[i]? = some k := by rw [List.getElem?_map, hk]; rfl
                exact c (nd_get O.nd h1 h2)
              rw [List.getElem?_set_ne (Ne.symm this)]
              exact j4 j e (by omega) he
    · rintro σ' G4 H4 g4 ⟨v9, rs, rfl, r4, l4, z4, j4⟩
      rw [List.length_map] at j4
      have Y := seat_yes O l4 z4 fun k n hk => by
        have hm := look_some_mem hk
        obtain ⟨j, hj⟩ := List.getElem?_of_mem hm
        exact j4 j _ (List.getElem?_eq_some_iff.mp hj).1 hj
      refine q_retP (P := fun ns p => ns = rs ∧ p = r) g4.s (fun Q k => ⟨_, rfl, k rs r G4 H4 ⟨rfl, rfl⟩ (Gr.refl g4.s []) (g4.n r _ e3 rfl n3) r4⟩) fun ns r' t G5 H5 hP g5 n5 e5 t5 => ?_
      obtain ⟨rfl, rfl⟩ := hP
      have fr : H r' = none := g12.fresh f3
      refine q "yes" ns t r' G5 H5 (.inl ⟨rfl, Y⟩) ?_ fr n5 e5 t5
      exact Gr.own (M := [d, r']) g1 (((g2.wide (by simp)).trans (g3.to.trans (g4.wide (by simp)))).trans g5.to) (by
        intro b hb
        simp at hb
        rcases hb with rfl | rfl
        · exact fd
        · exact fr)
theorem pure_seated {T : Tx} {vs : List V} {H : Hp} {Q : VK} {E : XK} (h : sp_seated T vs H Q E) : t_seated T E { nx := fun _ H' => Q .non H', rt := Q } (start N_seated vs) H := by
  obtain ⟨G, p, xs, ps, e, rfl, hp, hx, hl, q⟩ := h
  have eG : Ex G (upd G p (.lst xs)) := fun a u w => by
    by_cases z : a = p
    · rw [z] at w ⊢
      rw [upd_same, ← hp]
      exact e _ _ w
    · rw [upd_ne z]
      exact w
  refine core_seated (e.fx hp) upd_same (Dts.mono eG _ hx) hl fun w ns t r G2 H2 ok g2 f2 n2 e2 t2 => ?_
  have g := Gr.unfx e g2 hp
  have nrp : r ≠ p := fun z => by rw [z, hp] at f2; cases f2
  have ntp : t ≠ p := fun z => by
    have h1 := g2.s _ _ t2
    have h2 := g2.hx _ _ hp
    rw [z, h2] at h1
    cases h1
  exact q w ns t r _ H2 ok g f2 (by rw [rst_ne nrp]; exact n2) e2 (by rw [rst_ne ntp]; exact t2)

/-! seats: what laws say of the answer. -/
def plcL (ps : List Pl) (rs : List Int) : List Pl := (List.range ps.length).map (plc ps rs)
theorem seatYes_iff {ps : List Pl} {rs : List Int} : SeatYes ps rs ↔ rs.length = ps.length ∧ (∀ n ∈ rs, n = 0 ∨ n = 1) ∧ (plcL ps rs).Nodup := by
  unfold SeatYes plcL
  constructor
  · rintro ⟨h1, h2, h3⟩
    refine ⟨h1, h2, nodup_inj List.nodup_range fun x hx y hy e => h3 x y (List.mem_range.mp hx) (List.mem_range.mp hy) e⟩
  · rintro ⟨h1, h2, h3⟩
    refine ⟨h1, h2, fun i j hi hj e => ?_⟩
    have a : ((List.range ps.length).map (plc ps rs))[i]? = some (plc ps rs i) := by simp [hi]
    have b : ((List.range ps.length).map (plc ps rs))[j]? = some (plc ps rs i) := by simp [hj, e]
    exact nd_get h3 a b
theorem zipIdx_range {α β : Type} (n : Nat) (f : Nat → α) (F : Nat → β) : ((rng 0 n).zipIdx.filterMap fun e => some (F e.2)) = (List.range n).map F := by
  have : ((rng 0 n).zipIdx.filterMap fun e => some (F e.2)) = ((rng 0 n).zipIdx.map (·.2)).map F := by
    rw [List.map_map, ← List.filterMap_eq_map]
    rfl
  rw [this]
  congr 1
  apply List.ext_getElem?
  intro i
  rw [List.getElem?_map, List.getElem?_zipIdx]
  by_cases h : i < n
  · rw [rng_get (by omega)]
    simp [h]
  · rw [List.getElem?_eq_none (by rw [rng_len]; omega)]
    simp [h]
theorem get_ints {ns : List Int} {i : Nat} {d : PyData} (h : (ns.map PyData.int)[i]? = some d) : ∃ n, ns[i]? = some n ∧ d = .int n := by
  rw [List.getElem?_map] at h
  cases e : ns[i]? with
  | none => rw [e] at h; cases h
  | some n => rw [e] at h; cases h; exact ⟨n, rfl, rfl⟩
theorem seatNo_len {ps : List Pl} {ns : List Int} (h : SeatNo ps ns) : ns.length ≤ ps.length := by
  obtain ⟨n1, n2, _⟩ := h
  have nd : ns.Nodup := n1.imp fun q => Int.ne_of_lt q
  have := nodup_len (l := ns) (m := (List.range ps.length).map fun (i : Nat) => (i : Int)) nd fun x hx => by
    have := n2 x hx
    exact List.mem_map.mpr ⟨x.toNat, List.mem_range.mpr (by omega), by omega⟩
  simpa using this
def foundD (w : Str) (ns : List Int) : PyData := .tuple [.str w, .list (ns.map PyData.int)]
theorem foundDt {G : Hp} {t r : Addr} {w : Str} {ns : List Int} (h1 : G t = some (.tup [.str w, .ref r])) (h2 : G r = some (.lst (ns.map V.int))) : Dt G (foundD w ns) (.ref t) :=
  ⟨t, _, rfl, h1, .str w, [.ref r], rfl, rfl, .ref r, [], rfl, ⟨r, _, rfl, h2, Dts.ints ns⟩, rfl⟩
theorem eqv_pDs : ∀ ps : List Pl, PyData.eqv (.list (ps.map pD)) (.list (ps.map pD)) = true := fun ps => by
  show PyData.eqvAll (ps.map pD) (ps.map pD) = true
  induction ps with
  | nil => rfl
  | cons k r ih =>
    show (PyData.eqv (pD k) (pD k) && PyData.eqvAll (r.map pD) (r.map pD)) = true
    rw [ih, pD_eqv]
    simp
theorem okD_pDs (ps : List Pl) : okD (.list (ps.map pD)) = true := (okn_wayD ps).d (by decide)
section
variable {T : Tx} {σ : L2.St} {G H : Hp} {a b c : TE} {E E' : XK} {tz : TS} {D : Ends}
theorem q_seated {ps : List Pl} {p : Addr} {xs : List V} {i : Nat} (e : Ex G H) (ha : EvV a σ G H (.ref p)) (hp : H p = some (.lst xs)) (hx : Dts G (ps.map pD) xs) (hl : ps.length ≤ 1000)
    (k : ∀ (w : Str) (ns : List Int) (t q : Addr) (G2 H2 : Hp), SeatOk ps w ns → Gr [] G H G2 H2 → H q = none → G2 q = none → H2 q = some (.lst (ns.map V.int)) → G2 t = some (.tup [.str w, .ref q]) → tz D (σ.set i (some (.ref t))) H2) : tSeq (tAsg (tCall (sp_seated T) [] E (tCons a tNil)) (gName i)) tz D σ H :=
  ha G H (Gr.refl e []) _ fun G1 H1 g1 => ⟨G1, p, xs, ps, g1.s, rfl, g1.hx _ _ hp, Dts.mono g1.g _ hx, hl, fun w ns t q G2 H2 ok g2 f2 n2 e2 t2 => k w ns t q G2 H2 ok (g1.trans g2) (g1.fresh f2) n2 e2 t2⟩
end

/-! _law_room; len of a dict; own lists. -/
def sp__law_room (T : Tx) : Sp := fun vs H Q _ => ∃ (G : Hp) (s : Addr) (ns : List Int) (f m : Int), Ex G H ∧ vs = [.ref s, .int f, .int m] ∧ Scr T.K G s ns ∧ ns.length ≤ 63 ∧ RetD G H (.int f) Q
abbrev N__law_room : List Str := ["_law_script", "_law_few", "_law_many"]
def t__law_room (T : Tx) (E : XK) : TS :=
  (tSeq (tIfS (tTest (tOp (rGtU) (tCB (rLenU T.K) (tCons (tVar 0) tNil)) (tC (.int 63)))) (tSeq (tRet (tVar 2)) tNext) tNext) (tSeq (tRet (tVar 1)) tNext))
theorem pure__law_room {T : Tx} {vs : List V} {H : Hp} {Q : VK} {E : XK} (h : sp__law_room T vs H Q E) : t__law_room T E { nx := fun _ H' => Q .non H', rt := Q } (start N__law_room vs) H := by
  obtain ⟨G, s, ns, f, m, e, rfl, hs, hl, q⟩ := h
  refine q_when (b := false) e (EvT.is (et_test (ev_bin (ev_scrLen hs (ev_var rfl)) (EvV.dat ev_c dt_int) b_gt)) (by simp; omega)) (fun z => nomatch z) fun _ G1 H1 g1 => ?_
  exact q_ret g1.s (EvV.dat (ev_var rfl) dt_int) fun v G2 H2 g2 e2 => q v G2 H2 (g1.trans g2) e2
section
variable {T : Tx} {K : PySem.W.Frag} {σ : L2.St} {G H : Hp} {a b c : TE} {E : XK}
theorem ev_room {s : Addr} {ns : List Int} {f m : Int} (h1 : EvV a σ G H (.ref s)) (h2 : EvD b σ G H (.int f)) (h3 : EvD c σ G H (.int m)) (hs : Scr T.K G s ns) (hl : ns.length ≤ 63) : EvD (tCall (sp__law_room T) [] E (tCons a (tCons b (tCons c tNil)))) σ G H (.int f) :=
  ev_call (ea_obj h1 (ea_dat h2 (ea_dat h3 ea_nil))) fun _ _ _ g k' Q E q => by
    obtain ⟨x, xs, rfl, e1, y, ys, rfl, e2, z, zs, rfl, e3, e4⟩ := k'
    cases e1
    cases e2
    cases e3
    cases e4
    exact ⟨_, s, ns, f, m, g.s, rfl, hs.gr g, hl, q⟩
theorem ev_lenDT {α : Type} {f : α → V} {pl : List (Pl × α)} {d : Addr} (h : EvV a σ G H (.ref d)) (hH : H d = some (.dT (encT f pl))) : EvD (tCB (rLenU K) (tCons a tNil)) σ G H (.int pl.length) := fun G1 H1 g Q q =>
  h G1 H1 g _ fun G2 H2 g2 => .inr (.inl ⟨d, _, rfl, (g.trans g2).hx _ _ hH, by rw [encT_len]; exact q _ G2 H2 g2 rfl⟩)
/-- a copy of an own list -/
theorem el_listV {r : Addr} {xs : List V} {ds : List PyData} (h : EvV a σ G H (.ref r)) (hr : H r = some (.lst xs)) (hd : Dts G ds xs) : EvL (tCB (rListU K) (tCons a tNil)) σ G H ds := fun G1 H1 g Q q =>
  h G1 H1 g _ fun G2 H2 g2 => .inl ⟨r, xs, rfl, .inl (SqL.of ((g.trans g2).hx _ _ hr)), fun l hl => q l xs G2 _ (g2.trans (Gr.newM g2.s hl)) (g2.fresh hl) (ex_none g2.s hl) upd_same (Dts.mono (g.trans g2).g _ hd)⟩
end
local macro_rules | `(tactic| walk_at "call") => `(tactic| first | ((with_reducible apply Tn.ev_room) <;> walk_at "arg") | fail "no")
theorem put_mem {κ α : Type} [DecidableEq κ] {pl : List (κ × α)} {k j : κ} {x : α} (h : j ∈ (put pl k x).map (·.1)) : j = k ∨ j ∈ pl.map (·.1) := by
  rw [put_keys] at h
  split at h
  · exact .inr h
  · rcases List.mem_append.mp h with h | h
    · exact .inr h
    · exact .inl (by simpa using h)
theorem cutL_map {α β : Type} (f : α → β) (xs : List α) (lo hi : Option Int) : cutL (xs.map f) lo hi = (cutL xs lo hi).map f := by
  unfold cutL
  rw [List.length_map, List.map_take, List.map_drop]
theorem cutL_len {α : Type} (xs : List α) (lo hi : Option Int) : (cutL xs lo hi).length ≤ xs.length := by
  unfold cutL
  rw [List.length_take, List.length_drop]
  omega
theorem q_asgC {σ : L2.St} {G H : Hp} {tz : TS} {D : Ends} {sp : Sp} {E : XK} {t : TA} {ds : List FD} {i : Nat} (e : Ex G H) (h : EvA t σ G H ds) (hs : ∀ G1 H1 vs, Gr [] G H G1 H1 → Fds G1 ds vs → sp vs H1 (fun v H2 => tz D (σ.set i (some v)) H2) E) : tSeq (tAsg (tCall sp [] E t) (gName i)) tz D σ H :=
  h G H (Gr.refl e []) _ fun vs G2 H2 g k => by
    rw [List.append_nil]
    exact hs G2 H2 vs g k

/-! Law k03. -/
/-! ### _law_pairs -/
def sp__law_pairs (T : Tx) : Sp := fun vs H Q _ => ∃ (G : Hp) (s : Addr) (cs : List Int), Ex G H ∧ vs = [.ref s] ∧ Scr T.K G s cs ∧ cs.length ≤ 63 ∧ ∀ (ps : List Pl) v G2 H2, ps.length ≤ 200 → Gr [] G H G2 H2 → Dt G2 (.list (ps.map pD)) v → Q v H2
abbrev N__law_pairs : List Str := ["_law_script", "_law_many", "_law_most", "_law_pairs_here", "_law_k", "_law_mix", "_law_turn"]
def t__law_pairs (T : Tx) (E : XK) : TS :=
  (tSeq (tAsg (tOp rModU (tCall (sp__law_cell_at T) [] E (tCons (tVar 0) (tCons (tC (.int 0)) tNil))) (tOp rAddU (tC (.int 1)) (tCall (sp__law_room T) [] E (tCons (tVar 0) (tCons (tC (.int 60)) (tCons (tC (.int 198)) tNil)))))) (gName 1)) (tSeq (tAsg (tOp rAddU (tC (.int 1)) (tOp rModU (tCall (sp__law_cell_at T) [] E (tCons (tVar 0) (tCons (tC (.int 1)) tNil))) (tC (.int 40)))) (gName 2)) (tSeq (tIfS (tTest (tOp (rEqU T.K) (tOp rModU (tCall (sp__law_cell_at T) [] E (tCons (tVar 0) (tCons (tC (.int 2)) tNil))) (tC (.int 4))) (tC (.int 1)))) (tSeq (tAsg (tC (.int 1000)) (gName 2)) tNext) tNext) (tSeq (tAsg (tLst tNil) (gName 3)) (tSeq (tFor (iRng1 (tCons (tVar 1) tNil)) (gName 4) (tSeq (tAsg (tCall (sp__law_mixed T) [] E (tCons (tCall (sp__law_cell_at T) [] E (tCons (tVar 0) (tCons (tOp rAddU (tC (.int 3)) (tOp rModU (tVar 4) (tC (.int 20)))) tNil))) (tCons (tVar 4) tNil))) (gName 5)) (tSeq (tDrop (tBM T.K "list" rAppend (tVar 3) (tCons (tTup (tCons (tOp rModU (tOp rDivU (tVar 5) (tC (.int 7))) (tVar 2)) (tCons (tOp rModU (tOp rDivU (tVar 5) (tC (.int 7001))) (tVar 2)) tNil))) tNil))) tNext))) (tSeq (tIfS (tTest (tOp (rEqU T.K) (tOp rModU (tCall (sp__law_cell_at T) [] E (tCons (tVar 0) (tCons (tC (.int 2)) tNil))) (tC (.int 4))) (tC (.int 2)))) (tSeq (tAsg (tLc (iRng1 (tCons (tVar 1) tNil)) (gName 4) tYes (tTup (tCons (tOp rDivU (tVar 4) (tC (.int 2))) (tCons (tOp rDivU (tOp rAddU (tVar 4) (tC (.int 1))) (tC (.int 2))) tNil))) [4]) (gName 3)) (tSeq (tAsg (tOp rAddU (tVar 3) (tLst (tCons (tTup (tCons (tOp rModU (tCall (sp__law_cell_at T) [] E (tCons (tVar 0) (tCons (tC (.int 3)) tNil))) (tOp rAddU (tVar 1) (tC (.int 1)))) (tCons (tOp rModU (tCall (sp__law_cell_at T) [] E (tCons (tVar 0) (tCons (tC (.int 4)) tNil))) (tOp rAddU (tVar 1) (tC (.int 1)))) tNil))) tNil))) (gName 3)) (tSeq (tAsg (tOp rModU (tCall (sp__law_cell_at T) [] E (tCons (tVar 0) (tCons (tC (.int 5)) tNil))) (tCB (rLenU T.K) (tCons (tVar 3) tNil))) (gName 6)) (tSeq (tAsg (tOp rAddU (tSl (rSlU T.K) (tVar 3) (tPart (tVar 6)) tNoPart) (tSl (rSlU T.K) (tVar 3) tNoPart (tPart (tVar 6)))) (gName 3)) tNext)))) tNext) (tSeq (tRet (tVar 3)) tNext)))))))
theorem pure__law_pairs {T : Tx} {vs : List V} {H : Hp} {Q : VK} {E : XK} (h : sp__law_pairs T vs H Q E) : t__law_pairs T E { nx := fun _ H' => Q .non H', rt := Q } (start N__law_pairs vs) H := by
  obtain ⟨G, s, cs, e, rfl, hs, hl, q⟩ := h
  have hsc : EvV (tVar 0) (start N__law_pairs [.ref s]) G H (.ref s) := ev_var rfl
  refine q_asgI e (n := cell cs 0 % (1 + 60)) (by walk_at "ev") fun G1 H1 g1 => ?_
  generalize hN : cell cs 0 % (1 + 60) = N
  have bN : 0 ≤ N ∧ N ≤ 60 := by omega
  have s1 := hs.gr g1
  refine q_asgI g1.s (n := 1 + cell cs 1 % 40) (by walk_at "ev") fun G2 H2 g2 => ?_
  have s2 := s1.gr g2
  refine q_ifSet (n := if cell cs 2 % 4 = 1 then 1000 else 1 + cell cs 1 % 40) (b := decide (cell cs 2 % 4 = 1)) g2.s (EvT.is (by walk_at "et") (by rfl)) (fun z => by rw [if_pos (of_decide_eq_true z)]; walk_at "ev") (fun z => by rw [if_neg (of_decide_eq_false z)]; rfl) fun G3 H3 g3 => ?_
  generalize hM : (if cell cs 2 % 4 = 1 then (1000 : Int) else 1 + cell cs 1 % 40) = M
  have bM : 0 < M ∧ M ≤ 1000 := by
    rw [← hM]
    split <;> omega
  have s3 := s2.gr g3
  refine q_asgL g3.s (ev_lst (ds := []) ea_nil (by decide)) fun p xs G4 H4 g4 f4 n4 e4 k4 => ?_
  cases k4
  have s4 := s3.gr g4
  have g14 := (g1.trans g2).trans (g3.trans g4)
  have fp : H p = none := ((g1.trans g2).trans g3).fresh f4
  refine q_for [p] (fun i σ' G' H' => ∃ v4 v5 ps xs, σ' = [some (.ref s), some (.int N), some (.int M), some (.ref p), v4, v5, none] ∧ H' p = some (.lst xs) ∧ Dts G' ((ps : List Pl).map pD) xs ∧ ps.length = i) g4.s (ei_rng1 (hi := N) (ea_dat (by walk_at "ev") ea_nil) (by omega)) (fun G3 H3 g3 => ⟨none, none, [], [], rfl, g3.hx _ _ e4, rfl, rfl⟩) ?_ ?_
  · rintro i d σ' G5 H5 g5 hi ⟨v4, v5, ps, xs, rfl, p5, k5, l5⟩ v G6 H6 g6 dv
    have li : i < (N - 0).toNat := by
      have := (List.getElem?_eq_some_iff.mp hi).1
      rw [rng_len] at this
      exact this
    rw [rng_get li] at hi
    cases hi
    cases dv
    rw [show (0 : Int) + (i : Nat) = i by omega]
    have s6 := (s4.gr g5).gr g6
    refine q_asgI g6.s (n := mixed (cell cs (3 + (i : Int) % 20)) i) (by walk_at "ev") fun G7 H7 g7 => ?_
    generalize mixed (cell cs (3 + (i : Int) % 20)) i = mx
    have g67 := g6.trans g7
    have n7 : G7 p = none := (g5.trans g67.to).n p _ e4 rfl n4
    have p7 := g67.hx _ _ p5
    refine q_append (x := pD (mx / 7 % M, mx / 7001 % M)) g7.s (ev_var rfl) (ev_tup (ds := [.int (mx / 7 % M), .int (mx / 7001 % M)]) (by walk_at "ea") (by walk_at "sd")) n7 p7 (by rw [k5.len, List.length_map]; omega) fun v G8 H8 g8 dv h8 => ?_
    refine q_next ⟨G8, g67.to.trans g8, _, _, ps ++ [(mx / 7 % M, mx / 7001 % M)], xs ++ [v], rfl, h8, ?_, by simp [l5]⟩
    rw [List.map_append]
    exact (Dts.mono (g67.g.trans g8.g) _ k5).snoc dv
  · rintro σ' G5 H5 g5 ⟨v4, v5, ps, xs, rfl, p5, k5, l5⟩
    have lp : ps.length ≤ 60 := by
      rw [l5, rng_len]
      omega
    have n5 : G5 p = none := g5.n p _ e4 rfl n4
    have gA : Gr [] G H G5 H5 := g14.own g5 (by simpa using fp)
    have gB := gA.fix fp p5 n5
    have dpr : Dt (upd G5 p (.lst xs)) (.list (ps.map pD)) (.ref p) := ⟨p, xs, rfl, upd_same, Dts.mono (Ex.new n5) _ k5⟩
    have sB := hs.gr gB
    clear g1 g2 g3 g4 g14 g5 gA s1 s2 s3 s4 e4 hsc
    have hsc : EvV (tVar 0) [some (.ref s), some (.int N), some (.int M), some (.ref p), v4, v5, none] (upd G5 p (.lst xs)) H5 (.ref s) := ev_var rfl
    refine q_if (b := decide (cell cs 2 % 4 = 2)) gB.s (EvT.is (by walk_at "et") (by rfl)) (fun _ G6 H6 g6 => ?_) fun _ G6 H6 g6 => ?_
    · refine q_asg (d := .list (((List.range N.toNat).map fun k => (((k : Nat) : Int) / 2, (((k : Nat) : Int) + 1) / 2)).map pD)) g6.s (EvD.is (EvL.dat (el_lc (ds := rng 0 N) (fun k _ => some (pD (((k : Nat) : Int) / 2, (((k : Nat) : Int) + 1) / 2))) (by rw [rng_len]; omega) (ei_rng1 (ea_dat (EvV.dat (ev_var rfl) dt_int) ea_nil) (by omega)) fun k d v G7 H7 g7 hk dv kq kk => ?_)) ?_) fun v3 G7 H7 g7 d7 => ?_
      · have lk : k < (N - 0).toNat := by
          have := (List.getElem?_eq_some_iff.mp hk).1
          rw [rng_len] at this
          exact this
        rw [rng_get lk] at hk
        cases hk
        cases dv
        rw [show (0 : Int) + (k : Nat) = k by omega] at *
        exact kk _ rfl true et_yes (fun _ => ⟨_, rfl, ev_tup (ds := [.int (((k : Nat) : Int) / 2), .int ((((k : Nat) : Int) + 1) / 2)]) (ea_dat (ev_bin (d1 := .int k) (d2 := .int 2) (EvV.dat (ev_var rfl) dt_int) (EvV.dat ev_c dt_int) (b_div (by decide))) (ea_dat (ev_bin (d1 := .int (k + 1)) (d2 := .int 2) (ev_bin (EvV.dat (ev_var rfl) dt_int) (EvV.dat ev_c dt_int) b_addI) (EvV.dat ev_c dt_int) (b_div (by decide))) ea_nil)) (by walk_at "sd")⟩) (fun z => nomatch z)
      · have := zipIdx_range (α := Nat) N.toNat (fun i => i) (fun k => pD (((k : Nat) : Int) / 2, (((k : Nat) : Int) + 1) / 2))
        rw [show ((N.toNat : Nat) : Int) = N by omega] at this
        rw [this, List.map_map]
        rfl
      have s7 := (sB.gr g6).gr g7
      have hsc7 : EvV (tVar 0) ([some (.ref s), some (.int N), some (.int M), some (.ref p), v4, v5, none].set 3 (some v3)) G7 H7 (.ref s) := ev_var rfl
      generalize hps : (List.range N.toNat).map (fun k => (((k : Nat) : Int) / 2, (((k : Nat) : Int) + 1) / 2)) = ps2 at d7
      have l2 : ps2.length ≤ 60 := by
        rw [← hps]
        simp
        omega
      refine q_asg (d := .list ((ps2 ++ [(cell cs 3 % (N + 1), cell cs 4 % (N + 1))]).map pD)) g7.s (EvD.is (ev_bin (d1 := .list (ps2.map pD)) (d2 := .list ([(cell cs 3 % (N + 1), cell cs 4 % (N + 1))].map pD)) (EvV.dat (ev_var rfl) d7) (ev_lstD (ds := [pD (cell cs 3 % (N + 1), cell cs 4 % (N + 1))]) (ea_dat (ev_tup (ds := [.int (cell cs 3 % (N + 1)), .int (cell cs 4 % (N + 1))]) (by walk_at "ea") (by walk_at "sd")) ea_nil) (by walk_at "sd")) (b_addL (by simp; omega))) (by rw [List.map_append])) fun v8 G8 H8 g8 d8 => ?_
      generalize hps3 : ps2 ++ [(cell cs 3 % (N + 1), cell cs 4 % (N + 1))] = ps3 at d8
      have l3 : ps3.length ≤ 61 ∧ 0 < ps3.length := by
        rw [← hps3]
        simp
        omega
      have s8 := s7.gr g8
      refine q_asgI g8.s (n := cell cs 5 % ps3.length) (ev_bin (ev_cell (ev_var rfl) (EvV.dat ev_c dt_int) s8 (by decide)) (EvD.is (ev_lenL (EvV.dat (ev_var rfl) d8)) (by rw [List.length_map])) (b_mod (by omega))) fun G9 H9 g9 => ?_
      generalize cell cs 5 % ps3.length = tn
      have d9 := Dt.gr g9 d8
      have c1 := cutL_len ps3 (some tn) none
      have c2 := cutL_len ps3 none (some tn)
      refine q_asg (d := .list ((cutL ps3 (some tn) none ++ cutL ps3 none (some tn)).map pD)) g9.s (EvD.is (ev_bin (EvL.dat (el_sl (EvV.dat (ev_var rfl) d9) (eo_some (EvV.dat (ev_var rfl) dt_int)) eo_none)) (EvL.dat (el_sl (EvV.dat (ev_var rfl) d9) eo_none (eo_some (EvV.dat (ev_var rfl) dt_int)))) (b_addL (by rw [cutL_map, cutL_map, List.length_map, List.length_map]; omega))) (by rw [List.map_append, cutL_map, cutL_map])) fun v10 G10 H10 g10 d10 => ?_
      refine q_next (q_retV g10.s (ev_var rfl) fun G11 H11 g11 => q _ _ G11 H11 ?_ (((gB.trans g6).trans (g7.trans g8)).trans ((g9.trans g10).trans g11)) (Dt.gr g11 d10))
      rw [List.length_append]
      omega
    · refine q_next (q_retV g6.s (ev_var rfl) fun G7 H7 g7 => q ps _ G7 H7 (by omega) ((gB.trans g6).trans g7) (Dt.gr g7 (Dt.gr g6 dpr)))
/-! ### _law_yes, _law_no -/
def sp__law_yes (T : Tx) : Sp := fun vs H Q _ => ∃ (G : Hp) (x y : V) (ps : List Pl) (ns : List Int), Ex G H ∧ vs = [x, y] ∧ Dt G (.list (ns.map PyData.int)) x ∧ Dt G (.list (ps.map pD)) y ∧ SeatYes ps ns ∧ ps.length ≤ 1000 ∧ RetD G H (.bool true) Q
abbrev N__law_yes : List Str := ["_law_rows", "_law_pairs_here", "_law_places", "_law_k"]
def t__law_yes (T : Tx) (E : XK) : TS :=
  (tSeq (tIfS (tTest (tOp (rNeU T.K) (tCB (rLenU T.K) (tCons (tVar 0) tNil)) (tCB (rLenU T.K) (tCons (tVar 1) tNil)))) (tSeq (tRet (tC (.bl false))) tNext) tNext) (tSeq (tAsg tDNewT (gName 2)) (tSeq (tFor (iRng1 (tCons (tCB (rLenU T.K) (tCons (tVar 0) tNil)) tNil)) (gName 3) (tSeq (tIfS (tOr (tNot (tB (tCB (rIsi T.K) (tCons (tOp (rIx T.K) (tVar 0) (tVar 3)) (tCons (tC (.ty "int")) tNil))))) (tOr (tB (tCB (rIsi T.K) (tCons (tOp (rIx T.K) (tVar 0) (tVar 3)) (tCons (tC (.ty "bool")) tNil)))) (tTest (tOp (rInU T.K true) (tOp (rIx T.K) (tVar 0) (tVar 3)) (tTup (tCons (tC (.int 0)) (tCons (tC (.int 1)) tNil))))))) (tSeq (tRet (tC (.bl false))) tNext) tNext) (tSeq (sDPut (tVar 2) (tTup (tCons (tOp (rIx T.K) (tVar 0) (tVar 3)) (tCons (tOp (rIx T.K) (tOp (rIx T.K) (tVar 1) (tVar 3)) (tOp (rIx T.K) (tVar 0) (tVar 3))) tNil))) (tVar 3)) tNext))) (tSeq (tRet (tOp (rEqU T.K) (tCB (rLenU T.K) (tCons (tVar 2) tNil)) (tCB (rLenU T.K) (tCons (tVar 1) tNil)))) tNext))))
theorem pure__law_yes {T : Tx} {vs : List V} {H : Hp} {Q : VK} {E : XK} (h : sp__law_yes T vs H Q E) : t__law_yes T E { nx := fun _ H' => Q .non H', rt := Q } (start N__law_yes vs) H := by
  obtain ⟨G, x, y, ps, ns, e, rfl, hx, hy, ⟨a1, a2, a3⟩, hl, q⟩ := h
  refine q_when (b := false) e (EvT.is (et_test (ev_bin (ev_lenL (EvV.dat (ev_var rfl) hx)) (ev_lenL (EvV.dat (ev_var rfl) hy)) (b_ne rfl rfl))) (by rw [eqv_i, List.length_map, List.length_map, a1]; simp)) (fun z => nomatch z) fun _ G1 H1 g1 => ?_
  refine q_dnew g1.s fun d H2 g2 fd nd hd => ?_
  have g12 := g1.trans g2
  have fd0 := g1.fresh fd
  refine q_for [d] (fun i σ' G' H' => ∃ v3 pl, σ' = [some x, some y, some (.ref d), v3] ∧ H' d = some (.dT (encT V.int pl)) ∧ pl.length = i ∧ ∀ k ∈ pl.map (·.1), ∃ j, j < i ∧ k = plc ps ns j) g2.s (ei_rng1 (hi := ns.length) (ea_dat (EvD.is (ev_lenL (EvV.dat (ev_var rfl) (Dt.gr g12 hx))) (by rw [List.length_map])) ea_nil) (by omega)) (fun G3 H3 g3 => ⟨none, [], rfl, g3.hx _ _ hd, rfl, fun k h => absurd h List.not_mem_nil⟩) ?_ ?_
  · rintro i dd σ' G3 H3 g3 hi ⟨v3, pl, rfl, h3, l3, m3⟩ v G4 H4 g4 dv
    have li : i < ns.length := by
      have := (List.getElem?_eq_some_iff.mp hi).1
      rw [rng_len] at this
      omega
    rw [rng_get (by omega)] at hi
    cases hi
    cases dv
    rw [show (0 : Int) + (i : Nat) = i by omega]
    have g34 := g3.trans g4.to
    have x4 := Dt.gr g34 (Dt.gr g12 hx)
    have y4 := Dt.gr g34 (Dt.gr g12 hy)
    have hr : ns[i]? = some (ns.getD i 0) := by
      rw [List.getD_eq_getElem?_getD, List.getElem?_eq_getElem (by omega)]
      rfl
    have r01 := a2 _ (List.mem_of_getElem? hr)
    have ar : atI (ns.map PyData.int) (i : Int) = some (.int (ns.getD i 0)) := atI_nat (by rw [List.getElem?_map, hr]; rfl)
    have ap : atI (ps.map pD) (i : Int) = some (pD (ps.getD i (0, 0))) := atI_nat (by
      rw [List.getElem?_map, List.getD_eq_getElem?_getD, List.getElem?_eq_getElem (by omega)]
      rfl)
    have er : ∀ {G H : Hp} {σ : L2.St} {ta tb : TE}, EvD ta σ G H (.list (ns.map PyData.int)) → EvD tb σ G H (.int i) → EvD (tOp (rIx T.K) ta tb) σ G H (.int (ns.getD i 0)) := fun h k => ev_bin h k (b_ixL ar)
    refine q_when (b := false) g4.s (EvT.is (et_or (b := false) (c := false) (EvT.is (et_not (et_B (ev_isi (er (EvV.dat (ev_var rfl) x4) (EvV.dat (ev_var rfl) dt_int)) k_ii))) rfl) fun _ => et_or (b := false) (c := false) (et_B (ev_isi (er (EvV.dat (ev_var rfl) x4) (EvV.dat (ev_var rfl) dt_int)) k_ib)) fun _ => EvT.is (et_test (ev_bin (er (EvV.dat (ev_var rfl) x4) (EvV.dat (ev_var rfl) dt_int)) (ev_tup (ds := [.int 0, .int 1]) (by walk_at "ea") (by walk_at "sd")) (b_inT rfl rfl))) (by rcases r01 with z | z <;> rw [z] <;> rfl)) rfl) (fun z => nomatch z) fun _ G5 H5 g5 => ?_
    have d5 := (g4.trans g5).hx _ _ h3
    have n5 : G5 d = none := (g34.trans g5.to).n d _ hd rfl nd
    refine q_dput (f := V.int) (pl := pl) (k := plc ps ns i) (x := (i : Int)) n5 (fun Q k => EvD.int (i := (i : Int)) (EvV.dat (ev_var rfl) dt_int) G5 H5 (Gr.refl g5.s []) Q fun G8 H8 g8 => k G8 H8 g8.to (g8.hx _ _ d5)) (fun G8 H8 g8 => ev_var rfl)
      (fun G8 H8 g8 => ev_tup (ds := [.int (ns.getD i 0), .int (plc ps ns i).2]) (ea_dat (er (EvV.dat (ev_var rfl) (Dt.gr g8 (Dt.gr g5 x4))) (EvV.dat (ev_var rfl) dt_int)) (ea_dat (ev_bin (ev_bin (EvV.dat (ev_var rfl) (Dt.gr g8 (Dt.gr g5 y4))) (EvV.dat (ev_var rfl) dt_int) (b_ixL ap)) (er (EvV.dat (ev_var rfl) (Dt.gr g8 (Dt.gr g5 x4))) (EvV.dat (ev_var rfl) dt_int)) (b_ixT (ds := [.int (ps.getD i (0, 0)).1, .int (ps.getD i (0, 0)).2]) ?_)) ea_nil)) (by walk_at "sd")) d5 rfl (by omega) fun G6 H6 g6 h6 => ?_
    · unfold plc
      rcases r01 with z | z
      · rw [z]
        rfl
      · rw [z]
        rfl
    · have no : look pl (plc ps ns i) = none := look_none_iff.mpr fun z => by
        obtain ⟨j, hj, ej⟩ := m3 _ z
        have := a3 i j (by omega) (by omega) ej
        omega
      refine q_next ⟨G6, (g4.trans g5).to.trans g6, _, _, rfl, h6, by rw [put_len_new no]; omega, fun k hk => ?_⟩
      rcases put_mem hk with rfl | hk
      · exact ⟨i, by omega, rfl⟩
      · obtain ⟨j, hj, ej⟩ := m3 k hk
        exact ⟨j, by omega, ej⟩
  · rintro σ' G3 H3 g3 ⟨v3, pl, rfl, h3, l3, m3⟩
    rw [rng_len] at l3
    refine q_ret g3.s (EvD.is (ev_bin (ev_lenDT (ev_var rfl) h3) (ev_lenL (EvV.dat (ev_var rfl) (Dt.gr g3 (Dt.gr g12 hy)))) (b_eq rfl rfl)) ?_) fun v G5 H5 g5 e5 => q v G5 H5 (g12.own (g3.trans g5.to) (by simpa using fd0)) e5
    rw [eqv_i, List.length_map, l3, a1]
    simp
def sp__law_no (T : Tx) : Sp := fun vs H Q _ => ∃ (G : Hp) (x y : V) (ps : List Pl) (ns : List Int), Ex G H ∧ vs = [x, y] ∧ Dt G (.list (ns.map PyData.int)) x ∧ Dt G (.list (ps.map pD)) y ∧ SeatNo ps ns ∧ ps.length ≤ 1000 ∧ RetD G H (.bool true) Q
abbrev N__law_no : List Str := ["_law_numbers", "_law_pairs_here", "_law_places", "_law_last", "_law_number"]
def t__law_no (T : Tx) (E : XK) : TS :=
  (tSeq (tAsg tDNewT (gName 2)) (tSeq (tAsg (tUn rNegU (tC (.int 1))) (gName 3)) (tSeq (tFor (iList T.K (tVar 0)) (gName 4) (tSeq (tIfS (tOr (tNot (tB (tCB (rIsi T.K) (tCons (tVar 4) (tCons (tC (.ty "int")) tNil))))) (tOr (tB (tCB (rIsi T.K) (tCons (tVar 4) (tCons (tC (.ty "bool")) tNil)))) (tOr (tTest (tOp (rLeU) (tVar 4) (tVar 3))) (tTest (tOp (rGeU) (tVar 4) (tCB (rLenU T.K) (tCons (tVar 1) tNil))))))) (tSeq (tRet (tC (.bl false))) tNext) tNext) (tSeq (tAsg (tVar 4) (gName 3)) (tSeq (sDPut (tVar 2) (tTup (tCons (tC (.int 0)) (tCons (tOp (rIx T.K) (tOp (rIx T.K) (tVar 1) (tVar 4)) (tC (.int 0))) tNil))) (tVar 4)) (tSeq (sDPut (tVar 2) (tTup (tCons (tC (.int 1)) (tCons (tOp (rIx T.K) (tOp (rIx T.K) (tVar 1) (tVar 4)) (tC (.int 1))) tNil))) (tVar 4)) tNext))))) (tSeq (tRet (tOp (rLtU) (tCB (rLenU T.K) (tCons (tVar 2) tNil)) (tCB (rLenU T.K) (tCons (tVar 0) tNil)))) tNext))))
theorem pure__law_no {T : Tx} {vs : List V} {H : Hp} {Q : VK} {E : XK} (h : sp__law_no T vs H Q E) : t__law_no T E { nx := fun _ H' => Q .non H', rt := Q } (start N__law_no vs) H := by
  obtain ⟨G, x, y, ps, ns, e, rfl, hx, hy, N, hl, q⟩ := h
  have nsl := seatNo_len N
  obtain ⟨n1, n2, F, f1, f2⟩ := N
  refine q_dnew e fun d H1 g1 fd nd hd => ?_
  refine q_asgI g1.s (n := -1) (ev_un (EvV.dat ev_c dt_int) u_neg) fun G2 H2 g2 => ?_
  have g12 := g1.trans g2
  have n2' : G2 d = none := g2.n d _ hd rfl nd
  have hd2 := g2.hx _ _ hd
  refine q_for [d] (fun i σ' G' H' => ∃ v4 pl last, σ' = [some x, some y, some (.ref d), some (.int last), v4] ∧ H' d = some (.dT (encT V.int pl)) ∧ (pl.map (·.1)).Nodup ∧ (∀ k ∈ pl.map (·.1), k ∈ F) ∧ ∀ n, ns[i]? = some n → last < n) g2.s (ei_list (EvV.dat (ev_var rfl) (Dt.gr g12 hx))) (fun G3 H3 g3 => ⟨none, [], -1, rfl, g3.hx _ _ hd2, List.nodup_nil, (fun k h => absurd h List.not_mem_nil), fun n hn => by
    have := n2 n (List.mem_of_getElem? hn)
    omega⟩) ?_ ?_
  · rintro i dd σ' G3 H3 g3 hi ⟨v4, pl, last, rfl, h3, nd3, m3, la⟩ v G4 H4 g4 dv
    obtain ⟨n, hn, rfl⟩ := get_ints hi
    cases dv
    have g34 := g3.trans g4.to
    have y4 := Dt.gr g34 (Dt.gr g12 hy)
    obtain ⟨b1, b2⟩ := n2 n (List.mem_of_getElem? hn)
    have lt := la n hn
    obtain ⟨w1, w2⟩ := f2 n (List.mem_of_getElem? hn)
    have lpl : pl.length ≤ 1000 := by
      have := nodup_len nd3 m3
      simp at this
      omega
    have ap : atI (ps.map pD) n = some (pD (pr ps n)) := atI_pD b1 b2
    refine q_when (b := false) g4.s (EvT.is (et_or (b := false) (c := false) (EvT.is (et_not (et_B (ev_isi (EvV.dat (ev_var rfl) dt_int) k_ii))) rfl) fun _ => et_or (b := false) (c := false) (et_B (ev_isi (EvV.dat (ev_var rfl) dt_int) k_ib)) fun _ => et_or (b := false) (c := false) (EvT.is (et_test (ev_bin (EvV.dat (ev_var rfl) dt_int) (EvV.dat (ev_var rfl) dt_int) b_le)) (by simp; omega)) fun _ => EvT.is (et_test (ev_bin (EvV.dat (ev_var rfl) dt_int) (ev_lenL (EvV.dat (ev_var rfl) y4)) b_ge)) (by simp; omega)) rfl) (fun z => nomatch z) fun _ G5 H5 g5 => ?_
    refine q_asgI g5.s (n := n) (EvV.dat (ev_var rfl) dt_int) fun G6 H6 g6 => ?_
    have g46 := (g4.trans g5).trans g6
    have d6 := g46.hx _ _ h3
    have n6 : G6 d = none := (g3.trans g46.to).n d _ hd2 rfl n2'
    have y6 := Dt.gr g6 (Dt.gr g5 y4)
    refine q_dput (f := V.int) (pl := pl) (k := (0, (pr ps n).1)) (x := n) n6 (fun Q k => EvD.int (i := n) (EvV.dat (ev_var rfl) dt_int) G6 H6 (Gr.refl g6.s []) Q fun G8 H8 g8 => k G8 H8 g8.to (g8.hx _ _ d6)) (fun G8 H8 g8 => ev_var rfl)
      (fun G8 H8 g8 => ev_tup (ds := [.int 0, .int (pr ps n).1]) (ea_dat (EvV.dat ev_c dt_int) (ea_dat (ev_bin (ev_bin (EvV.dat (ev_var rfl) (Dt.gr g8 y6)) (EvV.dat (ev_var rfl) dt_int) (b_ixL ap)) (EvV.dat ev_c dt_int) (b_ixT (ds := [.int (pr ps n).1, .int (pr ps n).2]) (i := 0) rfl)) ea_nil)) (by walk_at "sd")) d6 rfl (by omega) fun G7 H7 g7 h7 => ?_
    have n7 : G7 d = none := g7.n d _ d6 rfl n6
    have y7 := Dt.gr g7 y6
    have lpl2 := put_len_le pl (0, (pr ps n).1) n
    refine q_dput (f := V.int) (pl := put pl (0, (pr ps n).1) n) (k := (1, (pr ps n).2)) (x := n) n7 (fun Q k => EvD.int (i := n) (EvV.dat (ev_var rfl) dt_int) G7 H7 (Gr.refl g7.s []) Q fun G8 H8 g8 => k G8 H8 g8.to (g8.hx _ _ h7)) (fun G8 H8 g8 => ev_var rfl)
      (fun G8 H8 g8 => ev_tup (ds := [.int 1, .int (pr ps n).2]) (ea_dat (EvV.dat ev_c dt_int) (ea_dat (ev_bin (ev_bin (EvV.dat (ev_var rfl) (Dt.gr g8 y7)) (EvV.dat (ev_var rfl) dt_int) (b_ixL ap)) (EvV.dat ev_c dt_int) (b_ixT (ds := [.int (pr ps n).1, .int (pr ps n).2]) (i := 1) rfl)) ea_nil)) (by walk_at "sd")) h7 rfl (by omega) fun G8 H8 g8 h8 => ?_
    refine q_next ⟨G8, (g46.to.trans g7).trans g8, _, _, n, rfl, h8, put_nodup (put_nodup nd3 _ _) _ _, fun k hk => ?_, fun m hm => ?_⟩
    · rcases put_mem hk with rfl | hk
      · exact w2
      rcases put_mem hk with rfl | hk
      · exact w1
      · exact m3 k hk
    · have a := List.getElem?_eq_some_iff.mp hn
      have b := List.getElem?_eq_some_iff.mp hm
      have := List.pairwise_iff_getElem.mp n1 i (i + 1) a.1 b.1 (by omega)
      rw [a.2, b.2] at this
      exact this
  · rintro σ' G3 H3 g3 ⟨v4, pl, last, rfl, h3, nd3, m3, la⟩
    have := nodup_len nd3 m3
    rw [List.length_map] at this
    refine q_ret g3.s (EvD.is (ev_bin (ev_lenDT (ev_var rfl) h3) (ev_lenL (EvV.dat (ev_var rfl) (Dt.gr g3 (Dt.gr g12 hx)))) b_lt) ?_) fun v G5 H5 g5 e5 => q v G5 H5 (g12.own (g3.trans g5.to) (by simpa using fd)) e5
    rw [List.length_map, decide_eq_true (by omega)]
section
variable {T : Tx} {σ : L2.St} {G H : Hp} {a b c : TE} {E : XK}
theorem ev_yes {ps : List Pl} {ns : List Int} (h1 : EvD a σ G H (.list (ns.map PyData.int))) (h2 : EvD b σ G H (.list (ps.map pD))) (hs : SeatYes ps ns) (hl : ps.length ≤ 1000) : EvD (tCall (sp__law_yes T) [] E (tCons a (tCons b tNil))) σ G H (.bool true) :=
  ev_call (ea_dat h1 (ea_dat h2 ea_nil)) fun _ _ _ g k' Q E q => by
    obtain ⟨x, xs, rfl, e1, y, ys, rfl, e2, e4⟩ := k'
    cases e4
    exact ⟨_, _, _, ps, ns, g.s, rfl, e1, e2, hs, hl, q⟩
theorem ev_no {ps : List Pl} {ns : List Int} (h1 : EvD a σ G H (.list (ns.map PyData.int))) (h2 : EvD b σ G H (.list (ps.map pD))) (hs : SeatNo ps ns) (hl : ps.length ≤ 1000) : EvD (tCall (sp__law_no T) [] E (tCons a (tCons b tNil))) σ G H (.bool true) :=
  ev_call (ea_dat h1 (ea_dat h2 ea_nil)) fun _ _ _ g k' Q E q => by
    obtain ⟨x, xs, rfl, e1, y, ys, rfl, e2, e4⟩ := k'
    cases e4
    exact ⟨_, _, _, ps, ns, g.s, rfl, e1, e2, hs, hl, q⟩
end
/-! ### _law_right -/
def sp__law_right (T : Tx) : Sp := fun vs H Q _ => ∃ (G : Hp) (x y : V) (ps : List Pl) (w : Str) (ns : List Int), Ex G H ∧ vs = [x, y] ∧ Dt G (foundD w ns) x ∧ Dt G (.list (ps.map pD)) y ∧ SeatOk ps w ns ∧ ps.length ≤ 1000 ∧ RetD G H (.bool true) Q
abbrev N__law_right : List Str := ["_law_found", "_law_pairs_here"]
def t__law_right (T : Tx) (E : XK) : TS :=
  (tSeq (tIfS (tOr (tNot (tB (tCB (rIsi T.K) (tCons (tVar 0) (tCons (tC (.ty "tuple")) tNil))))) (tOr (tTest (tOp (rNeU T.K) (tCB (rLenU T.K) (tCons (tVar 0) tNil)) (tC (.int 2)))) (tNot (tB (tCB (rIsi T.K) (tCons (tOp (rIx T.K) (tVar 0) (tC (.int 1))) (tCons (tC (.ty "list")) tNil))))))) (tSeq (tRet (tC (.bl false))) tNext) tNext) (tSeq (tIfS (tTest (tOp (rEqU T.K) (tOp (rIx T.K) (tVar 0) (tC (.int 0))) (tC (.str "yes")))) (tSeq (tRet (tCall (sp__law_yes T) [] E (tCons (tOp (rIx T.K) (tVar 0) (tC (.int 1))) (tCons (tVar 1) tNil)))) tNext) tNext) (tSeq (tRet (tAndV (tOp (rEqU T.K) (tOp (rIx T.K) (tVar 0) (tC (.int 0))) (tC (.str "no"))) (tCall (sp__law_no T) [] E (tCons (tOp (rIx T.K) (tVar 0) (tC (.int 1))) (tCons (tVar 1) tNil))))) tNext)))
theorem pure__law_right {T : Tx} {vs : List V} {H : Hp} {Q : VK} {E : XK} (h : sp__law_right T vs H Q E) : t__law_right T E { nx := fun _ H' => Q .non H', rt := Q } (start N__law_right vs) H := by
  obtain ⟨G, x, y, ps, w, ns, e, rfl, hx, hy, ok, hl, q⟩ := h
  have i0 : ∀ {G H : Hp} {σ : L2.St} {t : TE}, EvD t σ G H (foundD w ns) → EvD (tOp (rIx T.K) t (tC (.int 0))) σ G H (.str w) := fun h => ev_bin h (EvV.dat ev_c dt_int) (b_ixT (ds := [.str w, .list (ns.map PyData.int)]) (i := 0) rfl)
  have i1 : ∀ {G H : Hp} {σ : L2.St} {t : TE}, EvD t σ G H (foundD w ns) → EvD (tOp (rIx T.K) t (tC (.int 1))) σ G H (.list (ns.map PyData.int)) := fun h => ev_bin h (EvV.dat ev_c dt_int) (b_ixT (ds := [.str w, .list (ns.map PyData.int)]) (i := 1) rfl)
  refine q_when (b := false) e (EvT.is (et_or (et_not (et_B (ev_isi (EvV.dat (ev_var rfl) hx) k_tt))) fun _ => et_or (et_test (ev_bin (ev_lenT (EvV.dat (ev_var rfl) hx)) (EvV.dat ev_c dt_int) (b_ne rfl rfl))) fun _ => et_not (et_B (ev_isi (i1 (EvV.dat (ev_var rfl) hx)) k_ll))) rfl) (fun z => nomatch z) fun _ G1 H1 g1 => ?_
  have x1 := Dt.gr g1 hx
  have y1 := Dt.gr g1 hy
  rcases ok with ⟨rfl, Y⟩ | ⟨rfl, N⟩
  · refine q_when (b := true) g1.s (EvT.is (et_test (ev_bin (i0 (EvV.dat (ev_var rfl) x1)) (EvV.dat ev_c dt_str) (b_eq rfl rfl))) (by rw [eqv_s]; rfl)) (fun _ G2 H2 g2 => ?_) (fun z => nomatch z)
    exact q_ret g2.s (ev_yes (i1 (EvV.dat (ev_var rfl) (Dt.gr g2 x1))) (EvV.dat (ev_var rfl) (Dt.gr g2 y1)) Y hl) fun v G5 H5 g5 e5 => q v G5 H5 ((g1.trans g2).trans g5) e5
  · refine q_when (b := false) g1.s (EvT.is (et_test (ev_bin (i0 (EvV.dat (ev_var rfl) x1)) (EvV.dat ev_c dt_str) (b_eq rfl rfl))) (by rw [eqv_s]; rfl)) (fun z => nomatch z) fun _ G2 H2 g2 => ?_
    exact q_ret g2.s (EvD.is (ev_andV (b := true) (c := true) (EvD.is (ev_bin (i0 (EvV.dat (ev_var rfl) (Dt.gr g2 x1))) (EvV.dat ev_c dt_str) (b_eq rfl rfl)) (by rw [eqv_s]; rfl)) fun _ => ev_no (i1 (EvV.dat (ev_var rfl) (Dt.gr g2 x1))) (EvV.dat (ev_var rfl) (Dt.gr g2 y1)) N hl) rfl) fun v G5 H5 g5 e5 => q v G5 H5 ((g1.trans g2).trans g5) e5
/-! ### law -/
section
variable {T : Tx} {σ : L2.St} {G H : Hp} {a b c : TE} {E E' : XK} {tz : TS} {D : Ends}
theorem ev_rs {ps : List Pl} (ha : EvD a σ G H (.list (ps.map pD))) (hb : EvD b σ G H (.list (ps.map pD))) (hl : ps.length ≤ 1000) : EvD (tCall (sp__law_right T) [] E (tCons (tCall (sp_seated T) [] E' (tCons a tNil)) (tCons b tNil))) σ G H (.bool true) := fun G1 H1 g Q q =>
  ha G1 H1 g _ fun v G2 H2 g2 dv => by
    obtain ⟨p, xs, rfl, ep, kx⟩ := dv
    refine ⟨G2, p, xs, ps, g2.s, rfl, g2.s _ _ ep, kx, by omega, fun w ns t r G3 H3 ok g3 f3 n3 e3 t3 => ?_⟩
    have gx := g3.fix f3 e3 n3
    have nt : t ≠ r := fun z => by rw [z, n3] at t3; cases t3
    refine hb _ H3 ((g.trans g2).trans gx) _ fun y G4 H4 g4 dy => ⟨G4, .ref t, y, ps, w, ns, g4.s, rfl, Dt.gr g4 (foundDt (by rw [upd_ne nt]; exact t3) upd_same), dy, ok, hl, fun v G5 H5 g5 e5 => q v G5 H5 (g2.trans (gx.trans (g4.trans g5))) e5⟩
theorem ev_right {ps : List Pl} {w : Str} {ns : List Int} (h1 : EvD a σ G H (foundD w ns)) (h2 : EvD b σ G H (.list (ps.map pD))) (ok : SeatOk ps w ns) (hl : ps.length ≤ 1000) : EvD (tCall (sp__law_right T) [] E (tCons a (tCons b tNil))) σ G H (.bool true) :=
  ev_call (ea_dat h1 (ea_dat h2 ea_nil)) fun _ _ _ g k' Q E q => by
    obtain ⟨x, xs, rfl, e1, y, ys, rfl, e2, e4⟩ := k'
    cases e4
    exact ⟨_, _, _, ps, w, ns, g.s, rfl, e1, e2, ok, hl, q⟩
end
theorem eqv_ints : ∀ ns : List Int, PyData.eqv (.list (ns.map PyData.int)) (.list (ns.map PyData.int)) = true := fun ns => by
  show PyData.eqvAll (ns.map PyData.int) (ns.map PyData.int) = true
  induction ns with
  | nil => rfl
  | cons k r ih =>
    show (PyData.eqv (.int k) (.int k) && PyData.eqvAll (r.map PyData.int) (r.map PyData.int)) = true
    rw [ih, eqv_i]
    simp
theorem okD_ints (ns : List Int) : okD (.list (ns.map PyData.int)) = true := (okn_list (n := 0) fun d hd => by
  obtain ⟨k, _, rfl⟩ := List.mem_map.mp hd
  exact okn_int).d (by decide)
def sp_law1 (T : Tx) : Sp := spL T.K
abbrev N_law : List Str := ["_law_script", "_law_pairs_here", "_law_handed", "_law_found", "_law_kept", "_law_mix"]
def t_law (T : Tx) (E : XK) : TS :=
  (tSeq (tAsg (tCall (sp__law_pairs T) [] E (tCons (tVar 0) tNil)) (gName 1)) (tSeq (tAsg (tCB (rListU T.K) (tCons (tVar 1) tNil)) (gName 2)) (tSeq (tAsg (tCall (sp_seated T) [] E (tCons (tVar 2) tNil)) (gName 3)) (tSeq (tAsg (tCB (rListU T.K) (tCons (tOp (rIx T.K) (tVar 3) (tC (.int 1))) tNil)) (gName 4)) (tSeq (tIfS (tOr (tTest (tOp (rNeU T.K) (tVar 2) (tVar 1))) (tNot (tB (tCall (sp__law_right T) [] E (tCons (tVar 3) (tCons (tVar 1) tNil)))))) (tSeq (tRet (tC (.bl false))) tNext) tNext) (tSeq (tAsg (tCall (sp__law_mixed T) [] E (tCons (tCall (sp__law_cell_at T) [] E (tCons (tVar 0) (tCons (tC (.int 24)) tNil))) (tCons (tC (.int 1)) tNil))) (gName 5)) (tSeq (tDrop (tBM T.K "list" rAppend (tVar 2) (tCons (tTup (tCons (tOp rModU (tVar 5) (tC (.int 1000))) (tCons (tOp rModU (tOp rDivU (tVar 5) (tC (.int 1009))) (tC (.int 1000))) tNil))) tNil))) (tSeq (tIfS (tAnd (tTest (tOp (rEqU T.K) (tOp rModU (tCall (sp__law_cell_at T) [] E (tCons (tVar 0) (tCons (tC (.int 24)) tNil))) (tC (.int 2))) (tC (.int 0)))) (tTest (tOp (rNeU T.K) (tVar 1) (tLst tNil)))) (tSeq (tAsg (tTup (tCons (tOp (rIx T.K) (tOp (rIx T.K) (tVar 1) (tC (.int 0))) (tC (.int 0))) (tCons (tOp (rIx T.K) (tOp (rIx T.K) (tVar 1) (tUn rNegU (tC (.int 1)))) (tC (.int 1))) tNil))) (gSub (tVar 2) (tUn rNegU (tC (.int 1))) rSetL)) tNext) tNext) (tSeq (tRet (tAndV (tCall (sp__law_right T) [] E (tCons (tCall (sp_seated T) [] E (tCons (tVar 2) tNil)) (tCons (tVar 2) tNil))) (tOp (rEqU T.K) (tOp (rIx T.K) (tVar 3) (tC (.int 1))) (tVar 4)))) tNext)))))))))
theorem pure_law1 {T : Tx} {vs : List V} {H : Hp} {Q : VK} {E : XK} (h : sp_law1 T vs H Q E) : t_law T E { nx := fun _ H' => Q .non H', rt := Q } (start N_law vs) H := by
  obtain ⟨G, s, cs, e, rfl, hs, hc, q⟩ := h
  have hsc : EvV (tVar 0) (start N_law [.ref s]) G H (.ref s) := ev_var rfl
  refine q_asgC e (ea_obj hsc ea_nil) fun G0 H0 vs g0 k0 => ?_
  obtain ⟨_, _, rfl, k1, k2⟩ := k0
  cases k1
  cases k2
  refine ⟨G0, s, cs, g0.s, rfl, hs.gr g0, hc, fun ps pv G1 H1 hl g1 dp => ?_⟩
  have s1 := (hs.gr g0).gr g1
  have g01 := g0.trans g1
  refine q_asgL g1.s (el_list (EvV.dat (ev_var rfl) dp)) fun p5 x5 G5 H5 g5 f5 n5 e5 k5 => ?_
  refine q_seated (T := T) g5.s (ev_var rfl) e5 k5 (by omega) fun w ns t r G6 H6 ok g6 f6 n6 e6 t6 => ?_
  have nr : r ≠ p5 := fun z => by rw [z, e5] at f6; cases f6
  refine q_asgL g6.s (el_listV (ev_ixTV (ev_var rfl) (EvV.dat ev_c dt_int) t6 (by rfl : atI [V.str w, V.ref r] 1 = some (V.ref r))) e6 (Dts.ints ns)) fun p4 x4 G7 H7 g7 f7 n7 e7 k7 => ?_
  have k7 := Dts.of_ints k7
  subst k7
  have e57 := (g6.trans g7).hx _ _ e5
  have n57 := (g6.trans g7).n p5 _ e5 rfl n5
  have e67 := g7.hx _ _ e6
  have n67 := g7.n r _ e6 rfl n6
  have t7 := g7.g _ _ t6
  have n45 : p4 ≠ p5 := fun z => by rw [z, g6.hx _ _ e5] at f7; cases f7
  have n4r : p4 ≠ r := fun z => by rw [z, e6] at f7; cases f7
  have g57 := g5.trans (g6.trans g7)
  have dp7 := Dt.gr g57 dp
  have k57 := Dts.mono (g6.trans g7).g _ k5
  have s7 := s1.gr g57
  -- all that is read is data for a while
  have E1 : Ex G7 (upd G7 p5 (.lst x5)) := Ex.new n57
  have E2 : Ex (upd G7 p5 (.lst x5)) (upd (upd G7 p5 (.lst x5)) r (.lst (ns.map V.int))) := Ex.new (by rw [upd_ne nr]; exact n67)
  have dprX := Dt.mono (E1.trans E2) _ dp7
  have dhX : Dt (upd (upd G7 p5 (.lst x5)) r (.lst (ns.map V.int))) (.list (ps.map pD)) (.ref p5) := ⟨p5, x5, rfl, E2 _ _ upd_same, Dts.mono (E1.trans E2) _ k57⟩
  have dfX : Dt (upd (upd G7 p5 (.lst x5)) r (.lst (ns.map V.int))) (foundD w ns) (.ref t) := foundDt (E2 _ _ (E1 _ _ t7)) upd_same
  refine q_when (b := false) g7.s (EvT.fx g7.s e57 (EvT.fx (g7.s.fx e57) e67 (EvT.is (et_or (b := false) (c := false) (EvT.is (et_test (ev_bin (EvV.dat (ev_var rfl) dhX) (EvV.dat (ev_var rfl) dprX) (b_ne (okD_pDs ps) (okD_pDs ps)))) (by rw [eqv_pDs]; rfl)) fun _ => EvT.is (et_not (et_B (ev_right (EvV.dat (ev_var rfl) dfX) (EvV.dat (ev_var rfl) dprX) ok (by omega)))) rfl) rfl))) (fun z => nomatch z) fun _ G8 H8 g8 => ?_
  have s8 := s7.gr g8
  refine q_asgI g8.s (n := mixed (cell cs 24) 1) (ev_mixed (ev_cell (ev_var rfl) (EvV.dat ev_c dt_int) s8 (by decide)) (EvV.dat ev_c dt_int)) fun G9 H9 g9 => ?_
  generalize mixed (cell cs 24) 1 = mx
  have g89 := g8.trans g9
  have e59 := g89.hx _ _ e57
  have n59 := g89.n p5 _ e57 rfl n57
  have s9 := s8.gr g9
  refine q_append (x := pD (mx % 1000, mx / 1009 % 1000)) g9.s (ev_var rfl) (ev_tup (ds := [.int (mx % 1000), .int (mx / 1009 % 1000)]) (by walk_at "ea") (by walk_at "sd")) n59 e59 (by rw [k5.len, List.length_map]; omega) fun v G10 H10 g10 dv h10 => ?_
  have d10 := Dt.gr g10 (Dt.gr g89 dp7)
  have k10 : Dts G10 (ps.map pD) x5 := Dts.mono (g89.g.trans g10.g) _ k57
  have n10 : G10 p5 = none := g10.n p5 _ e59 rfl n59
  have s10 := s9.gr g10
  -- what stands behind: one pair more
  have fin : ∀ (ko : Pl) (vo : V) (G11 H11 : Hp), Gr [p5] G10 H10 G11 H11 → H11 p5 = some (.lst (x5 ++ [vo])) → Dt G11 (pD ko) vo →
      (tSeq (tRet (tAndV (tCall (sp__law_right T) [] E (tCons (tCall (sp_seated T) [] E (tCons (tVar 2) tNil)) (tCons (tVar 2) tNil))) (tOp (rEqU T.K) (tOp (rIx T.K) (tVar 3) (tC (.int 1))) (tVar 4)))) tNext) { nx := fun _ H' => Q .non H', rt := Q } [some (.ref s), some pv, some (.ref p5), some (.ref t), some (.ref p4), some (.int mx)] H11 := fun ko vo G11 H11 g11 h11 do11 => by
    have n11 : G11 p5 = none := g11.n p5 _ h10 rfl n10
    have k11 : Dts G11 ((ps ++ [ko]).map pD) (x5 ++ [vo]) := by
      rw [List.map_append]
      exact (Dts.mono g11.g _ k10).snoc do11
    have dh : Dt (upd G11 p5 (.lst (x5 ++ [vo]))) (.list ((ps ++ [ko]).map pD)) (.ref p5) := ⟨p5, _, rfl, upd_same, Dts.mono (Ex.new n11) _ k11⟩
    have g911 := g10.trans g11
    have r11 : H11 r = some (.lst (ns.map V.int)) := g911.h r _ (by simpa using nr) (g89.hx _ _ e67)
    have nr11 : G11 r = none := (g89.to.trans g911).n r _ e67 rfl n67
    have p411 : H11 p4 = some (.lst (ns.map V.int)) := g911.h p4 _ (by simpa using n45) (g89.hx _ _ e7)
    have np411 : G11 p4 = none := (g89.to.trans g911).n p4 _ e7 rfl n7
    have E3 : Ex G11 (upd G11 r (.lst (ns.map V.int))) := Ex.new nr11
    have E4 : Ex (upd G11 r (.lst (ns.map V.int))) (upd (upd G11 r (.lst (ns.map V.int))) p4 (.lst (ns.map V.int))) := Ex.new (by rw [upd_ne n4r]; exact np411)
    have t11 := g911.g _ _ (g89.g _ _ t7)
    have df : Dt (upd (upd G11 r (.lst (ns.map V.int))) p4 (.lst (ns.map V.int))) (foundD w ns) (.ref t) := foundDt (E4 _ _ (E3 _ _ t11)) (E4 _ _ upd_same)
    have dk : Dt (upd (upd G11 r (.lst (ns.map V.int))) p4 (.lst (ns.map V.int))) (.list (ns.map PyData.int)) (.ref p4) := ⟨p4, _, rfl, upd_same, Dts.ints ns⟩
    refine q_ret g11.s (d := .bool true) (EvD.is (ev_andV (b := true) (c := true) (EvD.fxB g11.s h11 (ev_rs (ps := ps ++ [ko]) (EvV.dat (ev_var rfl) dh) (EvV.dat (ev_var rfl) dh) (by simp; omega))) fun _ => EvD.fxB g11.s r11 (EvD.fxB (g11.s.fx r11) p411 (EvD.is (ev_bin (ev_bin (EvV.dat (ev_var rfl) df) (EvV.dat ev_c dt_int) (b_ixT (ds := [.str w, .list (ns.map PyData.int)]) (i := 1) rfl)) (EvV.dat (ev_var rfl) dk) (b_eq (okD_ints ns) (okD_ints ns))) (by rw [eqv_ints])))) rfl) fun v G12 H12 g12 e12 => q v G12 H12 ?_ e12
    have fA := g01.fresh f5
    exact Gr.own (M := [p5]) g01 ((g57.trans g89).to.trans (g911.trans g12.to)) (by
      intro b hb
      simp at hb
      subst hb
      exact fA)
  refine q_if (b := decide (cell cs 24 % 2 = 0) && !decide (ps = [])) g10.s (et_and (EvT.is (et_test (ev_bin (ev_bin (d1 := .int (cell cs 24)) (ev_cell (ev_var rfl) (EvV.dat ev_c dt_int) s10 (by decide)) (EvV.dat ev_c dt_int) (b_mod (by decide))) (EvV.dat ev_c dt_int) (b_eq rfl rfl))) (by rfl)) fun _ => EvT.is (et_test (ev_bin (EvV.dat (ev_var rfl) d10) (ev_lstD (ds := []) ea_nil (by decide)) (b_ne (okD_pDs ps) rfl))) (by cases ps <;> rfl)) (fun z G11 H11 g11 => ?_) fun z G11 H11 g11 => ?_
  · have ne : ps ≠ [] := by
      rw [Bool.and_eq_true] at z
      simpa using z.2
    have d11 := Dt.gr g11 d10
    obtain ⟨k0, r0, rfl⟩ : ∃ k0 r0, ps = k0 :: r0 := by
      cases ps with
      | nil => exact absurd rfl ne
      | cons a b => exact ⟨a, b, rfl⟩
    have h11 := g11.hx _ _ h10
    have n11 : G11 p5 = none := g11.n p5 _ h10 rfl n10
    have lx : x5.length = (k0 :: r0).length := by rw [k10.len, List.length_map]
    refine q_lset (x := pD (k0.1, (lastD (k0 :: r0)).2)) (i := -1) (j := x5.length) g11.s (ev_tup (ds := [.int k0.1, .int (lastD (k0 :: r0)).2]) (ea_dat (ev_bin (ev_bin (EvV.dat (ev_var rfl) d11) (EvV.dat ev_c dt_int) (b_ixL (i := 0) (d := pD k0) at_zero)) (EvV.dat ev_c dt_int) (b_ixT (ds := [.int k0.1, .int k0.2]) (i := 0) rfl)) (ea_dat (ev_bin (ev_bin (EvV.dat (ev_var rfl) d11) (ev_un (EvV.dat ev_c dt_int) u_neg) (b_ixL (d := pD (lastD (k0 :: r0))) (atI_last ne))) (EvV.dat ev_c dt_int) (b_ixT (ds := [.int (lastD (k0 :: r0)).1, .int (lastD (k0 :: r0)).2]) (i := 1) rfl)) ea_nil)) (by walk_at "sd")) (ev_var rfl) (ev_un (EvV.dat ev_c dt_int) u_neg) n11 h11 ?_ fun v2 G12 H12 g12 dv2 h12 => ?_
    · unfold ixN
      simp
      omega
    · rw [List.set_append_right _ _ (Nat.le_refl _), Nat.sub_self] at h12
      exact q_next (fin _ v2 G12 H12 (g11.to.trans g12) h12 dv2)
  · exact q_next (fin _ v G11 H11 g11.to (g11.hx _ _ h10) (Dt.gr g11 dv))

/-! Law k03: the derivations and the end (printed by fin.py). -/
def top (i : Nat) : Stmt := PySem.Challenge.pw_twonests_k03_whole_seats.main.body.getD i (.Pass ⟨0, 0, 0, 0⟩)
abbrev s__law_cell_at : Stmt := top 7
abbrev s__law_room : Stmt := top 9
abbrev s__law_mixed : Stmt := top 8
abbrev s__law_pairs : Stmt := top 10
abbrev s_next_place : Stmt := top 1
abbrev s_way_from : Stmt := top 2
abbrev s_owners : Stmt := top 4
abbrev s_shifted : Stmt := top 3
abbrev s_seated : Stmt := top 5
abbrev s__law_yes : Stmt := top 11
abbrev s__law_no : Stmt := top 12
abbrev s__law_right : Stmt := top 13
abbrev s_law : Stmt := top 14
theorem sc__law_cell_at : FnScope N__law_cell_at ["_law_script", "_law_k"] (defScope s__law_cell_at) := ⟨rfl, rfl, rfl, by decide +kernel, rfl, by decide +kernel, by decide +kernel⟩
theorem sc__law_room : FnScope N__law_room ["_law_script", "_law_few", "_law_many"] (defScope s__law_room) := ⟨rfl, rfl, rfl, by decide +kernel, rfl, by decide +kernel, by decide +kernel⟩
theorem sc__law_mixed : FnScope N__law_mixed ["_law_cell", "_law_k"] (defScope s__law_mixed) := ⟨rfl, rfl, rfl, by decide +kernel, rfl, by decide +kernel, by decide +kernel⟩
theorem sc__law_pairs : FnScope N__law_pairs ["_law_script"] (defScope s__law_pairs) := ⟨rfl, rfl, rfl, by decide +kernel, rfl, by decide +kernel, by decide +kernel⟩
theorem sc_next_place : FnScope N_next_place ["pairs", "places", "place"] (defScope s_next_place) := ⟨rfl, rfl, rfl, by decide +kernel, rfl, by decide +kernel, by decide +kernel⟩
theorem sc_way_from : FnScope N_way_from ["pairs", "places", "place"] (defScope s_way_from) := ⟨rfl, rfl, rfl, by decide +kernel, rfl, by decide +kernel, by decide +kernel⟩
theorem sc_owners : FnScope N_owners ["places", "found", "number"] (defScope s_owners) := ⟨rfl, rfl, rfl, by decide +kernel, rfl, by decide +kernel, by decide +kernel⟩
theorem sc_shifted : FnScope N_shifted ["places", "way"] (defScope s_shifted) := ⟨rfl, rfl, rfl, by decide +kernel, rfl, by decide +kernel, by decide +kernel⟩
theorem sc_seated : FnScope N_seated ["pairs"] (defScope s_seated) := ⟨rfl, rfl, rfl, by decide +kernel, rfl, by decide +kernel, by decide +kernel⟩
theorem sc__law_yes : FnScope N__law_yes ["_law_rows", "_law_pairs_here"] (defScope s__law_yes) := ⟨rfl, rfl, rfl, by decide +kernel, rfl, by decide +kernel, by decide +kernel⟩
theorem sc__law_no : FnScope N__law_no ["_law_numbers", "_law_pairs_here"] (defScope s__law_no) := ⟨rfl, rfl, rfl, by decide +kernel, rfl, by decide +kernel, by decide +kernel⟩
theorem sc__law_right : FnScope N__law_right ["_law_found", "_law_pairs_here"] (defScope s__law_right) := ⟨rfl, rfl, rfl, by decide +kernel, rfl, by decide +kernel, by decide +kernel⟩
theorem sc_law : FnScope N_law ["_law_script"] (defScope s_law) := ⟨rfl, rfl, rfl, by decide +kernel, rfl, by decide +kernel, by decide +kernel⟩
structure Glo (T : Tx) (mg : Str → Option Value) : Prop where
  x_bool : mg "bool" = none
  x_enumerate : mg "enumerate" = none
  x_int : mg "int" = none
  x_isinstance : mg "isinstance" = none
  x_len : mg "len" = none
  x_list : mg "list" = none
  x_range : mg "range" = none
  x_reversed : mg "reversed" = none
  x_sorted : mg "sorted" = none
  x_tuple : mg "tuple" = none
section
variable {P : Program} {w : World} {T : Tx} {mg : Str → Option Value} {base : Heap}
theorem ok__law_cell_at {f : Addr} {fd : FuncData} (F : Fun T.K "_law_cell_at" "_law_cell_at" s__law_cell_at f fd) (g : Glo T mg)  : FnOk P w T.K mg base (L2.CX P w) 1 f fd ["_law_script", "_law_k"] (sp__law_cell_at T) := by
  have sc := sc__law_cell_at
  refine F.okX sc (fun vs H Q E h => ?_) (fun cdv A outer s H vs Q E hr h => ⟨t__law_cell_at T E, ?_, pure__law_cell_at h⟩)
  · revert h; unfold sp__law_cell_at; walk_at "vs"
  · have hu := hu_of hr
    exact (pss_cons (ps_if (pt_cmpR o_lt (pv 1) (pe_callB c_len (by rfl) g.x_len (by decide +kernel) (pa_cons (pv 0) pa_nil)) (nomark _)) (pss_cons (ps_ret (pe_ix ix_seq (pv 0) (pv 1) (fun _ _ => rfl))) pss_nil) pss_nil) (pss_cons (ps_ret pe_int) pss_nil))
theorem ok__law_room {f : Addr} {fd : FuncData} (F : Fun T.K "_law_room" "_law_room" s__law_room f fd) (g : Glo T mg)  : FnOk P w T.K mg base (L2.CX P w) 1 f fd ["_law_script", "_law_few", "_law_many"] (sp__law_room T) := by
  have sc := sc__law_room
  refine F.okX sc (fun vs H Q E h => ?_) (fun cdv A outer s H vs Q E hr h => ⟨t__law_room T E, ?_, pure__law_room h⟩)
  · revert h; unfold sp__law_room; walk_at "vs"
  · have hu := hu_of hr
    exact (pss_cons (ps_if (pt_cmpR o_gt (pe_callB c_len (by rfl) g.x_len (by decide +kernel) (pa_cons (pv 0) pa_nil)) pe_int (nomark _)) (pss_cons (ps_ret (pv 2)) pss_nil) pss_nil) (pss_cons (ps_ret (pv 1)) pss_nil))
theorem ok__law_mixed {f : Addr} {fd : FuncData} (F : Fun T.K "_law_mixed" "_law_mixed" s__law_mixed f fd) (g : Glo T mg)  : FnOk P w T.K mg base (L2.CX P w) 1 f fd ["_law_cell", "_law_k"] (sp__law_mixed T) := by
  have sc := sc__law_mixed
  refine F.okX sc (fun vs H Q E h => ?_) (fun cdv A outer s H vs Q E hr h => ⟨t__law_mixed T E, ?_, pure__law_mixed h⟩)
  · revert h; unfold sp__law_mixed; walk_at "vs"
  · have hu := hu_of hr
    exact (pss_cons (ps_set (i := 2) sc.nd rfl (by first | exact Or.inl rfl | exact Or.inr rfl) (pe_op o_mod (pe_op o_mul (pe_op o_add (pe_op o_add (pv 0) (pe_op o_mul pe_int (pv 1))) pe_int) pe_int) pe_int)) (pss_cons (ps_ret (pe_op o_mod (pe_op o_add (pe_op o_mul (pv 2) (pv 2)) (pe_op o_mul pe_int (pv 2))) pe_int)) pss_nil))
theorem ok__law_pairs {f : Addr} {fd : FuncData} (F : Fun T.K "_law_pairs" "_law_pairs" s__law_pairs f fd) (g : Glo T mg) (c__law_cell_at : Cal2 P w T.K mg base 1 "_law_cell_at" (sp__law_cell_at T)) (c__law_mixed : Cal2 P w T.K mg base 1 "_law_mixed" (sp__law_mixed T)) (c__law_room : Cal2 P w T.K mg base 1 "_law_room" (sp__law_room T)) : FnOk P w T.K mg base (L2.CX P w) 2 f fd ["_law_script"] (sp__law_pairs T) := by
  have sc := sc__law_pairs
  refine F.okX sc (fun vs H Q E h => ?_) (fun cdv A outer s H vs Q E hr h => ⟨t__law_pairs T E, ?_, pure__law_pairs h⟩)
  · revert h; unfold sp__law_pairs; walk_at "vs"
  · have hu := hu_of hr
    exact (pss_cons (ps_set (i := 1) sc.nd rfl (by first | exact Or.inl rfl | exact Or.inr rfl) (pe_op o_mod (pe_c2 c__law_cell_at hr (by decide) (passes_call (takes_of rfl rfl rfl rfl) (fun _ _ _ _ h => h)) rfl (pa_cons (pv 0) (pa_cons pe_int pa_nil))) (pe_op o_add pe_int (pe_c2 c__law_room hr (by decide) (passes_call (takes_of rfl rfl rfl rfl) (fun _ _ _ _ h => h)) rfl (pa_cons (pv 0) (pa_cons pe_int (pa_cons pe_int pa_nil))))))) (pss_cons (ps_set (i := 2) sc.nd rfl (by first | exact Or.inl rfl | exact Or.inr rfl) (pe_op o_add pe_int (pe_op o_mod (pe_c2 c__law_cell_at hr (by decide) (passes_call (takes_of rfl rfl rfl rfl) (fun _ _ _ _ h => h)) rfl (pa_cons (pv 0) (pa_cons pe_int pa_nil))) pe_int))) (pss_cons (ps_if (pt_cmpR (o_eq hr.units) (pe_op o_mod (pe_c2 c__law_cell_at hr (by decide) (passes_call (takes_of rfl rfl rfl rfl) (fun _ _ _ _ h => h)) rfl (pa_cons (pv 0) (pa_cons pe_int pa_nil))) pe_int) pe_int (nomark _)) (pss_cons (ps_set (i := 2) sc.nd rfl (by first | exact Or.inl rfl | exact Or.inr rfl) pe_int) pss_nil) pss_nil) (pss_cons (ps_set (i := 3) sc.nd rfl (by first | exact Or.inl rfl | exact Or.inr rfl) (pe_lst pa_nil)) (pss_cons (ps_for (passes_of rfl) rfl (pi_range1 (by rfl) g.x_range (pa_cons (pv 1) pa_nil)) (pg_name (i := 4) sc.nd rfl (by first | exact Or.inl rfl | exact Or.inr rfl)) (pss_cons (ps_set (i := 5) sc.nd rfl (by first | exact Or.inl rfl | exact Or.inr rfl) (pe_c2 c__law_mixed hr (by decide) (passes_call (takes_of rfl rfl rfl rfl) (fun _ _ _ _ h => h)) rfl (pa_cons (pe_c2 c__law_cell_at hr (by decide) (passes_call (takes_of rfl rfl rfl rfl) (fun _ _ _ _ h => h)) rfl (pa_cons (pv 0) (pa_cons (pe_op o_add pe_int (pe_op o_mod (pv 4) pe_int)) pa_nil))) (pa_cons (pv 4) pa_nil)))) (pss_cons (ps_expr (pe_bm PySem.F.plainAttrs_list PySem.F.slot_list_append PySem.F.type_list_append mt_append (pv 3) (pa_cons (pe_tup (pa_cons (pe_op o_mod (pe_op o_div (pv 5) pe_int) (pv 2)) (pa_cons (pe_op o_mod (pe_op o_div (pv 5) pe_int) (pv 2)) pa_nil))) pa_nil))) pss_nil))) (pss_cons (ps_if (pt_cmpR (o_eq hr.units) (pe_op o_mod (pe_c2 c__law_cell_at hr (by decide) (passes_call (takes_of rfl rfl rfl rfl) (fun _ _ _ _ h => h)) rfl (pa_cons (pv 0) (pa_cons pe_int pa_nil))) pe_int) pe_int (nomark _)) (pss_cons (ps_setLc (i := 3) (own := [(("_law_k" : Str), 4)]) (g := (gName 4)) (tt := tYes) rfl sc.nd rfl rfl (sw_true rfl rfl rfl (by decide +kernel)) (pi_range1 (by rfl) g.x_range (pa_cons (pv 1) pa_nil)) (blkOk_by (N := N__law_pairs) (sc := defScope s__law_pairs) (by decide +kernel)) (fun _ _ _ _ _ => (pg_name (i := 4) sc.nd rfl (by first | exact Or.inl rfl | exact Or.inr rfl))) (fun _ _ _ _ _ => pts_nil) (fun _ _ _ _ _ => (pe_tup (pa_cons (pe_op o_div (pv 4) pe_int) (pa_cons (pe_op o_div (pe_op o_add (pv 4) pe_int) pe_int) pa_nil))))) (pss_cons (ps_set (i := 3) sc.nd rfl (by first | exact Or.inl rfl | exact Or.inr rfl) (pe_op o_add (pv 3) (pe_lst (pa_cons (pe_tup (pa_cons (pe_op o_mod (pe_c2 c__law_cell_at hr (by decide) (passes_call (takes_of rfl rfl rfl rfl) (fun _ _ _ _ h => h)) rfl (pa_cons (pv 0) (pa_cons pe_int pa_nil))) (pe_op o_add (pv 1) pe_int)) (pa_cons (pe_op o_mod (pe_c2 c__law_cell_at hr (by decide) (passes_call (takes_of rfl rfl rfl rfl) (fun _ _ _ _ h => h)) rfl (pa_cons (pv 0) (pa_cons pe_int pa_nil))) (pe_op o_add (pv 1) pe_int)) pa_nil))) pa_nil)))) (pss_cons (ps_set (i := 6) sc.nd rfl (by first | exact Or.inl rfl | exact Or.inr rfl) (pe_op o_mod (pe_c2 c__law_cell_at hr (by decide) (passes_call (takes_of rfl rfl rfl rfl) (fun _ _ _ _ h => h)) rfl (pa_cons (pv 0) (pa_cons pe_int pa_nil))) (pe_callB c_len (by rfl) g.x_len (by decide +kernel) (pa_cons (pv 3) pa_nil)))) (pss_cons (ps_set (i := 3) sc.nd rfl (by first | exact Or.inl rfl | exact Or.inr rfl) (pe_op o_add (pe_slice o_sl (pv 3) (po_some (pv 6)) po_none) (pe_slice o_sl (pv 3) po_none (po_some (pv 6))))) pss_nil)))) pss_nil) (pss_cons (ps_ret (pv 3)) pss_nil)))))))
theorem ok_next_place {f : Addr} {fd : FuncData} (F : Fun T.K "next_place" "next_place" s_next_place f fd) (g : Glo T mg)  : FnOk P w T.K mg base (L2.CX P w) 1 f fd ["pairs", "places", "place"] (sp_next_place T) := by
  have sc := sc_next_place
  refine F.okX sc (fun vs H Q E h => ?_) (fun cdv A outer s H vs Q E hr h => ⟨t_next_place T E, ?_, pure_next_place h⟩)
  · revert h; unfold sp_next_place; walk_at "vs"
  · have hu := hu_of hr
    exact (pss_cons (ps_if (pt_cmpR (o_notin hr.units) (pv 2) (pv 1) (by rfl)) (pss_cons (ps_ret pe_non) pss_nil) pss_nil) (pss_cons (ps_asg (pe_ix ix_seq (pv 0) (pe_dget hu (pv 1) (pv 2) (fun _ _ => rfl)) (fun _ _ => rfl)) (pg_tup rfl (pgs_cons (pg_name (i := 3) sc.nd rfl (by first | exact Or.inl rfl | exact Or.inr rfl)) (pgs_cons (pg_name (i := 4) sc.nd rfl (by first | exact Or.inl rfl | exact Or.inr rfl)) pgs_nil)))) (pss_cons (ps_if (pt_cmpR (o_eq hr.units) (pe_ix ix_seq (pv 2) pe_int (fun _ _ => rfl)) pe_int (nomark _)) (pss_cons (ps_ret (pe_tup (pa_cons pe_int (pa_cons (pv 4) pa_nil)))) pss_nil) pss_nil) (pss_cons (ps_ret (pe_tup (pa_cons pe_int (pa_cons (pv 3) pa_nil)))) pss_nil))))
theorem ok_way_from {f : Addr} {fd : FuncData} (F : Fun T.K "way_from" "way_from" s_way_from f fd) (g : Glo T mg) (c_next_place : Cal2 P w T.K mg base 1 "next_place" (sp_next_place T)) : FnOk P w T.K mg base (L2.CX P w) 2 f fd ["pairs", "places", "place"] (sp_way_from T) := by
  have sc := sc_way_from
  refine F.okX sc (fun vs H Q E h => ?_) (fun cdv A outer s H vs Q E hr h => ⟨t_way_from T E, ?_, pure_way_from h⟩)
  · revert h; unfold sp_way_from; walk_at "vs"
  · have hu := hu_of hr
    exact (pss_cons (ps_set (i := 3) sc.nd rfl (by first | exact Or.inl rfl | exact Or.inr rfl) (pe_lst (pa_cons (pv 2) pa_nil))) (pss_cons (ps_set (i := 4) sc.nd rfl (by first | exact Or.inl rfl | exact Or.inr rfl) (pe_c2 c_next_place hr (by decide) (passes_call (takes_of rfl rfl rfl rfl) (fun _ _ _ _ h => h)) rfl (pa_cons (pv 0) (pa_cons (pv 1) (pa_cons (pv 2) pa_nil))))) (pss_cons (ps_while (passes_of rfl) (PW.pt (pw_and (pt_cmpR o_isn (pv 4) pe_non (nomark _)) (pw_and1 (pt_cmpR (o_notin hr.units) (pv 4) (pv 3) (by rfl))))) (pss_cons (ps_expr (pe_bm PySem.F.plainAttrs_list PySem.F.slot_list_append PySem.F.type_list_append mt_append (pv 3) (pa_cons (pv 4) pa_nil))) (pss_cons (ps_set (i := 4) sc.nd rfl (by first | exact Or.inl rfl | exact Or.inr rfl) (pe_c2 c_next_place hr (by decide) (passes_call (takes_of rfl rfl rfl rfl) (fun _ _ _ _ h => h)) rfl (pa_cons (pv 0) (pa_cons (pv 1) (pa_cons (pv 4) pa_nil))))) pss_nil))) (pss_cons (ps_ret (pv 3)) pss_nil))))
theorem ok_owners {f : Addr} {fd : FuncData} (F : Fun T.K "owners" "owners" s_owners f fd) (g : Glo T mg)  : FnOk P w T.K mg base (L2.CX P w) 1 f fd ["places", "found", "number"] (sp_owners T) := by
  have sc := sc_owners
  refine F.okX sc (fun vs H Q E h => ?_) (fun cdv A outer s H vs Q E hr h => ⟨t_owners T E, ?_, pure_owners h⟩)
  · revert h; unfold sp_owners; walk_at "vs"
  · have hu := hu_of hr
    exact (pss_cons (ps_set (i := 3) sc.nd rfl (by first | exact Or.inl rfl | exact Or.inr rfl) (pe_lst (pa_cons (pv 2) pa_nil))) (pss_cons (ps_for (passes_of rfl) rfl (pi_list (pv 1)) (pg_name (i := 4) sc.nd rfl (by first | exact Or.inl rfl | exact Or.inr rfl)) (pss_cons (ps_if (pt_cmpR (o_notin hr.units) (pe_dget hu (pv 0) (pv 4) (fun _ _ => rfl)) (pv 3) (by rfl)) (pss_cons (ps_expr (pe_bm PySem.F.plainAttrs_list PySem.F.slot_list_append PySem.F.type_list_append mt_append (pv 3) (pa_cons (pe_dget hu (pv 0) (pv 4) (fun _ _ => rfl)) pa_nil))) pss_nil) pss_nil) pss_nil)) (pss_cons (ps_ret (pe_callB c_sortedI (by rfl) g.x_sorted (by decide +kernel) (pa_cons (pv 3) pa_nil))) pss_nil)))
theorem ok_shifted {f : Addr} {fd : FuncData} (F : Fun T.K "shifted" "shifted" s_shifted f fd) (g : Glo T mg)  : FnOk P w T.K mg base (L2.CX P w) 1 f fd ["places", "way"] (sp_shifted T) := by
  have sc := sc_shifted
  refine F.okX sc (fun vs H Q E h => ?_) (fun cdv A outer s H vs Q E hr h => ⟨t_shifted T E, ?_, pure_shifted h⟩)
  · revert h; unfold sp_shifted; walk_at "vs"
  · have hu := hu_of hr
    exact (pss_cons (ps_for (passes_of rfl) rfl (pi_revR (by rfl) g.x_reversed (prg_2 (by rfl) g.x_range pe_int (pe_callB c_len (by rfl) g.x_len (by decide +kernel) (pa_cons (pv 1) pa_nil)))) (pg_name (i := 2) sc.nd rfl (by first | exact Or.inl rfl | exact Or.inr rfl)) (pss_cons (ps_dput hu (pv 0) (pe_ix ix_seq (pv 1) (pv 2) (fun _ _ => rfl)) (pe_bm PySem.F.plainAttrs_dict PySem.F.slot_dict_pop PySem.F.type_dict_pop (m_pop hu) (pv 0) (pa_cons (pe_ix ix_seq (pv 1) (pe_op o_sub (pv 2) pe_int) (fun _ _ => rfl)) pa_nil)) rfl) pss_nil)) pss_nil)
theorem ok_seated {f : Addr} {fd : FuncData} (F : Fun T.K "seated" "seated" s_seated f fd) (g : Glo T mg) (c_owners : Cal2 P w T.K mg base 1 "owners" (sp_owners T)) (c_shifted : Cal2 P w T.K mg base 1 "shifted" (sp_shifted T)) (c_way_from : Cal2 P w T.K mg base 2 "way_from" (sp_way_from T)) : FnOk P w T.K mg base (L2.CX P w) 3 f fd ["pairs"] (sp_seated T) := by
  have sc := sc_seated
  refine F.okX sc (fun vs H Q E h => ?_) (fun cdv A outer s H vs Q E hr h => ⟨t_seated T E, ?_, pure_seated h⟩)
  · revert h; unfold sp_seated; walk_at "vs"
  · have hu := hu_of hr
    exact (pss_cons (ps_set (i := 1) sc.nd rfl (by first | exact Or.inl rfl | exact Or.inr rfl) pe_dnewT) (pss_cons (ps_for (passes_of rfl) rfl (pi_enum (by rfl) g.x_enumerate (pa_cons (pv 0) pa_nil)) (pg_tup rfl (pgs_cons (pg_name (i := 2) sc.nd rfl (by first | exact Or.inl rfl | exact Or.inr rfl)) (pgs_cons (pg_name (i := 3) sc.nd rfl (by first | exact Or.inl rfl | exact Or.inr rfl)) pgs_nil))) (pss_cons (ps_setLc (i := 4) (own := [(("row" : Str), 5)]) (g := (gName 5)) (tt := tYes) rfl sc.nd rfl rfl (sw_true rfl rfl rfl (by decide +kernel)) (pi_range1 (by rfl) g.x_range (pa_cons pe_int pa_nil)) (blkOk_by (N := N_seated) (sc := defScope s_seated) (by decide +kernel)) (fun _ _ _ _ _ => (pg_name (i := 5) sc.nd rfl (by first | exact Or.inl rfl | exact Or.inr rfl))) (fun _ _ _ _ _ => pts_nil) (fun _ _ _ _ _ => (pe_c2 c_way_from hr (by decide) passL rfl (pa_cons (pv 0) (pa_cons (pv 1) (pa_cons (pe_tup (pa_cons (pv 5) (pa_cons (pe_ix ix_seq (pv 3) (pv 5) (fun _ _ => rfl)) pa_nil))) pa_nil)))))) (pss_cons (ps_setLc (i := 6) (own := [(("way" : Str), 7)]) (g := (gName 7)) (tt := (tTest (tOp (rInU T.K true) (tOp (rIx T.K) (tVar 7) (tUn rNegU (tC (.int 1)))) (tVar 1)))) rfl sc.nd rfl rfl (sw_true rfl rfl rfl (by decide +kernel)) (pi_list (pv 4)) (blkOk_by (N := N_seated) (sc := defScope s_seated) (by decide +kernel)) (fun _ _ _ _ _ => (pg_name (i := 7) sc.nd rfl (by first | exact Or.inl rfl | exact Or.inr rfl))) (fun _ _ _ _ _ => (pts_one (pt_cmpR (o_notin hr.units) (pe_ix ix_seq (pv 7) (pe_un o_neg pe_int) (fun _ _ => rfl)) (pv 1) (by rfl)))) (fun _ _ _ _ _ => (pv 7))) (pss_cons (ps_if (pt_cmpR (o_eq hr.units) (pv 6) (pe_lst pa_nil) (nomark _)) (pss_cons (ps_ret (pe_tup (pa_cons pe_str (pa_cons (pe_c2 c_owners hr (by decide) (passes_call (takes_of rfl rfl rfl rfl) (fun _ _ _ _ h => h)) rfl (pa_cons (pv 1) (pa_cons (pe_op o_add (pe_ix ix_seq (pv 4) pe_int (fun _ _ => rfl)) (pe_ix ix_seq (pv 4) pe_int (fun _ _ => rfl))) (pa_cons (pv 2) pa_nil)))) pa_nil)))) pss_nil) pss_nil) (pss_cons (ps_expr (pe_c2 c_shifted hr (by decide) (passes_call (takes_of rfl rfl rfl rfl) (fun _ _ _ _ h => h)) rfl (pa_cons (pv 1) (pa_cons (pe_ix ix_seq (pv 6) pe_int (fun _ _ => rfl)) pa_nil)))) (pss_cons (ps_dput hu (pv 1) (pe_ix ix_seq (pe_ix ix_seq (pv 6) pe_int (fun _ _ => rfl)) pe_int (fun _ _ => rfl)) (pv 2) rfl) pss_nil)))))) (pss_cons (ps_set (i := 8) sc.nd rfl (by first | exact Or.inl rfl | exact Or.inr rfl) (pe_op o_mul (pe_lst (pa_cons pe_int pa_nil)) (pe_callB c_len (by rfl) g.x_len (by decide +kernel) (pa_cons (pv 0) pa_nil)))) (pss_cons (ps_for (passes_of rfl) rfl (pi_list (pe_callTy (c_list rfl) (by rfl) g.x_list (by decide +kernel) (pa_cons (pv 1) pa_nil))) (pg_name (i := 9) sc.nd rfl (by first | exact Or.inl rfl | exact Or.inr rfl)) (pss_cons (ps_asg (pe_ix ix_seq (pv 9) pe_int (fun _ _ => rfl)) (pg_sub (pv 8) (pe_dget hu (pv 1) (pv 9) (fun _ _ => rfl)) set_list)) pss_nil)) (pss_cons (ps_ret (pe_tup (pa_cons pe_str (pa_cons (pv 8) pa_nil)))) pss_nil)))))
theorem ok__law_yes {f : Addr} {fd : FuncData} (F : Fun T.K "_law_yes" "_law_yes" s__law_yes f fd) (g : Glo T mg)  : FnOk P w T.K mg base (L2.CX P w) 1 f fd ["_law_rows", "_law_pairs_here"] (sp__law_yes T) := by
  have sc := sc__law_yes
  refine F.okX sc (fun vs H Q E h => ?_) (fun cdv A outer s H vs Q E hr h => ⟨t__law_yes T E, ?_, pure__law_yes h⟩)
  · revert h; unfold sp__law_yes; walk_at "vs"
  · have hu := hu_of hr
    exact (pss_cons (ps_if (pt_cmpR (o_ne hr.units) (pe_callB c_len (by rfl) g.x_len (by decide +kernel) (pa_cons (pv 0) pa_nil)) (pe_callB c_len (by rfl) g.x_len (by decide +kernel) (pa_cons (pv 1) pa_nil)) (nomark _)) (pss_cons (ps_ret pe_bl) pss_nil) pss_nil) (pss_cons (ps_set (i := 2) sc.nd rfl (by first | exact Or.inl rfl | exact Or.inr rfl) pe_dnewT) (pss_cons (ps_for (passes_of rfl) rfl (pi_range1 (by rfl) g.x_range (pa_cons (pe_callB c_len (by rfl) g.x_len (by decide +kernel) (pa_cons (pv 0) pa_nil)) pa_nil)) (pg_name (i := 3) sc.nd rfl (by first | exact Or.inl rfl | exact Or.inr rfl)) (pss_cons (ps_if (PW.pt (pw_or (pt_not (pt_val (pe_callB call_isi (by rfl) g.x_isinstance (by decide +kernel) (pa_cons (pe_ix ix_seq (pv 0) (pv 3) (fun _ _ => rfl)) (pa_cons (pe_bltn (v := .ty "int") (by rfl) g.x_int (by decide +kernel) rfl) pa_nil))))) (pw_or (pt_val (pe_callB call_isi (by rfl) g.x_isinstance (by decide +kernel) (pa_cons (pe_ix ix_seq (pv 0) (pv 3) (fun _ _ => rfl)) (pa_cons (pe_bltn (v := .ty "bool") (by rfl) g.x_bool (by decide +kernel) rfl) pa_nil)))) (pw_or1 (pt_cmpR (o_notin hr.units) (pe_ix ix_seq (pv 0) (pv 3) (fun _ _ => rfl)) (pe_tup (pa_cons pe_int (pa_cons pe_int pa_nil))) (by rfl)))))) (pss_cons (ps_ret pe_bl) pss_nil) pss_nil) (pss_cons (ps_dput hu (pv 2) (pe_tup (pa_cons (pe_ix ix_seq (pv 0) (pv 3) (fun _ _ => rfl)) (pa_cons (pe_ix ix_seq (pe_ix ix_seq (pv 1) (pv 3) (fun _ _ => rfl)) (pe_ix ix_seq (pv 0) (pv 3) (fun _ _ => rfl)) (fun _ _ => rfl)) pa_nil))) (pv 3) rfl) pss_nil))) (pss_cons (ps_ret (pe_cmpR (o_eq hr.units) (pe_callB c_len (by rfl) g.x_len (by decide +kernel) (pa_cons (pv 2) pa_nil)) (pe_callB c_len (by rfl) g.x_len (by decide +kernel) (pa_cons (pv 1) pa_nil)) (nomark _))) pss_nil))))
theorem ok__law_no {f : Addr} {fd : FuncData} (F : Fun T.K "_law_no" "_law_no" s__law_no f fd) (g : Glo T mg)  : FnOk P w T.K mg base (L2.CX P w) 1 f fd ["_law_numbers", "_law_pairs_here"] (sp__law_no T) := by
  have sc := sc__law_no
  refine F.okX sc (fun vs H Q E h => ?_) (fun cdv A outer s H vs Q E hr h => ⟨t__law_no T E, ?_, pure__law_no h⟩)
  · revert h; unfold sp__law_no; walk_at "vs"
  · have hu := hu_of hr
    exact (pss_cons (ps_set (i := 2) sc.nd rfl (by first | exact Or.inl rfl | exact Or.inr rfl) pe_dnewT) (pss_cons (ps_set (i := 3) sc.nd rfl (by first | exact Or.inl rfl | exact Or.inr rfl) (pe_un o_neg pe_int)) (pss_cons (ps_for (passes_of rfl) rfl (pi_list (pv 0)) (pg_name (i := 4) sc.nd rfl (by first | exact Or.inl rfl | exact Or.inr rfl)) (pss_cons (ps_if (PW.pt (pw_or (pt_not (pt_val (pe_callB call_isi (by rfl) g.x_isinstance (by decide +kernel) (pa_cons (pv 4) (pa_cons (pe_bltn (v := .ty "int") (by rfl) g.x_int (by decide +kernel) rfl) pa_nil))))) (pw_or (pt_val (pe_callB call_isi (by rfl) g.x_isinstance (by decide +kernel) (pa_cons (pv 4) (pa_cons (pe_bltn (v := .ty "bool") (by rfl) g.x_bool (by decide +kernel) rfl) pa_nil)))) (pw_or (pt_cmpR o_le (pv 4) (pv 3) (nomark _)) (pw_or1 (pt_cmpR o_ge (pv 4) (pe_callB c_len (by rfl) g.x_len (by decide +kernel) (pa_cons (pv 1) pa_nil)) (nomark _))))))) (pss_cons (ps_ret pe_bl) pss_nil) pss_nil) (pss_cons (ps_set (i := 3) sc.nd rfl (by first | exact Or.inl rfl | exact Or.inr rfl) (pv 4)) (pss_cons (ps_dput hu (pv 2) (pe_tup (pa_cons pe_int (pa_cons (pe_ix ix_seq (pe_ix ix_seq (pv 1) (pv 4) (fun _ _ => rfl)) pe_int (fun _ _ => rfl)) pa_nil))) (pv 4) rfl) (pss_cons (ps_dput hu (pv 2) (pe_tup (pa_cons pe_int (pa_cons (pe_ix ix_seq (pe_ix ix_seq (pv 1) (pv 4) (fun _ _ => rfl)) pe_int (fun _ _ => rfl)) pa_nil))) (pv 4) rfl) pss_nil))))) (pss_cons (ps_ret (pe_cmpR o_lt (pe_callB c_len (by rfl) g.x_len (by decide +kernel) (pa_cons (pv 2) pa_nil)) (pe_callB c_len (by rfl) g.x_len (by decide +kernel) (pa_cons (pv 0) pa_nil)) (nomark _))) pss_nil))))
theorem ok__law_right {f : Addr} {fd : FuncData} (F : Fun T.K "_law_right" "_law_right" s__law_right f fd) (g : Glo T mg) (c__law_no : Cal2 P w T.K mg base 1 "_law_no" (sp__law_no T)) (c__law_yes : Cal2 P w T.K mg base 1 "_law_yes" (sp__law_yes T)) : FnOk P w T.K mg base (L2.CX P w) 2 f fd ["_law_found", "_law_pairs_here"] (sp__law_right T) := by
  have sc := sc__law_right
  refine F.okX sc (fun vs H Q E h => ?_) (fun cdv A outer s H vs Q E hr h => ⟨t__law_right T E, ?_, pure__law_right h⟩)
  · revert h; unfold sp__law_right; walk_at "vs"
  · have hu := hu_of hr
    exact (pss_cons (ps_if (PW.pt (pw_or (pt_not (pt_val (pe_callB call_isi (by rfl) g.x_isinstance (by decide +kernel) (pa_cons (pv 0) (pa_cons (pe_bltn (v := .ty "tuple") (by rfl) g.x_tuple (by decide +kernel) rfl) pa_nil))))) (pw_or (pt_cmpR (o_ne hr.units) (pe_callB c_len (by rfl) g.x_len (by decide +kernel) (pa_cons (pv 0) pa_nil)) pe_int (nomark _)) (pw_or1 (pt_not (pt_val (pe_callB call_isi (by rfl) g.x_isinstance (by decide +kernel) (pa_cons (pe_ix ix_seq (pv 0) pe_int (fun _ _ => rfl)) (pa_cons (pe_bltn (v := .ty "list") (by rfl) g.x_list (by decide +kernel) rfl) pa_nil))))))))) (pss_cons (ps_ret pe_bl) pss_nil) pss_nil) (pss_cons (ps_if (pt_cmpR (o_eq hr.units) (pe_ix ix_seq (pv 0) pe_int (fun _ _ => rfl)) pe_str (nomark _)) (pss_cons (ps_ret (pe_c2 c__law_yes hr (by decide) (passes_call (takes_of rfl rfl rfl rfl) (fun _ _ _ _ h => h)) rfl (pa_cons (pe_ix ix_seq (pv 0) pe_int (fun _ _ => rfl)) (pa_cons (pv 1) pa_nil)))) pss_nil) pss_nil) (pss_cons (ps_ret (pe_and (pe_cmpR (o_eq hr.units) (pe_ix ix_seq (pv 0) pe_int (fun _ _ => rfl)) pe_str (nomark _)) (pe_one (pe_c2 c__law_no hr (by decide) (passes_call (takes_of rfl rfl rfl rfl) (fun _ _ _ _ h => h)) rfl (pa_cons (pe_ix ix_seq (pv 0) pe_int (fun _ _ => rfl)) (pa_cons (pv 1) pa_nil)))))) pss_nil)))
theorem ok_law {f : Addr} {fd : FuncData} (F : Fun T.K "law" "law" s_law f fd) (g : Glo T mg) (c__law_cell_at : Cal2 P w T.K mg base 1 "_law_cell_at" (sp__law_cell_at T)) (c__law_mixed : Cal2 P w T.K mg base 1 "_law_mixed" (sp__law_mixed T)) (c__law_pairs : Cal2 P w T.K mg base 2 "_law_pairs" (sp__law_pairs T)) (c__law_right : Cal2 P w T.K mg base 2 "_law_right" (sp__law_right T)) (c_seated : Cal2 P w T.K mg base 3 "seated" (sp_seated T)) : FnOk P w T.K mg base (L2.CX P w) 4 f fd ["_law_script"] (sp_law1 T) := by
  have sc := sc_law
  refine F.okX sc (fun vs H Q E h => ?_) (fun cdv A outer s H vs Q E hr h => ⟨t_law T E, ?_, pure_law1 h⟩)
  · revert h; unfold sp_law1; walk_at "vs"
  · have hu := hu_of hr
    exact (pss_cons (ps_set (i := 1) sc.nd rfl (by first | exact Or.inl rfl | exact Or.inr rfl) (pe_c2 c__law_pairs hr (by decide) (passes_call (takes_of rfl rfl rfl rfl) (fun _ _ _ _ h => h)) rfl (pa_cons (pv 0) pa_nil))) (pss_cons (ps_set (i := 2) sc.nd rfl (by first | exact Or.inl rfl | exact Or.inr rfl) (pe_callTy (c_list rfl) (by rfl) g.x_list (by decide +kernel) (pa_cons (pv 1) pa_nil))) (pss_cons (ps_set (i := 3) sc.nd rfl (by first | exact Or.inl rfl | exact Or.inr rfl) (pe_c2 c_seated hr (by decide) (passes_call (takes_of rfl rfl rfl rfl) (fun _ _ _ _ h => h)) rfl (pa_cons (pv 2) pa_nil))) (pss_cons (ps_set (i := 4) sc.nd rfl (by first | exact Or.inl rfl | exact Or.inr rfl) (pe_callTy (c_list rfl) (by rfl) g.x_list (by decide +kernel) (pa_cons (pe_ix ix_seq (pv 3) pe_int (fun _ _ => rfl)) pa_nil))) (pss_cons (ps_if (PW.pt (pw_or (pt_cmpR (o_ne hr.units) (pv 2) (pv 1) (nomark _)) (pw_or1 (pt_not (pt_val (pe_c2 c__law_right hr (by decide) (passes_call (takes_of rfl rfl rfl rfl) (fun _ _ _ _ h => h)) rfl (pa_cons (pv 3) (pa_cons (pv 1) pa_nil)))))))) (pss_cons (ps_ret pe_bl) pss_nil) pss_nil) (pss_cons (ps_set (i := 5) sc.nd rfl (by first | exact Or.inl rfl | exact Or.inr rfl) (pe_c2 c__law_mixed hr (by decide) (passes_call (takes_of rfl rfl rfl rfl) (fun _ _ _ _ h => h)) rfl (pa_cons (pe_c2 c__law_cell_at hr (by decide) (passes_call (takes_of rfl rfl rfl rfl) (fun _ _ _ _ h => h)) rfl (pa_cons (pv 0) (pa_cons pe_int pa_nil))) (pa_cons pe_int pa_nil)))) (pss_cons (ps_expr (pe_bm PySem.F.plainAttrs_list PySem.F.slot_list_append PySem.F.type_list_append mt_append (pv 2) (pa_cons (pe_tup (pa_cons (pe_op o_mod (pv 5) pe_int) (pa_cons (pe_op o_mod (pe_op o_div (pv 5) pe_int) pe_int) pa_nil))) pa_nil))) (pss_cons (ps_if (PW.pt (pw_and (pt_cmpR (o_eq hr.units) (pe_op o_mod (pe_c2 c__law_cell_at hr (by decide) (passes_call (takes_of rfl rfl rfl rfl) (fun _ _ _ _ h => h)) rfl (pa_cons (pv 0) (pa_cons pe_int pa_nil))) pe_int) pe_int (nomark _)) (pw_and1 (pt_cmpR (o_ne hr.units) (pv 1) (pe_lst pa_nil) (nomark _))))) (pss_cons (ps_asg (pe_tup (pa_cons (pe_ix ix_seq (pe_ix ix_seq (pv 1) pe_int (fun _ _ => rfl)) pe_int (fun _ _ => rfl)) (pa_cons (pe_ix ix_seq (pe_ix ix_seq (pv 1) (pe_un o_neg pe_int) (fun _ _ => rfl)) pe_int (fun _ _ => rfl)) pa_nil))) (pg_sub (pv 2) (pe_un o_neg pe_int) set_list)) pss_nil) pss_nil) (pss_cons (ps_ret (pe_and (pe_c2 c__law_right hr (by decide) (passes_call (takes_of rfl rfl rfl rfl) (fun _ _ _ _ h => h)) rfl (pa_cons (pe_c2 c_seated hr (by decide) (passes_call (takes_of rfl rfl rfl rfl) (fun _ _ _ _ h => h)) rfl (pa_cons (pv 2) pa_nil)) (pa_cons (pv 2) pa_nil))) (pe_one (pe_cmpR (o_eq hr.units) (pe_ix ix_seq (pv 3) pe_int (fun _ _ => rfl)) (pv 4) (nomark _))))) pss_nil)))))))))
end
theorem all_mk {P : Program} {w : World} {K : PySem.W.Frag} {h : Heap} {mg : Str → Option Value} {fa f1 f2 f3 f4 f5 f6 f7 f8 f9 f10 f11 f12 f13 : Addr} (X : K.In h) (G : h.Ns mainGlobals mg) (hfa : mg "law" = some (.ref fa))
    {od1 an1 : Option Addr} {sl1 : Array (Option Value)} {oc1 kV1 dc1 pm1 cd1 ct1 : Value} {od2 an2 : Option Addr} {sl2 : Array (Option Value)} {oc2 kV2 dc2 pm2 cd2 ct2 : Value} {od3 an3 : Option Addr} {sl3 : Array (Option Value)} {oc3 kV3 dc3 pm3 cd3 ct3 : Value} {od4 an4 : Option Addr} {sl4 : Array (Option Value)} {oc4 kV4 dc4 pm4 cd4 ct4 : Value} {od5 an5 : Option Addr} {sl5 : Array (Option Value)} {oc5 kV5 dc5 pm5 cd5 ct5 : Value} {od6 an6 : Option Addr} {sl6 : Array (Option Value)} {oc6 kV6 dc6 pm6 cd6 ct6 : Value} {od7 an7 : Option Addr} {sl7 : Array (Option Value)} {oc7 kV7 dc7 pm7 cd7 ct7 : Value} {od8 an8 : Option Addr} {sl8 : Array (Option Value)} {oc8 kV8 dc8 pm8 cd8 ct8 : Value} {od9 an9 : Option Addr} {sl9 : Array (Option Value)} {oc9 kV9 dc9 pm9 cd9 ct9 : Value} {od10 an10 : Option Addr} {sl10 : Array (Option Value)} {oc10 kV10 dc10 pm10 cd10 ct10 : Value} {od11 an11 : Option Addr} {sl11 : Array (Option Value)} {oc11 kV11 dc11 pm11 cd11 ct11 : Value} {od12 an12 : Option Addr} {sl12 : Array (Option Value)} {oc12 kV12 dc12 pm12 cd12 ct12 : Value} {od13 an13 : Option Addr} {sl13 : Array (Option Value)} {oc13 kV13 dc13 pm13 cd13 ct13 : Value}
    (a1 : PySem.W.nsIn K mainGlobals "_law_cell_at" = some (some (.ref f1)))
    (l1 : K.lookup f1 = some ⟨oc1, od1, .func (PySem.W.fnOf "_law_cell_at" "_law_cell_at" (defArgs s__law_cell_at) (defBody s__law_cell_at) (defScope s__law_cell_at) .none kV1 dc1 pm1 an1 cd1 ct1), sl1⟩)
    (c1 : PySem.W.codeIn K cd1 "_law_cell_at" = true)
    (k1 : PySem.W.keepIn K (.ref f1) = true)
    (a2 : PySem.W.nsIn K mainGlobals "_law_room" = some (some (.ref f2)))
    (l2 : K.lookup f2 = some ⟨oc2, od2, .func (PySem.W.fnOf "_law_room" "_law_room" (defArgs s__law_room) (defBody s__law_room) (defScope s__law_room) .none kV2 dc2 pm2 an2 cd2 ct2), sl2⟩)
    (c2 : PySem.W.codeIn K cd2 "_law_room" = true)
    (k2 : PySem.W.keepIn K (.ref f2) = true)
    (a3 : PySem.W.nsIn K mainGlobals "_law_mixed" = some (some (.ref f3)))
    (l3 : K.lookup f3 = some ⟨oc3, od3, .func (PySem.W.fnOf "_law_mixed" "_law_mixed" (defArgs s__law_mixed) (defBody s__law_mixed) (defScope s__law_mixed) .none kV3 dc3 pm3 an3 cd3 ct3), sl3⟩)
    (c3 : PySem.W.codeIn K cd3 "_law_mixed" = true)
    (k3 : PySem.W.keepIn K (.ref f3) = true)
    (a4 : PySem.W.nsIn K mainGlobals "_law_pairs" = some (some (.ref f4)))
    (l4 : K.lookup f4 = some ⟨oc4, od4, .func (PySem.W.fnOf "_law_pairs" "_law_pairs" (defArgs s__law_pairs) (defBody s__law_pairs) (defScope s__law_pairs) .none kV4 dc4 pm4 an4 cd4 ct4), sl4⟩)
    (c4 : PySem.W.codeIn K cd4 "_law_pairs" = true)
    (k4 : PySem.W.keepIn K (.ref f4) = true)
    (a5 : PySem.W.nsIn K mainGlobals "next_place" = some (some (.ref f5)))
    (l5 : K.lookup f5 = some ⟨oc5, od5, .func (PySem.W.fnOf "next_place" "next_place" (defArgs s_next_place) (defBody s_next_place) (defScope s_next_place) .none kV5 dc5 pm5 an5 cd5 ct5), sl5⟩)
    (c5 : PySem.W.codeIn K cd5 "next_place" = true)
    (k5 : PySem.W.keepIn K (.ref f5) = true)
    (a6 : PySem.W.nsIn K mainGlobals "way_from" = some (some (.ref f6)))
    (l6 : K.lookup f6 = some ⟨oc6, od6, .func (PySem.W.fnOf "way_from" "way_from" (defArgs s_way_from) (defBody s_way_from) (defScope s_way_from) .none kV6 dc6 pm6 an6 cd6 ct6), sl6⟩)
    (c6 : PySem.W.codeIn K cd6 "way_from" = true)
    (k6 : PySem.W.keepIn K (.ref f6) = true)
    (a7 : PySem.W.nsIn K mainGlobals "owners" = some (some (.ref f7)))
    (l7 : K.lookup f7 = some ⟨oc7, od7, .func (PySem.W.fnOf "owners" "owners" (defArgs s_owners) (defBody s_owners) (defScope s_owners) .none kV7 dc7 pm7 an7 cd7 ct7), sl7⟩)
    (c7 : PySem.W.codeIn K cd7 "owners" = true)
    (k7 : PySem.W.keepIn K (.ref f7) = true)
    (a8 : PySem.W.nsIn K mainGlobals "shifted" = some (some (.ref f8)))
    (l8 : K.lookup f8 = some ⟨oc8, od8, .func (PySem.W.fnOf "shifted" "shifted" (defArgs s_shifted) (defBody s_shifted) (defScope s_shifted) .none kV8 dc8 pm8 an8 cd8 ct8), sl8⟩)
    (c8 : PySem.W.codeIn K cd8 "shifted" = true)
    (k8 : PySem.W.keepIn K (.ref f8) = true)
    (a9 : PySem.W.nsIn K mainGlobals "seated" = some (some (.ref f9)))
    (l9 : K.lookup f9 = some ⟨oc9, od9, .func (PySem.W.fnOf "seated" "seated" (defArgs s_seated) (defBody s_seated) (defScope s_seated) .none kV9 dc9 pm9 an9 cd9 ct9), sl9⟩)
    (c9 : PySem.W.codeIn K cd9 "seated" = true)
    (k9 : PySem.W.keepIn K (.ref f9) = true)
    (a10 : PySem.W.nsIn K mainGlobals "_law_yes" = some (some (.ref f10)))
    (l10 : K.lookup f10 = some ⟨oc10, od10, .func (PySem.W.fnOf "_law_yes" "_law_yes" (defArgs s__law_yes) (defBody s__law_yes) (defScope s__law_yes) .none kV10 dc10 pm10 an10 cd10 ct10), sl10⟩)
    (c10 : PySem.W.codeIn K cd10 "_law_yes" = true)
    (k10 : PySem.W.keepIn K (.ref f10) = true)
    (a11 : PySem.W.nsIn K mainGlobals "_law_no" = some (some (.ref f11)))
    (l11 : K.lookup f11 = some ⟨oc11, od11, .func (PySem.W.fnOf "_law_no" "_law_no" (defArgs s__law_no) (defBody s__law_no) (defScope s__law_no) .none kV11 dc11 pm11 an11 cd11 ct11), sl11⟩)
    (c11 : PySem.W.codeIn K cd11 "_law_no" = true)
    (k11 : PySem.W.keepIn K (.ref f11) = true)
    (a12 : PySem.W.nsIn K mainGlobals "_law_right" = some (some (.ref f12)))
    (l12 : K.lookup f12 = some ⟨oc12, od12, .func (PySem.W.fnOf "_law_right" "_law_right" (defArgs s__law_right) (defBody s__law_right) (defScope s__law_right) .none kV12 dc12 pm12 an12 cd12 ct12), sl12⟩)
    (c12 : PySem.W.codeIn K cd12 "_law_right" = true)
    (k12 : PySem.W.keepIn K (.ref f12) = true)
    (a13 : PySem.W.nsIn K mainGlobals "law" = some (some (.ref f13)))
    (l13 : K.lookup f13 = some ⟨oc13, od13, .func (PySem.W.fnOf "law" "law" (defArgs s_law) (defBody s_law) (defScope s_law) .none kV13 dc13 pm13 an13 cd13 ct13), sl13⟩)
    (c13 : PySem.W.codeIn K cd13 "law" = true)
    (k13 : PySem.W.keepIn K (.ref f13) = true)
    (z_bool : PySem.W.nsIn K mainGlobals "bool" = some none)
    (z_enumerate : PySem.W.nsIn K mainGlobals "enumerate" = some none)
    (z_int : PySem.W.nsIn K mainGlobals "int" = some none)
    (z_isinstance : PySem.W.nsIn K mainGlobals "isinstance" = some none)
    (z_len : PySem.W.nsIn K mainGlobals "len" = some none)
    (z_list : PySem.W.nsIn K mainGlobals "list" = some none)
    (z_range : PySem.W.nsIn K mainGlobals "range" = some none)
    (z_reversed : PySem.W.nsIn K mainGlobals "reversed" = some none)
    (z_sorted : PySem.W.nsIn K mainGlobals "sorted" = some none)
    (z_tuple : PySem.W.nsIn K mainGlobals "tuple" = some none)
    : ∃ fd : FuncData, (∀ (s : Shared) (u : Value), BindsTo s fd ⟨[u], []⟩ [("_law_script", u)]) ∧ ∀ base : Heap, K.In base → base.Ns mainGlobals mg → FnOk P w K mg base (L2.CX P w) 4 fa fd ["_law_script"] (spL K) := by
  have e := hfa.symm.trans (PySem.W.mg_of X G a13)
  cases e
  let T : Tx := { K := K, a_Nests := fa, a_NestError := fa, a_NoNests := fa, a_NoName := fa, a_NoValue := fa, a_NoNest := fa, a_NoHome := fa, a_Taken := fa, a_Twice := fa, a_NoRoom := fa, a_Unknown := fa, a_NoNote := fa }
  have g : Glo T mg := {
    x_bool := PySem.W.mg_none_of X G z_bool
    x_enumerate := PySem.W.mg_none_of X G z_enumerate
    x_int := PySem.W.mg_none_of X G z_int
    x_isinstance := PySem.W.mg_none_of X G z_isinstance
    x_len := PySem.W.mg_none_of X G z_len
    x_list := PySem.W.mg_none_of X G z_list
    x_range := PySem.W.mg_none_of X G z_range
    x_reversed := PySem.W.mg_none_of X G z_reversed
    x_sorted := PySem.W.mg_none_of X G z_sorted
    x_tuple := PySem.W.mg_none_of X G z_tuple
  }
  have F1 := fun_mk (st := s__law_cell_at) l1 c1 k1
  have b1 := F1.binds (ps := ["_law_script", "_law_k"]) fun _ _ _ _ _ _ us hl => match us, hl with | [_, _], _ => rfl
  have F2 := fun_mk (st := s__law_room) l2 c2 k2
  have b2 := F2.binds (ps := ["_law_script", "_law_few", "_law_many"]) fun _ _ _ _ _ _ us hl => match us, hl with | [_, _, _], _ => rfl
  have F3 := fun_mk (st := s__law_mixed) l3 c3 k3
  have b3 := F3.binds (ps := ["_law_cell", "_law_k"]) fun _ _ _ _ _ _ us hl => match us, hl with | [_, _], _ => rfl
  have F4 := fun_mk (st := s__law_pairs) l4 c4 k4
  have b4 := F4.binds (ps := ["_law_script"]) fun _ _ _ _ _ _ us hl => match us, hl with | [_], _ => rfl
  have F5 := fun_mk (st := s_next_place) l5 c5 k5
  have b5 := F5.binds (ps := ["pairs", "places", "place"]) fun _ _ _ _ _ _ us hl => match us, hl with | [_, _, _], _ => rfl
  have F6 := fun_mk (st := s_way_from) l6 c6 k6
  have b6 := F6.binds (ps := ["pairs", "places", "place"]) fun _ _ _ _ _ _ us hl => match us, hl with | [_, _, _], _ => rfl
  have F7 := fun_mk (st := s_owners) l7 c7 k7
  have b7 := F7.binds (ps := ["places", "found", "number"]) fun _ _ _ _ _ _ us hl => match us, hl with | [_, _, _], _ => rfl
  have F8 := fun_mk (st := s_shifted) l8 c8 k8
  have b8 := F8.binds (ps := ["places", "way"]) fun _ _ _ _ _ _ us hl => match us, hl with | [_, _], _ => rfl
  have F9 := fun_mk (st := s_seated) l9 c9 k9
  have b9 := F9.binds (ps := ["pairs"]) fun _ _ _ _ _ _ us hl => match us, hl with | [_], _ => rfl
  have F10 := fun_mk (st := s__law_yes) l10 c10 k10
  have b10 := F10.binds (ps := ["_law_rows", "_law_pairs_here"]) fun _ _ _ _ _ _ us hl => match us, hl with | [_, _], _ => rfl
  have F11 := fun_mk (st := s__law_no) l11 c11 k11
  have b11 := F11.binds (ps := ["_law_numbers", "_law_pairs_here"]) fun _ _ _ _ _ _ us hl => match us, hl with | [_, _], _ => rfl
  have F12 := fun_mk (st := s__law_right) l12 c12 k12
  have b12 := F12.binds (ps := ["_law_found", "_law_pairs_here"]) fun _ _ _ _ _ _ us hl => match us, hl with | [_, _], _ => rfl
  have F13 := fun_mk (st := s_law) l13 c13 k13
  have b13 := F13.binds (ps := ["_law_script"]) fun _ _ _ _ _ _ us hl => match us, hl with | [_], _ => rfl
  refine ⟨PySem.W.fnOf "law" "law" (defArgs s_law) (defBody s_law) (defScope s_law) .none kV13 dc13 pm13 an13 cd13 ct13, fun s u => .of_eq rfl, fun base _ _ => ?_⟩
  have c__law_cell_at : Cal2 P w T.K mg base 1 "_law_cell_at" (sp__law_cell_at T) := ⟨_, _, _, ok__law_cell_at (T := T) F1 g , PySem.W.mg_of X G a1, k1, b1⟩
  have c__law_room : Cal2 P w T.K mg base 1 "_law_room" (sp__law_room T) := ⟨_, _, _, ok__law_room (T := T) F2 g , PySem.W.mg_of X G a2, k2, b2⟩
  have c__law_mixed : Cal2 P w T.K mg base 1 "_law_mixed" (sp__law_mixed T) := ⟨_, _, _, ok__law_mixed (T := T) F3 g , PySem.W.mg_of X G a3, k3, b3⟩
  have c__law_pairs : Cal2 P w T.K mg base 2 "_law_pairs" (sp__law_pairs T) := ⟨_, _, _, ok__law_pairs (T := T) F4 g c__law_cell_at c__law_mixed c__law_room, PySem.W.mg_of X G a4, k4, b4⟩
  have c_next_place : Cal2 P w T.K mg base 1 "next_place" (sp_next_place T) := ⟨_, _, _, ok_next_place (T := T) F5 g , PySem.W.mg_of X G a5, k5, b5⟩
  have c_way_from : Cal2 P w T.K mg base 2 "way_from" (sp_way_from T) := ⟨_, _, _, ok_way_from (T := T) F6 g c_next_place, PySem.W.mg_of X G a6, k6, b6⟩
  have c_owners : Cal2 P w T.K mg base 1 "owners" (sp_owners T) := ⟨_, _, _, ok_owners (T := T) F7 g , PySem.W.mg_of X G a7, k7, b7⟩
  have c_shifted : Cal2 P w T.K mg base 1 "shifted" (sp_shifted T) := ⟨_, _, _, ok_shifted (T := T) F8 g , PySem.W.mg_of X G a8, k8, b8⟩
  have c_seated : Cal2 P w T.K mg base 3 "seated" (sp_seated T) := ⟨_, _, _, ok_seated (T := T) F9 g c_owners c_shifted c_way_from, PySem.W.mg_of X G a9, k9, b9⟩
  have c__law_yes : Cal2 P w T.K mg base 1 "_law_yes" (sp__law_yes T) := ⟨_, _, _, ok__law_yes (T := T) F10 g , PySem.W.mg_of X G a10, k10, b10⟩
  have c__law_no : Cal2 P w T.K mg base 1 "_law_no" (sp__law_no T) := ⟨_, _, _, ok__law_no (T := T) F11 g , PySem.W.mg_of X G a11, k11, b11⟩
  have c__law_right : Cal2 P w T.K mg base 2 "_law_right" (sp__law_right T) := ⟨_, _, _, ok__law_right (T := T) F12 g c__law_no c__law_yes, PySem.W.mg_of X G a12, k12, b12⟩
  exact ok_law (T := T) F13 g c__law_cell_at c__law_mixed c__law_pairs c__law_right c_seated
theorem walk {l : PySem.W.OpenLaw} {q : Program} {loose : List Str} {XP : (Str → Option Value) → Heap → Prop} {YP : World → Heap → Prop} {d : DefRec} {K : Params → PySem.W.Frag} (hn : l.most = some 63) (hdf : d.params.defaults = [])
    (hY : ∀ (w : World) (h : Heap), YP w h → (K w.params).In h)
    (F : ∀ (w : World) (mg : Str → Option Value) (fa : Addr) (h : Heap), (K w.params).In h → h.Ns mainGlobals mg → mg d.name = some (.ref fa) →
      ∃ fd : FuncData, (∀ (s : Shared) (u : Value), BindsTo s fd ⟨[u], []⟩ [("_law_script", u)]) ∧ ∀ base : Heap, (K w.params).In base → base.Ns mainGlobals mg → FnOk l.prog w (K w.params) mg base (L2.CX l.prog w) 4 fa fd ["_law_script"] (spL (K w.params))) :
    PySem.W.WalkO q loose XP YP l.row.toRowW d [] (fun f vs => PySem.call f vs) :=
  L2.walk_of (n := 63) (k := 4) (x := "_law_script") (CX := fun w => L2.CX l.prog w) (sp := fun w => spL (K w.params)) hn (by decide) hdf ⟨rfl, by decide, by decide⟩ hY F (fun _ H a ns hl _ hS => spL_entry hl hS) fun _ _ _ _ _ z => by
    obtain ⟨_, _, _, _, _, _, _, _, _, _, _, _, z⟩ := z
    exact z
end Tn
open PySem PySem.W PyProof.Rows
theorem PySem.Challenge.cw_twonests_k03_whole_seats_holds : PySem.Challenge.rw_twonests_k03_whole_seats.Holds := by
  w_on; o_law; k_head; (case hw => w_witness2)
  k_fill
  refine Tn.walk (l := PySem.Challenge.rw_twonests_k03_whole_seats) rfl rfl (fun w h Y => PySem.W.kIn_of Y) ?F
  case F =>
    intro w mg fa h KX G hmg
    refine' Tn.all_mk KX G hmg ?a1 ?l1 ?c1 ?k1 ?a2 ?l2 ?c2 ?k2 ?a3 ?l3 ?c3 ?k3 ?a4 ?l4 ?c4 ?k4 ?a5 ?l5 ?c5 ?k5 ?a6 ?l6 ?c6 ?k6 ?a7 ?l7 ?c7 ?k7 ?a8 ?l8 ?c8 ?k8 ?a9 ?l9 ?c9 ?k9 ?a10 ?l10 ?c10 ?k10 ?a11 ?l11 ?c11 ?k11 ?a12 ?l12 ?c12 ?k12 ?a13 ?l13 ?c13 ?k13 ?z_bool ?z_enumerate ?z_int ?z_isinstance ?z_len ?z_list ?z_range ?z_reversed ?z_sorted ?z_tuple
    (case a1 => k_is)
    (case l1 => k_is)
    (case c1 => k_is)
    (case k1 => k_is)
    (case a2 => k_is)
    (case l2 => k_is)
    (case c2 => k_is)
    (case k2 => k_is)
    (case a3 => k_is)
    (case l3 => k_is)
    (case c3 => k_is)
    (case k3 => k_is)
    (case a4 => k_is)
    (case l4 => k_is)
    (case c4 => k_is)
    (case k4 => k_is)
    (case a5 => k_is)
    (case l5 => k_is)
    (case c5 => k_is)
    (case k5 => k_is)
    (case a6 => k_is)
    (case l6 => k_is)
    (case c6 => k_is)
    (case k6 => k_is)
    (case a7 => k_is)
    (case l7 => k_is)
    (case c7 => k_is)
    (case k7 => k_is)
    (case a8 => k_is)
    (case l8 => k_is)
    (case c8 => k_is)
    (case k8 => k_is)
    (case a9 => k_is)
    (case l9 => k_is)
    (case c9 => k_is)
    (case k9 => k_is)
    (case a10 => k_is)
    (case l10 => k_is)
    (case c10 => k_is)
    (case k10 => k_is)
    (case a11 => k_is)
    (case l11 => k_is)
    (case c11 => k_is)
    (case k11 => k_is)
    (case a12 => k_is)
    (case l12 => k_is)
    (case c12 => k_is)
    (case k12 => k_is)
    (case a13 => k_is)
    (case l13 => k_is)
    (case c13 => k_is)
    (case k13 => k_is)
    (case z_bool => k_is)
    (case z_enumerate => k_is)
    (case z_int => k_is)
    (case z_isinstance => k_is)
    (case z_len => k_is)
    (case z_list => k_is)
    (case z_range => k_is)
    (case z_reversed => k_is)
    (case z_sorted => k_is)
    (case z_tuple => k_is)

