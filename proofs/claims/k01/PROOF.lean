import PyProof.Rows.All
import Wide.All
import OpenK.AllK
import Wide.FinOn
import HandS.ForMost
import HandS.ForExc
import HandS.TryMany
import HandS.CallSlots
import HandS.Deep
import HandS.IsInst
import HandS.RevRange
import HandS.Rev
import HandS.StrMore
import HandS.TupSets
import HandS.SortInts
import HandS.DictTup
import HandS.TupLen
import HandS.Flow
import HandS.Small
import HandS.SetKeys
import KE.DataEq
import PySem.Challenge.RW_twonests_k01_names_and_homes
set_option Elab.async false
set_option linter.all false
set_option maxRecDepth 100000
set_option maxHeartbeats 4000000
namespace Tn
/-! Growth of the heap over data that stays; data of values; what a reading evaluates to. -/
open PySem PySem.Spec PyProof.Rows L2
/-! ### the heap H, and what of it stays for ever, G -/
def Ex (H H' : Hp) : Prop := ∀ a o, H a = some o → H' a = some o
theorem Ex.refl (H : Hp) : Ex H H := fun _ _ e => e
theorem Ex.trans {H H1 H2 : Hp} (a : Ex H H1) (b : Ex H1 H2) : Ex H H2 := fun _ _ e => b _ _ (a _ _ e)
theorem Ex.new {H : Hp} {p : Addr} {o : HO} (h : H p = none) : Ex H (upd H p o) := fun a u e => by
  rw [upd_ne (ne_of_none e h)]
  exact e
/-- G grows to G', H to H'; only the objects at M may change -/
structure Gr (M : List Addr) (G H G' H' : Hp) : Prop where
  g : Ex G G'
  s : Ex G' H'
  n : ∀ b o, H b = some o → G b = none → G' b = none
  h : ∀ b o, b ∉ M → H b = some o → H' b = some o
  a : ∀ b o, H b = some o → ∃ o', H' b = some o'
theorem Gr.refl {G H : Hp} (e : Ex G H) (M : List Addr) : Gr M G H G H := ⟨Ex.refl G, e, fun _ _ _ e => e, fun _ _ _ e => e, fun _ o e => ⟨o, e⟩⟩
theorem Gr.trans {M : List Addr} {G H G1 H1 G2 H2 : Hp} (x : Gr M G H G1 H1) (y : Gr M G1 H1 G2 H2) : Gr M G H G2 H2 :=
  ⟨x.g.trans y.g, y.s, fun b o e q => by
    obtain ⟨o', e'⟩ := x.a b o e
    exact y.n b o' e' (x.n b o e q), fun b o m e => y.h b o m (x.h b o m e), fun b o e => by
    obtain ⟨o', e'⟩ := x.a b o e
    exact y.a b o' e'⟩
theorem Gr.wide {M M' : List Addr} {G H G' H' : Hp} (x : Gr M G H G' H') (h : ∀ b ∈ M, b ∈ M') : Gr M' G H G' H' :=
  ⟨x.g, x.s, x.n, fun b o m e => x.h b o (fun q => m (h b q)) e, x.a⟩
theorem Gr.to {M : List Addr} {G H G' H' : Hp} (x : Gr [] G H G' H') : Gr M G H G' H' := x.wide fun _ q => nomatch q
theorem Gr.hx {G H G' H' : Hp} (x : Gr [] G H G' H') : Ex H H' := fun b o e => x.h b o (List.not_mem_nil) e
theorem Gr.fresh {M : List Addr} {G H G' H' : Hp} (x : Gr M G H G' H') {p : Addr} (h : H' p = none) : H p = none := by
  cases e : H p with
  | none => rfl
  | some o =>
    obtain ⟨o', e'⟩ := x.a p o e
    rw [h] at e'
    cases e'
/-- a new object that may change later -/
theorem Gr.newM {G H : Hp} {p : Addr} {o : HO} (b : Ex G H) (h : H p = none) : Gr [] G H G (upd H p o) :=
  ⟨Ex.refl G, b.trans (Ex.new h), fun _ _ _ e => e, fun _ _ _ e => Ex.new h _ _ e, fun _ u e => ⟨u, Ex.new h _ _ e⟩⟩
theorem ex_none {G H : Hp} (b : Ex G H) {p : Addr} (h : H p = none) : G p = none := by
  cases e : G p with
  | none => rfl
  | some o =>
    have := b _ _ e
    rw [h] at this
    cases this
/-- a new object that stays -/
theorem Gr.newD {G H : Hp} {p : Addr} {o : HO} (b : Ex G H) (h : H p = none) : Gr [] G H (upd G p o) (upd H p o) :=
  ⟨Ex.new (ex_none b h), fun a u e => by
    by_cases q : a = p
    · subst q
      rw [upd_same] at e ⊢
      exact e
    · rw [upd_ne q] at e ⊢
      exact b _ _ e, fun a u e q => by
    rw [upd_ne (ne_of_none e h)]
    exact q, fun _ _ _ e => Ex.new h _ _ e, fun _ u e => ⟨u, Ex.new h _ _ e⟩⟩
/-- the object at l changes -/
theorem Gr.mut {G H : Hp} {l : Addr} {o : HO} (b : Ex G H) (h : G l = none) : Gr [l] G H G (upd H l o) :=
  ⟨Ex.refl G, fun a u e => by
    have q : a ≠ l := fun z => by
      rw [z, h] at e
      cases e
    rw [upd_ne q]
    exact b _ _ e, fun _ _ _ e => e, fun a u m e => by
    have q : a ≠ l := fun z => m (by rw [z]; exact List.mem_singleton.mpr rfl)
    rw [upd_ne q]
    exact e, fun a u e => by
    by_cases q : a = l
    · exact ⟨o, by rw [q, upd_same]⟩
    · exact ⟨u, by rw [upd_ne q]; exact e⟩⟩
/-- what changed by now stays -/
theorem Gr.fix {M : List Addr} {G H G' H' : Hp} {p : Addr} {o : HO} (x : Gr M G H G' H') (n : H p = none) (e : H' p = some o) (q : G' p = none) : Gr M G H (upd G' p o) H' :=
  ⟨x.g.trans (Ex.new q), fun a u w => by
    by_cases z : a = p
    · rw [z, upd_same] at w
      rw [z, e]
      exact w
    · rw [upd_ne z] at w
      exact x.s _ _ w, fun b o' w z => by
    rw [upd_ne (ne_of_none w n)]
    exact x.n b o' w z, x.h, x.a⟩
/-! ### the data that a value is -/
mutual
def Dt (G : Hp) : PyData → V → Prop
  | .none, v => v = .non
  | .bool b, v => v = .bl b
  | .int i, v => v = .int i
  | .str s, v => v = .str s
  | .list ds, v => ∃ a xs, v = .ref a ∧ G a = some (.lst xs) ∧ Dts G ds xs
  | .tuple ds, v => ∃ a xs, v = .ref a ∧ G a = some (.tup xs) ∧ Dts G ds xs
  | .dict _, _ => False
def Dts (G : Hp) : List PyData → List V → Prop
  | [], vs => vs = []
  | d :: ds, vs => ∃ x xs, vs = x :: xs ∧ Dt G d x ∧ Dts G ds xs
end
mutual
theorem Dt.mono {G G' : Hp} (e : Ex G G') : ∀ (d : PyData) {v : V}, Dt G d v → Dt G' d v
  | .none, _, h => h
  | .bool _, _, h => h
  | .int _, _, h => h
  | .str _, _, h => h
  | .list ds, v, h => by
    obtain ⟨a, xs, h1, h2, h3⟩ := h
    exact ⟨a, xs, h1, e _ _ h2, Dts.mono e ds h3⟩
  | .tuple ds, v, h => by
    obtain ⟨a, xs, h1, h2, h3⟩ := h
    exact ⟨a, xs, h1, e _ _ h2, Dts.mono e ds h3⟩
  | .dict _, _, h => h
theorem Dts.mono {G G' : Hp} (e : Ex G G') : ∀ (ds : List PyData) {vs : List V}, Dts G ds vs → Dts G' ds vs
  | [], _, h => h
  | d :: ds, vs, h => by
    obtain ⟨x, xs, h1, h2, h3⟩ := h
    exact ⟨x, xs, h1, Dt.mono e d h2, Dts.mono e ds h3⟩
end
mutual
theorem Dt.dp {G H : Hp} {K : PySem.W.Frag} (e : Ex G H) : ∀ (d : PyData) {v : V}, Dt G d v → Dp K H v d
  | .none, _, h => by cases h; exact .non
  | .bool _, _, h => by cases h; exact .bl _
  | .int _, _, h => by cases h; exact .int _
  | .str _, _, h => by cases h; exact .str _
  | .list ds, v, h => by
    obtain ⟨a, xs, rfl, h2, h3⟩ := h
    exact .lst (SqL.of (e _ _ h2)) (Dts.dp e ds h3)
  | .tuple ds, v, h => by
    obtain ⟨a, xs, rfl, h2, h3⟩ := h
    exact .tup (SqT.of (e _ _ h2)) (Dts.dp e ds h3)
  | .dict _, _, h => h.elim
theorem Dts.dp {G H : Hp} {K : PySem.W.Frag} (e : Ex G H) : ∀ (ds : List PyData) {vs : List V}, Dts G ds vs → DpAll K H vs ds
  | [], _, h => by cases h; exact .nil
  | d :: ds, vs, h => by
    obtain ⟨x, xs, rfl, h2, h3⟩ := h
    exact .cons (Dt.dp e d h2) (Dts.dp e ds h3)
end
theorem Dt.gr {M : List Addr} {G H G' H' : Hp} {d : PyData} {v : V} (g : Gr M G H G' H') (h : Dt G d v) : Dt G' d v := Dt.mono g.g d h
theorem Dts.len {G : Hp} : ∀ {ds : List PyData} {vs : List V}, Dts G ds vs → vs.length = ds.length
  | [], _, h => by cases h; rfl
  | d :: ds, vs, h => by
    obtain ⟨x, xs, rfl, _, h3⟩ := h
    simp [Dts.len h3]
theorem Dts.get {G : Hp} : ∀ {ds : List PyData} {vs : List V} {i : Nat} {d : PyData}, Dts G ds vs → ds[i]? = some d → ∃ v, vs[i]? = some v ∧ Dt G d v
  | [], _, i, _, _, e => by simp at e
  | d :: ds, vs, 0, _, h, e => by
    obtain ⟨x, xs, rfl, h2, h3⟩ := h
    simp at e
    subst e
    exact ⟨x, rfl, h2⟩
  | d :: ds, vs, i + 1, _, h, e => by
    obtain ⟨x, xs, rfl, h2, h3⟩ := h
    simp at e
    obtain ⟨v, q1, q2⟩ := Dts.get h3 e
    exact ⟨v, by simpa using q1, q2⟩
theorem Dts.get' {G : Hp} : ∀ {ds : List PyData} {vs : List V} {i : Nat} {v : V}, Dts G ds vs → vs[i]? = some v → ∃ d, ds[i]? = some d ∧ Dt G d v
  | [], _, i, _, h, e => by cases h; simp at e
  | d :: ds, vs, 0, _, h, e => by
    obtain ⟨x, xs, rfl, h2, h3⟩ := h
    simp at e
    subst e
    exact ⟨d, rfl, h2⟩
  | d :: ds, vs, i + 1, _, h, e => by
    obtain ⟨x, xs, rfl, h2, h3⟩ := h
    simp at e
    obtain ⟨d', q1, q2⟩ := Dts.get' h3 e
    exact ⟨d', by simpa using q1, q2⟩
theorem Dts.app {G : Hp} : ∀ {ds es : List PyData} {vs ws : List V}, Dts G ds vs → Dts G es ws → Dts G (ds ++ es) (vs ++ ws)
  | [], _, _, _, h, k => by cases h; exact k
  | d :: ds, es, vs, ws, h, k => by
    obtain ⟨x, xs, rfl, h2, h3⟩ := h
    exact ⟨x, xs ++ ws, rfl, h2, Dts.app h3 k⟩
theorem Dts.snoc {G : Hp} {ds : List PyData} {vs : List V} {d : PyData} {v : V} (h : Dts G ds vs) (k : Dt G d v) : Dts G (ds ++ [d]) (vs ++ [v]) :=
  h.app ⟨v, [], rfl, k, rfl⟩
theorem Dts.drop {G : Hp} : ∀ {ds : List PyData} {vs : List V} (n : Nat), Dts G ds vs → Dts G (ds.drop n) (vs.drop n)
  | [], _, n, h => by cases h; simp [Dts]
  | d :: ds, vs, 0, h => h
  | d :: ds, vs, n + 1, h => by
    obtain ⟨x, xs, rfl, h2, h3⟩ := h
    exact Dts.drop n h3
theorem Dts.take {G : Hp} : ∀ {ds : List PyData} {vs : List V} (n : Nat), Dts G ds vs → Dts G (ds.take n) (vs.take n)
  | [], _, n, h => by cases h; simp [Dts]
  | d :: ds, vs, 0, h => by simp [Dts]
  | d :: ds, vs, n + 1, h => by
    obtain ⟨x, xs, rfl, h2, h3⟩ := h
    exact ⟨x, xs.take n, rfl, h2, Dts.take n h3⟩
theorem Dts.rev {G : Hp} : ∀ {ds : List PyData} {vs : List V}, Dts G ds vs → Dts G ds.reverse vs.reverse
  | [], _, h => by cases h; simp [Dts]
  | d :: ds, vs, h => by
    obtain ⟨x, xs, rfl, h2, h3⟩ := h
    simp only [List.reverse_cons]
    exact (Dts.rev h3).snoc h2
theorem Dts.ints {G : Hp} : ∀ (ns : List Int), Dts G (ns.map PyData.int) (ns.map V.int)
  | [] => rfl
  | n :: ns => ⟨_, _, rfl, rfl, Dts.ints ns⟩
theorem Dts.of_ints {G : Hp} : ∀ {ns : List Int} {vs : List V}, Dts G (ns.map PyData.int) vs → vs = ns.map V.int
  | [], _, h => h
  | n :: ns, _, h => by
    obtain ⟨x, xs, rfl, h2, h3⟩ := h
    rw [Dts.of_ints h3, h2]
    rfl
theorem Dts.strs {G : Hp} : ∀ (ns : List Str), Dts G (ns.map PyData.str) (ns.map V.str)
  | [] => rfl
  | n :: ns => ⟨_, _, rfl, rfl, Dts.strs ns⟩
theorem Dts.of_strs {G : Hp} : ∀ {ns : List Str} {vs : List V}, Dts G (ns.map PyData.str) vs → vs = ns.map V.str
  | [], _, h => h
  | n :: ns, _, h => by
    obtain ⟨x, xs, rfl, h2, h3⟩ := h
    rw [Dts.of_strs h3, h2]
    rfl
theorem Dts.mapGet {α : Type} {G : Hp} {enc : α → PyData} {xs : List α} {vs : List V} {i : Nat} {v : V} (h : Dts G (xs.map enc) vs) (e : vs[i]? = some v) : ∃ x, xs[i]? = some x ∧ Dt G (enc x) v := by
  obtain ⟨d, q1, q2⟩ := h.get' e
  rw [List.getElem?_map] at q1
  cases z : xs[i]? with
  | none => rw [z] at q1; cases q1
  | some x =>
    rw [z] at q1
    cases q1
    exact ⟨x, rfl, q2⟩
/-! ### what evaluates to what -/
def EvD (te : TE) (σ : L2.St) (G H : Hp) (d : PyData) : Prop := ∀ G1 H1, Gr [] G H G1 H1 → ∀ Q : VK, (∀ v G2 H2, Gr [] G1 H1 G2 H2 → Dt G2 d v → Q v H2) → te σ H1 Q
def EvV (te : TE) (σ : L2.St) (G H : Hp) (v : V) : Prop := ∀ G1 H1, Gr [] G H G1 H1 → ∀ Q : VK, (∀ G2 H2, Gr [] G1 H1 G2 H2 → Q v H2) → te σ H1 Q
/-- a new list, still its maker's own -/
def EvL (te : TE) (σ : L2.St) (G H : Hp) (ds : List PyData) : Prop := ∀ G1 H1, Gr [] G H G1 H1 → ∀ Q : VK, (∀ p xs G2 H2, Gr [] G1 H1 G2 H2 → H1 p = none → G2 p = none → H2 p = some (.lst xs) → Dts G2 ds xs → Q (.ref p) H2) → te σ H1 Q
def EvT (tt : TT) (σ : L2.St) (G H : Hp) (b : Bool) : Prop := ∀ G1 H1, Gr [] G H G1 H1 → ∀ Q : Bool → Hp → Prop, (∀ G2 H2, Gr [] G1 H1 G2 H2 → Q b H2) → tt σ H1 Q
/-- an argument: data, or the object at a -/
inductive FD where
  | dat (d : PyData) | obj (v : V)
def Fd (G : Hp) : FD → V → Prop
  | .dat d, v => Dt G d v
  | .obj u, v => v = u
def Fds (G : Hp) : List FD → List V → Prop
  | [], vs => vs = []
  | d :: ds, vs => ∃ x xs, vs = x :: xs ∧ Fd G d x ∧ Fds G ds xs
theorem Fd.mono {G G' : Hp} (e : Ex G G') : ∀ (d : FD) {v : V}, Fd G d v → Fd G' d v
  | .dat d, _, h => Dt.mono e d h
  | .obj _, _, h => h
theorem Fds.mono {G G' : Hp} (e : Ex G G') : ∀ (ds : List FD) {vs : List V}, Fds G ds vs → Fds G' ds vs
  | [], _, h => h
  | d :: ds, vs, h => by
    obtain ⟨x, xs, h1, h2, h3⟩ := h
    exact ⟨x, xs, h1, Fd.mono e d h2, Fds.mono e ds h3⟩
def EvA (ta : TA) (σ : L2.St) (G H : Hp) (ds : List FD) : Prop := ∀ G1 H1, Gr [] G H G1 H1 → ∀ Q : List V → Hp → Prop, (∀ vs G2 H2, Gr [] G1 H1 G2 H2 → Fds G2 ds vs → Q vs H2) → ta σ H1 Q
section
variable {σ : L2.St} {G H G' H' : Hp} {ta tb te tx : TE} {t u : TT} {v : V} {d d1 d2 : PyData} {b : Bool}
theorem EvD.gr (g : Gr [] G H G' H') (h : EvD te σ G H d) : EvD te σ G' H' d := fun G1 H1 g1 Q q => h G1 H1 (g.trans g1) Q q
theorem EvV.gr (g : Gr [] G H G' H') (h : EvV te σ G H v) : EvV te σ G' H' v := fun G1 H1 g1 Q q => h G1 H1 (g.trans g1) Q q
theorem EvL.gr {ds : List PyData} (g : Gr [] G H G' H') (h : EvL te σ G H ds) : EvL te σ G' H' ds := fun G1 H1 g1 Q q => h G1 H1 (g.trans g1) Q q
theorem EvT.gr (g : Gr [] G H G' H') (h : EvT t σ G H b) : EvT t σ G' H' b := fun G1 H1 g1 Q q => h G1 H1 (g.trans g1) Q q
theorem EvA.gr {ta : TA} {ds : List FD} (g : Gr [] G H G' H') (h : EvA ta σ G H ds) : EvA ta σ G' H' ds := fun G1 H1 g1 Q q => h G1 H1 (g.trans g1) Q q
theorem EvV.dat (h : EvV te σ G H v) (k : Dt G d v) : EvD te σ G H d := fun G1 H1 g Q q => h G1 H1 g Q fun G2 H2 g2 => q v G2 H2 g2 (Dt.mono (g.g.trans g2.g) d k)
theorem EvD.int {i : Int} (h : EvD te σ G H (.int i)) : EvV te σ G H (.int i) := fun G1 H1 g Q q => h G1 H1 g Q fun v G2 H2 g2 e => by cases e; exact q G2 H2 g2
theorem EvD.str {i : Str} (h : EvD te σ G H (.str i)) : EvV te σ G H (.str i) := fun G1 H1 g Q q => h G1 H1 g Q fun v G2 H2 g2 e => by cases e; exact q G2 H2 g2
theorem EvD.bl {i : Bool} (h : EvD te σ G H (.bool i)) : EvV te σ G H (.bl i) := fun G1 H1 g Q q => h G1 H1 g Q fun v G2 H2 g2 e => by cases e; exact q G2 H2 g2
theorem EvD.is {e : PyData} (h : EvD te σ G H d) (q : d = e) : EvD te σ G H e := q ▸ h
theorem EvT.is {c : Bool} (h : EvT t σ G H b) (q : b = c) : EvT t σ G H c := q ▸ h
theorem EvL.dat {ds : List PyData} (h : EvL te σ G H ds) : EvD te σ G H (.list ds) := fun G1 H1 g Q q => h G1 H1 g Q fun p xs G2 H2 g2 n q2 e k =>
  q (.ref p) (upd G2 p (.lst xs)) H2 (g2.fix n e q2) ⟨p, xs, rfl, upd_same, Dts.mono (Ex.new q2) ds k⟩
theorem ev_var {i : Nat} (h : σ[i]? = some (some v)) : EvV (tVar i) σ G H v := fun G1 H1 g Q q => ⟨v, h, q G1 H1 (Gr.refl g.s [])⟩
theorem ev_c : EvV (tC v) σ G H v := fun G1 H1 g Q q => q G1 H1 (Gr.refl g.s [])
/-- a two-place operation on data -/
def BinR (r : R2) (d1 d2 d : PyData) : Prop := ∀ (G H : Hp) (x y : V), Ex G H → Dt G d1 x → Dt G d2 y → ∀ Q : VK, (∀ v G2 H2, Gr [] G H G2 H2 → Dt G2 d v → Q v H2) → r x y H Q
theorem ev_bin {r : R2} (ha : EvD ta σ G H d1) (hb : EvD tb σ G H d2) (hr : BinR r d1 d2 d) : EvD (tOp r ta tb) σ G H d := fun G1 H1 g Q q =>
  ha G1 H1 g _ fun x G2 H2 g2 e1 => hb G2 H2 (g.trans g2) _ fun y G3 H3 g3 e2 => hr G3 H3 x y g3.s (Dt.mono g3.g d1 e1) e2 Q fun v G4 H4 g4 e => q v G4 H4 ((g2.trans g3).trans g4) e
def UnR1 (r : V → Hp → VK → Prop) (d1 d : PyData) : Prop := ∀ (G H : Hp) (x : V), Ex G H → Dt G d1 x → ∀ Q : VK, (∀ v G2 H2, Gr [] G H G2 H2 → Dt G2 d v → Q v H2) → r x H Q
theorem ev_un {r : V → Hp → VK → Prop} (ha : EvD ta σ G H d1) (hr : UnR1 r d1 d) : EvD (tUn r ta) σ G H d := fun G1 H1 g Q q =>
  ha G1 H1 g _ fun x G2 H2 g2 e1 => hr G2 H2 x g2.s e1 Q fun v G4 H4 g4 e => q v G4 H4 (g2.trans g4) e
theorem et_test (h : EvD te σ G H (.bool b)) : EvT (tTest te) σ G H b := fun G1 H1 g Q q => h G1 H1 g _ fun v G2 H2 g2 e => ⟨b, e, q G2 H2 g2⟩
theorem et_B (h : EvD te σ G H (.bool b)) : EvT (tB te) σ G H b := fun G1 H1 g Q q => h G1 H1 g _ fun v G2 H2 g2 e => ⟨b, e, q G2 H2 g2⟩
theorem et_and {c : Bool} (h1 : EvT t σ G H b) (h2 : b = true → EvT u σ G H c) : EvT (tAnd t u) σ G H (b && c) := fun G1 H1 g Q q =>
  h1 G1 H1 g _ fun G2 H2 g2 => by
    cases b with
    | false => exact iteF (q G2 H2 g2)
    | true => exact iteT (h2 rfl G2 H2 (g.trans g2) _ fun G3 H3 g3 => by simpa using q G3 H3 (g2.trans g3))
theorem et_or {c : Bool} (h1 : EvT t σ G H b) (h2 : b = false → EvT u σ G H c) : EvT (tOr t u) σ G H (b || c) := fun G1 H1 g Q q =>
  h1 G1 H1 g _ fun G2 H2 g2 => by
    cases b with
    | true => exact iteT (q G2 H2 g2)
    | false => exact iteF (h2 rfl G2 H2 (g.trans g2) _ fun G3 H3 g3 => by simpa using q G3 H3 (g2.trans g3))
theorem et_not (h : EvT t σ G H b) : EvT (tNot t) σ G H (!b) := fun G1 H1 g Q q => h G1 H1 g _ fun G2 H2 g2 => q G2 H2 g2
theorem ev_andV {c : Bool} (h1 : EvD ta σ G H (.bool b)) (h2 : b = true → EvD tb σ G H (.bool c)) : EvD (tAndV ta tb) σ G H (.bool (b && c)) := fun G1 H1 g Q q =>
  h1 G1 H1 g _ fun v G2 H2 g2 e => ⟨b, e, by
    cases b with
    | false => exact iteF (q _ G2 H2 g2 rfl)
    | true => exact iteT (h2 rfl G2 H2 (g.trans g2) _ fun v G3 H3 g3 e => q v G3 H3 (g2.trans g3) (by simpa using e))⟩
theorem ev_orV {c : Bool} (h1 : EvD ta σ G H (.bool b)) (h2 : b = false → EvD tb σ G H (.bool c)) : EvD (tOrV ta tb) σ G H (.bool (b || c)) := fun G1 H1 g Q q =>
  h1 G1 H1 g _ fun v G2 H2 g2 e => ⟨b, e, by
    cases b with
    | true => exact iteT (q _ G2 H2 g2 rfl)
    | false => exact iteF (h2 rfl G2 H2 (g.trans g2) _ fun v G3 H3 g3 e => q v G3 H3 (g2.trans g3) (by simpa using e))⟩
theorem ev_notV (h1 : EvD ta σ G H (.bool b)) : EvD (tNotV ta) σ G H (.bool (!b)) := fun G1 H1 g Q q =>
  h1 G1 H1 g _ fun v G2 H2 g2 e => ⟨b, e, q _ G2 H2 g2 rfl⟩
theorem ea_nil : EvA tNil σ G H [] := fun G1 H1 g Q q => q [] G1 H1 (Gr.refl g.s []) rfl
theorem ea_dat {tr : TA} {ds : List FD} (h : EvD ta σ G H d) (hr : EvA tr σ G H ds) : EvA (tCons ta tr) σ G H (.dat d :: ds) := fun G1 H1 g Q q =>
  h G1 H1 g _ fun v G2 H2 g2 e => hr G2 H2 (g.trans g2) _ fun vs G3 H3 g3 k => q (v :: vs) G3 H3 (g2.trans g3) ⟨v, vs, rfl, Dt.mono g3.g d e, k⟩
theorem ea_obj {tr : TA} {ds : List FD} (h : EvV ta σ G H v) (hr : EvA tr σ G H ds) : EvA (tCons ta tr) σ G H (.obj v :: ds) := fun G1 H1 g Q q =>
  h G1 H1 g _ fun G2 H2 g2 => hr G2 H2 (g.trans g2) _ fun vs G3 H3 g3 k => q (v :: vs) G3 H3 (g2.trans g3) ⟨v, vs, rfl, rfl, k⟩
/-- data alone -/
def datL (ds : List PyData) : List FD := ds.map FD.dat
theorem fds_dat : ∀ {ds : List PyData} {vs : List V}, Fds G (datL ds) vs → Dts G ds vs
  | [], _, h => h
  | d :: ds, vs, h => by
    obtain ⟨x, xs, h1, h2, h3⟩ := h
    exact ⟨x, xs, h1, h2, fds_dat h3⟩
theorem ev_tup {tA : TA} {ds : List PyData} (h : EvA tA σ G H (datL ds)) (hl : ds.length ≤ 1000) : EvD (tTup tA) σ G H (.tuple ds) := fun G1 H1 g Q q =>
  h G1 H1 g _ fun vs G2 H2 g2 k => by
    have k' := fds_dat k
    refine ⟨by rw [k'.len, sizeLine_eq]; omega, fun p hp => ?_⟩
    exact q (.ref p) (upd G2 p (.tup vs)) _ (g2.trans (Gr.newD g2.s hp)) ⟨p, vs, rfl, upd_same, Dts.mono (Ex.new (ex_none g2.s hp)) ds k'⟩
theorem ev_lst {tA : TA} {ds : List PyData} (h : EvA tA σ G H (datL ds)) (hl : ds.length ≤ 1000) : EvL (tLst tA) σ G H ds := fun G1 H1 g Q q =>
  h G1 H1 g _ fun vs G2 H2 g2 k => by
    have k' := fds_dat k
    refine ⟨by rw [k'.len, sizeLine_eq]; omega, fun p hp => ?_⟩
    exact q p vs G2 _ (g2.trans (Gr.newM g2.s hp)) (g2.fresh hp) (ex_none g2.s hp) upd_same k'
end

/-! Operations on data: readings, their rules, what they answer. -/
theorem sz {n : Nat} (h : n ≤ 1000000) : n ≤ sizeLine := by rw [sizeLine_eq]; omega
theorem szl {n : Nat} (h : n ≤ 1000000) : n < sizeLine := by rw [sizeLine_eq]; omega
/-! ### arithmetic -/
def rAddU : R2 := fun x y H Q => (∃ i j, x = .int i ∧ y = .int j ∧ Q (.int (i + j)) H) ∨ (∃ i j, x = .str i ∧ y = .str j ∧ i.length + j.length ≤ sizeLine ∧ Q (.str (i ++ j)) H) ∨ rCat x y H Q
def rSubU : R2 := rI0 fun i j => .int (i - j)
def rMulU : R2 := fun x y H Q => rI CMul (fun i j => .int (i * j)) x y H Q ∨ rRep x y H Q
def rModU : R2 := rI (fun _ j => 0 < j) fun i j => .int (i % j)
def rDivU : R2 := rI CDiv fun i j => .int (i / j)
def rPowU : R2 := rI CPow fun i j => .int (i ^ j.toNat)
def rNegU : V → Hp → VK → Prop := rU fun i => .int (-i)
section
variable {X : Cx}
theorem o_add : OpR X (binaryOp .Add) rAddU := OpR.or op_add (OpR.or op_add_str op_cat)
theorem o_sub : OpR X (binaryOp .Sub) rSubU := op_sub
theorem o_mul : OpR X (binaryOp .Mult) rMulU := OpR.or op_mul op_rep
theorem o_mod : OpR X (binaryOp .Mod) rModU := op_mod
theorem o_div : OpR X (binaryOp .FloorDiv) rDivU := op_fdiv
theorem o_pow : OpR X (binaryOp .Pow) rPowU := op_pow
theorem o_neg : UnR X (unaryOp .USub) rNegU := un_neg
end
theorem b_addI {i j : Int} : BinR rAddU (.int i) (.int j) (.int (i + j)) := fun G H x y b h1 h2 Q q => by
  cases h1; cases h2; exact .inl ⟨i, j, rfl, rfl, q _ G H (Gr.refl b []) rfl⟩
theorem b_addS {i j : Str} (h : i.length + j.length ≤ 1000000) : BinR rAddU (.str i) (.str j) (.str (i ++ j)) := fun G H x y b h1 h2 Q q => by
  cases h1; cases h2; exact .inr (.inl ⟨i, j, rfl, rfl, sz h, q _ G H (Gr.refl b []) rfl⟩)
theorem b_addL {ds es : List PyData} (h : ds.length + es.length ≤ 1000000) : BinR rAddU (.list ds) (.list es) (.list (ds ++ es)) := fun G H x y b h1 h2 Q q => by
  obtain ⟨a, xs, rfl, e1, k1⟩ := h1
  obtain ⟨c, ys, rfl, e2, k2⟩ := h2
  refine .inr (.inr ⟨a, c, xs, ys, rfl, rfl, b _ _ e1, b _ _ e2, by rw [k1.len, k2.len]; exact sz h, fun p hp => ?_⟩)
  exact q _ (upd G p (.lst (xs ++ ys))) _ (Gr.newD b hp) ⟨p, xs ++ ys, rfl, upd_same, Dts.mono (Ex.new (ex_none b hp)) _ (k1.app k2)⟩
theorem b_sub {i j : Int} : BinR rSubU (.int i) (.int j) (.int (i - j)) := fun G H x y b h1 h2 Q q => by
  cases h1; cases h2; exact ⟨i, j, rfl, rfl, q _ G H (Gr.refl b []) rfl⟩
theorem b_mul {i j : Int} (h : CMul i j) : BinR rMulU (.int i) (.int j) (.int (i * j)) := fun G H x y b h1 h2 Q q => by
  cases h1; cases h2; exact .inl ⟨i, j, rfl, rfl, h, q _ G H (Gr.refl b []) rfl⟩
theorem b_mod {i j : Int} (h : 0 < j) : BinR rModU (.int i) (.int j) (.int (i % j)) := fun G H x y b h1 h2 Q q => by
  cases h1; cases h2; exact ⟨i, j, rfl, rfl, h, q _ G H (Gr.refl b []) rfl⟩
theorem b_div {i j : Int} (h : 0 < j ∧ j < 1073741824) : BinR rDivU (.int i) (.int j) (.int (i / j)) := fun G H x y b h1 h2 Q q => by
  cases h1; cases h2; exact ⟨i, j, rfl, rfl, h, q _ G H (Gr.refl b []) rfl⟩
theorem b_pow {i j : Int} (h : CPow i j) : BinR rPowU (.int i) (.int j) (.int (i ^ j.toNat)) := fun G H x y b h1 h2 Q q => by
  cases h1; cases h2; exact ⟨i, j, rfl, rfl, h, q _ G H (Gr.refl b []) rfl⟩
theorem u_neg {i : Int} : UnR1 rNegU (.int i) (.int (-i)) := fun G H x b h1 Q q => by
  cases h1; exact ⟨i, rfl, q _ G H (Gr.refl b []) rfl⟩
/-! ### comparisons -/
/-- no dict within, not deep -/
def okD (d : PyData) : Bool := d.plain && Nat.ble d.depth 20
def okA (ds : List PyData) : Bool := PyData.plainAll ds && Nat.ble (PyData.depthAll ds) 20
theorem okD_of {d : PyData} (h : okD d = true) : d.plain = true ∧ d.depth ≤ 20 := by
  unfold okD at h
  rw [Bool.and_eq_true] at h
  exact ⟨h.1, Nat.le_of_ble_eq_true h.2⟩
theorem okA_of {d : List PyData} (h : okA d = true) : PyData.plainAll d = true ∧ PyData.depthAll d ≤ 20 := by
  unfold okA at h
  rw [Bool.and_eq_true] at h
  exact ⟨h.1, Nat.le_of_ble_eq_true h.2⟩
def rEqU (K : PySem.W.Frag) : R2 := fun x y H Q => ∃ d e, Dp K H x d ∧ Dp K H y e ∧ okD d = true ∧ okD e = true ∧ Q (.bl (PyData.eqv d e)) H
def rNeU (K : PySem.W.Frag) : R2 := fun x y H Q => ∃ d e, Dp K H x d ∧ Dp K H y e ∧ okD d = true ∧ okD e = true ∧ Q (.bl (!PyData.eqv d e)) H
def rLtU : R2 := fun x y H Q => rI0 (fun i j => .bl (decide (i < j))) x y H Q ∨ (∃ i j, x = .str i ∧ y = .str j ∧ Q (.bl (decide (i.cps.toList < j.cps.toList))) H)
def rLeU : R2 := fun x y H Q => rI0 (fun i j => .bl (decide (i ≤ j))) x y H Q ∨ (∃ i j, x = .str i ∧ y = .str j ∧ Q (.bl (!decide (j.cps.toList < i.cps.toList))) H)
def rGtU : R2 := fun x y H Q => rI0 (fun i j => .bl (decide (j < i))) x y H Q ∨ (∃ i j, x = .str i ∧ y = .str j ∧ Q (.bl (decide (j.cps.toList < i.cps.toList))) H)
def rGeU : R2 := fun x y H Q => rI0 (fun i j => .bl (decide (j ≤ i))) x y H Q ∨ (∃ i j, x = .str i ∧ y = .str j ∧ Q (.bl (!decide (i.cps.toList < j.cps.toList))) H)
def rIsU : R2 := fun x y H Q => y = .non ∧ Q (.bl (decide (x = .non))) H
def rIsNU : R2 := fun x y H Q => y = .non ∧ Q (.bl (!decide (x = .non))) H
/-- x in a list or tuple of data, in a dict, one sign in a text -/
def rInU (K : PySem.W.Frag) (neg : Bool) : R2 := fun x y H Q =>
  (∃ d ds, Dp K H x d ∧ (Dp K H y (.list ds) ∨ Dp K H y (.tuple ds)) ∧ okD d = true ∧ okA ds = true ∧ Q (.bl (xor neg (ds.any fun z => PyData.eqv z d))) H) ∨
  (∃ a o, y = .ref a ∧ DGet H a x o ∧ Q (.bl (xor neg o.isSome)) H) ∨
  (∃ (c : Nat) (z : Str), x = .str ⟨#[c]⟩ ∧ y = .str z ∧ Q (.bl (xor neg (decide (c ∈ z.cps.toList)))) H) ∨
  (∃ i j : Str, x = .str i ∧ y = .str j ∧ Q (.bl (xor neg (!(Builtin.Str.occurrences j i 0 j.length 1).isEmpty))) H)
section
variable {X : Cx}
theorem o_eq (hu : X.A.units + 64 < cLine) : OpR X (compareOp .Eq) (rEqU X.K) := by
  intro pins s σ H x y v u Q I rx ry h
  obtain ⟨d, e, hd, he, sd, se, q⟩ := h
  obtain ⟨as, r1⟩ := Dp.reads I d x v hd rx
  obtain ⟨bs, r2⟩ := Dp.reads I e y u he ry
  have := (okD_of sd).2
  exact SeqAt.eq_plain r1 r2 (okD_of sd).1 (okD_of se).1 (by omega) ⟨.bl _, H, I, rfl, q⟩
theorem o_ne (hu : X.A.units + 64 < cLine) : OpR X (compareOp .NotEq) (rNeU X.K) := by
  intro pins s σ H x y v u Q I rx ry h
  obtain ⟨d, e, hd, he, sd, se, q⟩ := h
  obtain ⟨as, r1⟩ := Dp.reads I d x v hd rx
  obtain ⟨bs, r2⟩ := Dp.reads I e y u he ry
  have := (okD_of sd).2
  exact SeqAt.ne_plain r1 r2 (okD_of sd).1 (okD_of se).1 (by omega) ⟨.bl _, H, I, rfl, q⟩
theorem o_lt : OpR X (compareOp .Lt) rLtU := OpR.or op_lt op_lt_str
theorem o_le : OpR X (compareOp .LtE) rLeU := OpR.or op_le op_le_str
theorem o_gt : OpR X (compareOp .Gt) rGtU := OpR.or op_gt op_gt_str
theorem o_ge : OpR X (compareOp .GtE) rGeU := OpR.or op_ge op_ge_str
theorem o_is : OpR X (compareOp .Is) rIsU := op_isN
theorem o_isn : OpR X (compareOp .IsNot) rIsNU := op_notN
theorem o_in (hu : X.A.units + 64 < cLine) : OpR X (compareOp .In) (rInU X.K false) := by
  intro pins s σ H x y v u Q I rx ry h
  rcases h with ⟨d, ds, hd, he, sd, se, q⟩ | ⟨a, o, rfl, g, q⟩ | h | h
  · obtain ⟨as, r1⟩ := Dp.reads I d x v hd rx
    have := (okD_of sd).2
    rw [Bool.false_xor] at q
    rcases he with he | he
    · obtain ⟨bs, r2⟩ := Dp.reads I (.list ds) y u he ry
      exact SeqAt.in_list_data r2 r1 (okA_of se).1 (okD_of sd).1 (by omega) ⟨.bl _, H, I, rfl, q⟩
    · obtain ⟨bs, r2⟩ := Dp.reads I (.tuple ds) y u he ry
      exact SeqAt.in_tuple_data r2 r1 (okA_of se).1 (okD_of sd).1 (by omega) ⟨.bl _, H, I, rfl, q⟩
  · cases ry
    rw [Bool.false_xor] at q
    exact d_in (by omega) I g rx fun s' I' => ⟨.bl _, H, I', rfl, q⟩
  · simp only [Bool.false_xor] at h
    exact op_in_sign pins s σ H x y v u Q I rx ry h
  · simp only [Bool.false_xor] at h
    exact op_in_str pins s σ H x y v u Q I rx ry h
theorem o_notin (hu : X.A.units + 64 < cLine) : OpR X (compareOp .NotIn) (rInU X.K true) := by
  intro pins s σ H x y v u Q I rx ry h
  rcases h with ⟨d, ds, hd, he, sd, se, q⟩ | ⟨a, o, rfl, g, q⟩ | h | h
  · obtain ⟨as, r1⟩ := Dp.reads I d x v hd rx
    have := (okD_of sd).2
    rw [Bool.true_xor] at q
    rcases he with he | he
    · obtain ⟨bs, r2⟩ := Dp.reads I (.list ds) y u he ry
      exact SeqAt.notIn_list_data r2 r1 (okA_of se).1 (okD_of sd).1 (by omega) ⟨.bl _, H, I, rfl, q⟩
    · obtain ⟨bs, r2⟩ := Dp.reads I (.tuple ds) y u he ry
      exact SeqAt.notIn_tuple_data r2 r1 (okA_of se).1 (okD_of sd).1 (by omega) ⟨.bl _, H, I, rfl, q⟩
  · cases ry
    rw [Bool.true_xor] at q
    exact d_notIn (by omega) I g rx fun s' I' => ⟨.bl _, H, I', rfl, q⟩
  · simp only [Bool.true_xor] at h
    exact op_notIn_sign pins s σ H x y v u Q I rx ry h
  · simp only [Bool.true_xor] at h
    exact op_notin_str pins s σ H x y v u Q I rx ry h
end
section
variable {K : PySem.W.Frag}
theorem b_eq {d e : PyData} (h1 : okD d = true) (h2 : okD e = true) : BinR (rEqU K) d e (.bool (PyData.eqv d e)) := fun G H x y b k1 k2 Q q =>
  ⟨d, e, Dt.dp b d k1, Dt.dp b e k2, h1, h2, q _ G H (Gr.refl b []) rfl⟩
theorem b_ne {d e : PyData} (h1 : okD d = true) (h2 : okD e = true) : BinR (rNeU K) d e (.bool (!PyData.eqv d e)) := fun G H x y b k1 k2 Q q =>
  ⟨d, e, Dt.dp b d k1, Dt.dp b e k2, h1, h2, q _ G H (Gr.refl b []) rfl⟩
theorem b_lt {i j : Int} : BinR rLtU (.int i) (.int j) (.bool (decide (i < j))) := fun G H x y b h1 h2 Q q => by
  cases h1; cases h2; exact .inl ⟨i, j, rfl, rfl, q _ G H (Gr.refl b []) rfl⟩
theorem b_le {i j : Int} : BinR rLeU (.int i) (.int j) (.bool (decide (i ≤ j))) := fun G H x y b h1 h2 Q q => by
  cases h1; cases h2; exact .inl ⟨i, j, rfl, rfl, q _ G H (Gr.refl b []) rfl⟩
theorem b_gt {i j : Int} : BinR rGtU (.int i) (.int j) (.bool (decide (j < i))) := fun G H x y b h1 h2 Q q => by
  cases h1; cases h2; exact .inl ⟨i, j, rfl, rfl, q _ G H (Gr.refl b []) rfl⟩
theorem b_ge {i j : Int} : BinR rGeU (.int i) (.int j) (.bool (decide (j ≤ i))) := fun G H x y b h1 h2 Q q => by
  cases h1; cases h2; exact .inl ⟨i, j, rfl, rfl, q _ G H (Gr.refl b []) rfl⟩
theorem b_leS {i j : Str} : BinR rLeU (.str i) (.str j) (.bool (!decide (j.cps.toList < i.cps.toList))) := fun G H x y b h1 h2 Q q => by
  cases h1; cases h2; exact .inr ⟨i, j, rfl, rfl, q _ G H (Gr.refl b []) rfl⟩
def isNon : PyData → Bool
  | .none => true
  | _ => false
theorem dt_non {G : Hp} {d : PyData} {v : V} (h : Dt G d v) : decide (v = .non) = isNon d := by
  cases d with
  | none => cases h; rfl
  | bool b => cases h; rfl
  | int b => cases h; rfl
  | str b => cases h; rfl
  | list ds => obtain ⟨a, xs, rfl, _⟩ := h; rfl
  | tuple ds => obtain ⟨a, xs, rfl, _⟩ := h; rfl
  | dict _ => exact h.elim
theorem b_is {d : PyData} : BinR rIsU d .none (.bool (isNon d)) := fun G H x y b h1 h2 Q q => by
  cases h2; exact ⟨rfl, by rw [dt_non h1]; exact q _ G H (Gr.refl b []) rfl⟩
theorem b_isn {d : PyData} : BinR rIsNU d .none (.bool (!isNon d)) := fun G H x y b h1 h2 Q q => by
  cases h2; exact ⟨rfl, by rw [dt_non h1]; exact q _ G H (Gr.refl b []) rfl⟩
theorem b_inL {neg : Bool} {d : PyData} {ds : List PyData} (h1 : okD d = true) (h2 : okA ds = true) : BinR (rInU K neg) d (.list ds) (.bool (xor neg (ds.any fun z => PyData.eqv z d))) := fun G H x y b k1 k2 Q q =>
  .inl ⟨d, ds, Dt.dp b d k1, .inl (Dt.dp b _ k2), h1, h2, q _ G H (Gr.refl b []) rfl⟩
theorem b_inT {neg : Bool} {d : PyData} {ds : List PyData} (h1 : okD d = true) (h2 : okA ds = true) : BinR (rInU K neg) d (.tuple ds) (.bool (xor neg (ds.any fun z => PyData.eqv z d))) := fun G H x y b k1 k2 Q q =>
  .inl ⟨d, ds, Dt.dp b d k1, .inr (Dt.dp b _ k2), h1, h2, q _ G H (Gr.refl b []) rfl⟩
theorem b_inC {neg : Bool} {c : Nat} {z : Str} : BinR (rInU K neg) (.str ⟨#[c]⟩) (.str z) (.bool (xor neg (decide (c ∈ z.cps.toList)))) := fun G H x y b k1 k2 Q q => by
  cases k1; cases k2; exact .inr (.inr (.inl ⟨c, z, rfl, rfl, q _ G H (Gr.refl b []) rfl⟩))
theorem b_inS {neg : Bool} {i z : Str} : BinR (rInU K neg) (.str i) (.str z) (.bool (xor neg (!(Builtin.Str.occurrences z i 0 z.length 1).isEmpty))) := fun G H x y b k1 k2 Q q => by
  cases k1; cases k2; exact .inr (.inr (.inr ⟨i, z, rfl, rfl, q _ G H (Gr.refl b []) rfl⟩))
end
/-! ### subscripts, slices, built-in calls -/
section
variable {K : PySem.W.Frag}
theorem b_ixL {ds : List PyData} {i : Int} {d : PyData} (h : atI ds i = some d) : BinR (rIx K) (.list ds) (.int i) d := fun G H x y b k1 k2 Q q => by
  obtain ⟨a, xs, rfl, e1, k1⟩ := k1
  cases k2
  unfold atI at h
  cases z : ixN ds.length i with
  | none => rw [z] at h; cases h
  | some j =>
    rw [z] at h
    obtain ⟨v, hv, dv⟩ := k1.get (show ds[j]? = some d from h)
    refine .inl ⟨a, xs, i, v, rfl, rfl, SqL.of (b _ _ e1), ?_, q v G H (Gr.refl b []) dv⟩
    unfold atI
    rw [k1.len, z]
    exact hv
theorem b_ixT {ds : List PyData} {i : Int} {d : PyData} (h : atI ds i = some d) : BinR (rIx K) (.tuple ds) (.int i) d := fun G H x y b k1 k2 Q q => by
  obtain ⟨a, xs, rfl, e1, k1⟩ := k1
  cases k2
  unfold atI at h
  cases z : ixN ds.length i with
  | none => rw [z] at h; cases h
  | some j =>
    rw [z] at h
    obtain ⟨v, hv, dv⟩ := k1.get (show ds[j]? = some d from h)
    refine .inr (.inl ⟨a, xs, i, v, rfl, rfl, SqT.of (b _ _ e1), ?_, q v G H (Gr.refl b []) dv⟩)
    unfold atI
    rw [k1.len, z]
    exact hv
theorem b_ixS {s : Str} {i : Int} {c : Nat} (hl : s.length ≤ 1000000) (h : atI s.cps.toList i = some c) : BinR (rIx K) (.str s) (.int i) (.str ⟨#[c]⟩) := fun G H x y b k1 k2 Q q => by
  cases k1; cases k2
  exact .inr (.inr ⟨s, i, c, rfl, rfl, sz hl, h, q _ G H (Gr.refl b []) rfl⟩)
end
/-- a slice's part -/
def EvO (to : TO) (σ : L2.St) (G H : Hp) (o : Option Int) : Prop := ∀ G1 H1, Gr [] G H G1 H1 → ∀ Q : Option Int → Hp → Prop, (∀ G2 H2, Gr [] G1 H1 G2 H2 → Q o H2) → to σ H1 Q
def rSlU (K : PySem.W.Frag) : V → Option Int → Option Int → Hp → VK → Prop := fun x lo hi H Q => rSlL K x lo hi H Q ∨ rSlS x lo hi H Q
theorem o_sl {X : Cx} : SlR X (rSlU X.K) := SlR.or sl_list sl_str
def cutL {α : Type} (xs : List α) (lo hi : Option Int) : List α := (xs.drop (HT.sIx xs.length 0 lo)).take (HT.sIx xs.length xs.length hi - HT.sIx xs.length 0 lo)
section
variable {K : PySem.W.Frag} {σ : L2.St} {G H : Hp} {ta tb te : TE} {tl th : TO} {t : TA} {lo hi : Option Int}
theorem eo_none : EvO tNoPart σ G H none := fun G1 H1 g Q q => q G1 H1 (Gr.refl g.s [])
theorem eo_some {i : Int} (h : EvD te σ G H (.int i)) : EvO (tPart te) σ G H (some i) := fun G1 H1 g Q q => h G1 H1 g _ fun v G2 H2 g2 e => ⟨i, e, q G2 H2 g2⟩
theorem ev_slS {z : Str} (h : EvD te σ G H (.str z)) (h1 : EvO tl σ G H lo) (h2 : EvO th σ G H hi) (hz : z.length ≤ 1000000) : EvD (tSl (rSlU K) te tl th) σ G H (.str (cutS z lo hi)) := fun G1 H1 g Q q =>
  h G1 H1 g _ fun v G2 H2 g2 e => h1 G2 H2 (g.trans g2) _ fun G3 H3 g3 => h2 G3 H3 ((g.trans g2).trans g3) _ fun G4 H4 g4 => .inr ⟨z, e, sz hz, q _ G4 H4 ((g2.trans g3).trans g4) rfl⟩
theorem el_sl {ds : List PyData} (h : EvD te σ G H (.list ds)) (h1 : EvO tl σ G H lo) (h2 : EvO th σ G H hi) : EvL (tSl (rSlU K) te tl th) σ G H (cutL ds lo hi) := fun G1 H1 g Q q =>
  h G1 H1 g _ fun v G2 H2 g2 e => h1 G2 H2 (g.trans g2) _ fun G3 H3 g3 => h2 G3 H3 ((g.trans g2).trans g3) _ fun G4 H4 g4 => by
    obtain ⟨a, xs, rfl, e1, k1⟩ := e
    have gg := g3.trans g4
    refine .inl ⟨a, xs, rfl, SqL.of (gg.s _ _ (gg.g _ _ e1)), fun p hp => ?_⟩
    refine q p _ G4 _ ((g2.trans gg).trans (Gr.newM gg.s hp)) ((g2.trans gg).fresh hp) (ex_none gg.s hp) upd_same ?_
    unfold cutL cutV
    rw [k1.len]
    exact Dts.take _ (Dts.drop _ (Dts.mono gg.g _ k1))
/-- a built-in's call by values -/
def CbR (r : List V → Hp → VK → Prop) (ds : List FD) (G H : Hp) (d : PyData) : Prop := ∀ G1 H1, Gr [] G H G1 H1 → ∀ vs, Fds G1 ds vs → ∀ Q : VK, (∀ v G2 H2, Gr [] G1 H1 G2 H2 → Dt G2 d v → Q v H2) → r vs H1 Q
def CbL (r : List V → Hp → VK → Prop) (ds : List FD) (G H : Hp) (es : List PyData) : Prop := ∀ G1 H1, Gr [] G H G1 H1 → ∀ vs, Fds G1 ds vs → ∀ Q : VK, (∀ p xs G2 H2, Gr [] G1 H1 G2 H2 → H1 p = none → G2 p = none → H2 p = some (.lst xs) → Dts G2 es xs → Q (.ref p) H2) → r vs H1 Q
theorem ev_cb {r : List V → Hp → VK → Prop} {ds : List FD} {d : PyData} (h : EvA t σ G H ds) (hr : CbR r ds G H d) : EvD (tCB r t) σ G H d := fun G1 H1 g Q q =>
  h G1 H1 g _ fun vs G2 H2 g2 k => hr G2 H2 (g.trans g2) vs k Q fun v G3 H3 g3 e => q v G3 H3 (g2.trans g3) e
theorem el_cb {r : List V → Hp → VK → Prop} {ds : List FD} {es : List PyData} (h : EvA t σ G H ds) (hr : CbL r ds G H es) : EvL (tCB r t) σ G H es := fun G1 H1 g Q q =>
  h G1 H1 g _ fun vs G2 H2 g2 k => hr G2 H2 (g.trans g2) vs k Q fun p xs G3 H3 g3 n m e z => q p xs G3 H3 (g2.trans g3) (g2.fresh n) m e z
/-- len -/
def rLenU (K : PySem.W.Frag) : List V → Hp → VK → Prop := fun xs H Q => (∃ x n, xs = [x] ∧ LenV K x H n ∧ Q (.int n) H) ∨ rLenT xs H Q ∨ (∃ a kvs, xs = [V.ref a] ∧ H a = some (.dK kvs) ∧ Q (.int kvs.length) H)
theorem c_len {X : Cx} : CallR X (.builtin "len") (rLenU X.K) := CallR.or call_len (CallR.or call_len_dT call_lenD)
theorem r_lenS {s : Str} (h : s.length ≤ 1000000) : CbR (rLenU K) [.dat (.str s)] G H (.int s.length) := fun G1 H1 g vs k Q q => by
  obtain ⟨x, xs, rfl, e, k2⟩ := k
  cases k2
  cases e
  exact .inl ⟨_, s.length, rfl, ⟨sz h, rfl⟩, q _ G1 H1 (Gr.refl g.s []) rfl⟩
theorem r_lenL {ds : List PyData} : CbR (rLenU K) [.dat (.list ds)] G H (.int ds.length) := fun G1 H1 g vs k Q q => by
  obtain ⟨x, xs, rfl, e, k2⟩ := k
  cases k2
  obtain ⟨a, ys, rfl, e1, k1⟩ := e
  exact .inl ⟨_, ys.length, rfl, .inl ⟨ys, SqL.of (g.s _ _ e1), rfl⟩, by rw [k1.len]; exact q _ G1 H1 (Gr.refl g.s []) rfl⟩
theorem r_lenT {ds : List PyData} : CbR (rLenU K) [.dat (.tuple ds)] G H (.int ds.length) := fun G1 H1 g vs k Q q => by
  obtain ⟨x, xs, rfl, e, k2⟩ := k
  cases k2
  obtain ⟨a, ys, rfl, e1, k1⟩ := e
  exact .inl ⟨_, ys.length, rfl, .inr ⟨ys, SqT.of (g.s _ _ e1), rfl⟩, by rw [k1.len]; exact q _ G1 H1 (Gr.refl g.s []) rfl⟩
/-- isinstance(data, a built-in class) -/
def kindD : PyData → String
  | .none => "NoneType" | .bool _ => "bool" | .int _ => "int" | .str _ => "str" | .list _ => "list" | .tuple _ => "tuple" | .dict _ => "dict"
theorem dt_ty {d : PyData} {v : V} (b : Ex G H) (h : Dt G d v) : TyX K H v (.type (kindD d)) := by
  cases d with
  | none => cases h; exact .base .non
  | bool b => cases h; exact .base (.bl b)
  | int b => cases h; exact .base (.int b)
  | str b => cases h; exact .base (.str b)
  | list ds => obtain ⟨a, xs, rfl, e, _⟩ := h; exact .base (.lst (b _ _ e))
  | tuple ds => obtain ⟨a, xs, rfl, e, _⟩ := h; exact .base (.tup (b _ _ e))
  | dict _ => exact h.elim
theorem r_isi {d : PyData} {n : String} {b : Bool} (h : kitB (kindD d) n = some b) : CbR (rIsi K) [.dat d, .obj (.ty n)] G H (.bool b) := fun G1 H1 g vs k Q q => by
  obtain ⟨x, xs, rfl, e, y, ys, rfl, e2, k2⟩ := k
  cases k2
  cases e2
  exact ⟨x, .ty n, _, _, b, rfl, .ty n, dt_ty g.s e, kit_ty h, q _ G1 H1 (Gr.refl g.s []) rfl⟩
/-- a method of a text, by values -/
def tMtS (K : PySem.W.Frag) (r : L2.St → V → List V → Hp → VK → Prop) (to : TE) (t : TA) : TE := tBMS K "str" r to t
def MtD (r : L2.St → V → List V → Hp → VK → Prop) (σ : L2.St) (z : Str) (ds : List PyData) (d : PyData) : Prop := ∀ (G H : Hp) (vs : List V), Ex G H → Dts G ds vs → ∀ Q : VK, (∀ v G2 H2, Gr [] G H G2 H2 → Dt G2 d v → Q v H2) → r σ (.str z) vs H Q
theorem ev_mtS {r : L2.St → V → List V → Hp → VK → Prop} {z : Str} {ds : List PyData} {d : PyData} (h : EvD te σ G H (.str z)) (ha : EvA t σ G H (datL ds)) (hr : MtD r σ z ds d) : EvD (tMtS K r te t) σ G H d := fun G1 H1 g Q q =>
  h G1 H1 g _ fun v G2 H2 g2 e => by
    cases e
    exact ⟨rfl, ha G2 H2 (g.trans g2) _ fun vs G3 H3 g3 k => hr G3 H3 vs g3.s (fds_dat k) Q fun v G4 H4 g4 e => q v G4 H4 ((g2.trans g3).trans g4) e⟩
def rFindU : L2.St → V → List V → Hp → VK → Prop := fun _ x xs H Q => ∃ a b, x = .str a ∧ xs = [.str b] ∧ Q (.int (Txt.find a b)) H
theorem m_find {X : Cx} : MtS X "str.find" rFindU := mt_find.toS
theorem d_find {a b : Str} : MtD rFindU σ a [.str b] (.int (Txt.find a b)) := fun G H vs b' k Q q => by
  obtain ⟨x, xs, rfl, e, k2⟩ := k
  cases k2; cases e
  exact ⟨a, _, rfl, rfl, q _ G H (Gr.refl b' []) rfl⟩
def rIndexU (W : WX) : L2.St → V → List V → Hp → VK → Prop := rIndexX W
theorem m_index {X : Cx} {W : WX} (hc : X.calm = true) (tk : Takes X W) : MtS X "str.index" (rIndexU W) := mt_indexX hc tk
theorem d_index {W : WX} {a b : Str} {k : Nat} (h : Txt.index0 a b = some k) : MtD (rIndexU W) σ a [.str b] (.int k) := fun G H vs b' kk Q q => by
  obtain ⟨x, xs, rfl, e, k2⟩ := kk
  cases k2; cases e
  refine ⟨a, b, rfl, rfl, fun k' e => ?_, fun e => ?_⟩
  · rw [h] at e
    cases e
    exact q _ G H (Gr.refl b' []) rfl
  · rw [h] at e
    cases e
end
/-! ### calls of defs: the answer is data -/
def PurD (sp : Sp) (vs : List V) (G H : Hp) (d : PyData) : Prop := ∀ (Q : VK) (E : XK), (∀ v G2 H2, Gr [] G H G2 H2 → Dt G2 d v → Q v H2) → sp vs H Q E
def PurL (sp : Sp) (vs : List V) (G H : Hp) (ds : List PyData) : Prop := ∀ (Q : VK) (E : XK), (∀ p xs G2 H2, Gr [] G H G2 H2 → H p = none → G2 p = none → H2 p = some (.lst xs) → Dts G2 ds xs → Q (.ref p) H2) → sp vs H Q E
section
variable {σ : L2.St} {G H : Hp} {ta : TE} {t : TA} {sp : Sp} {E : XK} {ds : List FD} {d : PyData} {es : List PyData}
theorem ev_call (h : EvA t σ G H ds) (hs : ∀ G1 H1 vs, Gr [] G H G1 H1 → Fds G1 ds vs → PurD sp vs G1 H1 d) : EvD (tCall sp [] E t) σ G H d := fun G1 H1 g Q q =>
  h G1 H1 g _ fun vs G2 H2 g2 k => by
    rw [List.append_nil]
    exact hs G2 H2 vs (g.trans g2) k Q E fun v G3 H3 g3 e => q v G3 H3 (g2.trans g3) e
theorem el_call (h : EvA t σ G H ds) (hs : ∀ G1 H1 vs, Gr [] G H G1 H1 → Fds G1 ds vs → PurL sp vs G1 H1 es) : EvL (tCall sp [] E t) σ G H es := fun G1 H1 g Q q =>
  h G1 H1 g _ fun vs G2 H2 g2 k => by
    rw [List.append_nil]
    exact hs G2 H2 vs (g.trans g2) k Q E fun p xs G3 H3 g3 n m e z => q p xs G3 H3 (g2.trans g3) (g2.fresh n) m e z
end
/-! ### statements -/
section
variable {σ : L2.St} {G H : Hp} {te : TE} {t : TT} {tu tw tz : TS} {D : Ends} {d : PyData} {v : V} {b : Bool}
theorem q_asg {i : Nat} (e : Ex G H) (h : EvD te σ G H d) (k : ∀ v G2 H2, Gr [] G H G2 H2 → Dt G2 d v → tz D (σ.set i (some v)) H2) : tSeq (tAsg te (gName i)) tz D σ H :=
  h G H (Gr.refl e []) _ fun v G2 H2 g e => k v G2 H2 g e
theorem q_asgI {i : Nat} {n : Int} (e : Ex G H) (h : EvD te σ G H (.int n)) (k : ∀ G2 H2, Gr [] G H G2 H2 → tz D (σ.set i (some (.int n))) H2) : tSeq (tAsg te (gName i)) tz D σ H :=
  q_asg e h fun v G2 H2 g e => by cases e; exact k G2 H2 g
theorem q_asgS {i : Nat} {n : Str} (e : Ex G H) (h : EvD te σ G H (.str n)) (k : ∀ G2 H2, Gr [] G H G2 H2 → tz D (σ.set i (some (.str n))) H2) : tSeq (tAsg te (gName i)) tz D σ H :=
  q_asg e h fun v G2 H2 g e => by cases e; exact k G2 H2 g
theorem q_asgB {i : Nat} {n : Bool} (e : Ex G H) (h : EvD te σ G H (.bool n)) (k : ∀ G2 H2, Gr [] G H G2 H2 → tz D (σ.set i (some (.bl n))) H2) : tSeq (tAsg te (gName i)) tz D σ H :=
  q_asg e h fun v G2 H2 g e => by cases e; exact k G2 H2 g
theorem q_asgL {i : Nat} {ds : List PyData} (e : Ex G H) (h : EvL te σ G H ds) (k : ∀ p xs G2 H2, Gr [] G H G2 H2 → H p = none → G2 p = none → H2 p = some (.lst xs) → Dts G2 ds xs → tz D (σ.set i (some (.ref p))) H2) : tSeq (tAsg te (gName i)) tz D σ H :=
  h G H (Gr.refl e []) _ fun p xs G2 H2 g n m e z => k p xs G2 H2 g n m e z
theorem q_ret (e : Ex G H) (h : EvD te σ G H d) (k : ∀ v G2 H2, Gr [] G H G2 H2 → Dt G2 d v → D.rt v H2) : tSeq (tRet te) tz D σ H :=
  h G H (Gr.refl e []) _ fun v G2 H2 g e => k v G2 H2 g e
theorem q_retL {ds : List PyData} (e : Ex G H) (h : EvL te σ G H ds) (k : ∀ p xs G2 H2, Gr [] G H G2 H2 → H p = none → G2 p = none → H2 p = some (.lst xs) → Dts G2 ds xs → D.rt (.ref p) H2) : tSeq (tRet te) tz D σ H :=
  h G H (Gr.refl e []) _ fun p xs G2 H2 g n m e z => k p xs G2 H2 g n m e z
theorem q_drop (e : Ex G H) (h : EvD te σ G H d) (k : ∀ G2 H2, Gr [] G H G2 H2 → tz D σ H2) : tSeq (tDrop te) tz D σ H :=
  h G H (Gr.refl e []) _ fun v G2 H2 g e => k G2 H2 g
theorem q_if (e : Ex G H) (h : EvT t σ G H b) (h1 : b = true → ∀ G2 H2, Gr [] G H G2 H2 → tu { D with nx := tz D } σ H2) (h2 : b = false → ∀ G2 H2, Gr [] G H G2 H2 → tw { D with nx := tz D } σ H2) : tSeq (tIfS t tu tw) tz D σ H :=
  h G H (Gr.refl e []) _ fun G2 H2 g => by
    cases b with
    | true => exact iteT (h1 rfl G2 H2 g)
    | false => exact iteF (h2 rfl G2 H2 g)
/-- an if without else -/
theorem q_when (e : Ex G H) (h : EvT t σ G H b) (h1 : b = true → ∀ G2 H2, Gr [] G H G2 H2 → tu { D with nx := tz D } σ H2) (h2 : b = false → ∀ G2 H2, Gr [] G H G2 H2 → tz D σ H2) : tSeq (tIfS t tu tNext) tz D σ H :=
  q_if e h h1 h2
theorem q_next (h : D.nx σ H) : tNext D σ H := h
/-- if c: x = e, where e is an int -/
theorem q_ifSet {i : Nat} {n : Int} {te : TE} (e : Ex G H) (h : EvT t σ G H b) (h1 : b = true → EvD te σ G H (.int n)) (h2 : b = false → σ.set i (some (.int n)) = σ) (k : ∀ G2 H2, Gr [] G H G2 H2 → tz D (σ.set i (some (.int n))) H2) : tSeq (tIfS t (tSeq (tAsg te (gName i)) tNext) tNext) tz D σ H :=
  q_if e h (fun q G2 H2 g => q_asgI g.s ((h1 q).gr g) fun G3 H3 g3 => k G3 H3 (g.trans g3)) fun q G2 H2 g => by
    have := k G2 H2 g
    rw [h2 q] at this
    exact this
/-- if c: x = e, told by the data that x is behind it -/
theorem q_ifD {i : Nat} {te : TE} (e : Ex G H) (h : EvT t σ G H b) (h1 : b = true → EvD te σ G H d) (h2 : b = false → ∃ v, Dt G d v ∧ σ.set i (some v) = σ) (k : ∀ v G2 H2, Gr [] G H G2 H2 → Dt G2 d v → tz D (σ.set i (some v)) H2) : tSeq (tIfS t (tSeq (tAsg te (gName i)) tNext) tNext) tz D σ H :=
  q_if e h (fun q G2 H2 g => q_asg g.s ((h1 q).gr g) fun v G3 H3 g3 e => k v G3 H3 (g.trans g3) e) fun q G2 H2 g => by
    obtain ⟨v, dv, es⟩ := h2 q
    have := k v G2 H2 g (Dt.mono g.g _ dv)
    rw [es] at this
    exact this
/-- a word of the slots and both heaps, over what stood -/
def Wd (G0 H0 : Hp) (I : L2.St → Hp → Hp → Prop) : L2.St → Hp → Prop := fun σ H => ∃ G, Gr [] G0 H0 G H ∧ I σ G H
theorem q_forS {s : Str} {j : Nat} {te : TE} (I : Nat → L2.St → Hp → Hp → Prop) (e : Ex G H) (h : EvD te σ G H (.str s)) (h0 : ∀ G1 H1, Gr [] G H G1 H1 → I 0 σ G1 H1)
    (hs : ∀ i c σ' G1 H1, Gr [] G H G1 H1 → s.cps.toList[i]? = some c → I i σ' G1 H1 → tu { D with nx := Wd G1 H1 (I (i + 1)), ct := Wd G1 H1 (I (i + 1)), bk := tz D } (σ'.set j (some (.str ⟨#[c]⟩))) H1)
    (hd : ∀ σ' G1 H1, Gr [] G H G1 H1 → I s.cps.toList.length σ' G1 H1 → tz D σ' H1) : tSeq (tFor (iStr te) (gName j) tu) tz D σ H := by
  refine h G H (Gr.refl e []) _ fun v G2 H2 g e2 => ⟨s, e2, ?_⟩
  refine ⟨fun i m σ' H' => m = s.cps.size - i ∧ ∃ G', Gr [] G H G' H' ∧ I i σ' G' H' ∧ i ≤ s.cps.size, ⟨_, rfl, G2, g, h0 G2 H2 g, Nat.zero_le _⟩, ?_⟩
  rintro i m σ' H' ⟨rfl, G', g', w, hi⟩
  by_cases c : i < s.cps.size
  · refine .inr ⟨c, Wd G' H' (I (i + 1)), ?_, ?_⟩
    · rintro σ2 H2 ⟨G2, g2, w2⟩
      exact ⟨s.cps.size - (i + 1), by omega, rfl, G2, g'.trans g2, w2, c⟩
    · rintro x H'' ⟨rfl, ch, hc, rfl⟩
      exact hs i ch σ' G' H'' g' (by rw [Array.getElem?_toList]; exact hc) w
  · have e3 : i = s.cps.size := by omega
    subst e3
    exact .inl ⟨Nat.le_refl _, hd σ' G' H' g' (by rw [Array.length_toList]; exact w)⟩
theorem q_forR {n : Int} {j : Nat} {tA : TA} (I : Nat → L2.St → Hp → Hp → Prop) (e : Ex G H) (h : EvA tA σ G H (datL [.int n])) (hn : n ≤ 1000000) (hn0 : -1000000 ≤ n) (h0 : ∀ G1 H1, Gr [] G H G1 H1 → I 0 σ G1 H1)
    (hs : ∀ (i : Nat) σ' G1 H1, Gr [] G H G1 H1 → (i : Int) < n → I i σ' G1 H1 → tu { D with nx := Wd G1 H1 (I (i + 1)), ct := Wd G1 H1 (I (i + 1)), bk := tz D } (σ'.set j (some (.int (i : Int)))) H1)
    (hd : ∀ σ' G1 H1, Gr [] G H G1 H1 → I n.toNat σ' G1 H1 → tz D σ' H1) : tSeq (tFor (iRng1 tA) (gName j) tu) tz D σ H := by
  refine h G H (Gr.refl e []) _ fun vs G2 H2 g e2 => ?_
  have e2' := fds_dat e2
  obtain ⟨x, xs, rfl, e3, e4⟩ := e2'
  cases e4
  cases e3
  refine ⟨n, rfl, by omega, by omega, ?_⟩
  refine ⟨fun i m σ' H' => m = n.toNat - i ∧ ∃ G', Gr [] G H G' H' ∧ I i σ' G' H' ∧ i ≤ n.toNat, ⟨_, rfl, G2, g, h0 G2 H2 g, Nat.zero_le _⟩, ?_⟩
  rintro i m σ' H' ⟨rfl, G', g', w, hi⟩
  by_cases c : i < n.toNat
  · refine .inr ⟨c, Wd G' H' (I (i + 1)), ?_, ?_⟩
    · rintro σ2 H2 ⟨G2, g2, w2⟩
      exact ⟨n.toNat - (i + 1), by omega, rfl, G2, g'.trans g2, w2, c⟩
    · rintro x H'' ⟨rfl, rfl⟩
      have : (0 : Int) + (i : Int) = (i : Int) := by omega
      show tu _ (σ'.set j (some (.int (0 + (i : Int))))) H''
      rw [this]
      exact hs i σ' G' H'' g' (by omega) w
  · have e3 : i = n.toNat := by omega
    subst e3
    exact .inl ⟨Nat.le_refl _, hd σ' G' H' g' w⟩
end

/-! Defs by their names; the tactic that evaluates a reading on data (a key of walk_at). -/
/-- the written part and where the classes stand -/
structure Tx where
  K : PySem.W.Frag
  a_Nests : Addr
  a_NestError : Addr
  a_NoNests : Addr
  a_NoName : Addr
  a_NoValue : Addr
  a_NoNest : Addr
  a_NoHome : Addr
  a_Taken : Addr
  a_Twice : Addr
  a_NoRoom : Addr
  a_Unknown : Addr
  a_NoNote : Addr
/-- an own exception class over ValueError -/
structure ExF (K : PySem.W.Frag) (mg : Str → Option Value) (nm : Str) (C : Addr) : Prop where
  x : PySem.W.excIn K C [.type "ValueError", .type "Exception", .type "BaseException", .type "object"] "ValueError.__new__" = true
  g : mg nm = some (.ref C)
  k : PySem.W.keepIn K (.ref C) = true
  b : PySem.W.subIn K (.ref C) (.type "BaseException") = some true
  t : PySem.W.typeIn K (.ref C) = some (.type "type")
def tRaiseU (W : WX) (C : Addr) : TS := fun _ σ H => W (.ref C) none σ H
structure Cal2 (P : Program) (w : World) (K : PySem.W.Frag) (mg : Str → Option Value) (base : Heap) (k : Nat) (x : Str) (sp : Sp) : Prop where
  ex : ∃ (f : Addr) (fd : FuncData) (ps : List Str), FnOk P w K mg base (L2.CX P w) k f fd ps sp ∧ mg x = some (.ref f) ∧ PySem.W.keepIn K (.ref f) = true ∧ Binds K fd ps []
structure Met2 (P : Program) (w : World) (K : PySem.W.Frag) (mg : Str → Option Value) (base : Heap) (k : Nat) (C : Addr) (m : Str) (sp : Sp) : Prop where
  ex : ∃ (f : Addr) (fd : FuncData) (ps : List Str), Cls K C ∧ Meth K C m f ∧ FnOk P w K mg base (L2.CX P w) k f fd ps sp ∧ Binds K fd ps []
structure Mak2 (P : Program) (w : World) (K : PySem.W.Frag) (mg : Str → Option Value) (base : Heap) (k : Nat) (x : Str) (C : Addr) (sp : Sp) : Prop where
  ex : ∃ (f : Addr) (fd : FuncData) (ps : List Str), Mk K C f ∧ FnOk P w K mg base (L2.CX P w) k f fd ps sp ∧ mg x = some (.ref C) ∧ Binds K fd ps []
section
variable {X : Cx} {k j : Nat} {C : Addr} {x m : Str} {sp : Sp} {E : XK} {p pos apos : Pos} {e o : Expr} {es : List Expr} {ta : TE} {t : TA}
theorem pe_gc {v : V} (hg : Gl X x) (h : ∃ u, X.mg x = some u ∧ RelV v u) (hd : (x == ("__debug__" : Str)) = false := by decide) : PE X (.Name x pos) (tC v) := by
  obtain ⟨u, hm, r⟩ := h
  exact pe_glob hg hm r hd
theorem pe_c2 (c : Cal2 X.prog X.w X.K X.mg X.base k x sp) (hr : Room j X.A) (hk : k ≤ j) (hx : Passes (L2.CX X.prog X.w) X E) (hg : Gl X x) (ha : PA X (e :: es) t)
    (hdb : (x == ("__debug__" : Str)) = false := by decide) (he : starEach (e :: es) X.env = (false, eval e X.env) :: starEach es X.env := by rfl) (hpl : (backTo pos (starEach es X.env)).any (·.1) = false := by rfl) :
    PE X (.Call (.Name x p) (e :: es) [] pos) (tCall sp [] E t) := by
  obtain ⟨f, fd, ps, F, hm, kp, b⟩ := c.ex
  exact pe_call F (hr.mono hk) hg hm kp b .nil hx ha hdb he hpl
theorem pe_mk2 (c : Mak2 X.prog X.w X.K X.mg X.base k x C sp) (hr : Room j X.A) (hk : k + 1 ≤ j) (hx : Passes (L2.CX X.prog X.w) X E) (hg : Gl X x) (ha : PA X (e :: es) t)
    (hdb : (x == ("__debug__" : Str)) = false := by decide) (he : starEach (e :: es) X.env = (false, eval e X.env) :: starEach es X.env := by rfl) (hpl : (backTo pos (starEach es X.env)).any (·.1) = false := by rfl) :
    PE X (.Call (.Name x p) (e :: es) [] pos) (tMake C sp [] E t) := by
  obtain ⟨f, fd, ps, M, F, hm, b⟩ := c.ex
  exact pe_make M F (hr.mono hk) hg hm b .nil hx ha hdb he hpl
theorem pe_m2 {pl : Sem Bool} (c : Met2 X.prog X.w X.K X.mg X.base k C m sp) (hr : Room j X.A) (hk : k ≤ j) (hx : Passes (L2.CX X.prog X.w) X E) (he : PE X o ta) (ha : PA X (e :: es) t)
    (hst : starEach (e :: es) X.env = (false, eval e X.env) :: starEach es X.env := by rfl) (hpl : (backTo pos (starEach es X.env)).any (·.1) = false := by rfl)
    (ht : eval (.Call (.Attribute o m apos) (e :: es) [] pos) X.env = (do
      let ov ← eval o X.env
      standAt apos.atName
      let (f, first) ← holding [ov] (getMethod ov m pl)
      callWith pos f first (backTo pos (starEach (e :: es) X.env)) (backToKw pos (keywordEach [] X.env))) := by rfl) :
    PE X (.Call (.Attribute o m apos) (e :: es) [] pos) (tMeth C m sp [] E ta t) := by
  obtain ⟨f, fd, ps, cl, M, F, b⟩ := c.ex
  exact pe_meth he cl M F (hr.mono hk) b .nil hx ha hst hpl ht
theorem pe_m20 {pl : Sem Bool} (c : Met2 X.prog X.w X.K X.mg X.base k C m sp) (hr : Room j X.A) (hk : k ≤ j) (hx : Passes (L2.CX X.prog X.w) X E) (he : PE X o ta)
    (ht : eval (.Call (.Attribute o m apos) [] [] pos) X.env = (do
      let ov ← eval o X.env
      standAt apos.atName
      let (f, first) ← holding [ov] (getMethod ov m pl)
      callWith pos f first (backTo pos (starEach [] X.env)) (backToKw pos (keywordEach [] X.env))) := by rfl) :
    PE X (.Call (.Attribute o m apos) [] [] pos) (tMeth C m sp [] E ta tNil) := by
  obtain ⟨f, fd, ps, cl, M, F, b⟩ := c.ex
  exact pe_meth0 he cl M F (hr.mono hk) b .nil hx ht
end
/-- what comes back: data; a new list -/
def RetD (G H : Hp) (d : PyData) (Q : VK) : Prop := ∀ v G2 H2, Gr [] G H G2 H2 → Dt G2 d v → Q v H2
def RetL (G H : Hp) (ds : List PyData) (Q : VK) : Prop := ∀ p xs G2 H2, Gr [] G H G2 H2 → H p = none → G2 p = none → H2 p = some (.lst xs) → Dts G2 ds xs → Q (.ref p) H2
theorem RetD.go {G H G1 H1 : Hp} {d : PyData} {Q : VK} (k : RetD G H d Q) (g : Gr [] G H G1 H1) : RetD G1 H1 d Q := fun v G2 H2 g2 e => k v G2 H2 (g.trans g2) e
theorem RetL.go {G H G1 H1 : Hp} {ds : List PyData} {Q : VK} (k : RetL G H ds Q) (g : Gr [] G H G1 H1) : RetL G1 H1 ds Q := fun p xs G2 H2 g2 n m e z => k p xs G2 H2 (g.trans g2) (g.fresh n) m e z
/-! ### scalars -/
section
variable {G : Hp}
theorem dt_int {i : Int} : Dt G (.int i) (.int i) := rfl
theorem dt_str {i : Str} : Dt G (.str i) (.str i) := rfl
theorem dt_bl {i : Bool} : Dt G (.bool i) (.bl i) := rfl
theorem dt_nn : Dt G .none .non := rfl
end
section
variable {σ : L2.St} {G H : Hp} {ta te : TE} {t tr : TA} {d : PyData} {ds : List PyData} {v : V}
theorem ea_nil' : EvA tNil σ G H (datL []) := ea_nil
theorem ea_cons' (h : EvD ta σ G H d) (hr : EvA tr σ G H (datL ds)) : EvA (tCons ta tr) σ G H (datL (d :: ds)) := ea_dat h hr
theorem ev_lstD (h : EvA t σ G H (datL ds)) (hl : ds.length ≤ 1000) : EvD (tLst t) σ G H (.list ds) := (ev_lst h hl).dat
theorem ev_len {t : TE} {K : PySem.W.Frag} {s : Str} (h : EvD t σ G H (.str s)) (hl : s.length ≤ 1000000) : EvD (tCB (rLenU K) (tCons t tNil)) σ G H (.int s.length) := ev_cb (ea_dat h ea_nil) (r_lenS hl)
theorem ev_lenL {t : TE} {K : PySem.W.Frag} {es : List PyData} (h : EvD t σ G H (.list es)) : EvD (tCB (rLenU K) (tCons t tNil)) σ G H (.int es.length) := ev_cb (ea_dat h ea_nil) r_lenL
theorem ev_lenT {t : TE} {K : PySem.W.Frag} {es : List PyData} (h : EvD t σ G H (.tuple es)) : EvD (tCB (rLenU K) (tCons t tNil)) σ G H (.int es.length) := ev_cb (ea_dat h ea_nil) r_lenT
theorem ev_isi {t : TE} {K : PySem.W.Frag} {n : String} {b : Bool} (h : EvD t σ G H d) (k : kitB (kindD d) n = some b) : EvD (tCB (rIsi K) (tCons t (tCons (tC (.ty n)) tNil))) σ G H (.bool b) := ev_cb (ea_dat h (ea_obj ev_c ea_nil)) (r_isi k)
theorem ev_find {to t : TE} {K : PySem.W.Frag} {a b : Str} (h : EvD to σ G H (.str a)) (k : EvD t σ G H (.str b)) : EvD (tMtS K rFindU to (tCons t tNil)) σ G H (.int (Txt.find a b)) := ev_mtS h (ea_cons' k ea_nil') d_find
theorem ev_index {to t : TE} {K : PySem.W.Frag} {W : WX} {a b : Str} {n : Nat} (h : EvD to σ G H (.str a)) (k : EvD t σ G H (.str b)) (e : Txt.index0 a b = some n) : EvD (tMtS K (rIndexU W) to (tCons t tNil)) σ G H (.int n) := ev_mtS h (ea_cons' k ea_nil') (d_index e)
end
theorem k_ii {x : Int} : kitB (kindD (.int x)) "int" = some true := by rfl
theorem k_ib {x : Int} : kitB (kindD (.int x)) "bool" = some false := by rfl
theorem k_bb {x : Bool} : kitB (kindD (.bool x)) "bool" = some true := by rfl
theorem k_bi {x : Bool} : kitB (kindD (.bool x)) "int" = some true := by rfl
theorem k_ss {x : Str} : kitB (kindD (.str x)) "str" = some true := by rfl
theorem k_tt {x : List PyData} : kitB (kindD (.tuple x)) "tuple" = some true := by rfl
theorem k_ll {x : List PyData} : kitB (kindD (.list x)) "list" = some true := by rfl
theorem eqv_i {x y : Int} : (PyData.int x).eqv (.int y) = (x == y) := by rfl
theorem eqv_b {x y : Bool} : (PyData.bool x).eqv (.bool y) = (x == y) := by rfl
theorem eqv_s {x y : Str} : (PyData.str x).eqv (.str y) = (x == y) := by rfl

/-! The tactic: walk_at with keys of our own. "dt" data of a value; "ev" what a reading evaluates to; "et" a test; "op" an operation; "sd" side conditions; "ex" the ground. -/
local macro_rules | `(tactic| walk_at "ex") => `(tactic| first | with_reducible assumption | exact Tn.Gr.s (by with_reducible assumption) | exact Tn.Ex.refl _)
local macro_rules | `(tactic| walk_at "sd") => `(tactic| first | with_reducible assumption | decide | rfl | omega | (constructor <;> omega))
local macro_rules | `(tactic| walk_at "dt") => `(tactic| first | with_reducible exact Tn.dt_int | with_reducible exact Tn.dt_str | with_reducible exact Tn.dt_bl | with_reducible exact Tn.dt_nn | with_reducible assumption | ((with_reducible apply Tn.Dt.gr); (· with_reducible assumption); (· walk_at "dt")) | fail "no")
local macro_rules | `(tactic| walk_at "op") => `(tactic| first
  | with_reducible exact Tn.b_addI | with_reducible exact Tn.b_sub | ((with_reducible apply Tn.b_mod); walk_at "sd") | ((with_reducible apply Tn.b_div); walk_at "sd") | ((with_reducible apply Tn.b_mul); walk_at "mul")
  | ((with_reducible apply Tn.b_addS); walk_at "sd") | ((with_reducible apply Tn.b_addL); walk_at "sd") | ((with_reducible apply Tn.b_pow); walk_at "sd")
  | with_reducible exact Tn.b_lt | with_reducible exact Tn.b_le | with_reducible exact Tn.b_gt | with_reducible exact Tn.b_ge
  | ((with_reducible apply Tn.b_eq) <;> walk_at "okd") | ((with_reducible apply Tn.b_ne) <;> walk_at "okd") | with_reducible exact Tn.b_is | with_reducible exact Tn.b_isn
  | with_reducible exact Tn.b_inC | ((with_reducible apply Tn.b_inL) <;> walk_at "okd") | ((with_reducible apply Tn.b_inT) <;> walk_at "okd")
  | ((with_reducible apply Tn.b_ixL); walk_at "ix") | ((with_reducible apply Tn.b_ixT); walk_at "ix") | ((with_reducible apply Tn.b_ixS) <;> walk_at "ix"))
local macro_rules | `(tactic| walk_at "okd") => `(tactic| first | with_reducible assumption | rfl)
local macro_rules | `(tactic| walk_at "mul") => `(tactic| first | (refine Or.inl ⟨?_, ?_⟩ <;> omega) | (refine Or.inr ⟨?_, ?_⟩ <;> omega) | with_reducible assumption)
local macro_rules | `(tactic| walk_at "ix") => `(tactic| first | with_reducible assumption | rfl | decide | omega)
local macro_rules | `(tactic| walk_at "call") => `(tactic| fail "no rule of ours")
local macro_rules | `(tactic| walk_at "arg") => `(tactic| first | exact Tn.ev_var rfl | walk_at "ev" | walk_at "sd")
local macro_rules | `(tactic| walk_at "ea") => `(tactic| first | with_reducible exact Tn.ea_nil' | ((with_reducible apply Tn.ea_cons'); (· walk_at "ev"); (· walk_at "ea")) | fail "no")
local macro_rules | `(tactic| walk_at "ev") => `(tactic| first
  | with_reducible assumption
  | exact Tn.EvV.dat (Tn.ev_var rfl) (by walk_at "dt")
  | exact Tn.EvV.dat Tn.ev_c (by walk_at "dt")
  | ((with_reducible apply Tn.ev_bin); (· walk_at "ev"); (· walk_at "ev"); (· walk_at "op"))
  | ((with_reducible apply Tn.ev_un); (· walk_at "ev"); (· with_reducible exact Tn.u_neg))
  | ((with_reducible apply Tn.ev_andV); (· walk_at "ev"); (· intro _; walk_at "ev"))
  | ((with_reducible apply Tn.ev_orV); (· walk_at "ev"); (· intro _; walk_at "ev"))
  | ((with_reducible apply Tn.ev_notV); walk_at "ev")
  | ((with_reducible apply Tn.ev_tup); (· walk_at "ea"); (· walk_at "sd"))
  | ((with_reducible apply Tn.ev_lstD); (· walk_at "ea"); (· walk_at "sd"))
  | ((with_reducible apply Tn.ev_len); (· walk_at "ev"); (· walk_at "sd"))
  | ((with_reducible apply Tn.ev_lenL); walk_at "ev")
  | ((with_reducible apply Tn.ev_lenT); walk_at "ev")
  | ((with_reducible apply Tn.ev_isi); (· walk_at "ev"); (· first | with_reducible exact Tn.k_ii | with_reducible exact Tn.k_ib | with_reducible exact Tn.k_bb | with_reducible exact Tn.k_bi | with_reducible exact Tn.k_ss | with_reducible exact Tn.k_tt | with_reducible exact Tn.k_ll | rfl))
  | ((with_reducible apply Tn.ev_find); (· walk_at "ev"); (· walk_at "ev"))
  | ((with_reducible apply Tn.ev_slS); (· walk_at "ev"); (· walk_at "eo"); (· walk_at "eo"); (· walk_at "sd"))
  | walk_at "call")
local macro_rules | `(tactic| walk_at "eo") => `(tactic| first | with_reducible exact Tn.eo_none | ((with_reducible apply Tn.eo_some); walk_at "ev"))
local macro_rules | `(tactic| walk_at "et") => `(tactic| first
  | ((with_reducible apply Tn.et_test); walk_at "ev")
  | ((with_reducible apply Tn.et_B); walk_at "ev")
  | ((with_reducible apply Tn.et_and); (· walk_at "et"); (· intro _; walk_at "et"))
  | ((with_reducible apply Tn.et_or); (· walk_at "et"); (· intro _; walk_at "et"))
  | ((with_reducible apply Tn.et_not); walk_at "et") | fail "no")
local macro_rules | `(tactic| walk_at "fin") => `(tactic| first | rfl | (simp [Tn.eqv_i, Tn.eqv_b, Tn.eqv_s]; done))
local macro_rules | `(tactic| walk_at "vs") => `(tactic| first | (rintro rfl; rfl) | (rintro ⟨a, b⟩; first | (subst a; rfl) | (revert b; walk_at "vs")))
/-! The defs of names.py. -/
abbrev SIGNS : Str := "abcdefghijklmnopqrstuvwxyz0123456789"
abbrev c_SIGNS : V := .str SIGNS
abbrev c_MOST_SIGNS : V := .int 12
def isSign (c : Nat) : Bool := decide (c ∈ SIGNS.cps.toList)
def okName (z : Str) : Bool := decide (1 ≤ z.length) && decide (z.length ≤ 12) && z.cps.toList.all isSign
theorem len_list (z : Str) : z.length = z.cps.toList.length := by simp [Str.length]
/-! ### is_name -/
def sp_is_name (T : Tx) : Sp := fun vs H Q _ => ∃ G z, Ex G H ∧ vs = [.str z] ∧ z.length ≤ 1000 ∧ RetD G H (.bool (okName z)) Q
abbrev N_is_name : List Str := ["name", "sign"]
def t_is_name (T : Tx) (E : XK) : TS :=
  (tSeq (tIfS (tOr (tTest (tOp (rLtU) (tCB (rLenU T.K) (tCons (tVar 0) tNil)) (tC (.int 1)))) (tTest (tOp (rGtU) (tCB (rLenU T.K) (tCons (tVar 0) tNil)) (tC c_MOST_SIGNS)))) (tSeq (tRet (tC (.bl false))) tNext) tNext) (tSeq (tFor (iStr (tVar 0)) (gName 1) (tSeq (tIfS (tTest (tOp (rInU T.K true) (tVar 1) (tC c_SIGNS))) (tSeq (tRet (tC (.bl false))) tNext) tNext) tNext)) (tSeq (tRet (tC (.bl true))) tNext)))
theorem all_take {p : Nat → Bool} {l : List Nat} {i c : Nat} (h : l[i]? = some c) (a : (l.take i).all p = true) (q : p c = true) : (l.take (i + 1)).all p = true := by
  rw [List.take_succ, h, List.all_append, a]
  simp [q]
theorem all_not {p : Nat → Bool} {l : List Nat} {i c : Nat} (h : l[i]? = some c) (q : p c = false) : l.all p = false := by
  rw [List.all_eq_false]
  exact ⟨c, List.mem_of_getElem? h, by simp [q]⟩
theorem pure_is_name {T : Tx} {vs : List V} {H : Hp} {Q : VK} {E : XK} (h : sp_is_name T vs H Q E) : t_is_name T E { nx := fun _ H' => Q .non H', rt := Q } (start ["name", "sign"] vs) H := by
  obtain ⟨G, z, e, rfl, hz, k⟩ := h
  refine q_when e (by walk_at "et") (fun c G2 H2 g => ?_) (fun c G2 H2 g => ?_)
  · refine q_ret g.s (d := .bool false) (by walk_at "ev") fun v G3 H3 g3 e3 => k v G3 H3 (g.trans g3) ?_
    have : okName z = false := by
      unfold okName
      simp at c
      rcases c with c | c
      · have : ¬ (1 ≤ z.length) := by omega
        simp [this]
      · have : ¬ (z.length ≤ 12) := by omega
        simp [this]
    rw [this]
    exact e3
  · refine q_forS (fun i σ' G1 H1 => ∃ v, σ' = [some (.str z), v] ∧ (z.cps.toList.take i).all isSign = true) g.s (s := z) (by walk_at "ev") (fun G1 H1 g1 => ⟨_, rfl, by simp⟩) ?_ ?_
    · rintro i c σ' G1 H1 g1 hc ⟨v, rfl, ha⟩
      refine q_when g1.s (by walk_at "et") (fun q G3 H3 g3 => ?_) (fun q G3 H3 g3 => ?_)
      · refine q_ret g3.s (d := .bool false) (by walk_at "ev") fun v G4 H4 g4 e4 => k v G4 H4 (((g.trans g1).trans g3).trans g4) ?_
        have : okName z = false := by
          unfold okName
          rw [all_not hc (p := isSign) (by unfold isSign; simpa using q)]
          simp
        rw [this]
        exact e4
      · refine q_next ⟨G3, g3, _, rfl, all_take hc ha (by unfold isSign; simpa using q)⟩
    · rintro σ' G1 H1 g1 ⟨v, rfl, ha⟩
      refine q_ret g1.s (d := .bool true) (by walk_at "ev") fun v G4 H4 g4 e4 => k v G4 H4 ((g.trans g1).trans g4) ?_
      have : okName z = true := by
        unfold okName
        rw [List.take_length] at ha
        simp at c
        simp [ha]
        omega
      rw [this]
      exact e4
theorem pur_is_name {T : Tx} {G H : Hp} {vs : List V} {z : Str} (e : Ex G H) (h : Fds G [.dat (.str z)] vs) (hz : z.length ≤ 1000) : PurD (sp_is_name T) vs G H (.bool (okName z)) := fun Q E k => by
  obtain ⟨x, xs, rfl, e1, e2⟩ := h
  cases e1; cases e2
  exact ⟨G, z, e, rfl, hz, k⟩
section
variable {T : Tx} {σ : L2.St} {G H : Hp} {a b c : TE} {E : XK}
theorem ev_is_name {z : Str} (h : EvD a σ G H (.str z)) (hz : z.length ≤ 1000) : EvD (tCall (sp_is_name T) [] E (tCons a tNil)) σ G H (.bool (okName z)) :=
  ev_call (ea_dat h ea_nil) fun _ _ _ g k => pur_is_name g.s k hz
end
local macro_rules | `(tactic| walk_at "call") => `(tactic| first | ((with_reducible apply Tn.ev_is_name) <;> walk_at "arg") | fail "no")
/-! ### home -/
def hstep (t n : Int) (a : Int) (c : Nat) : Int := (a * t + Txt.find SIGNS ⟨#[c]⟩ + 1) % n
def homeL (l : List Nat) (t n : Int) : Int := l.foldl (hstep t n) 0
abbrev homeN (z : Str) (t n : Int) : Int := homeL z.cps.toList t n
theorem homeL_take {l : List Nat} {i c : Nat} {t n : Int} (h : l[i]? = some c) : homeL (l.take (i + 1)) t n = hstep t n (homeL (l.take i) t n) c := by
  unfold homeL
  rw [List.take_succ, h, List.foldl_append]
  rfl
theorem homeL_bd {l : List Nat} {t n : Int} (hn : 0 < n) : 0 ≤ homeL l t n ∧ homeL l t n < n := by
  unfold homeL
  rcases List.eq_nil_or_concat l with rfl | ⟨l', c, rfl⟩
  · exact ⟨Int.le_refl _, hn⟩
  · rw [List.concat_eq_append, List.foldl_append]
    exact ⟨Int.emod_nonneg _ (by omega), Int.emod_lt_of_pos _ hn⟩
def sp_home (T : Tx) : Sp := fun vs H Q _ => ∃ G z t n, Ex G H ∧ vs = [.str z, .int t, .int n] ∧ 1 ≤ t ∧ t ≤ 1000000 ∧ 0 < n ∧ RetD G H (.int (homeN z t n)) Q
abbrev N_home : List Str := ["name", "times", "count", "number", "sign"]
def t_home (T : Tx) (E : XK) : TS :=
  (tSeq (tAsg (tC (.int 0)) (gName 3)) (tSeq (tFor (iStr (tVar 0)) (gName 4) (tSeq (tAsg (tOp rModU (tOp rAddU (tOp rAddU (tOp rMulU (tVar 3) (tVar 1)) (tMtS T.K rFindU (tC c_SIGNS) (tCons (tVar 4) tNil))) (tC (.int 1))) (tVar 2)) (gName 3)) tNext)) (tSeq (tRet (tVar 3)) tNext)))
theorem pure_home {T : Tx} {vs : List V} {H : Hp} {Q : VK} {E : XK} (h : sp_home T vs H Q E) : t_home T E { nx := fun _ H' => Q .non H', rt := Q } (start N_home vs) H := by
  obtain ⟨G, z, t, n, e, rfl, ht, ht2, hn, k⟩ := h
  refine q_asgI e (n := 0) (by walk_at "ev") fun G1 H1 g1 => ?_
  refine q_forS (fun i σ' G1 H1 => ∃ v, σ' = [some (.str z), some (.int t), some (.int n), some (.int (homeL (z.cps.toList.take i) t n)), v]) g1.s (s := z) (by walk_at "ev") (fun G1 H1 g1 => ⟨_, rfl⟩) ?_ ?_
  · rintro i c σ' G2 H2 g2 hc ⟨v, rfl⟩
    refine q_asg g2.s (by walk_at "ev") fun v G3 H3 g3 e3 => ?_
    cases e3
    refine q_next ⟨G3, g3, ?_⟩
    rw [homeL_take hc]
    exact ⟨_, rfl⟩
  · rintro σ' G2 H2 g2 ⟨v, rfl⟩
    refine q_ret g2.s (by walk_at "ev") fun v G3 H3 g3 e3 => k v G3 H3 ((g1.trans g2).trans g3) ?_
    rw [List.take_length] at e3
    exact e3
section
variable {T : Tx} {σ : L2.St} {G H : Hp} {a b c : TE} {E : XK}
theorem ev_home {z : Str} {t n : Int} (h1 : EvD a σ G H (.str z)) (h2 : EvD b σ G H (.int t)) (h3 : EvD c σ G H (.int n)) (ht : 1 ≤ t) (ht2 : t ≤ 1000000) (hn : 0 < n) : EvD (tCall (sp_home T) [] E (tCons a (tCons b (tCons c tNil)))) σ G H (.int (homeN z t n)) :=
  ev_call (ea_dat h1 (ea_dat h2 (ea_dat h3 ea_nil))) fun _ _ _ g k Q E q => by
    obtain ⟨x, xs, rfl, e1, y, ys, rfl, e2, w, ws, rfl, e3, e4⟩ := k
    cases e1; cases e2; cases e3; cases e4
    exact ⟨_, z, t, n, g.s, rfl, ht, ht2, hn, q⟩
end
local macro_rules | `(tactic| walk_at "call") => `(tactic| first | ((with_reducible apply Tn.ev_home) <;> walk_at "arg") | fail "no")

/-! The laws' helpers that read cells. -/
/-- the script stands at a, for ever -/
def Scr (K : PySem.W.Frag) (G : Hp) (a : Addr) (ns : List Int) : Prop := SqL K G a (ns.map V.int)
theorem Scr.mono {K : PySem.W.Frag} {G G' : Hp} {a : Addr} {ns : List Int} (e : Ex G G') (h : Scr K G a ns) : Scr K G' a ns := by
  rcases h with h | h
  · refine .inl ?_
    rcases h with h | ⟨o, h⟩
    · exact .inl (e _ _ h)
    · exact .inr ⟨o, e _ _ h⟩
  · exact .inr h
theorem Scr.gr {K : PySem.W.Frag} {M : List Addr} {G H G' H' : Hp} {a : Addr} {ns : List Int} (g : Gr M G H G' H') (h : Scr K G a ns) : Scr K G' a ns := h.mono g.g
theorem at_getD {l : List Nat} {i : Int} (h0 : 0 ≤ i) (h1 : i < l.length) : atI l i = some (l.getD i.toNat 0) := by
  obtain ⟨n, rfl⟩ : ∃ n : Nat, i = n := ⟨i.toNat, by omega⟩
  have : n < l.length := by omega
  refine atI_nat ?_
  rw [List.getElem?_eq_getElem this, Int.toNat_natCast, List.getD_eq_getElem?_getD, List.getElem?_eq_getElem this]
  rfl
local macro_rules | `(tactic| walk_at "ix") => `(tactic| first | ((apply Tn.at_getD <;> walk_at "sd")) | fail "no")
local macro_rules | `(tactic| walk_at "arg") => `(tactic| first | (((with_reducible apply Tn.Scr.gr); (· with_reducible assumption); (· walk_at "arg"))) | fail "no")
section
variable {K : PySem.W.Frag} {σ : L2.St} {G H : Hp} {ta tb : TE} {a : Addr} {ns : List Int}
theorem ev_scrLen (hs : Scr K G a ns) (h : EvV ta σ G H (.ref a)) : EvD (tCB (rLenU K) (tCons ta tNil)) σ G H (.int ns.length) := fun G1 H1 g Q q =>
  h G1 H1 g _ fun G2 H2 g2 => .inl ⟨_, ns.length, rfl, .inl ⟨_, (hs.mono (g.g.trans g2.g)).mono g2.s, by simp⟩, q _ G2 H2 g2 rfl⟩
theorem ev_scrIx {i n : Int} (hs : Scr K G a ns) (h : EvV ta σ G H (.ref a)) (hb : EvD tb σ G H (.int i)) (hi : 0 ≤ i) (hx : ns[i.toNat]? = some n) : EvD (tOp (rIx K) ta tb) σ G H (.int n) := fun G1 H1 g Q q =>
  h G1 H1 g _ fun G2 H2 g2 => hb G2 H2 (g.trans g2) _ fun v G3 H3 g3 e => by
    cases e
    refine .inl ⟨a, _, i, .int n, rfl, rfl, (hs.mono ((g.g.trans g2.g).trans g3.g)).mono g3.s, ?_, q _ G3 H3 (g2.trans g3) rfl⟩
    have : i = ((i.toNat : Nat) : Int) := by omega
    rw [this]
    exact atI_nat (by simp [hx])
end
/-! ### a cell of the script, or 0 -/
def cell (ns : List Int) (k : Int) : Int := ns.getD k.toNat 0
def sp__law_cell_at (T : Tx) : Sp := fun vs H Q _ => ∃ G a ns k, Ex G H ∧ vs = [.ref a, .int k] ∧ Scr T.K G a ns ∧ 0 ≤ k ∧ RetD G H (.int (cell ns k)) Q
abbrev N__law_cell_at : List Str := ["_law_script", "_law_k"]
def t__law_cell_at (T : Tx) (E : XK) : TS :=
  (tSeq (tIfS (tTest (tOp (rLtU) (tVar 1) (tCB (rLenU T.K) (tCons (tVar 0) tNil)))) (tSeq (tRet (tOp (rIx T.K) (tVar 0) (tVar 1))) tNext) tNext) (tSeq (tRet (tC (.int 0))) tNext))
theorem pure__law_cell_at {T : Tx} {vs : List V} {H : Hp} {Q : VK} {E : XK} (h : sp__law_cell_at T vs H Q E) : t__law_cell_at T E { nx := fun _ H' => Q .non H', rt := Q } (start N__law_cell_at vs) H := by
  obtain ⟨G, a, ns, k, e, rfl, hs, hk, q⟩ := h
  refine q_when (b := decide (k < (ns.length : Int))) e ?_ (fun c G2 H2 g => ?_) (fun c G2 H2 g => ?_)
  · refine et_test (ev_bin (d1 := .int k) (d2 := .int ns.length) (by walk_at "ev") (ev_scrLen hs (ev_var rfl)) b_lt)
  · have hc : k < (ns.length : Int) := by simpa using c
    have hn : k.toNat < ns.length := by omega
    refine q_ret g.s (ev_scrIx (hs.gr g) (ev_var rfl) (i := k) (by walk_at "ev") hk (List.getElem?_eq_getElem hn)) fun v G3 H3 g3 e3 => q v G3 H3 (g.trans g3) ?_
    have : cell ns k = ns[k.toNat] := by
      unfold cell
      rw [List.getD_eq_getElem?_getD, List.getElem?_eq_getElem hn]
      rfl
    rw [this]
    exact e3
  · have hc : ¬ k < (ns.length : Int) := by simpa using c
    refine q_ret g.s (d := .int 0) (by walk_at "ev") fun v G3 H3 g3 e3 => q v G3 H3 (g.trans g3) ?_
    have : cell ns k = 0 := by
      unfold cell
      rw [List.getD_eq_getElem?_getD, List.getElem?_eq_none (by omega)]
      rfl
    rw [this]
    exact e3
/-! ### mixed -/
def mixM (c k : Int) : Int := (c + 7919 * k + 11) * 48271 % 2147483647
def mixed (c k : Int) : Int := (mixM c k * mixM c k + 40692 * mixM c k) % 2147483399
theorem mixM_bd (c k : Int) : 0 ≤ mixM c k ∧ mixM c k < 2147483647 := ⟨Int.emod_nonneg _ (by decide), Int.emod_lt_of_pos _ (by decide)⟩
theorem mixed_bd (c k : Int) : 0 ≤ mixed c k ∧ mixed c k < 2147483399 := ⟨Int.emod_nonneg _ (by decide), Int.emod_lt_of_pos _ (by decide)⟩
def sp__law_mixed (T : Tx) : Sp := fun vs H Q _ => ∃ G c k, Ex G H ∧ vs = [.int c, .int k] ∧ RetD G H (.int (mixed c k)) Q
abbrev N__law_mixed : List Str := ["_law_cell", "_law_k", "_law_mix"]
def t__law_mixed (T : Tx) (E : XK) : TS :=
  (tSeq (tAsg (tOp rModU (tOp rMulU (tOp rAddU (tOp rAddU (tVar 0) (tOp rMulU (tC (.int 7919)) (tVar 1))) (tC (.int 11))) (tC (.int 48271))) (tC (.int 2147483647))) (gName 2)) (tSeq (tRet (tOp rModU (tOp rAddU (tOp rMulU (tVar 2) (tVar 2)) (tOp rMulU (tC (.int 40692)) (tVar 2))) (tC (.int 2147483399)))) tNext))
theorem pure__law_mixed {T : Tx} {vs : List V} {H : Hp} {Q : VK} {E : XK} (h : sp__law_mixed T vs H Q E) : t__law_mixed T E { nx := fun _ H' => Q .non H', rt := Q } (start N__law_mixed vs) H := by
  obtain ⟨G, c, k, e, rfl, q⟩ := h
  refine q_asgI (n := mixM c k) e (EvD.is (by walk_at "ev") (by rfl)) fun G2 H2 g => ?_
  have := mixM_bd c k
  exact q_ret g.s (d := .int (mixed c k)) (EvD.is (by walk_at "ev") (by rfl)) fun v G3 H3 g3 e3 => q v G3 H3 (g.trans g3) e3
section
variable {T : Tx} {σ : L2.St} {G H : Hp} {a b c : TE} {E : XK}
theorem ev_cell {s : Addr} {ns : List Int} {k : Int} (h1 : EvV a σ G H (.ref s)) (h2 : EvD b σ G H (.int k)) (hs : Scr T.K G s ns) (hk : 0 ≤ k) : EvD (tCall (sp__law_cell_at T) [] E (tCons a (tCons b tNil))) σ G H (.int (cell ns k)) :=
  ev_call (ea_obj h1 (ea_dat h2 ea_nil)) fun _ _ _ g k' Q E q => by
    obtain ⟨x, xs, rfl, e1, y, ys, rfl, e2, e4⟩ := k'
    cases e1; cases e2; cases e4
    exact ⟨_, s, ns, k, g.s, rfl, hs.gr g, hk, q⟩
theorem ev_mixed {x k : Int} (h1 : EvD a σ G H (.int x)) (h2 : EvD b σ G H (.int k)) : EvD (tCall (sp__law_mixed T) [] E (tCons a (tCons b tNil))) σ G H (.int (mixed x k)) :=
  ev_call (ea_dat h1 (ea_dat h2 ea_nil)) fun _ _ _ g k' Q E q => by
    obtain ⟨x, xs, rfl, e1, y, ys, rfl, e2, e4⟩ := k'
    cases e1; cases e2; cases e4
    exact ⟨_, _, _, g.s, rfl, q⟩
end
local macro_rules | `(tactic| walk_at "call") => `(tactic| first | ((with_reducible apply Tn.ev_cell) <;> walk_at "arg") | fail "no")
local macro_rules | `(tactic| walk_at "call") => `(tactic| first | ((with_reducible apply Tn.ev_mixed) <;> walk_at "arg") | fail "no")
/-- the law's promise -/
def spL (K : PySem.W.Frag) : Sp := fun vs H Q _ => ∃ G a ns, Ex G H ∧ vs = [.ref a] ∧ Scr K G a ns ∧ ns.length ≤ 63 ∧ RetD G H (.bool true) Q
theorem spL_entry {K : PySem.W.Frag} {H : Hp} {a : Addr} {ns : List Int} {E : XK} (hl : ns.length ≤ 63) (hS : SqL K H a (ns.map V.int)) : spL K [.ref a] H (fun v _ => v = .bl true) E :=
  ⟨H, a, ns, Ex.refl _, rfl, hS, hl, fun _ _ _ _ e => e⟩

/-! Law k01. -/
theorem signs_len : SIGNS.cps.toList.length = 36 := by decide +kernel
theorem signs_slen : SIGNS.length = 36 := by decide +kernel
/-- the sign at a place of SIGNS -/
def sg (i : Int) : Nat := SIGNS.cps.toList.getD i.toNat 0
theorem at_sg {i : Int} (h0 : 0 ≤ i) (h1 : i < 36) : atI SIGNS.cps.toList i = some (sg i) := at_getD h0 (by rw [signs_len]; exact h1)
theorem one_len (c : Nat) : (⟨#[c]⟩ : Str).length = 1 := rfl
theorem app_len (x y : Str) : (x ++ y).length = x.length + y.length := by
  rw [TL.len_tl, TL.tl_append, List.length_append, ← TL.len_tl, ← TL.len_tl]
theorem app_list (x y : Str) : (x ++ y).cps.toList = x.cps.toList ++ y.cps.toList := TL.tl_append x y
/-! ### _law_text -/
def textM (c : Int) : Nat → Str
  | 0 => ""
  | i + 1 => textM c i ++ ⟨#[sg (mixed c i / 31 % 36)]⟩
theorem textM_len (c : Int) : ∀ i, (textM c i).length = i
  | 0 => rfl
  | i + 1 => by rw [textM, app_len, textM_len c i, one_len]
theorem sg_in {i : Int} (h0 : 0 ≤ i) (h1 : i < 36) : isSign (sg i) = true := by
  unfold isSign sg
  have : i.toNat < SIGNS.cps.toList.length := by rw [signs_len]; omega
  rw [List.getD_eq_getElem?_getD, List.getElem?_eq_getElem this]
  simp
theorem textM_ok (c : Int) : ∀ i, (textM c i).cps.toList.all isSign = true
  | 0 => rfl
  | i + 1 => by
    rw [textM, app_list, List.all_append, textM_ok c i]
    simp [sg_in (Int.emod_nonneg _ (by decide)) (Int.emod_lt_of_pos _ (by decide))]
def sp__law_text (T : Tx) : Sp := fun vs H Q _ => ∃ G c n, Ex G H ∧ vs = [.int c, .int n] ∧ 0 ≤ n ∧ n ≤ 100 ∧ RetD G H (.str (textM c n.toNat)) Q
abbrev N__law_text : List Str := ["_law_cell", "_law_size", "_law_signs", "_law_text_here", "_law_k"]
def t__law_text (T : Tx) (E : XK) : TS :=
  (tSeq (tAsg (tC (.str "abcdefghijklmnopqrstuvwxyz0123456789")) (gName 2)) (tSeq (tAsg (tC (.str "")) (gName 3)) (tSeq (tFor (iRng1 (tCons (tVar 1) tNil)) (gName 4) (tSeq (tAsg (tOp rAddU (tVar 3) (tOp (rIx T.K) (tVar 2) (tOp rModU (tOp rDivU (tCall (sp__law_mixed T) [] E (tCons (tVar 0) (tCons (tVar 4) tNil))) (tC (.int 31))) (tC (.int 36))))) (gName 3)) tNext)) (tSeq (tRet (tVar 3)) tNext))))
theorem pure__law_text {T : Tx} {vs : List V} {H : Hp} {Q : VK} {E : XK} (h : sp__law_text T vs H Q E) : t__law_text T E { nx := fun _ H' => Q .non H', rt := Q } (start N__law_text vs) H := by
  obtain ⟨G, c, n, e, rfl, h0, h1, q⟩ := h
  refine q_asgS e (n := SIGNS) (by walk_at "ev") fun G1 H1 g1 => ?_
  refine q_asgS g1.s (n := "") (by walk_at "ev") fun G2 H2 g2 => ?_
  refine q_forR (n := n) (fun i σ' G1 H1 => ∃ v, σ' = [some (.int c), some (.int n), some (.str SIGNS), some (.str (textM c i)), v]) g2.s (by walk_at "ea") (by omega) (by omega) (fun G1 H1 g1 => ⟨_, rfl⟩) ?_ ?_
  · rintro i σ' G3 H3 g3 hi ⟨v, rfl⟩
    have hb := mixed_bd c i
    have hl := textM_len c i
    have l1 := one_len (sg (mixed c i / 31 % 36))
    refine q_asgS g3.s (n := textM c (i + 1)) (EvD.is (ev_bin (d2 := .str ⟨#[sg (mixed c i / 31 % 36)]⟩) (by walk_at "ev") (ev_bin (by walk_at "ev") (by walk_at "ev") (b_ixS (by decide) (at_sg (by omega) (by omega)))) (b_addS (by omega))) (by rfl)) fun G4 H4 g4 => ?_
    exact q_next ⟨G4, g4, _, rfl⟩
  · rintro σ' G3 H3 g3 ⟨v, rfl⟩
    exact q_ret g3.s (by walk_at "ev") fun v G4 H4 g4 e4 => q v G4 H4 (((g1.trans g2).trans g3).trans g4) e4
section
variable {T : Tx} {σ : L2.St} {G H : Hp} {a b c : TE} {E : XK}
theorem ev_text1 {x n : Int} (h1 : EvD a σ G H (.int x)) (h2 : EvD b σ G H (.int n)) (h0 : 0 ≤ n) (hn : n ≤ 100) : EvD (tCall (sp__law_text T) [] E (tCons a (tCons b tNil))) σ G H (.str (textM x n.toNat)) :=
  ev_call (ea_dat h1 (ea_dat h2 ea_nil)) fun _ _ _ g k' Q E q => by
    obtain ⟨x, xs, rfl, e1, y, ys, rfl, e2, e4⟩ := k'
    cases e1; cases e2; cases e4
    exact ⟨_, _, _, g.s, rfl, h0, hn, q⟩
end
local macro_rules | `(tactic| walk_at "call") => `(tactic| first | ((with_reducible apply Tn.ev_text1) <;> walk_at "arg") | fail "no")
/-! ### _law_spoilt: the sign put in is one of others -/
abbrev OTHERS : Str := " !\"#$&'()*+,-./:;<=>?@ABCDEFGHIJKLMNOPQRSTUVWXYZ[\\]^_`{|}~\n\t"
theorem others_len : OTHERS.length = 60 := by decide +kernel
theorem others_llen : OTHERS.cps.toList.length = 60 := by decide +kernel
def spoiltM (z : Str) (c : Int) : Str :=
  cutS z none (some (c % (z.length + 1))) ++ ⟨#[OTHERS.cps.toList.getD (c / 17 % 60).toNat 0]⟩ ++ cutS z (some (c % (z.length + 1) + c / 1700 % 2)) none
theorem spoiltM_len (z : Str) (c : Int) : (spoiltM z c).length ≤ 2 * z.length + 1 := by
  unfold spoiltM
  rw [app_len, app_len, one_len]
  have := cutS_length z none (some (c % (z.length + 1)))
  have := cutS_length z (some (c % (z.length + 1) + c / 1700 % 2)) none
  omega
def sp__law_spoilt (T : Tx) : Sp := fun vs H Q _ => ∃ G z c, Ex G H ∧ vs = [.str z, .int c] ∧ z.length ≤ 100 ∧ RetD G H (.str (spoiltM z c)) Q
abbrev N__law_spoilt : List Str := ["_law_text_here", "_law_cell", "_law_others", "_law_at", "_law_sign"]
def t__law_spoilt (T : Tx) (E : XK) : TS :=
  (tSeq (tAsg (tC (.str " !\"#$&'()*+,-./:;<=>?@ABCDEFGHIJKLMNOPQRSTUVWXYZ[\\]^_`{|}~\n\t")) (gName 2)) (tSeq (tAsg (tOp rModU (tVar 1) (tOp rAddU (tCB (rLenU T.K) (tCons (tVar 0) tNil)) (tC (.int 1)))) (gName 3)) (tSeq (tAsg (tOp (rIx T.K) (tVar 2) (tOp rModU (tOp rDivU (tVar 1) (tC (.int 17))) (tCB (rLenU T.K) (tCons (tVar 2) tNil)))) (gName 4)) (tSeq (tRet (tOp rAddU (tOp rAddU (tSl (rSlU T.K) (tVar 0) tNoPart (tPart (tVar 3))) (tVar 4)) (tSl (rSlU T.K) (tVar 0) (tPart (tOp rAddU (tVar 3) (tOp rModU (tOp rDivU (tVar 1) (tC (.int 1700))) (tC (.int 2))))) tNoPart))) tNext))))
theorem pure__law_spoilt {T : Tx} {vs : List V} {H : Hp} {Q : VK} {E : XK} (h : sp__law_spoilt T vs H Q E) : t__law_spoilt T E { nx := fun _ H' => Q .non H', rt := Q } (start N__law_spoilt vs) H := by
  obtain ⟨G, z, c, e, rfl, hz, q⟩ := h
  refine q_asgS e (n := OTHERS) (by walk_at "ev") fun G1 H1 g1 => ?_
  refine q_asgI g1.s (n := c % (z.length + 1)) (by walk_at "ev") fun G2 H2 g2 => ?_
  have ol := others_len
  have oll := others_llen
  refine q_asgS g2.s (n := ⟨#[OTHERS.cps.toList.getD (c / 17 % 60).toNat 0]⟩) (ev_bin (d1 := .str OTHERS) (d2 := .int (c / 17 % 60)) (by walk_at "ev") (EvD.is (ev_bin (by walk_at "ev") (ev_len (s := OTHERS) (by walk_at "ev") (by omega)) (b_mod (by rw [ol]; decide))) (by rw [ol]; rfl)) (b_ixS (by omega) (at_getD (by omega) (by omega)))) fun G3 H3 g3 => ?_
  have l1 := one_len (OTHERS.cps.toList.getD (c / 17 % 60).toNat 0)
  have c1 := cutS_length z none (some (c % (z.length + 1)))
  have c2 := cutS_length z (some (c % (z.length + 1) + c / 1700 % 2)) none
  refine q_ret g3.s (d := .str (spoiltM z c)) (EvD.is (ev_bin (ev_bin (by walk_at "ev") (by walk_at "ev") (b_addS (by omega))) (by walk_at "ev") (b_addS (by rw [app_len]; omega))) (by rfl)) fun v G4 H4 g4 e4 => q v G4 H4 (((g1.trans g2).trans g3).trans g4) e4
section
variable {T : Tx} {σ : L2.St} {G H : Hp} {a b c : TE} {E : XK}
theorem ev_spoilt1 {z : Str} {n : Int} (h1 : EvD a σ G H (.str z)) (h2 : EvD b σ G H (.int n)) (h0 : z.length ≤ 100) : EvD (tCall (sp__law_spoilt T) [] E (tCons a (tCons b tNil))) σ G H (.str (spoiltM z n)) :=
  ev_call (ea_dat h1 (ea_dat h2 ea_nil)) fun _ _ _ g k' Q E q => by
    obtain ⟨x, xs, rfl, e1, y, ys, rfl, e2, e4⟩ := k'
    cases e1; cases e2; cases e4
    exact ⟨_, _, _, g.s, rfl, h0, q⟩
end
local macro_rules | `(tactic| walk_at "call") => `(tactic| first | ((with_reducible apply Tn.ev_spoilt1) <;> walk_at "arg") | fail "no")
/-! ### _law_of -/
def ofM (c m : Int) : Int := [1, 2, m, 1 + c / 5 % m, 1 + c / 5 % m].getD (c % 5).toNat 0
theorem ofM_bd (c m : Int) (h : 2 ≤ m) : 1 ≤ ofM c m ∧ ofM c m ≤ m := by
  unfold ofM
  have h1 : 0 ≤ c / 5 % m := Int.emod_nonneg _ (by omega)
  have h2 : c / 5 % m < m := Int.emod_lt_of_pos _ (by omega)
  have h3 : (c % 5).toNat < 5 := by omega
  revert h3
  generalize (c % 5).toNat = k
  intro h3
  match k, h3 with
  | 0, _ => simp; omega
  | 1, _ => simp; omega
  | 2, _ => simp; omega
  | 3, _ => simp; omega
  | 4, _ => simp; omega
theorem at_ints {l : List Int} {i : Int} (h0 : 0 ≤ i) (h1 : i < l.length) : atI (l.map PyData.int) i = some (.int (l.getD i.toNat 0)) := by
  obtain ⟨n, rfl⟩ : ∃ n : Nat, i = n := ⟨i.toNat, by omega⟩
  have : n < l.length := by omega
  refine atI_nat ?_
  rw [List.getElem?_map, List.getElem?_eq_getElem this, Int.toNat_natCast, List.getD_eq_getElem?_getD, List.getElem?_eq_getElem this]
  rfl
def sp__law_of (T : Tx) : Sp := fun vs H Q _ => ∃ G c m, Ex G H ∧ vs = [.int c, .int m] ∧ 2 ≤ m ∧ RetD G H (.int (ofM c m)) Q
abbrev N__law_of : List Str := ["_law_cell", "_law_most"]
def t__law_of (T : Tx) (E : XK) : TS :=
  (tSeq (tRet (tOp (rIx T.K) (tLst (tCons (tC (.int 1)) (tCons (tC (.int 2)) (tCons (tVar 1) (tCons (tOp rAddU (tC (.int 1)) (tOp rModU (tOp rDivU (tVar 0) (tC (.int 5))) (tVar 1))) (tCons (tOp rAddU (tC (.int 1)) (tOp rModU (tOp rDivU (tVar 0) (tC (.int 5))) (tVar 1))) tNil)))))) (tOp rModU (tVar 0) (tC (.int 5))))) tNext)
theorem pure__law_of {T : Tx} {vs : List V} {H : Hp} {Q : VK} {E : XK} (h : sp__law_of T vs H Q E) : t__law_of T E { nx := fun _ H' => Q .non H', rt := Q } (start N__law_of vs) H := by
  obtain ⟨G, c, m, e, rfl, hm, q⟩ := h
  refine q_ret e (ev_bin (d1 := .list (([1, 2, m, 1 + c / 5 % m, 1 + c / 5 % m] : List Int).map PyData.int)) (d2 := .int (c % 5)) (EvD.is (ev_lstD (by walk_at "ea") (by simp)) (by rfl)) (by walk_at "ev") (b_ixL (at_ints (by omega) (by simp; omega)))) fun v G4 H4 g4 e4 => q v G4 H4 g4 e4
section
variable {T : Tx} {σ : L2.St} {G H : Hp} {a b c : TE} {E : XK}
theorem ev_of {z : Int} {n : Int} (h1 : EvD a σ G H (.int z)) (h2 : EvD b σ G H (.int n)) (h0 : 2 ≤ n) : EvD (tCall (sp__law_of T) [] E (tCons a (tCons b tNil))) σ G H (.int (ofM z n)) :=
  ev_call (ea_dat h1 (ea_dat h2 ea_nil)) fun _ _ _ g k' Q E q => by
    obtain ⟨x, xs, rfl, e1, y, ys, rfl, e2, e4⟩ := k'
    cases e1; cases e2; cases e4
    exact ⟨_, _, _, g.s, rfl, h0, q⟩
end
local macro_rules | `(tactic| walk_at "call") => `(tactic| first | ((with_reducible apply Tn.ev_of) <;> walk_at "arg") | fail "no")
/-! ### law -/
theorem find_index {x y : Str} {k : Nat} (h : Txt.index0 x y = some k) : Txt.find x y = k := by
  unfold Txt.index0 at h
  unfold Txt.find
  cases e : Builtin.Str.occurrences x y 0 x.length 1 with
  | nil => rw [e] at h; cases h
  | cons a l => rw [e] at h; cases h; rfl
theorem index_sign {c : Nat} (h : isSign c = true) : ∃ k, Txt.index0 SIGNS ⟨#[c]⟩ = some k := by
  have h' : c ∈ SIGNS.cps.toList := by unfold isSign at h; simpa using h
  have : (SIGNS.cps.toList.all fun c => (Txt.index0 SIGNS ⟨#[c]⟩).isSome) = true := by decide +kernel
  rw [List.all_eq_true] at this
  exact Option.isSome_iff_exists.mp (this c h')
def sp_law1 (T : Tx) : Sp := spL T.K
abbrev N_law : List Str := ["_law_script", "_law_text_here", "_law_due", "_law_sign", "_law_found", "_law_name", "_law_times", "_law_count", "_law_signs", "_law_number", "_law_told"]
def t_law (T : Tx) (E : XK) : TS :=
  (tSeq (tAsg (tCall (sp__law_text T) [] E (tCons (tCall (sp__law_cell_at T) [] E (tCons (tVar 0) (tCons (tC (.int 0)) tNil))) (tCons (tOp rModU (tCall (sp__law_cell_at T) [] E (tCons (tVar 0) (tCons (tC (.int 1)) tNil))) (tC (.int 15))) tNil))) (gName 1)) (tSeq (tIfS (tTest (tOp (rEqU T.K) (tOp rModU (tCall (sp__law_cell_at T) [] E (tCons (tVar 0) (tCons (tC (.int 2)) tNil))) (tC (.int 2))) (tC (.int 1)))) (tSeq (tAsg (tCall (sp__law_spoilt T) [] E (tCons (tVar 1) (tCons (tCall (sp__law_mixed T) [] E (tCons (tCall (sp__law_cell_at T) [] E (tCons (tVar 0) (tCons (tC (.int 2)) tNil))) (tCons (tC (.int 1)) tNil))) tNil))) (gName 1)) tNext) tNext) (tSeq (tAsg (tAndV (tOp (rLeU) (tC (.int 1)) (tCB (rLenU T.K) (tCons (tVar 1) tNil))) (tOp (rLeU) (tCB (rLenU T.K) (tCons (tVar 1) tNil)) (tC (.int 12)))) (gName 2)) (tSeq (tFor (iStr (tVar 1)) (gName 3) (tSeq (tIfS (tTest (tOp (rInU T.K true) (tVar 3) (tC (.str "abcdefghijklmnopqrstuvwxyz0123456789")))) (tSeq (tAsg (tC (.bl false)) (gName 2)) tNext) tNext) tNext)) (tSeq (tAsg (tCall (sp_is_name T) [] E (tCons (tVar 1) tNil)) (gName 4)) (tSeq (tIfS (tOr (tNot (tB (tCB (rIsi T.K) (tCons (tVar 4) (tCons (tC (.ty "bool")) tNil))))) (tTest (tOp (rNeU T.K) (tVar 4) (tVar 2)))) (tSeq (tRet (tC (.bl false))) tNext) tNext) (tSeq (tAsg (tCall (sp__law_text T) [] E (tCons (tCall (sp__law_cell_at T) [] E (tCons (tVar 0) (tCons (tC (.int 3)) tNil))) (tCons (tOp rAddU (tC (.int 1)) (tOp rModU (tCall (sp__law_cell_at T) [] E (tCons (tVar 0) (tCons (tC (.int 4)) tNil))) (tC (.int 12)))) tNil))) (gName 5)) (tSeq (tAsg (tCall (sp__law_of T) [] E (tCons (tCall (sp__law_mixed T) [] E (tCons (tCall (sp__law_cell_at T) [] E (tCons (tVar 0) (tCons (tC (.int 5)) tNil))) (tCons (tC (.int 2)) tNil))) (tCons (tC (.int 1000000)) tNil))) (gName 6)) (tSeq (tAsg (tCall (sp__law_of T) [] E (tCons (tCall (sp__law_mixed T) [] E (tCons (tCall (sp__law_cell_at T) [] E (tCons (tVar 0) (tCons (tC (.int 6)) tNil))) (tCons (tC (.int 3)) tNil))) (tCons (tC (.int 1000)) tNil))) (gName 7)) (tSeq (tAsg (tC (.str "abcdefghijklmnopqrstuvwxyz0123456789")) (gName 8)) (tSeq (tAsg (tC (.int 0)) (gName 9)) (tSeq (tFor (iStr (tVar 5)) (gName 3) (tSeq (tAsg (tOp rModU (tOp rAddU (tOp rAddU (tOp rMulU (tVar 9) (tVar 6)) (tMtS T.K (rIndexU (fun cls d _ H => E cls d H)) (tVar 8) (tCons (tVar 3) tNil))) (tC (.int 1))) (tVar 7)) (gName 9)) tNext)) (tSeq (tAsg (tCall (sp_home T) [] E (tCons (tVar 5) (tCons (tVar 6) (tCons (tVar 7) tNil)))) (gName 10)) (tSeq (tRet (tAndV (tCB (rIsi T.K) (tCons (tVar 10) (tCons (tC (.ty "int")) tNil))) (tAndV (tNotV (tCB (rIsi T.K) (tCons (tVar 10) (tCons (tC (.ty "bool")) tNil)))) (tOp (rEqU T.K) (tVar 10) (tVar 9))))) tNext))))))))))))))
theorem pure_law1 {T : Tx} {vs : List V} {H : Hp} {Q : VK} {E : XK} (h : sp_law1 T vs H Q E) : t_law T E { nx := fun _ H' => Q .non H', rt := Q } (start N_law vs) H := by
  obtain ⟨G, a, ns, e, rfl, hs, _, q⟩ := h
  have b1 : 0 ≤ cell ns 1 % 15 ∧ cell ns 1 % 15 < 15 := ⟨Int.emod_nonneg _ (by decide), Int.emod_lt_of_pos _ (by decide)⟩
  have b4 : 0 ≤ cell ns 4 % 12 ∧ cell ns 4 % 12 < 12 := ⟨Int.emod_nonneg _ (by decide), Int.emod_lt_of_pos _ (by decide)⟩
  have hsc : EvV (tVar 0) (start N_law [.ref a]) G H (.ref a) := ev_var rfl
  refine q_asgS e (n := textM (cell ns 0) (cell ns 1 % 15).toNat) (by walk_at "ev") fun G1 H1 g1 => ?_
  have l1 := textM_len (cell ns 0) (cell ns 1 % 15).toNat
  refine q_ifD (d := .str (if cell ns 2 % 2 = 1 then spoiltM (textM (cell ns 0) (cell ns 1 % 15).toNat) (mixed (cell ns 2) 1) else textM (cell ns 0) (cell ns 1 % 15).toNat)) (b := decide (cell ns 2 % 2 = 1)) g1.s (EvT.is (by walk_at "et") (by walk_at "fin")) (fun c => ?_) (fun c => ?_) ?_
  · rw [if_pos (of_decide_eq_true c)]
    walk_at "ev"
  · rw [if_neg (of_decide_eq_false c)]
    exact ⟨_, rfl, rfl⟩
  intro v G2 H2 g2 e2
  cases e2
  have l2 : (if cell ns 2 % 2 = 1 then spoiltM (textM (cell ns 0) (cell ns 1 % 15).toNat) (mixed (cell ns 2) 1) else textM (cell ns 0) (cell ns 1 % 15).toNat).length ≤ 100 := by
    have := spoiltM_len (textM (cell ns 0) (cell ns 1 % 15).toNat) (mixed (cell ns 2) 1)
    split <;> omega
  revert l2
  generalize (if cell ns 2 % 2 = 1 then spoiltM (textM (cell ns 0) (cell ns 1 % 15).toNat) (mixed (cell ns 2) 1) else textM (cell ns 0) (cell ns 1 % 15).toNat) = z
  intro l2
  refine q_asgB g2.s (by walk_at "ev") fun G3 H3 g3 => ?_
  -- the loop over the signs
  refine q_forS (fun i σ' G1 H1 => ∃ v, σ' = [some (.ref a), some (.str z), some (.bl (decide ((1 : Int) ≤ (z.length : Int)) && decide ((z.length : Int) ≤ 12) && (z.cps.toList.take i).all isSign)), v, none, none, none, none, none, none, none]) g3.s (s := z) (by walk_at "ev") (fun G1 H1 g1 => ⟨_, by simp; rfl⟩) ?_ ?_
  · rintro i c σ' G4 H4 g4 hc ⟨v, rfl⟩
    refine q_ifD (d := .bool (decide ((1 : Int) ≤ (z.length : Int)) && decide ((z.length : Int) ≤ 12) && (z.cps.toList.take (i + 1)).all isSign)) g4.s (by walk_at "et") (fun q => ?_) (fun q => ?_) ?_
    · have : (z.cps.toList.take (i + 1)).all isSign = false := all_not (p := isSign) (l := z.cps.toList.take (i + 1)) (i := i) (c := c) (by rw [List.getElem?_take]; simp [hc]) (by unfold isSign; simpa using q)
      rw [this, Bool.and_false]
      walk_at "ev"
    · refine ⟨_, rfl, ?_⟩
      have : (z.cps.toList.take (i + 1)).all isSign = (z.cps.toList.take i).all isSign := by
        have hq : isSign c = true := by unfold isSign; simpa using q
        rw [List.take_succ, hc, List.all_append]
        simp [hq]
      rw [this]
      rfl
    · intro v G5 H5 g5 e5
      cases e5
      exact q_next ⟨G5, g5, _, rfl⟩
  rintro σ' G4 H4 g4 ⟨v, rfl⟩
  rw [List.take_length]
  have ed : (decide ((1 : Int) ≤ (z.length : Int)) && decide ((z.length : Int) ≤ 12) && z.cps.toList.all isSign) = okName z := by
    unfold okName
    congr 1
    congr 1
    · exact decide_eq_decide.mpr (by omega)
    · exact decide_eq_decide.mpr (by omega)
  rw [ed]
  refine q_asgB g4.s (n := okName z) (by walk_at "ev") fun G5 H5 g5 => ?_
  refine q_when (b := false) g5.s (EvT.is (by walk_at "et") (by walk_at "fin")) (fun q => nomatch q) fun _ G6 H6 g6 => ?_
  have gg := ((((g1.trans g2).trans g3).trans g4).trans g5).trans g6
  have hs6 := hs.gr gg
  refine q_asgS g6.s (n := textM (cell ns 3) (1 + cell ns 4 % 12).toNat) (by walk_at "ev") fun G7 H7 g7 => ?_
  have hs7 := hs6.gr g7
  refine q_asgI g7.s (n := ofM (mixed (cell ns 5) 2) 1000000) (by walk_at "ev") fun G8 H8 g8 => ?_
  have hs8 := hs7.gr g8
  refine q_asgI g8.s (n := ofM (mixed (cell ns 6) 3) 1000) (by walk_at "ev") fun G9 H9 g9 => ?_
  have bt := ofM_bd (mixed (cell ns 5) 2) 1000000 (by decide)
  have bc := ofM_bd (mixed (cell ns 6) 3) 1000 (by decide)
  revert bt bc
  generalize ofM (mixed (cell ns 5) 2) 1000000 = t
  generalize ofM (mixed (cell ns 6) 3) 1000 = n
  intro bt bc
  have nm := textM_ok (cell ns 3) (1 + cell ns 4 % 12).toNat
  revert nm
  generalize textM (cell ns 3) (1 + cell ns 4 % 12).toNat = w
  intro nm
  refine q_asgS g9.s (n := SIGNS) (by walk_at "ev") fun G10 H10 g10 => ?_
  refine q_asgI g10.s (n := 0) (by walk_at "ev") fun G11 H11 g11 => ?_
  refine q_forS (fun i σ' G1 H1 => ∃ v, σ' = [some (.ref a), some (.str z), some (.bl (okName z)), v, some (.bl (okName z)), some (.str w), some (.int t), some (.int n), some (.str SIGNS), some (.int (homeL (w.cps.toList.take i) t n)), none]) g11.s (s := w) (by walk_at "ev") (fun G1 H1 g1 => ⟨_, rfl⟩) ?_ ?_
  · rintro i c σ' G12 H12 g12 hc ⟨v, rfl⟩
    have hq : isSign c = true := by
      rw [List.all_eq_true] at nm
      exact nm c (List.mem_of_getElem? hc)
    obtain ⟨k, hk⟩ := index_sign hq
    refine q_asgI g12.s (n := homeL (w.cps.toList.take (i + 1)) t n) (EvD.is (ev_bin (ev_bin (ev_bin (by walk_at "ev") (ev_index (by walk_at "ev") (by walk_at "ev") hk) (by walk_at "op")) (by walk_at "ev") (by walk_at "op")) (by walk_at "ev") (by walk_at "op")) (by rw [homeL_take hc]; unfold hstep; rw [find_index hk])) fun G13 H13 g13 => ?_
    exact q_next ⟨G13, g13, _, rfl⟩
  rintro σ' G12 H12 g12 ⟨v, rfl⟩
  rw [List.take_length]
  refine q_asgI g12.s (n := homeN w t n) (by walk_at "ev") fun G13 H13 g13 => ?_
  refine q_ret g13.s (d := .bool true) (EvD.is (by walk_at "ev") (by simp [eqv_i, homeN])) fun v G14 H14 g14 e14 => q v G14 H14 (((((((((gg.trans g7).trans g8).trans g9).trans g10).trans g11).trans g12).trans g13).trans g14)) e14

/-! Law k01: the derivations and the end (printed by fin.py). -/
def top (i : Nat) : Stmt := PySem.Challenge.pw_twonests_k01_names_and_homes.main.body.getD i (.Pass ⟨0, 0, 0, 0⟩)
abbrev s__law_cell_at : Stmt := top 6
abbrev s__law_mixed : Stmt := top 7
abbrev s__law_text : Stmt := top 8
abbrev s__law_spoilt : Stmt := top 9
abbrev s_is_name : Stmt := top 3
abbrev s__law_of : Stmt := top 10
abbrev s_home : Stmt := top 4
abbrev s_law : Stmt := top 11
theorem sc__law_cell_at : FnScope N__law_cell_at ["_law_script", "_law_k"] (defScope s__law_cell_at) := ⟨rfl, rfl, rfl, by decide +kernel, rfl, by decide +kernel, by decide +kernel⟩
theorem sc__law_mixed : FnScope N__law_mixed ["_law_cell", "_law_k"] (defScope s__law_mixed) := ⟨rfl, rfl, rfl, by decide +kernel, rfl, by decide +kernel, by decide +kernel⟩
theorem sc__law_text : FnScope N__law_text ["_law_cell", "_law_size"] (defScope s__law_text) := ⟨rfl, rfl, rfl, by decide +kernel, rfl, by decide +kernel, by decide +kernel⟩
theorem sc__law_spoilt : FnScope N__law_spoilt ["_law_text_here", "_law_cell"] (defScope s__law_spoilt) := ⟨rfl, rfl, rfl, by decide +kernel, rfl, by decide +kernel, by decide +kernel⟩
theorem sc_is_name : FnScope N_is_name ["name"] (defScope s_is_name) := ⟨rfl, rfl, rfl, by decide +kernel, rfl, by decide +kernel, by decide +kernel⟩
theorem sc__law_of : FnScope N__law_of ["_law_cell", "_law_most"] (defScope s__law_of) := ⟨rfl, rfl, rfl, by decide +kernel, rfl, by decide +kernel, by decide +kernel⟩
theorem sc_home : FnScope N_home ["name", "times", "count"] (defScope s_home) := ⟨rfl, rfl, rfl, by decide +kernel, rfl, by decide +kernel, by decide +kernel⟩
theorem sc_law : FnScope N_law ["_law_script"] (defScope s_law) := ⟨rfl, rfl, rfl, by decide +kernel, rfl, by decide +kernel, by decide +kernel⟩
structure Glo (T : Tx) (mg : Str → Option Value) : Prop where
  x_bool : mg "bool" = none
  x_int : mg "int" = none
  x_isinstance : mg "isinstance" = none
  x_len : mg "len" = none
  x_range : mg "range" = none
  c_MOST_SIGNS : ∃ u, mg "MOST_SIGNS" = some u ∧ RelV c_MOST_SIGNS u
  c_SIGNS : ∃ u, mg "SIGNS" = some u ∧ RelV c_SIGNS u
section
variable {P : Program} {w : World} {T : Tx} {mg : Str → Option Value} {base : Heap}
theorem ok__law_cell_at {f : Addr} {fd : FuncData} (F : Fun T.K "_law_cell_at" "_law_cell_at" s__law_cell_at f fd) (g : Glo T mg)  : FnOk P w T.K mg base (L2.CX P w) 1 f fd ["_law_script", "_law_k"] (sp__law_cell_at T) := by
  have sc := sc__law_cell_at
  refine F.okX sc (fun vs H Q E h => ?_) (fun cdv A outer s H vs Q E hr h => ⟨t__law_cell_at T E, ?_, pure__law_cell_at h⟩)
  · revert h; unfold sp__law_cell_at; walk_at "vs"
  · have hu := hu_of hr
    exact (pss_cons (ps_if (pt_cmpR o_lt (pv 1) (pe_callB c_len (by rfl) g.x_len (by decide +kernel) (pa_cons (pv 0) pa_nil)) (nomark _)) (pss_cons (ps_ret (pe_ix ix_seq (pv 0) (pv 1) (fun _ _ => rfl))) pss_nil) pss_nil) (pss_cons (ps_ret pe_int) pss_nil))
theorem ok__law_mixed {f : Addr} {fd : FuncData} (F : Fun T.K "_law_mixed" "_law_mixed" s__law_mixed f fd) (g : Glo T mg)  : FnOk P w T.K mg base (L2.CX P w) 1 f fd ["_law_cell", "_law_k"] (sp__law_mixed T) := by
  have sc := sc__law_mixed
  refine F.okX sc (fun vs H Q E h => ?_) (fun cdv A outer s H vs Q E hr h => ⟨t__law_mixed T E, ?_, pure__law_mixed h⟩)
  · revert h; unfold sp__law_mixed; walk_at "vs"
  · have hu := hu_of hr
    exact (pss_cons (ps_set (i := 2) sc.nd rfl (by first | exact Or.inl rfl | exact Or.inr rfl) (pe_op o_mod (pe_op o_mul (pe_op o_add (pe_op o_add (pv 0) (pe_op o_mul pe_int (pv 1))) pe_int) pe_int) pe_int)) (pss_cons (ps_ret (pe_op o_mod (pe_op o_add (pe_op o_mul (pv 2) (pv 2)) (pe_op o_mul pe_int (pv 2))) pe_int)) pss_nil))
theorem ok__law_text {f : Addr} {fd : FuncData} (F : Fun T.K "_law_text" "_law_text" s__law_text f fd) (g : Glo T mg) (c__law_mixed : Cal2 P w T.K mg base 1 "_law_mixed" (sp__law_mixed T)) : FnOk P w T.K mg base (L2.CX P w) 2 f fd ["_law_cell", "_law_size"] (sp__law_text T) := by
  have sc := sc__law_text
  refine F.okX sc (fun vs H Q E h => ?_) (fun cdv A outer s H vs Q E hr h => ⟨t__law_text T E, ?_, pure__law_text h⟩)
  · revert h; unfold sp__law_text; walk_at "vs"
  · have hu := hu_of hr
    exact (pss_cons (ps_set (i := 2) sc.nd rfl (by first | exact Or.inl rfl | exact Or.inr rfl) pe_str) (pss_cons (ps_set (i := 3) sc.nd rfl (by first | exact Or.inl rfl | exact Or.inr rfl) pe_str) (pss_cons (ps_for (passes_of rfl) rfl (pi_range1 (by rfl) g.x_range (pa_cons (pv 1) pa_nil)) (pg_name (i := 4) sc.nd rfl (by first | exact Or.inl rfl | exact Or.inr rfl)) (pss_cons (ps_set (i := 3) sc.nd rfl (by first | exact Or.inl rfl | exact Or.inr rfl) (pe_op o_add (pv 3) (pe_ix ix_seq (pv 2) (pe_op o_mod (pe_op o_div (pe_c2 c__law_mixed hr (by decide) (passes_call (takes_of rfl rfl rfl rfl) (fun _ _ _ _ h => h)) rfl (pa_cons (pv 0) (pa_cons (pv 4) pa_nil))) pe_int) pe_int) (fun _ _ => rfl)))) pss_nil)) (pss_cons (ps_ret (pv 3)) pss_nil))))
theorem ok__law_spoilt {f : Addr} {fd : FuncData} (F : Fun T.K "_law_spoilt" "_law_spoilt" s__law_spoilt f fd) (g : Glo T mg)  : FnOk P w T.K mg base (L2.CX P w) 1 f fd ["_law_text_here", "_law_cell"] (sp__law_spoilt T) := by
  have sc := sc__law_spoilt
  refine F.okX sc (fun vs H Q E h => ?_) (fun cdv A outer s H vs Q E hr h => ⟨t__law_spoilt T E, ?_, pure__law_spoilt h⟩)
  · revert h; unfold sp__law_spoilt; walk_at "vs"
  · have hu := hu_of hr
    exact (pss_cons (ps_set (i := 2) sc.nd rfl (by first | exact Or.inl rfl | exact Or.inr rfl) pe_str) (pss_cons (ps_set (i := 3) sc.nd rfl (by first | exact Or.inl rfl | exact Or.inr rfl) (pe_op o_mod (pv 1) (pe_op o_add (pe_callB c_len (by rfl) g.x_len (by decide +kernel) (pa_cons (pv 0) pa_nil)) pe_int))) (pss_cons (ps_set (i := 4) sc.nd rfl (by first | exact Or.inl rfl | exact Or.inr rfl) (pe_ix ix_seq (pv 2) (pe_op o_mod (pe_op o_div (pv 1) pe_int) (pe_callB c_len (by rfl) g.x_len (by decide +kernel) (pa_cons (pv 2) pa_nil))) (fun _ _ => rfl))) (pss_cons (ps_ret (pe_op o_add (pe_op o_add (pe_slice o_sl (pv 0) po_none (po_some (pv 3))) (pv 4)) (pe_slice o_sl (pv 0) (po_some (pe_op o_add (pv 3) (pe_op o_mod (pe_op o_div (pv 1) pe_int) pe_int))) po_none))) pss_nil))))
theorem ok_is_name {f : Addr} {fd : FuncData} (F : Fun T.K "is_name" "is_name" s_is_name f fd) (g : Glo T mg)  : FnOk P w T.K mg base (L2.CX P w) 1 f fd ["name"] (sp_is_name T) := by
  have sc := sc_is_name
  refine F.okX sc (fun vs H Q E h => ?_) (fun cdv A outer s H vs Q E hr h => ⟨t_is_name T E, ?_, pure_is_name h⟩)
  · revert h; unfold sp_is_name; walk_at "vs"
  · have hu := hu_of hr
    exact (pss_cons (ps_if (PW.pt (pw_or (pt_cmpR o_lt (pe_callB c_len (by rfl) g.x_len (by decide +kernel) (pa_cons (pv 0) pa_nil)) pe_int (nomark _)) (pw_or1 (pt_cmpR o_gt (pe_callB c_len (by rfl) g.x_len (by decide +kernel) (pa_cons (pv 0) pa_nil)) (pe_gc rfl g.c_MOST_SIGNS) (nomark _))))) (pss_cons (ps_ret pe_bl) pss_nil) pss_nil) (pss_cons (ps_for (passes_of rfl) rfl (pi_str (pv 0)) (pg_name (i := 1) sc.nd rfl (by first | exact Or.inl rfl | exact Or.inr rfl)) (pss_cons (ps_if (pt_cmpR (o_notin hr.units) (pv 1) (pe_gc rfl g.c_SIGNS) (by rfl)) (pss_cons (ps_ret pe_bl) pss_nil) pss_nil) pss_nil)) (pss_cons (ps_ret pe_bl) pss_nil)))
theorem ok__law_of {f : Addr} {fd : FuncData} (F : Fun T.K "_law_of" "_law_of" s__law_of f fd) (g : Glo T mg)  : FnOk P w T.K mg base (L2.CX P w) 1 f fd ["_law_cell", "_law_most"] (sp__law_of T) := by
  have sc := sc__law_of
  refine F.okX sc (fun vs H Q E h => ?_) (fun cdv A outer s H vs Q E hr h => ⟨t__law_of T E, ?_, pure__law_of h⟩)
  · revert h; unfold sp__law_of; walk_at "vs"
  · have hu := hu_of hr
    exact (pss_cons (ps_ret (pe_ix ix_seq (pe_lst (pa_cons pe_int (pa_cons pe_int (pa_cons (pv 1) (pa_cons (pe_op o_add pe_int (pe_op o_mod (pe_op o_div (pv 0) pe_int) (pv 1))) (pa_cons (pe_op o_add pe_int (pe_op o_mod (pe_op o_div (pv 0) pe_int) (pv 1))) pa_nil)))))) (pe_op o_mod (pv 0) pe_int) (fun _ _ => rfl))) pss_nil)
theorem ok_home {f : Addr} {fd : FuncData} (F : Fun T.K "home" "home" s_home f fd) (g : Glo T mg)  : FnOk P w T.K mg base (L2.CX P w) 1 f fd ["name", "times", "count"] (sp_home T) := by
  have sc := sc_home
  refine F.okX sc (fun vs H Q E h => ?_) (fun cdv A outer s H vs Q E hr h => ⟨t_home T E, ?_, pure_home h⟩)
  · revert h; unfold sp_home; walk_at "vs"
  · have hu := hu_of hr
    exact (pss_cons (ps_set (i := 3) sc.nd rfl (by first | exact Or.inl rfl | exact Or.inr rfl) pe_int) (pss_cons (ps_for (passes_of rfl) rfl (pi_str (pv 0)) (pg_name (i := 4) sc.nd rfl (by first | exact Or.inl rfl | exact Or.inr rfl)) (pss_cons (ps_set (i := 3) sc.nd rfl (by first | exact Or.inl rfl | exact Or.inr rfl) (pe_op o_mod (pe_op o_add (pe_op o_add (pe_op o_mul (pv 3) (pv 1)) (pe_bmS PySem.F.plainAttrs_str PySem.F.slot_str_find PySem.F.type_str_find m_find (pe_gc rfl g.c_SIGNS) (pa_cons (pv 4) pa_nil))) pe_int) (pv 2))) pss_nil)) (pss_cons (ps_ret (pv 3)) pss_nil)))
theorem ok_law {f : Addr} {fd : FuncData} (F : Fun T.K "law" "law" s_law f fd) (g : Glo T mg) (c__law_cell_at : Cal2 P w T.K mg base 1 "_law_cell_at" (sp__law_cell_at T)) (c__law_mixed : Cal2 P w T.K mg base 1 "_law_mixed" (sp__law_mixed T)) (c__law_of : Cal2 P w T.K mg base 1 "_law_of" (sp__law_of T)) (c__law_spoilt : Cal2 P w T.K mg base 1 "_law_spoilt" (sp__law_spoilt T)) (c__law_text : Cal2 P w T.K mg base 2 "_law_text" (sp__law_text T)) (c_home : Cal2 P w T.K mg base 1 "home" (sp_home T)) (c_is_name : Cal2 P w T.K mg base 1 "is_name" (sp_is_name T)) : FnOk P w T.K mg base (L2.CX P w) 3 f fd ["_law_script"] (sp_law1 T) := by
  have sc := sc_law
  refine F.okX sc (fun vs H Q E h => ?_) (fun cdv A outer s H vs Q E hr h => ⟨t_law T E, ?_, pure_law1 h⟩)
  · revert h; unfold sp_law1; walk_at "vs"
  · have hu := hu_of hr
    exact (pss_cons (ps_set (i := 1) sc.nd rfl (by first | exact Or.inl rfl | exact Or.inr rfl) (pe_c2 c__law_text hr (by decide) (passes_call (takes_of rfl rfl rfl rfl) (fun _ _ _ _ h => h)) rfl (pa_cons (pe_c2 c__law_cell_at hr (by decide) (passes_call (takes_of rfl rfl rfl rfl) (fun _ _ _ _ h => h)) rfl (pa_cons (pv 0) (pa_cons pe_int pa_nil))) (pa_cons (pe_op o_mod (pe_c2 c__law_cell_at hr (by decide) (passes_call (takes_of rfl rfl rfl rfl) (fun _ _ _ _ h => h)) rfl (pa_cons (pv 0) (pa_cons pe_int pa_nil))) pe_int) pa_nil)))) (pss_cons (ps_if (pt_cmpR (o_eq hr.units) (pe_op o_mod (pe_c2 c__law_cell_at hr (by decide) (passes_call (takes_of rfl rfl rfl rfl) (fun _ _ _ _ h => h)) rfl (pa_cons (pv 0) (pa_cons pe_int pa_nil))) pe_int) pe_int (nomark _)) (pss_cons (ps_set (i := 1) sc.nd rfl (by first | exact Or.inl rfl | exact Or.inr rfl) (pe_c2 c__law_spoilt hr (by decide) (passes_call (takes_of rfl rfl rfl rfl) (fun _ _ _ _ h => h)) rfl (pa_cons (pv 1) (pa_cons (pe_c2 c__law_mixed hr (by decide) (passes_call (takes_of rfl rfl rfl rfl) (fun _ _ _ _ h => h)) rfl (pa_cons (pe_c2 c__law_cell_at hr (by decide) (passes_call (takes_of rfl rfl rfl rfl) (fun _ _ _ _ h => h)) rfl (pa_cons (pv 0) (pa_cons pe_int pa_nil))) (pa_cons pe_int pa_nil))) pa_nil)))) pss_nil) pss_nil) (pss_cons (ps_set (i := 2) sc.nd rfl (by first | exact Or.inl rfl | exact Or.inr rfl) (pe_and (pe_cmpR o_le pe_int (pe_callB c_len (by rfl) g.x_len (by decide +kernel) (pa_cons (pv 1) pa_nil)) (nomark _)) (pe_one (pe_cmpR o_le (pe_callB c_len (by rfl) g.x_len (by decide +kernel) (pa_cons (pv 1) pa_nil)) pe_int (nomark _))))) (pss_cons (ps_for (passes_of rfl) rfl (pi_str (pv 1)) (pg_name (i := 3) sc.nd rfl (by first | exact Or.inl rfl | exact Or.inr rfl)) (pss_cons (ps_if (pt_cmpR (o_notin hr.units) (pv 3) pe_str (by rfl)) (pss_cons (ps_set (i := 2) sc.nd rfl (by first | exact Or.inl rfl | exact Or.inr rfl) pe_bl) pss_nil) pss_nil) pss_nil)) (pss_cons (ps_set (i := 4) sc.nd rfl (by first | exact Or.inl rfl | exact Or.inr rfl) (pe_c2 c_is_name hr (by decide) (passes_call (takes_of rfl rfl rfl rfl) (fun _ _ _ _ h => h)) rfl (pa_cons (pv 1) pa_nil))) (pss_cons (ps_if (PW.pt (pw_or (pt_not (pt_val (pe_callB call_isi (by rfl) g.x_isinstance (by decide +kernel) (pa_cons (pv 4) (pa_cons (pe_bltn (v := .ty "bool") (by rfl) g.x_bool (by decide +kernel) rfl) pa_nil))))) (pw_or1 (pt_cmpR (o_ne hr.units) (pv 4) (pv 2) (nomark _))))) (pss_cons (ps_ret pe_bl) pss_nil) pss_nil) (pss_cons (ps_set (i := 5) sc.nd rfl (by first | exact Or.inl rfl | exact Or.inr rfl) (pe_c2 c__law_text hr (by decide) (passes_call (takes_of rfl rfl rfl rfl) (fun _ _ _ _ h => h)) rfl (pa_cons (pe_c2 c__law_cell_at hr (by decide) (passes_call (takes_of rfl rfl rfl rfl) (fun _ _ _ _ h => h)) rfl (pa_cons (pv 0) (pa_cons pe_int pa_nil))) (pa_cons (pe_op o_add pe_int (pe_op o_mod (pe_c2 c__law_cell_at hr (by decide) (passes_call (takes_of rfl rfl rfl rfl) (fun _ _ _ _ h => h)) rfl (pa_cons (pv 0) (pa_cons pe_int pa_nil))) pe_int)) pa_nil)))) (pss_cons (ps_set (i := 6) sc.nd rfl (by first | exact Or.inl rfl | exact Or.inr rfl) (pe_c2 c__law_of hr (by decide) (passes_call (takes_of rfl rfl rfl rfl) (fun _ _ _ _ h => h)) rfl (pa_cons (pe_c2 c__law_mixed hr (by decide) (passes_call (takes_of rfl rfl rfl rfl) (fun _ _ _ _ h => h)) rfl (pa_cons (pe_c2 c__law_cell_at hr (by decide) (passes_call (takes_of rfl rfl rfl rfl) (fun _ _ _ _ h => h)) rfl (pa_cons (pv 0) (pa_cons pe_int pa_nil))) (pa_cons pe_int pa_nil))) (pa_cons pe_int pa_nil)))) (pss_cons (ps_set (i := 7) sc.nd rfl (by first | exact Or.inl rfl | exact Or.inr rfl) (pe_c2 c__law_of hr (by decide) (passes_call (takes_of rfl rfl rfl rfl) (fun _ _ _ _ h => h)) rfl (pa_cons (pe_c2 c__law_mixed hr (by decide) (passes_call (takes_of rfl rfl rfl rfl) (fun _ _ _ _ h => h)) rfl (pa_cons (pe_c2 c__law_cell_at hr (by decide) (passes_call (takes_of rfl rfl rfl rfl) (fun _ _ _ _ h => h)) rfl (pa_cons (pv 0) (pa_cons pe_int pa_nil))) (pa_cons pe_int pa_nil))) (pa_cons pe_int pa_nil)))) (pss_cons (ps_set (i := 8) sc.nd rfl (by first | exact Or.inl rfl | exact Or.inr rfl) pe_str) (pss_cons (ps_set (i := 9) sc.nd rfl (by first | exact Or.inl rfl | exact Or.inr rfl) pe_int) (pss_cons (ps_for (passes_of rfl) rfl (pi_str (pv 5)) (pg_name (i := 3) sc.nd rfl (by first | exact Or.inl rfl | exact Or.inr rfl)) (pss_cons (ps_set (i := 9) sc.nd rfl (by first | exact Or.inl rfl | exact Or.inr rfl) (pe_op o_mod (pe_op o_add (pe_op o_add (pe_op o_mul (pv 9) (pv 6)) (pe_bmS PySem.F.plainAttrs_str PySem.F.slot_str_index PySem.F.type_str_index (m_index rfl (takes_of rfl rfl rfl rfl)) (pv 8) (pa_cons (pv 3) pa_nil))) pe_int) (pv 7))) pss_nil)) (pss_cons (ps_set (i := 10) sc.nd rfl (by first | exact Or.inl rfl | exact Or.inr rfl) (pe_c2 c_home hr (by decide) (passes_call (takes_of rfl rfl rfl rfl) (fun _ _ _ _ h => h)) rfl (pa_cons (pv 5) (pa_cons (pv 6) (pa_cons (pv 7) pa_nil))))) (pss_cons (ps_ret (pe_and (pe_callB call_isi (by rfl) g.x_isinstance (by decide +kernel) (pa_cons (pv 10) (pa_cons (pe_bltn (v := .ty "int") (by rfl) g.x_int (by decide +kernel) rfl) pa_nil))) (pe_and (pe_not (pe_callB call_isi (by rfl) g.x_isinstance (by decide +kernel) (pa_cons (pv 10) (pa_cons (pe_bltn (v := .ty "bool") (by rfl) g.x_bool (by decide +kernel) rfl) pa_nil)))) (pe_one (pe_cmpR (o_eq hr.units) (pv 10) (pv 9) (nomark _)))))) pss_nil))))))))))))))
end
abbrev Is_MOST_SIGNS (u : Value) : Prop := ∃ t, u = .int 12 t
abbrev Is_SIGNS (u : Value) : Prop := ∃ t, u = .str "abcdefghijklmnopqrstuvwxyz0123456789" t
theorem all_mk {P : Program} {w : World} {K : PySem.W.Frag} {h : Heap} {mg : Str → Option Value} {fa f1 f2 f3 f4 f5 f6 f7 f8 : Addr} (X : K.In h) (G : h.Ns mainGlobals mg) (hfa : mg "law" = some (.ref fa))
    {od1 an1 : Option Addr} {sl1 : Array (Option Value)} {oc1 kV1 dc1 pm1 cd1 ct1 : Value} {od2 an2 : Option Addr} {sl2 : Array (Option Value)} {oc2 kV2 dc2 pm2 cd2 ct2 : Value} {od3 an3 : Option Addr} {sl3 : Array (Option Value)} {oc3 kV3 dc3 pm3 cd3 ct3 : Value} {od4 an4 : Option Addr} {sl4 : Array (Option Value)} {oc4 kV4 dc4 pm4 cd4 ct4 : Value} {od5 an5 : Option Addr} {sl5 : Array (Option Value)} {oc5 kV5 dc5 pm5 cd5 ct5 : Value} {od6 an6 : Option Addr} {sl6 : Array (Option Value)} {oc6 kV6 dc6 pm6 cd6 ct6 : Value} {od7 an7 : Option Addr} {sl7 : Array (Option Value)} {oc7 kV7 dc7 pm7 cd7 ct7 : Value} {od8 an8 : Option Addr} {sl8 : Array (Option Value)} {oc8 kV8 dc8 pm8 cd8 ct8 : Value} {t_MOST_SIGNS : Tok} {t_SIGNS : Tok}
    (a1 : PySem.W.nsIn K mainGlobals "_law_cell_at" = some (some (.ref f1)))
    (l1 : K.lookup f1 = some ⟨oc1, od1, .func (PySem.W.fnOf "_law_cell_at" "_law_cell_at" (defArgs s__law_cell_at) (defBody s__law_cell_at) (defScope s__law_cell_at) .none kV1 dc1 pm1 an1 cd1 ct1), sl1⟩)
    (c1 : PySem.W.codeIn K cd1 "_law_cell_at" = true)
    (k1 : PySem.W.keepIn K (.ref f1) = true)
    (a2 : PySem.W.nsIn K mainGlobals "_law_mixed" = some (some (.ref f2)))
    (l2 : K.lookup f2 = some ⟨oc2, od2, .func (PySem.W.fnOf "_law_mixed" "_law_mixed" (defArgs s__law_mixed) (defBody s__law_mixed) (defScope s__law_mixed) .none kV2 dc2 pm2 an2 cd2 ct2), sl2⟩)
    (c2 : PySem.W.codeIn K cd2 "_law_mixed" = true)
    (k2 : PySem.W.keepIn K (.ref f2) = true)
    (a3 : PySem.W.nsIn K mainGlobals "_law_text" = some (some (.ref f3)))
    (l3 : K.lookup f3 = some ⟨oc3, od3, .func (PySem.W.fnOf "_law_text" "_law_text" (defArgs s__law_text) (defBody s__law_text) (defScope s__law_text) .none kV3 dc3 pm3 an3 cd3 ct3), sl3⟩)
    (c3 : PySem.W.codeIn K cd3 "_law_text" = true)
    (k3 : PySem.W.keepIn K (.ref f3) = true)
    (a4 : PySem.W.nsIn K mainGlobals "_law_spoilt" = some (some (.ref f4)))
    (l4 : K.lookup f4 = some ⟨oc4, od4, .func (PySem.W.fnOf "_law_spoilt" "_law_spoilt" (defArgs s__law_spoilt) (defBody s__law_spoilt) (defScope s__law_spoilt) .none kV4 dc4 pm4 an4 cd4 ct4), sl4⟩)
    (c4 : PySem.W.codeIn K cd4 "_law_spoilt" = true)
    (k4 : PySem.W.keepIn K (.ref f4) = true)
    (a5 : PySem.W.nsIn K mainGlobals "is_name" = some (some (.ref f5)))
    (l5 : K.lookup f5 = some ⟨oc5, od5, .func (PySem.W.fnOf "is_name" "is_name" (defArgs s_is_name) (defBody s_is_name) (defScope s_is_name) .none kV5 dc5 pm5 an5 cd5 ct5), sl5⟩)
    (c5 : PySem.W.codeIn K cd5 "is_name" = true)
    (k5 : PySem.W.keepIn K (.ref f5) = true)
    (a6 : PySem.W.nsIn K mainGlobals "_law_of" = some (some (.ref f6)))
    (l6 : K.lookup f6 = some ⟨oc6, od6, .func (PySem.W.fnOf "_law_of" "_law_of" (defArgs s__law_of) (defBody s__law_of) (defScope s__law_of) .none kV6 dc6 pm6 an6 cd6 ct6), sl6⟩)
    (c6 : PySem.W.codeIn K cd6 "_law_of" = true)
    (k6 : PySem.W.keepIn K (.ref f6) = true)
    (a7 : PySem.W.nsIn K mainGlobals "home" = some (some (.ref f7)))
    (l7 : K.lookup f7 = some ⟨oc7, od7, .func (PySem.W.fnOf "home" "home" (defArgs s_home) (defBody s_home) (defScope s_home) .none kV7 dc7 pm7 an7 cd7 ct7), sl7⟩)
    (c7 : PySem.W.codeIn K cd7 "home" = true)
    (k7 : PySem.W.keepIn K (.ref f7) = true)
    (a8 : PySem.W.nsIn K mainGlobals "law" = some (some (.ref f8)))
    (l8 : K.lookup f8 = some ⟨oc8, od8, .func (PySem.W.fnOf "law" "law" (defArgs s_law) (defBody s_law) (defScope s_law) .none kV8 dc8 pm8 an8 cd8 ct8), sl8⟩)
    (c8 : PySem.W.codeIn K cd8 "law" = true)
    (k8 : PySem.W.keepIn K (.ref f8) = true)
    (z_bool : PySem.W.nsIn K mainGlobals "bool" = some none)
    (z_int : PySem.W.nsIn K mainGlobals "int" = some none)
    (z_isinstance : PySem.W.nsIn K mainGlobals "isinstance" = some none)
    (z_len : PySem.W.nsIn K mainGlobals "len" = some none)
    (z_range : PySem.W.nsIn K mainGlobals "range" = some none)
    (q_MOST_SIGNS : PySem.W.nsIn K mainGlobals "MOST_SIGNS" = some (some (.int 12 t_MOST_SIGNS)))
    (q_SIGNS : PySem.W.nsIn K mainGlobals "SIGNS" = some (some (.str "abcdefghijklmnopqrstuvwxyz0123456789" t_SIGNS)))
    : ∃ fd : FuncData, (∀ (s : Shared) (u : Value), BindsTo s fd ⟨[u], []⟩ [("_law_script", u)]) ∧ ∀ base : Heap, K.In base → base.Ns mainGlobals mg → FnOk P w K mg base (L2.CX P w) 3 fa fd ["_law_script"] (spL K) := by
  have e := hfa.symm.trans (PySem.W.mg_of X G a8)
  cases e
  let T : Tx := { K := K, a_Nests := fa, a_NestError := fa, a_NoNests := fa, a_NoName := fa, a_NoValue := fa, a_NoNest := fa, a_NoHome := fa, a_Taken := fa, a_Twice := fa, a_NoRoom := fa, a_Unknown := fa, a_NoNote := fa }
  have g : Glo T mg := {
    x_bool := PySem.W.mg_none_of X G z_bool
    x_int := PySem.W.mg_none_of X G z_int
    x_isinstance := PySem.W.mg_none_of X G z_isinstance
    x_len := PySem.W.mg_none_of X G z_len
    x_range := PySem.W.mg_none_of X G z_range
    c_MOST_SIGNS := ⟨_, PySem.W.mg_of X G q_MOST_SIGNS, _, rfl⟩
    c_SIGNS := ⟨_, PySem.W.mg_of X G q_SIGNS, _, rfl⟩
  }
  have F1 := fun_mk (st := s__law_cell_at) l1 c1 k1
  have b1 := F1.binds (ps := ["_law_script", "_law_k"]) fun _ _ _ _ _ _ us hl => match us, hl with | [_, _], _ => rfl
  have F2 := fun_mk (st := s__law_mixed) l2 c2 k2
  have b2 := F2.binds (ps := ["_law_cell", "_law_k"]) fun _ _ _ _ _ _ us hl => match us, hl with | [_, _], _ => rfl
  have F3 := fun_mk (st := s__law_text) l3 c3 k3
  have b3 := F3.binds (ps := ["_law_cell", "_law_size"]) fun _ _ _ _ _ _ us hl => match us, hl with | [_, _], _ => rfl
  have F4 := fun_mk (st := s__law_spoilt) l4 c4 k4
  have b4 := F4.binds (ps := ["_law_text_here", "_law_cell"]) fun _ _ _ _ _ _ us hl => match us, hl with | [_, _], _ => rfl
  have F5 := fun_mk (st := s_is_name) l5 c5 k5
  have b5 := F5.binds (ps := ["name"]) fun _ _ _ _ _ _ us hl => match us, hl with | [_], _ => rfl
  have F6 := fun_mk (st := s__law_of) l6 c6 k6
  have b6 := F6.binds (ps := ["_law_cell", "_law_most"]) fun _ _ _ _ _ _ us hl => match us, hl with | [_, _], _ => rfl
  have F7 := fun_mk (st := s_home) l7 c7 k7
  have b7 := F7.binds (ps := ["name", "times", "count"]) fun _ _ _ _ _ _ us hl => match us, hl with | [_, _, _], _ => rfl
  have F8 := fun_mk (st := s_law) l8 c8 k8
  have b8 := F8.binds (ps := ["_law_script"]) fun _ _ _ _ _ _ us hl => match us, hl with | [_], _ => rfl
  refine ⟨PySem.W.fnOf "law" "law" (defArgs s_law) (defBody s_law) (defScope s_law) .none kV8 dc8 pm8 an8 cd8 ct8, fun s u => .of_eq rfl, fun base _ _ => ?_⟩
  have c__law_cell_at : Cal2 P w T.K mg base 1 "_law_cell_at" (sp__law_cell_at T) := ⟨_, _, _, ok__law_cell_at (T := T) F1 g , PySem.W.mg_of X G a1, k1, b1⟩
  have c__law_mixed : Cal2 P w T.K mg base 1 "_law_mixed" (sp__law_mixed T) := ⟨_, _, _, ok__law_mixed (T := T) F2 g , PySem.W.mg_of X G a2, k2, b2⟩
  have c__law_text : Cal2 P w T.K mg base 2 "_law_text" (sp__law_text T) := ⟨_, _, _, ok__law_text (T := T) F3 g c__law_mixed, PySem.W.mg_of X G a3, k3, b3⟩
  have c__law_spoilt : Cal2 P w T.K mg base 1 "_law_spoilt" (sp__law_spoilt T) := ⟨_, _, _, ok__law_spoilt (T := T) F4 g , PySem.W.mg_of X G a4, k4, b4⟩
  have c_is_name : Cal2 P w T.K mg base 1 "is_name" (sp_is_name T) := ⟨_, _, _, ok_is_name (T := T) F5 g , PySem.W.mg_of X G a5, k5, b5⟩
  have c__law_of : Cal2 P w T.K mg base 1 "_law_of" (sp__law_of T) := ⟨_, _, _, ok__law_of (T := T) F6 g , PySem.W.mg_of X G a6, k6, b6⟩
  have c_home : Cal2 P w T.K mg base 1 "home" (sp_home T) := ⟨_, _, _, ok_home (T := T) F7 g , PySem.W.mg_of X G a7, k7, b7⟩
  exact ok_law (T := T) F8 g c__law_cell_at c__law_mixed c__law_of c__law_spoilt c__law_text c_home c_is_name
theorem walk {l : PySem.W.OpenLaw} {q : Program} {loose : List Str} {XP : (Str → Option Value) → Heap → Prop} {YP : World → Heap → Prop} {d : DefRec} {K : Params → PySem.W.Frag} (hn : l.most = some 63) (hdf : d.params.defaults = [])
    (hY : ∀ (w : World) (h : Heap), YP w h → (K w.params).In h)
    (F : ∀ (w : World) (mg : Str → Option Value) (fa : Addr) (h : Heap), (K w.params).In h → h.Ns mainGlobals mg → mg d.name = some (.ref fa) →
      ∃ fd : FuncData, (∀ (s : Shared) (u : Value), BindsTo s fd ⟨[u], []⟩ [("_law_script", u)]) ∧ ∀ base : Heap, (K w.params).In base → base.Ns mainGlobals mg → FnOk l.prog w (K w.params) mg base (L2.CX l.prog w) 3 fa fd ["_law_script"] (spL (K w.params))) :
    PySem.W.WalkO q loose XP YP l.row.toRowW d [] (fun f vs => PySem.call f vs) :=
  L2.walk_of (n := 63) (k := 3) (x := "_law_script") (CX := fun w => L2.CX l.prog w) (sp := fun w => spL (K w.params)) hn (by decide) hdf ⟨rfl, by decide, by decide⟩ hY F (fun _ H a ns hl _ hS => spL_entry hl hS) fun _ _ _ _ _ z => by
    obtain ⟨_, _, _, _, _, _, _, _, _, _, _, _, z⟩ := z
    exact z
end Tn
open PySem PySem.W PyProof.Rows
theorem PySem.Challenge.cw_twonests_k01_names_and_homes_holds : PySem.Challenge.rw_twonests_k01_names_and_homes.Holds := by
  w_on; o_law; k_head; (case hw => w_witness2)
  k_fill
  refine Tn.walk (l := PySem.Challenge.rw_twonests_k01_names_and_homes) rfl rfl (fun w h Y => PySem.W.kIn_of Y) ?F
  case F =>
    intro w mg fa h KX G hmg
    refine' Tn.all_mk KX G hmg ?a1 ?l1 ?c1 ?k1 ?a2 ?l2 ?c2 ?k2 ?a3 ?l3 ?c3 ?k3 ?a4 ?l4 ?c4 ?k4 ?a5 ?l5 ?c5 ?k5 ?a6 ?l6 ?c6 ?k6 ?a7 ?l7 ?c7 ?k7 ?a8 ?l8 ?c8 ?k8 ?z_bool ?z_int ?z_isinstance ?z_len ?z_range ?q_MOST_SIGNS ?q_SIGNS
    (case a1 => k_is)
    (case l1 => k_is)
    (case c1 => k_is)
    (case k1 => k_is)
    (case a2 => k_is)
    (case l2 => k_is)
    (case c2 => k_is)
    (case k2 => k_is)
    (case a3 => k_is)
    (case l3 => k_is)
    (case c3 => k_is)
    (case k3 => k_is)
    (case a4 => k_is)
    (case l4 => k_is)
    (case c4 => k_is)
    (case k4 => k_is)
    (case a5 => k_is)
    (case l5 => k_is)
    (case c5 => k_is)
    (case k5 => k_is)
    (case a6 => k_is)
    (case l6 => k_is)
    (case c6 => k_is)
    (case k6 => k_is)
    (case a7 => k_is)
    (case l7 => k_is)
    (case c7 => k_is)
    (case k7 => k_is)
    (case a8 => k_is)
    (case l8 => k_is)
    (case c8 => k_is)
    (case k8 => k_is)
    (case z_bool => k_is)
    (case z_int => k_is)
    (case z_isinstance => k_is)
    (case z_len => k_is)
    (case z_range => k_is)
    (case q_MOST_SIGNS => k_is)
    (case q_SIGNS => k_is)

