import PyProof.Rows.All
import Wide.All
import OpenK.AllK
import Wide.FinOn
import HandS.ForMost
import HandS.IsInst
import HandS.Flow
import HandS.Wide
import HandS.Style
import HandS.Deep
import HandS.Conv
import HandS.TupAny
import HandS.EndBits
import KE.SortData
import KE.DataMinMax
import KE.DataCmp
import HandS.NoneIn
import HandS.TupMul
import PyProof.ListMulRoad
import PyProof.FactsAll.tuple_2
import KE.KTupSum
import HandS.Set
import HandS.WordsDict
import HandS.Iter
import HandS.HotCalls
import HandS.ExcIs
import PySem.Challenge.RW_paperkeep_k49_boxes_and_pleats
set_option Elab.async false
set_option linter.all false
set_option maxRecDepth 100000
set_option maxHeartbeats 4000000
namespace L2.Pd
open PySem PySem.Spec PyProof.Rows
/-! ## Pure data over the hand layer: cells, what holds of them, the growing of the heap -/
abbrev D := PyData
/-- what a def's slot holds: nothing that is asked for; data that nobody changes; a list, a dict of the def's own; a dict of its own that is walked just now -/
inductive Cell where
  | dead
  | sh (d : D)
  | ol (ds : List D)
  | od (tk : Bool) (kvs : List (D × D))
  | fd (tk : Bool) (kvs : List (D × D))
abbrev En := List Cell
def isOwn : Cell → Bool
  | .dead => false
  | .sh _ => false
  | .fd _ _ => false
  | _ => true
def kD : Key → D
  | .inl i => .int i
  | .inr x => .str x
abbrev KvK (K : PySem.W.Frag) (F : Hp) : List (D × D) → List (Key × V) → Prop := Paired (fun p q => p.1 = kD q.1 ∧ Dp K F q.2 p.2)
abbrev KvT (K : PySem.W.Frag) (F : Hp) : List (D × D) → List (List Key × V) → Prop := Paired (fun p q => p.1 = .tuple (q.1.map kD) ∧ Dp K F q.2 p.2)
/-- a dict's object; tk: its keys are tuples -/
def DictOb (K : PySem.W.Frag) (F : Hp) (kvs : List (D × D)) : Bool → HO → Prop
  | false, .dK ws => KvK K F kvs ws
  | true, .dT ws => KvT K F kvs ws
  | _, _ => False
/-- the object of an own cell -/
def Ob (K : PySem.W.Frag) (F : Hp) : Cell → HO → Prop
  | .ol ds, .lst vs => DpAll K F vs ds
  | .od tk kvs, o => DictOb K F kvs tk o
  | _, _ => False
def CellOk (K : PySem.W.Frag) (B F H : Hp) (x : Option V) : Cell → Prop
  | .dead => True
  | .sh d => ∃ v, x = some v ∧ Dp K F v d
  | .fd tk kvs => ∃ a ob u, x = some (.ref a) ∧ F a = some (.frz ob u) ∧ DictOb K F kvs tk u
  | c => ∃ a o, x = some (.ref a) ∧ H a = some o ∧ Ob K F c o ∧ F a = none ∧ B a = none
structure Con (K : PySem.W.Frag) (B F : Hp) (io : List (Nat × Addr)) (σ : St) (H : Hp) (ρ : En) : Prop where
  len : σ.length = ρ.length
  base : Same B H
  frz : Same F H
  cell : ∀ (i : Nat) (c : Cell), ρ[i]? = some c → ∃ x, σ[i]? = some x ∧ CellOk K B F H x c
  sep : ∀ (i j : Nat) (c e : Cell) (a : Addr), ρ[i]? = some c → ρ[j]? = some e → isOwn c = true → isOwn e = true → σ[i]? = some (some (.ref a)) → σ[j]? = some (some (.ref a)) → i = j
  io : ∀ p ∈ io, σ[p.1]? = some (some (.ref p.2))
/-- the frozen heap grows by what is new -/
structure Gr (B F F' : Hp) : Prop where
  sub : Same F F'
  new : ∀ a o, F' a = some o → F a = some o ∨ B a = none
/-- both heaps grow, nothing is changed -/
structure Al (F H F' H' : Hp) : Prop where
  ff : Same F F'
  hh : Same H H'
  sub : Same F' H'
  new : ∀ a o, F' a = some o → F a = some o ∨ H a = none

theorem Gr.refl (B F : Hp) : Gr B F F := ⟨Same.refl F, fun _ _ h => .inl h⟩
theorem Gr.trans {B F F1 F2 : Hp} (a : Gr B F F1) (b : Gr B F1 F2) : Gr B F F2 := ⟨a.sub.trans b.sub, fun x o h => by
  rcases b.new x o h with q | q
  · exact a.new x o q
  · exact .inr q⟩
theorem Al.refl {F H : Hp} (h : Same F H) : Al F H F H := ⟨Same.refl F, Same.refl H, h, fun _ _ q => .inl q⟩
theorem Al.trans {F H F1 H1 F2 H2 : Hp} (a : Al F H F1 H1) (b : Al F1 H1 F2 H2) : Al F H F2 H2 := ⟨a.ff.trans b.ff, a.hh.trans b.hh, b.sub, fun x o h => by
  rcases b.new x o h with q | q
  · exact a.new x o q
  · exact .inr (a.hh.free q)⟩
theorem same_upd {H : Hp} {p : Addr} {o : HO} (h : H p = none) : Same H (upd H p o) := fun b x e => by
  rw [upd_ne (ne_of_none e h)]
  exact e
theorem same_upd2 {F H : Hp} {p : Addr} {o : HO} (h : Same F H) : Same (upd F p o) (upd H p o) := fun b x e => by
  by_cases q : b = p
  · subst q; rw [upd_same] at e ⊢; exact e
  · rw [upd_ne q] at e ⊢; exact h b x e
theorem Al.laid {F H : Hp} {p : Addr} {o : HO} (h : Same F H) (n : H p = none) : Al F H (upd F p o) (upd H p o) :=
  ⟨same_upd (h.free n), same_upd n, same_upd2 h, fun a x e => by
    by_cases q : a = p
    · subst q; exact .inr n
    · rw [upd_ne q] at e; exact .inl e⟩
/-- the heap alone grows -/
theorem Al.laidH {F H : Hp} {p : Addr} {o : HO} (h : Same F H) (n : H p = none) : Al F H F (upd H p o) :=
  ⟨Same.refl F, same_upd n, h.trans (same_upd n), fun a x e => .inl e⟩
theorem Al.gr {B F H F' H' : Hp} (a : Al F H F' H') (b : Same B H) : Gr B F F' := ⟨a.ff, fun x o h => by
  rcases a.new x o h with q | q
  · exact .inl q
  · exact .inr (b.free q)⟩

theorem Rd.mono {F F' : Hp} (s : Same F F') {a : Addr} {u : HO} (h : Rd F a u) : Rd F' a u := by
  rcases h with h | ⟨o, h⟩
  · exact .inl (s _ _ h)
  · exact .inr ⟨o, s _ _ h⟩
theorem sqT_mono {K : PySem.W.Frag} {F F' : Hp} (s : Same F F') {a : Addr} {xs : List V} (h : SqT K F a xs) : SqT K F' a xs := by
  rcases h with h | h
  · exact .inl (Rd.mono s h)
  · exact .inr h
mutual
theorem dp_mono {K : PySem.W.Frag} {F F' : Hp} (s : Same F F') : ∀ {d : D} {v : V}, Dp K F v d → Dp K F' v d
  | .none, _, h => by cases h; exact .non
  | .bool _, _, h => by cases h; exact .bl _
  | .int _, _, h => by cases h; exact .int _
  | .str _, _, h => by cases h; exact .str _
  | .list ds, _, h => by
    cases h with
    | lst q r => exact .lst (s.seq q) (dpAll_mono s r)
  | .tuple ds, _, h => by
    cases h with
    | tup q r => exact .tup (sqT_mono s q) (dpAll_mono s r)
  | .dict _, _, h => by cases h
theorem dpAll_mono {K : PySem.W.Frag} {F F' : Hp} (s : Same F F') : ∀ {ds : List D} {vs : List V}, DpAll K F vs ds → DpAll K F' vs ds
  | [], _, h => by cases h; exact .nil
  | d :: ds, _, h => by
    cases h with
    | cons q r => exact .cons (dp_mono s q) (dpAll_mono s r)
end
theorem dictOb_mono {K : PySem.W.Frag} {F F' : Hp} (s : Same F F') {kvs : List (D × D)} {tk : Bool} {u : HO} (h : DictOb K F kvs tk u) : DictOb K F' kvs tk u := by
  cases tk with
  | false =>
    cases u with
    | dK ws =>
      have h : KvK K F kvs ws := h
      show KvK K F' kvs ws
      induction h with
      | nil => exact .nil
      | cons r t ih => exact .cons ⟨r.1, dp_mono s r.2⟩ (ih t)
    | _ => exact h.elim
  | true =>
    cases u with
    | dT ws =>
      have h : KvT K F kvs ws := h
      show KvT K F' kvs ws
      induction h with
      | nil => exact .nil
      | cons r t ih => exact .cons ⟨r.1, dp_mono s r.2⟩ (ih t)
    | _ => exact h.elim
theorem ob_mono {K : PySem.W.Frag} {F F' : Hp} (s : Same F F') {c : Cell} {o : HO} (h : Ob K F c o) : Ob K F' c o := by
  cases c with
  | ol ds =>
    cases o with
    | lst vs => exact dpAll_mono s h
    | _ => exact h
  | od tk kvs => exact dictOb_mono s h
  | dead => exact h
  | sh d => exact h
  | fd tk kvs => exact h
theorem ob_own {K : PySem.W.Frag} {F : Hp} {c : Cell} {o : HO} (h : Ob K F c o) : isOwn c = true := by
  cases c <;> first | rfl | (cases o <;> exact h.elim)
/-! ### lists of data -/
theorem _root_.L2.DpAll.length {K : PySem.W.Frag} {F : Hp} : ∀ {vs : List V} {ds : List D}, DpAll K F vs ds → vs.length = ds.length
  | _, [], h => by cases h; rfl
  | _, d :: ds, h => by
    cases h with
    | cons q r => rw [List.length_cons, List.length_cons, DpAll.length r]
theorem _root_.L2.DpAll.get {K : PySem.W.Frag} {F : Hp} : ∀ {vs : List V} {ds : List D} {i : Nat} {v : V}, DpAll K F vs ds → vs[i]? = some v → ∃ d, ds[i]? = some d ∧ Dp K F v d
  | _, [], i, v, h, e => by cases h; simp at e
  | _, d :: ds, 0, v, h, e => by
    cases h with
    | cons q r => simp at e; subst e; exact ⟨d, rfl, q⟩
  | _, d :: ds, i + 1, v, h, e => by
    cases h with
    | cons q r =>
      obtain ⟨d', e', q'⟩ := DpAll.get (i := i) (v := v) r (by simpa using e)
      exact ⟨d', by simpa using e', q'⟩
theorem _root_.L2.DpAll.get' {K : PySem.W.Frag} {F : Hp} : ∀ {vs : List V} {ds : List D} {i : Nat} {d : D}, DpAll K F vs ds → ds[i]? = some d → ∃ v, vs[i]? = some v ∧ Dp K F v d
  | _, [], i, v, h, e => by simp at e
  | _, d :: ds, 0, v, h, e => by
    cases h with
    | cons q r => simp at e; subst e; exact ⟨_, rfl, q⟩
  | _, d :: ds, i + 1, v, h, e => by
    cases h with
    | cons q r =>
      obtain ⟨d', e', q'⟩ := DpAll.get' (i := i) r (by simpa using e)
      exact ⟨d', by simpa using e', q'⟩
theorem _root_.L2.DpAll.append {K : PySem.W.Frag} {F : Hp} : ∀ {vs ws : List V} {ds es : List D}, DpAll K F vs ds → DpAll K F ws es → DpAll K F (vs ++ ws) (ds ++ es)
  | _, _, [], _, h, r => by cases h; exact r
  | _, _, d :: ds, _, h, r => by
    cases h with
    | cons q t => exact .cons q (DpAll.append t r)
theorem _root_.L2.DpAll.one {K : PySem.W.Frag} {F : Hp} {v : V} {d : D} (h : Dp K F v d) : DpAll K F [v] [d] := .cons h .nil
theorem _root_.L2.DpAll.take {K : PySem.W.Frag} {F : Hp} : ∀ {vs : List V} {ds : List D} (n : Nat), DpAll K F vs ds → DpAll K F (vs.take n) (ds.take n)
  | _, _, 0, _ => .nil
  | _, [], _ + 1, h => by cases h; exact .nil
  | _, d :: ds, n + 1, h => by
    cases h with
    | cons q r => exact .cons q (DpAll.take n r)
theorem _root_.L2.DpAll.drop {K : PySem.W.Frag} {F : Hp} : ∀ {vs : List V} {ds : List D} (n : Nat), DpAll K F vs ds → DpAll K F (vs.drop n) (ds.drop n)
  | _, _, 0, h => h
  | _, [], _ + 1, h => by cases h; exact .nil
  | _, d :: ds, n + 1, h => by
    cases h with
    | cons q r => exact DpAll.drop n r
theorem _root_.L2.DpAll.set {K : PySem.W.Frag} {F : Hp} {v : V} {d : D} (h : Dp K F v d) : ∀ {vs : List V} {ds : List D} (i : Nat), DpAll K F vs ds → DpAll K F (vs.set i v) (ds.set i d)
  | _, [], _, r => by cases r; exact .nil
  | _, e :: ds, 0, r => by
    cases r with
    | cons q t => exact .cons h t
  | _, e :: ds, i + 1, r => by
    cases r with
    | cons q t => exact .cons q (DpAll.set h i t)
theorem _root_.L2.DpAll.reverse {K : PySem.W.Frag} {F : Hp} : ∀ {vs : List V} {ds : List D}, DpAll K F vs ds → DpAll K F vs.reverse ds.reverse
  | _, [], h => by cases h; exact .nil
  | _, d :: ds, h => by
    cases h with
    | cons q r => rw [List.reverse_cons, List.reverse_cons]; exact DpAll.append (DpAll.reverse r) (.one q)
theorem _root_.L2.DpAll.eraseIdx {K : PySem.W.Frag} {F : Hp} : ∀ {vs : List V} {ds : List D} (i : Nat), DpAll K F vs ds → DpAll K F (vs.eraseIdx i) (ds.eraseIdx i)
  | _, [], _, r => by cases r; exact .nil
  | _, e :: ds, 0, r => by
    cases r with
    | cons q t => exact t
  | _, e :: ds, i + 1, r => by
    cases r with
    | cons q t => exact .cons q (DpAll.eraseIdx i t)
theorem _root_.L2.DpAll.dropLast {K : PySem.W.Frag} {F : Hp} {vs : List V} {ds : List D} (h : DpAll K F vs ds) : DpAll K F vs.dropLast ds.dropLast := by
  rw [List.dropLast_eq_take, List.dropLast_eq_take, h.length]
  exact h.take _
theorem dp_ints {K : PySem.W.Frag} {F : Hp} : ∀ ns : List Int, DpAll K F (ns.map V.int) (ns.map PyData.int)
  | [] => .nil
  | n :: ns => .cons (.int n) (dp_ints ns)
theorem dp_ints_inv {K : PySem.W.Frag} {F : Hp} : ∀ {ns : List Int} {vs : List V}, DpAll K F vs (ns.map PyData.int) → vs = ns.map V.int
  | [], _, h => by cases h; rfl
  | n :: ns, _, h => by
    cases h with
    | cons q r => cases q; rw [dp_ints_inv r]; rfl
theorem dp_strs_inv {K : PySem.W.Frag} {F : Hp} : ∀ {ns : List Str} {vs : List V}, DpAll K F vs (ns.map PyData.str) → vs = ns.map V.str
  | [], _, h => by cases h; rfl
  | n :: ns, _, h => by
    cases h with
    | cons q r => cases q; rw [dp_strs_inv r]; rfl
theorem dp_bls_inv {K : PySem.W.Frag} {F : Hp} : ∀ {ns : List Bool} {vs : List V}, DpAll K F vs (ns.map PyData.bool) → vs = ns.map V.bl
  | [], _, h => by cases h; rfl
  | n :: ns, _, h => by
    cases h with
    | cons q r => cases q; rw [dp_bls_inv r]; rfl
/-! ### the state under growing, storing, writing -/
section
variable {K : PySem.W.Frag} {B F F' H H' : Hp} {io : List (Nat × Addr)} {σ : St} {ρ : En}
theorem cellOk_own {x : Option V} {c : Cell} (h : isOwn c = true) : CellOk K B F H x c ↔ ∃ a o, x = some (.ref a) ∧ H a = some o ∧ Ob K F c o ∧ F a = none ∧ B a = none := by
  cases c <;> first | exact Iff.rfl | (cases h)
theorem Con.al (c : Con K B F io σ H ρ) (a : Al F H F' H') : Con K B F' io σ H' ρ := by
  refine ⟨c.len, c.base.trans a.hh, a.sub, fun i e he => ?_, c.sep, c.io⟩
  obtain ⟨x, hx, ok⟩ := c.cell i e he
  refine ⟨x, hx, ?_⟩
  by_cases ho : isOwn e = true
  · rw [cellOk_own ho] at ok ⊢
    obtain ⟨p, o, h1, h2, h3, h4, h5⟩ := ok
    refine ⟨p, o, h1, a.hh _ _ h2, ob_mono a.ff h3, ?_, h5⟩
    cases q : F' p with
    | none => rfl
    | some u =>
      rcases a.new p u q with z | z
      · rw [h4] at z; cases z
      · rw [h2] at z; cases z
  · cases e with
    | dead => trivial
    | sh d => obtain ⟨v, h1, h2⟩ := ok; exact ⟨v, h1, dp_mono a.ff h2⟩
    | fd tk kvs => obtain ⟨p, ob, u, z1, z2, z3⟩ := ok; exact ⟨p, ob, u, z1, a.ff _ _ z2, dictOb_mono a.ff z3⟩
    | _ => exact absurd rfl ho
theorem get_set_cases {α : Type} {l : List α} {i j : Nat} {x y : α} (h : (l.set i x)[j]? = some y) : (j = i ∧ y = x ∧ i < l.length) ∨ (j ≠ i ∧ l[j]? = some y) := by
  by_cases e : i = j
  · subst e
    by_cases q : i < l.length
    · rw [List.getElem?_set_self q] at h
      exact .inl ⟨rfl, (Option.some.inj h).symm, q⟩
    · rw [List.getElem?_eq_none (by rw [List.length_set]; omega)] at h
      cases h
  · rw [List.getElem?_set_ne e] at h
    exact .inr ⟨fun z => e z.symm, h⟩
theorem io_set (c : Con K B F io σ H ρ) {i : Nat} (hi : i ∉ io.map (·.1)) (x : Option V) : ∀ p ∈ io, (σ.set i x)[p.1]? = some (some (.ref p.2)) := fun p hp => by
  rw [List.getElem?_set_ne (fun e => hi (List.mem_map.mpr ⟨p, hp, e.symm⟩))]
  exact c.io p hp
theorem Con.set_sh (c : Con K B F io σ H ρ) {i : Nat} {v : V} {d : D} (hi : i ∉ io.map (·.1)) (h : Dp K F v d) : Con K B F io (σ.set i (some v)) H (ρ.set i (.sh d)) := by
  refine ⟨by rw [List.length_set, List.length_set, c.len], c.base, c.frz, fun j e he => ?_, fun j k e1 e2 a h1 h2 o1 o2 s1 s2 => ?_, io_set c hi _⟩
  · rcases get_set_cases he with ⟨rfl, rfl, hl⟩ | ⟨ne, he⟩
    · exact ⟨some v, by rw [List.getElem?_set_self (by rw [c.len]; exact hl)], v, rfl, h⟩
    · obtain ⟨x, hx, ok⟩ := c.cell j e he
      exact ⟨x, by rw [List.getElem?_set_ne (Ne.symm ne)]; exact hx, ok⟩
  · rcases get_set_cases h1 with ⟨rfl, rfl, hl⟩ | ⟨ne1, h1⟩
    · cases o1
    · rcases get_set_cases h2 with ⟨rfl, rfl, hl⟩ | ⟨ne2, h2⟩
      · cases o2
      · rw [List.getElem?_set_ne (Ne.symm ne1)] at s1
        rw [List.getElem?_set_ne (Ne.symm ne2)] at s2
        exact c.sep j k e1 e2 a h1 h2 o1 o2 s1 s2
/-- the address is no own cell's -/
def NotOwned (σ : St) (ρ : En) (a : Addr) : Prop := ∀ (i : Nat) (c : Cell), ρ[i]? = some c → isOwn c = true → σ[i]? ≠ some (some (.ref a))
theorem Con.set_own (c : Con K B F io σ H ρ) {i : Nat} {a : Addr} {o : HO} {e0 : Cell} (hi : i ∉ io.map (·.1)) (ha : H a = some o) (ob : Ob K F e0 o) (fa : F a = none) (ba : B a = none) (no : NotOwned σ ρ a) :
    Con K B F io (σ.set i (some (.ref a))) H (ρ.set i e0) := by
  have o0 := ob_own ob
  refine ⟨by rw [List.length_set, List.length_set, c.len], c.base, c.frz, fun j e he => ?_, fun j k e1 e2 b h1 h2 o1 o2 s1 s2 => ?_, io_set c hi _⟩
  · rcases get_set_cases he with ⟨rfl, rfl, hl⟩ | ⟨ne, he⟩
    · exact ⟨some (.ref a), by rw [List.getElem?_set_self (by rw [c.len]; exact hl)], (cellOk_own o0).mpr ⟨a, o, rfl, ha, ob, fa, ba⟩⟩
    · obtain ⟨x, hx, ok⟩ := c.cell j e he
      exact ⟨x, by rw [List.getElem?_set_ne (Ne.symm ne)]; exact hx, ok⟩
  · rcases get_set_cases h1 with ⟨rfl, rfl, hl⟩ | ⟨ne1, g1⟩
    · rcases get_set_cases h2 with ⟨rfl, rfl, _⟩ | ⟨ne2, g2⟩
      · rfl
      · rw [List.getElem?_set_self (by rw [c.len]; exact hl)] at s1
        rw [List.getElem?_set_ne (Ne.symm ne2)] at s2
        cases s1
        exact absurd s2 (no k e2 g2 o2)
    · rw [List.getElem?_set_ne (Ne.symm ne1)] at s1
      rcases get_set_cases h2 with ⟨rfl, rfl, hl⟩ | ⟨ne2, g2⟩
      · rw [List.getElem?_set_self (by rw [c.len]; exact hl)] at s2
        cases s2
        exact absurd s1 (no j e1 g1 o1)
      · rw [List.getElem?_set_ne (Ne.symm ne2)] at s2
        exact c.sep j k e1 e2 b g1 g2 o1 o2 s1 s2
/-- a slot is forgotten, whatever it is given -/
theorem Con.kill (c : Con K B F io σ H ρ) (i : Nat) : Con K B F io σ H (ρ.set i .dead) := by
  refine ⟨by rw [List.length_set, c.len], c.base, c.frz, fun j e he => ?_, fun j k e1 e2 b h1 h2 o1 o2 s1 s2 => ?_, c.io⟩
  · rcases get_set_cases he with ⟨rfl, rfl, hl⟩ | ⟨ne, he⟩
    · exact ⟨σ[j]'(by rw [c.len]; exact hl), List.getElem?_eq_getElem _, trivial⟩
    · exact c.cell j e he
  · rcases get_set_cases h1 with ⟨rfl, rfl, hl⟩ | ⟨ne1, h1⟩
    · cases o1
    · rcases get_set_cases h2 with ⟨rfl, rfl, hl⟩ | ⟨ne2, h2⟩
      · cases o2
      · exact c.sep j k e1 e2 b h1 h2 o1 o2 s1 s2
theorem Con.setDead (c : Con K B F io σ H ρ) {i : Nat} (hi : i ∉ io.map (·.1)) (x : Option V) : Con K B F io (σ.set i x) H (ρ.set i .dead) := by
  refine ⟨by rw [List.length_set, List.length_set, c.len], c.base, c.frz, fun j e he => ?_, fun j k e1 e2 a h1 h2 o1 o2 s1 s2 => ?_, io_set c hi _⟩
  · rcases get_set_cases he with ⟨rfl, rfl, hl⟩ | ⟨ne, he⟩
    · exact ⟨x, by rw [List.getElem?_set_self (by rw [c.len]; exact hl)], trivial⟩
    · obtain ⟨x, hx, ok⟩ := c.cell j e he
      exact ⟨x, by rw [List.getElem?_set_ne (Ne.symm ne)]; exact hx, ok⟩
  · rcases get_set_cases h1 with ⟨rfl, rfl, hl⟩ | ⟨ne1, h1⟩
    · cases o1
    · rcases get_set_cases h2 with ⟨rfl, rfl, hl⟩ | ⟨ne2, h2⟩
      · cases o2
      · rw [List.getElem?_set_ne (Ne.symm ne1)] at s1
        rw [List.getElem?_set_ne (Ne.symm ne2)] at s2
        exact c.sep j k e1 e2 a h1 h2 o1 o2 s1 s2
theorem Con.own (c : Con K B F io σ H ρ) {i : Nat} {e : Cell} (h : ρ[i]? = some e) (o1 : isOwn e = true) : ∃ a o, σ[i]? = some (some (.ref a)) ∧ H a = some o ∧ Ob K F e o ∧ F a = none ∧ B a = none := by
  obtain ⟨x, hx, ok⟩ := c.cell i e h
  obtain ⟨a, o, h1, h2, h3, h4, h5⟩ := (cellOk_own o1).mp ok
  subst h1
  exact ⟨a, o, hx, h2, h3, h4, h5⟩
/-- the own object of slot i is written -/
theorem Con.write (c : Con K B F io σ H ρ) {i : Nat} {a : Addr} {o' : HO} {e e' : Cell} (h : ρ[i]? = some e) (o1 : isOwn e = true) (hs : σ[i]? = some (some (.ref a))) (ob : Ob K F e' o') :
    Con K B F io σ (upd H a o') (ρ.set i e') := by
  obtain ⟨a', o, h1, h2, h3, h4, h5⟩ := c.own h o1
  have ea : a' = a := by rw [hs] at h1; cases h1; rfl
  subst ea
  have o2 := ob_own ob
  have same : ∀ {G : Hp}, Same G H → G a' = none → Same G (upd H a' o') := fun {G} s n b x q => by
    rw [upd_ne (ne_of_none q n)]
    exact s b x q
  refine ⟨by rw [List.length_set, c.len], same c.base h5, same c.frz h4, fun j u he => ?_, fun j k e1 e2 b q1 q2 w1 w2 s1 s2 => ?_, c.io⟩
  · rcases get_set_cases he with ⟨rfl, rfl, hl⟩ | ⟨ne, he⟩
    · exact ⟨_, hs, (cellOk_own o2).mpr ⟨a', o', rfl, upd_same, ob, h4, h5⟩⟩
    · obtain ⟨x, hx, ok⟩ := c.cell j u he
      refine ⟨x, hx, ?_⟩
      by_cases ho : isOwn u = true
      · rw [cellOk_own ho] at ok ⊢
        obtain ⟨p, w, g1, g2, g3, g4, g5⟩ := ok
        subst g1
        refine ⟨p, w, rfl, ?_, g3, g4, g5⟩
        have np : p ≠ a' := fun z => ne (c.sep j i u e a' he h ho o1 (by rw [hx, z]) hs)
        rw [upd_ne np]
        exact g2
      · cases u with
        | dead => trivial
        | sh d => exact ok
        | fd tk kvs => exact ok
        | _ => exact absurd rfl ho
  · rcases get_set_cases q1 with ⟨rfl, rfl, hl⟩ | ⟨ne1, g1⟩
    · rcases get_set_cases q2 with ⟨rfl, rfl, _⟩ | ⟨ne2, g2⟩
      · rfl
      · exact c.sep j k e e2 b h g2 o1 w2 s1 s2
    · rcases get_set_cases q2 with ⟨rfl, rfl, _⟩ | ⟨ne2, g2⟩
      · exact c.sep j k e1 e b g1 h w1 o1 s1 s2
      · exact c.sep j k e1 e2 b g1 g2 w1 w2 s1 s2
/-- what is frozen may be seen as new beside it -/
theorem Con.fresh_notOwned (c : Con K B F io σ H ρ) {a : Addr} (h : H a = none) : NotOwned σ ρ a := fun i e he ho q => by
  obtain ⟨p, o, h1, h2, _⟩ := c.own he ho
  rw [q] at h1
  cases h1
  rw [h] at h2
  cases h2
/-- an own list is frozen -/
theorem Con.freezeV (c : Con K B F io σ H ρ) {i : Nat} {ds : List D} (h : ρ[i]? = some (.ol ds)) : ∃ a vs, σ[i]? = some (some (.ref a)) ∧ H a = some (.lst vs) ∧ DpAll K F vs ds ∧ Gr B F (upd F a (.lst vs)) ∧ Dp K (upd F a (.lst vs)) (.ref a) (.list ds) ∧ Con K B (upd F a (.lst vs)) io σ H (ρ.set i (.sh (.list ds))) := by
  obtain ⟨a, o, h1, h2, h3, h4, h5⟩ := c.own h rfl
  cases o with
  | lst vs =>
    have ob : DpAll K F vs ds := h3
    have s1 : Same F (upd F a (.lst vs)) := same_upd h4
    have dd : Dp K (upd F a (.lst vs)) (.ref a) (.list ds) := .lst (.inl (.inl upd_same)) (dpAll_mono s1 ob)
    refine ⟨a, vs, h1, h2, ob, ⟨s1, fun b x e => ?_⟩, dd, ⟨by rw [List.length_set, c.len], c.base, fun b x e => ?_, fun j u he => ?_, fun j k e1 e2 b q1 q2 w1 w2 t1 t2 => ?_, c.io⟩⟩
    · by_cases q : b = a
      · subst q; exact .inr h5
      · rw [upd_ne q] at e; exact .inl e
    · by_cases q : b = a
      · subst q; rw [upd_same] at e; rw [h2]; exact e
      · rw [upd_ne q] at e; exact c.frz b x e
    · rcases get_set_cases he with ⟨rfl, rfl, hl⟩ | ⟨ne, he⟩
      · exact ⟨_, h1, .ref a, rfl, dd⟩
      · obtain ⟨x, hx, ok⟩ := c.cell j u he
        refine ⟨x, hx, ?_⟩
        by_cases ho : isOwn u = true
        · rw [cellOk_own ho] at ok ⊢
          obtain ⟨p, w, g1, g2, g3, g4, g5⟩ := ok
          subst g1
          refine ⟨p, w, rfl, g2, ob_mono s1 g3, ?_, g5⟩
          have np : p ≠ a := fun z => ne (c.sep j i u (.ol ds) a he h ho rfl (by rw [hx, z]) h1)
          rw [upd_ne np]
          exact g4
        · cases u with
          | dead => trivial
          | sh d => obtain ⟨v, z1, z2⟩ := ok; exact ⟨v, z1, dp_mono s1 z2⟩
          | fd tk kvs => obtain ⟨p, ob, u, z1, z2, z3⟩ := ok; exact ⟨p, ob, u, z1, s1 _ _ z2, dictOb_mono s1 z3⟩
          | _ => exact absurd rfl ho
    · rcases get_set_cases q1 with ⟨rfl, rfl, hl⟩ | ⟨ne1, q1⟩
      · cases w1
      · rcases get_set_cases q2 with ⟨rfl, rfl, hl⟩ | ⟨ne2, q2⟩
        · cases w2
        · exact c.sep j k e1 e2 b q1 q2 w1 w2 t1 t2
  | _ => exact False.elim h3
theorem Con.freeze (c : Con K B F io σ H ρ) {i : Nat} {ds : List D} (h : ρ[i]? = some (.ol ds)) : ∃ a F', σ[i]? = some (some (.ref a)) ∧ Gr B F F' ∧ Dp K F' (.ref a) (.list ds) ∧ Con K B F' io σ H (ρ.set i (.sh (.list ds))) := by
  obtain ⟨a, vs, h1, _, _, g, dd, c'⟩ := c.freezeV h
  exact ⟨a, _, h1, g, dd, c'⟩
end
end L2.Pd

namespace L2.Pd
open PySem PySem.Spec PyProof.Rows
/-! ## The judgements: a piece of syntax, its reading, and the plain function that it is -/
abbrev FE := En → Option (D × En)
abbrev FN := En → Option (Cell × En)
abbrev FT := En → Option (Bool × En)
abbrev FA := En → Option (List D × En)
def SE (K : PySem.W.Frag) (t : TE) (f : FE) : Prop := ∀ (B F : Hp) (io : List (Nat × Addr)) (σ : St) (H : Hp) (ρ : En) (d : D) (ρ' : En) (Q : VK), Con K B F io σ H ρ → f ρ = some (d, ρ') →
  (∀ F' H' v, Gr B F F' → Con K B F' io σ H' ρ' → Dp K F' v d → Q v H') → t σ H Q
def SN (K : PySem.W.Frag) (t : TE) (f : FN) : Prop := ∀ (B F : Hp) (io : List (Nat × Addr)) (σ : St) (H : Hp) (ρ : En) (c : Cell) (ρ' : En) (Q : VK), Con K B F io σ H ρ → f ρ = some (c, ρ') →
  (∀ F' H' a o, Gr B F F' → Con K B F' io σ H' ρ' → H' a = some o → Ob K F' c o → F' a = none → B a = none → NotOwned σ ρ' a → Q (.ref a) H') → t σ H Q
def ST (K : PySem.W.Frag) (t : TT) (f : FT) : Prop := ∀ (B F : Hp) (io : List (Nat × Addr)) (σ : St) (H : Hp) (ρ : En) (b : Bool) (ρ' : En) (Q : Bool → Hp → Prop), Con K B F io σ H ρ → f ρ = some (b, ρ') →
  (∀ F' H', Gr B F F' → Con K B F' io σ H' ρ' → Q b H') → t σ H Q
def SA (K : PySem.W.Frag) (t : TA) (f : FA) : Prop := ∀ (B F : Hp) (io : List (Nat × Addr)) (σ : St) (H : Hp) (ρ : En) (ds : List D) (ρ' : En) (Q : List V → Hp → Prop), Con K B F io σ H ρ → f ρ = some (ds, ρ') →
  (∀ F' H' vs, Gr B F F' → Con K B F' io σ H' ρ' → DpAll K F' vs ds → Q vs H') → t σ H Q
structure DE (X : Cx) (e : Expr) (t : TE) (f : FE) : Prop where
  pe : PE X e t
  se : SE X.K t f
structure DN (X : Cx) (e : Expr) (t : TE) (f : FN) : Prop where
  pe : PE X e t
  se : SN X.K t f
structure DT (X : Cx) (e : Expr) (t : TT) (f : FT) : Prop where
  pe : PT X e t
  se : ST X.K t f
structure DW (X : Cx) (e : Expr) (t : TT) (f : FT) : Prop where
  pe : PW X e t
  se : ST X.K t f
structure DA (X : Cx) (es : List Expr) (t : TA) (f : FA) : Prop where
  pe : PA X es t
  se : SA X.K t f
theorem DW.dt {X : Cx} {e : Expr} {t : TT} {f : FT} (h : DW X e t f) : DT X e t f := ⟨h.pe.pt, h.se⟩
/-! ### operations on values -/
def Op1 (K : PySem.W.Frag) (r : V → Hp → VK → Prop) (g : D → Option D) : Prop := ∀ (F H : Hp) (x : V) (dx d : D) (Q : VK), Same F H → Dp K F x dx → g dx = some d → (∀ F' H' v, Al F H F' H' → Dp K F' v d → Q v H') → r x H Q
def Op2 (K : PySem.W.Frag) (r : R2) (g : D → D → Option D) : Prop := ∀ (F H : Hp) (x y : V) (dx dy d : D) (Q : VK), Same F H → Dp K F x dx → Dp K F y dy → g dx dy = some d → (∀ F' H' v, Al F H F' H' → Dp K F' v d → Q v H') → r x y H Q
def Op2N (K : PySem.W.Frag) (r : R2) (g : D → D → Option Cell) : Prop := ∀ (F H : Hp) (x y : V) (dx dy : D) (c : Cell) (Q : VK), Same F H → Dp K F x dx → Dp K F y dy → g dx dy = some c →
  (∀ F' H' a o, Al F H F' H' → H' a = some o → Ob K F' c o → F' a = none → H a = none → Q (.ref a) H') → r x y H Q
def OpA (K : PySem.W.Frag) (r : List V → Hp → VK → Prop) (g : List D → Option D) : Prop := ∀ (F H : Hp) (xs : List V) (ds : List D) (d : D) (Q : VK), Same F H → DpAll K F xs ds → g ds = some d → (∀ F' H' v, Al F H F' H' → Dp K F' v d → Q v H') → r xs H Q
def OpAN (K : PySem.W.Frag) (r : List V → Hp → VK → Prop) (g : List D → Option Cell) : Prop := ∀ (F H : Hp) (xs : List V) (ds : List D) (c : Cell) (Q : VK), Same F H → DpAll K F xs ds → g ds = some c →
  (∀ F' H' a o, Al F H F' H' → H' a = some o → Ob K F' c o → F' a = none → H a = none → Q (.ref a) H') → r xs H Q
def OpM (K : PySem.W.Frag) (T : String) (r : V → List V → Hp → VK → Prop) (g : D → List D → Option D) : Prop := ∀ (F H : Hp) (x : V) (xs : List V) (dx : D) (ds : List D) (d : D) (Q : VK), Same F H → Dp K F x dx → DpAll K F xs ds → g dx ds = some d →
  (∀ F' H' v, Al F H F' H' → Dp K F' v d → Q v H') → r x xs H Q
/-- a new list may be frozen -/
theorem al_freeze {K : PySem.W.Frag} {F H F' H' : Hp} {a : Addr} {ds : List D} {o : HO} (al : Al F H F' H') (ha : H' a = some o) (ob : Ob K F' (.ol ds) o) (fa : F' a = none) (na : H a = none) :
    ∃ F2, Al F H F2 H' ∧ Dp K F2 (.ref a) (.list ds) := by
  cases o with
  | lst vs =>
    have s1 : Same F' (upd F' a (.lst vs)) := same_upd fa
    refine ⟨upd F' a (.lst vs), ⟨al.ff.trans s1, al.hh, fun b x e => ?_, fun b x e => ?_⟩, .lst (.inl (.inl upd_same)) (dpAll_mono s1 ob)⟩
    · by_cases q : b = a
      · subst q; rw [upd_same] at e; rw [ha]; exact e
      · rw [upd_ne q] at e; exact al.sub b x e
    · by_cases q : b = a
      · subst q; exact .inr na
      · rw [upd_ne q] at e; exact al.new b x e
  | _ => exact False.elim ob
def frzC : Cell → Option D
  | .ol ds => some (.list ds)
  | _ => none
theorem Op2N.frz {K : PySem.W.Frag} {r : R2} {g : D → D → Option Cell} (h : Op2N K r g) : Op2 K r (fun x y => (g x y).bind frzC) := by
  intro F H x y dx dy d Q s hx hy e k
  obtain ⟨c, e1, e2⟩ := Option.bind_eq_some_iff.mp e
  refine h F H x y dx dy c Q s hx hy e1 fun F' H' a o al ha ob fa na => ?_
  cases c with
  | ol ds =>
    cases e2
    obtain ⟨F2, al2, dd⟩ := al_freeze al ha ob fa na
    exact k F2 H' _ al2 dd
  | _ => cases e2
theorem OpAN.frz {K : PySem.W.Frag} {r : List V → Hp → VK → Prop} {g : List D → Option Cell} (h : OpAN K r g) : OpA K r (fun x => (g x).bind frzC) := by
  intro F H x dx d Q s hx e k
  obtain ⟨c, e1, e2⟩ := Option.bind_eq_some_iff.mp e
  refine h F H x dx c Q s hx e1 fun F' H' a o al ha ob fa na => ?_
  cases c with
  | ol ds =>
    cases e2
    obtain ⟨F2, al2, dd⟩ := al_freeze al ha ob fa na
    exact k F2 H' _ al2 dd
  | _ => cases e2
/-! ### names, constants -/
def eVar (i : Nat) : FE := fun ρ => match ρ[i]? with
  | some (.sh d) => some (d, ρ)
  | some (.ol ds) => some (.list ds, ρ.set i (.sh (.list ds)))
  | _ => none
def eC (d : D) : FE := fun ρ => some (d, ρ)
section
variable {X : Cx}
theorem se_var {K : PySem.W.Frag} (i : Nat) : SE K (tVar i) (eVar i) := by
  intro B F io σ H ρ d ρ' Q c h k
  unfold eVar at h
  cases e : ρ[i]? with
  | none => rw [e] at h; cases h
  | some u =>
    rw [e] at h
    cases u with
    | sh d0 =>
      cases h
      obtain ⟨x, hx, v, rfl, dd⟩ := c.cell i _ e
      exact ⟨v, hx, k F H v (Gr.refl _ _) c dd⟩
    | ol ds =>
      cases h
      obtain ⟨a, F', h1, g, dd, c'⟩ := c.freeze e
      exact ⟨.ref a, h1, k F' H _ g c' dd⟩
    | _ => cases h
theorem de_var (i : Nat) {x : Str} {pos : Pos} (hN : X.N[i]? = some x := by rfl) (hv : Vis X.env.scope x := by first | exact Or.inl rfl | exact Or.inr (Or.inl rfl) | exact Or.inr (Or.inr rfl)) (hd : (x == ("__debug__" : Str)) = false := by decide)
    (hcd : (x == ("__classdict__" : Str)) = false := by decide) : DE X (.Name x pos) (tVar i) (eVar i) := ⟨pe_var hN hv hd hcd, se_var i⟩
theorem se_c {K : PySem.W.Frag} {v : V} {d : D} (h : ∀ F, Dp K F v d) : SE K (tC v) (eC d) := by
  intro B F io σ H ρ d' ρ' Q c e k
  cases e
  exact k F H v (Gr.refl _ _) c (h F)
theorem de_int {i : Int} {j pos} : DE X (.Constant (.int i) j pos) (tC (.int i)) (eC (.int i)) := ⟨pe_int, se_c fun _ => .int i⟩
theorem de_bl {b : Bool} {j pos} : DE X (.Constant (.bool b) j pos) (tC (.bl b)) (eC (.bool b)) := ⟨pe_bl, se_c fun _ => .bl b⟩
theorem de_non {j pos} : DE X (.Constant .none j pos) (tC .non) (eC .none) := ⟨pe_non, se_c fun _ => .non⟩
theorem de_str {x : Str} {j pos} : DE X (.Constant (.str x) j pos) (tC (.str x)) (eC (.str x)) := ⟨pe_str, se_c fun _ => .str x⟩
/-- a module's constant -/
theorem de_glob {x : Str} {v : V} {u : Value} {d : D} {pos : Pos} (hm : X.mg x = some u) (r : RelV v u) (h : ∀ F, Dp X.K F v d) (hg : Gl X x := by rfl) (hd : (x == ("__debug__" : Str)) = false := by decide) : DE X (.Name x pos) (tC v) (eC d) :=
  ⟨pe_glob hg hm r hd, se_c h⟩
end
/-! ### operators -/
def eBin (g : D → D → Option D) (fa fb : FE) : FE := fun ρ => (fa ρ).bind fun p => (fb p.2).bind fun q => (g p.1 q.1).map fun d => (d, q.2)
def eBinN (g : D → D → Option Cell) (fa fb : FE) : FN := fun ρ => (fa ρ).bind fun p => (fb p.2).bind fun q => (g p.1 q.1).map fun d => (d, q.2)
def eUn (g : D → Option D) (fa : FE) : FE := fun ρ => (fa ρ).bind fun p => (g p.1).map fun d => (d, p.2)
theorem se_bin {K : PySem.W.Frag} {r : R2} {g : D → D → Option D} {ta tb : TE} {fa fb : FE} (hg : Op2 K r g) (ha : SE K ta fa) (hb : SE K tb fb) : SE K (tOp r ta tb) (eBin g fa fb) := by
  intro B F io σ H ρ d ρ' Q c h k
  obtain ⟨p, e1, h⟩ := Option.bind_eq_some_iff.mp h
  obtain ⟨q, e2, h⟩ := Option.bind_eq_some_iff.mp h
  obtain ⟨z, e3, h⟩ := Option.map_eq_some_iff.mp h
  cases h
  refine ha B F io σ H ρ p.1 p.2 _ c e1 fun F1 H1 x g1 c1 d1 => ?_
  refine hb B F1 io σ H1 p.2 q.1 q.2 _ c1 e2 fun F2 H2 y g2 c2 d2 => ?_
  exact hg F2 H2 x y p.1 q.1 d Q c2.frz (dp_mono g2.sub d1) d2 e3 fun F3 H3 v al d3 => k F3 H3 v ((g1.trans g2).trans (al.gr c2.base)) (c2.al al) d3
theorem notOwned_fresh {K : PySem.W.Frag} {B F H : Hp} {io : List (Nat × Addr)} {σ : St} {ρ : En} {a : Addr} (c : Con K B F io σ H ρ) (h : H a = none) : NotOwned σ ρ a := c.fresh_notOwned h
theorem se_binN {K : PySem.W.Frag} {r : R2} {g : D → D → Option Cell} {ta tb : TE} {fa fb : FE} (hg : Op2N K r g) (ha : SE K ta fa) (hb : SE K tb fb) : SN K (tOp r ta tb) (eBinN g fa fb) := by
  intro B F io σ H ρ d ρ' Q c h k
  obtain ⟨p, e1, h⟩ := Option.bind_eq_some_iff.mp h
  obtain ⟨q, e2, h⟩ := Option.bind_eq_some_iff.mp h
  obtain ⟨z, e3, h⟩ := Option.map_eq_some_iff.mp h
  cases h
  refine ha B F io σ H ρ p.1 p.2 _ c e1 fun F1 H1 x g1 c1 d1 => ?_
  refine hb B F1 io σ H1 p.2 q.1 q.2 _ c1 e2 fun F2 H2 y g2 c2 d2 => ?_
  exact hg F2 H2 x y p.1 q.1 d Q c2.frz (dp_mono g2.sub d1) d2 e3 fun F3 H3 a o al ha ob fa na => k F3 H3 a o ((g1.trans g2).trans (al.gr c2.base)) (c2.al al) ha ob fa (c2.base.free na) (c2.fresh_notOwned na)
theorem se_un {K : PySem.W.Frag} {r : V → Hp → VK → Prop} {g : D → Option D} {ta : TE} {fa : FE} (hg : Op1 K r g) (ha : SE K ta fa) : SE K (tUn r ta) (eUn g fa) := by
  intro B F io σ H ρ d ρ' Q c h k
  obtain ⟨p, e1, h⟩ := Option.bind_eq_some_iff.mp h
  obtain ⟨z, e3, h⟩ := Option.map_eq_some_iff.mp h
  cases h
  refine ha B F io σ H ρ p.1 p.2 _ c e1 fun F1 H1 x g1 c1 d1 => ?_
  exact hg F1 H1 x p.1 d Q c1.frz d1 e3 fun F3 H3 v al d3 => k F3 H3 v (g1.trans (al.gr c1.base)) (c1.al al) d3
section
variable {X : Cx} {a b c : Expr} {ta tb tc : TE} {fa fb fc : FE} {pos : Pos}
theorem de_bin {op : Operator} {r : R2} {g : D → D → Option D} (ho : OpR X (binaryOp op) r) (hg : Op2 X.K r g) (ha : DE X a ta fa) (hb : DE X b tb fb) : DE X (.BinOp a op b pos) (tOp r ta tb) (eBin g fa fb) :=
  ⟨pe_op ho ha.pe hb.pe, se_bin hg ha.se hb.se⟩
theorem dn_bin {op : Operator} {r : R2} {g : D → D → Option Cell} (ho : OpR X (binaryOp op) r) (hg : Op2N X.K r g) (ha : DE X a ta fa) (hb : DE X b tb fb) : DN X (.BinOp a op b pos) (tOp r ta tb) (eBinN g fa fb) :=
  ⟨pe_op ho ha.pe hb.pe, se_binN hg ha.se hb.se⟩
theorem de_un {op : UnaryOp} {r : V → Hp → VK → Prop} {g : D → Option D} (ho : UnR X (unaryOp op) r) (hg : Op1 X.K r g) (ha : DE X a ta fa) : DE X (.UnaryOp op a pos) (tUn r ta) (eUn g fa) :=
  ⟨pe_un ho ha.pe, se_un hg ha.se⟩
/-- a comparison as a value -/
theorem de_cmp {op : CmpOp} {r : R2} {g : D → D → Option D} (ho : OpR X (compareOp op) r) (hg : Op2 X.K r g) (ha : DE X a ta fa) (hb : DE X b tb fb) (hm : behindInMarks op b = false := by first | exact nomark _ | rfl) : DE X (.Compare a [op] [b] pos) (tOp r ta tb) (eBin g fa fb) :=
  ⟨pe_cmpR ho ha.pe hb.pe hm, se_bin hg ha.se hb.se⟩
def tstD : D → Option Bool
  | .bool b => some b
  | _ => none
def eTst (f : FE) : FT := fun ρ => (f ρ).bind fun p => (tstD p.1).map fun b => (b, p.2)
theorem st_tst {K : PySem.W.Frag} {t : TE} {f : FE} (h : SE K t f) : ST K (tTest t) (eTst f) := by
  intro B F io σ H ρ b ρ' Q c e k
  obtain ⟨p, e1, e⟩ := Option.bind_eq_some_iff.mp e
  obtain ⟨z, e3, e⟩ := Option.map_eq_some_iff.mp e
  cases e
  refine h B F io σ H ρ p.1 p.2 _ c e1 fun F1 H1 x g1 c1 d1 => ?_
  cases hp : p.1 <;> rw [hp] at e3 d1 <;> cases e3
  cases d1
  exact ⟨_, rfl, k F1 H1 g1 c1⟩
theorem dt_cmp {op : CmpOp} {r : R2} {g : D → D → Option D} (ho : OpR X (compareOp op) r) (hg : Op2 X.K r g) (ha : DE X a ta fa) (hb : DE X b tb fb) (hm : behindInMarks op b = false := by first | exact nomark _ | rfl) : DT X (.Compare a [op] [b] pos) (tTest (tOp r ta tb)) (eTst (eBin g fa fb)) :=
  ⟨pt_cmpR ho ha.pe hb.pe hm, st_tst (se_bin hg ha.se hb.se)⟩
/-- a op1 b op2 c -/
def eChain (g g' : D → D → Option D) (fa fb fc : FE) : FE := fun ρ => (fa ρ).bind fun p => (fb p.2).bind fun q => ((g p.1 q.1).bind tstD).bind fun k =>
  if k = true then (fc q.2).bind fun s => (g' q.1 s.1).map fun d => (d, s.2) else some (.bool false, q.2)
theorem se_chain {K : PySem.W.Frag} {r r' : R2} {g g' : D → D → Option D} (hg : Op2 K r g) (hg' : Op2 K r' g') (ha : SE K ta fa) (hb : SE K tb fb) (hc : SE K tc fc) : SE K (tChain r r' ta tb tc) (eChain g g' fa fb fc) := by
  intro B F io σ H ρ d ρ' Q c h k
  obtain ⟨p, e1, h⟩ := Option.bind_eq_some_iff.mp h
  obtain ⟨q, e2, h⟩ := Option.bind_eq_some_iff.mp h
  obtain ⟨z, e3, h⟩ := Option.bind_eq_some_iff.mp h
  obtain ⟨w, e3, e4⟩ := Option.bind_eq_some_iff.mp e3
  refine ha B F io σ H ρ p.1 p.2 _ c e1 fun F1 H1 x g1 c1 d1 => ?_
  refine hb B F1 io σ H1 p.2 q.1 q.2 _ c1 e2 fun F2 H2 y g2 c2 d2 => ?_
  refine hg F2 H2 x y p.1 q.1 w _ c2.frz (dp_mono g2.sub d1) d2 e3 fun F3 H3 v al d3 => ?_
  cases w <;> cases e4
  cases d3
  refine ⟨z, rfl, ?_⟩
  have g3 := (g1.trans g2).trans (al.gr c2.base)
  have c3 := c2.al al
  cases z with
  | false =>
    rw [if_neg Bool.false_ne_true] at h ⊢
    cases h
    exact k F3 H3 _ g3 c3 (.bl false)
  | true =>
    rw [if_pos rfl] at h ⊢
    obtain ⟨s, e5, h⟩ := Option.bind_eq_some_iff.mp h
    obtain ⟨u, e6, h⟩ := Option.map_eq_some_iff.mp h
    cases h
    refine hc B F3 io σ H3 q.2 s.1 s.2 _ c3 e5 fun F4 H4 x4 g4 c4 d4 => ?_
    exact hg' F4 H4 y x4 q.1 s.1 d Q c4.frz (dp_mono (al.ff.trans g4.sub) d2) d4 e6 fun F5 H5 v5 al5 d5 => k F5 H5 v5 ((g3.trans g4).trans (al5.gr c4.base)) (c4.al al5) d5
theorem de_chain {op op' : CmpOp} {r r' : R2} {g g' : D → D → Option D} (ho : OpR X (compareOp op) r) (hg : Op2 X.K r g) (ho' : OpR X (compareOp op') r') (hg' : Op2 X.K r' g') (ha : DE X a ta fa) (hb : DE X b tb fb) (hc : DE X c tc fc)
    (hm : lastMarks [op, op'] [b, c] = false := by with_unfolding_all rfl) : DE X (.Compare a [op, op'] [b, c] pos) (tChain r r' ta tb tc) (eChain g g' fa fb fc) :=
  ⟨pe_chain ho ho' ha.pe hb.pe hc.pe hm, se_chain hg hg' ha.se hb.se hc.se⟩
theorem dt_chain {op op' : CmpOp} {r r' : R2} {g g' : D → D → Option D} (ho : OpR X (compareOp op) r) (hg : Op2 X.K r g) (ho' : OpR X (compareOp op') r') (hg' : Op2 X.K r' g') (ha : DE X a ta fa) (hb : DE X b tb fb) (hc : DE X c tc fc)
    (hm : lastMarks [op, op'] [b, c] = false := by with_unfolding_all rfl) : DT X (.Compare a [op, op'] [b, c] pos) (tTest (tChain r r' ta tb tc)) (eTst (eChain g g' fa fb fc)) :=
  ⟨pt_chain ho ho' ha.pe hb.pe hc.pe hm, st_tst (se_chain hg hg' ha.se hb.se hc.se)⟩
/-! ### truth, and, or, not, if -/
def truD : D → Option Bool
  | .none => some false
  | .bool b => some b
  | .int i => some (i != 0)
  | .str x => if x.length ≤ sizeLine then some ((x.length : Int) != 0) else none
  | .list ds => some (!ds.isEmpty)
  | .tuple ds => some (!ds.isEmpty)
  | .dict _ => none
def eTru (f : FE) : FT := fun ρ => (f ρ).bind fun p => (truD p.1).map fun b => (b, p.2)
theorem isEmpty_dp {K : PySem.W.Frag} {F : Hp} {vs : List V} {ds : List D} (h : DpAll K F vs ds) : vs.isEmpty = ds.isEmpty := by
  cases h <;> rfl
theorem tru_dp {K : PySem.W.Frag} {F H : Hp} {v : V} {d : D} {b : Bool} (s : Same F H) (h : Dp K F v d) (e : truD d = some b) : TruV K v H b := by
  cases h with
  | non => cases e; rfl
  | bl b => cases e; rfl
  | int i => cases e; rfl
  | str x =>
    have e : (if x.length ≤ sizeLine then some ((x.length : Int) != 0) else none) = some b := e
    by_cases hz : x.length ≤ sizeLine
    · rw [if_pos hz] at e; cases e; exact ⟨hz, rfl⟩
    · rw [if_neg hz] at e; cases e
  | lst q r => cases e; exact .inl ⟨_, s.seq q, by rw [isEmpty_dp r]⟩
  | tup q r => cases e; exact .inr (.inl ⟨_, sqT_mono s q, by rw [isEmpty_dp r]⟩)
theorem st_tru {K : PySem.W.Frag} {t : TE} {f : FE} (h : SE K t f) : ST K (fun σ H Q => t σ H fun x H' => ∃ k, TruV K x H' k ∧ Q k H') (eTru f) := by
  intro B F io σ H ρ b ρ' Q c e k
  obtain ⟨p, e1, e⟩ := Option.bind_eq_some_iff.mp e
  obtain ⟨z, e3, e⟩ := Option.map_eq_some_iff.mp e
  cases e
  exact h B F io σ H ρ p.1 p.2 _ c e1 fun F1 H1 x g1 c1 d1 => ⟨b, tru_dp c1.frz d1 e3, k F1 H1 g1 c1⟩
theorem dt_tru (ha : DE X a ta fa) (he : ∀ whole, isTrue a X.env whole = (do let v ← whole; standAt a.pos; holding [v] (truthy v)) := by intro _; rfl) :
    DT X a (fun σ H Q => ta σ H fun x H' => ∃ k, TruV X.K x H' k ∧ Q k H') (eTru fa) := ⟨pt_truth ha.pe he, st_tru ha.se⟩
def eAnd (fa fb : FT) : FT := fun ρ => (fa ρ).bind fun p => if p.1 = true then fb p.2 else some (false, p.2)
def eOr (fa fb : FT) : FT := fun ρ => (fa ρ).bind fun p => if p.1 = true then some (true, p.2) else fb p.2
def eNot (fa : FT) : FT := fun ρ => (fa ρ).map fun p => (!p.1, p.2)
variable {tA tB' : TT} {fA fB : FT} {rest : List Expr}
theorem st_and {K : PySem.W.Frag} (ha : ST K tA fA) (hb : ST K tB' fB) : ST K (tAnd tA tB') (eAnd fA fB) := by
  intro B F io σ H ρ b ρ' Q c e k
  obtain ⟨p, e1, e⟩ := Option.bind_eq_some_iff.mp e
  refine ha B F io σ H ρ p.1 p.2 _ c e1 fun F1 H1 g1 c1 => ?_
  by_cases hp : p.1 = true
  · rw [if_pos hp] at e ⊢
    exact hb B F1 io σ H1 p.2 b ρ' Q c1 e fun F2 H2 g2 c2 => k F2 H2 (g1.trans g2) c2
  · rw [if_neg hp] at e ⊢
    cases e
    exact k F1 H1 g1 c1
theorem st_or {K : PySem.W.Frag} (ha : ST K tA fA) (hb : ST K tB' fB) : ST K (tOr tA tB') (eOr fA fB) := by
  intro B F io σ H ρ b ρ' Q c e k
  obtain ⟨p, e1, e⟩ := Option.bind_eq_some_iff.mp e
  refine ha B F io σ H ρ p.1 p.2 _ c e1 fun F1 H1 g1 c1 => ?_
  by_cases hp : p.1 = true
  · rw [if_pos hp] at e ⊢
    cases e
    exact k F1 H1 g1 c1
  · rw [if_neg hp] at e ⊢
    exact hb B F1 io σ H1 p.2 b ρ' Q c1 e fun F2 H2 g2 c2 => k F2 H2 (g1.trans g2) c2
theorem st_not {K : PySem.W.Frag} (ha : ST K tA fA) : ST K (tNot tA) (eNot fA) := by
  intro B F io σ H ρ b ρ' Q c e k
  obtain ⟨p, e1, e⟩ := Option.map_eq_some_iff.mp e
  cases e
  exact ha B F io σ H ρ p.1 p.2 _ c e1 fun F1 H1 g1 c1 => k F1 H1 g1 c1
theorem dw_and1 (ha : DT X a tA fA) : DW X (.BoolOp .And [a] pos) tA fA := ⟨pw_and1 ha.pe, ha.se⟩
theorem dw_or1 (ha : DT X a tA fA) : DW X (.BoolOp .Or [a] pos) tA fA := ⟨pw_or1 ha.pe, ha.se⟩
theorem dw_and (ha : DT X a tA fA) (hb : DW X (.BoolOp .And (b :: rest) pos) tB' fB) : DW X (.BoolOp .And (a :: b :: rest) pos) (tAnd tA tB') (eAnd fA fB) := ⟨pw_and ha.pe hb.pe, st_and ha.se hb.se⟩
theorem dw_or (ha : DT X a tA fA) (hb : DW X (.BoolOp .Or (b :: rest) pos) tB' fB) : DW X (.BoolOp .Or (a :: b :: rest) pos) (tOr tA tB') (eOr fA fB) := ⟨pw_or ha.pe hb.pe, st_or ha.se hb.se⟩
theorem dt_not (ha : DT X a tA fA) : DT X (.UnaryOp .Not a pos) (tNot tA) (eNot fA) := ⟨pt_not ha.pe, st_not ha.se⟩
/-- and, or, not as values, by truth -/
def eAndV (fa fb : FE) : FE := fun ρ => (fa ρ).bind fun p => (truD p.1).bind fun k => if k = true then fb p.2 else some p
def eOrV (fa fb : FE) : FE := fun ρ => (fa ρ).bind fun p => (truD p.1).bind fun k => if k = true then some p else fb p.2
def eNotV (fa : FE) : FE := fun ρ => (fa ρ).bind fun p => (truD p.1).map fun k => (.bool (!k), p.2)
theorem de_one {op} (h : DE X a ta fa) : DE X (.BoolOp op [a] pos) ta fa := ⟨pe_one h.pe, h.se⟩
theorem se_andV {K : PySem.W.Frag} (ha : SE K ta fa) (hb : SE K tb fb) : SE K (tAndT K ta tb) (eAndV fa fb) := by
  intro B F io σ H ρ d ρ' Q c e k
  obtain ⟨p, e1, e⟩ := Option.bind_eq_some_iff.mp e
  obtain ⟨z, e2, e⟩ := Option.bind_eq_some_iff.mp e
  refine ha B F io σ H ρ p.1 p.2 _ c e1 fun F1 H1 x g1 c1 d1 => ⟨z, tru_dp c1.frz d1 e2, ?_⟩
  by_cases hp : z = true
  · rw [if_pos hp] at e ⊢
    exact hb B F1 io σ H1 p.2 d ρ' Q c1 e fun F2 H2 v g2 c2 d2 => k F2 H2 v (g1.trans g2) c2 d2
  · rw [if_neg hp] at e ⊢
    cases e
    exact k F1 H1 x g1 c1 d1
theorem se_orV {K : PySem.W.Frag} (ha : SE K ta fa) (hb : SE K tb fb) : SE K (tOrT K ta tb) (eOrV fa fb) := by
  intro B F io σ H ρ d ρ' Q c e k
  obtain ⟨p, e1, e⟩ := Option.bind_eq_some_iff.mp e
  obtain ⟨z, e2, e⟩ := Option.bind_eq_some_iff.mp e
  refine ha B F io σ H ρ p.1 p.2 _ c e1 fun F1 H1 x g1 c1 d1 => ⟨z, tru_dp c1.frz d1 e2, ?_⟩
  by_cases hp : z = true
  · rw [if_pos hp] at e ⊢
    cases e
    exact k F1 H1 x g1 c1 d1
  · rw [if_neg hp] at e ⊢
    exact hb B F1 io σ H1 p.2 d ρ' Q c1 e fun F2 H2 v g2 c2 d2 => k F2 H2 v (g1.trans g2) c2 d2
theorem se_notV {K : PySem.W.Frag} (ha : SE K ta fa) : SE K (tNotT K ta) (eNotV fa) := by
  intro B F io σ H ρ d ρ' Q c e k
  obtain ⟨p, e1, e⟩ := Option.bind_eq_some_iff.mp e
  obtain ⟨z, e2, e⟩ := Option.map_eq_some_iff.mp e
  cases e
  exact ha B F io σ H ρ p.1 p.2 _ c e1 fun F1 H1 x g1 c1 d1 => ⟨z, tru_dp c1.frz d1 e2, k F1 H1 _ g1 c1 (.bl _)⟩
theorem de_and (ha : DE X a ta fa) (hb : DE X (.BoolOp .And (b :: rest) pos) tb fb) : DE X (.BoolOp .And (a :: b :: rest) pos) (tAndT X.K ta tb) (eAndV fa fb) := ⟨pe_andT ha.pe hb.pe, se_andV ha.se hb.se⟩
theorem de_or (ha : DE X a ta fa) (hb : DE X (.BoolOp .Or (b :: rest) pos) tb fb) : DE X (.BoolOp .Or (a :: b :: rest) pos) (tOrT X.K ta tb) (eOrV fa fb) := ⟨pe_orT ha.pe hb.pe, se_orV ha.se hb.se⟩
theorem de_not (ha : DE X a ta fa) : DE X (.UnaryOp .Not a pos) (tNotT X.K ta) (eNotV fa) := ⟨pe_notT ha.pe, se_notV ha.se⟩
def eIf (fc : FT) (fa fb : FE) : FE := fun ρ => (fc ρ).bind fun p => if p.1 = true then fa p.2 else fb p.2
def eIfN (fc : FT) (fa fb : FN) : FN := fun ρ => (fc ρ).bind fun p => if p.1 = true then fa p.2 else fb p.2
theorem de_if (hc : DT X c tA fA) (ha : DE X a ta fa) (hb : DE X b tb fb) : DE X (.IfExp c a b pos) (tIf tA ta tb) (eIf fA fa fb) := by
  refine ⟨pe_ifExp hc.pe ha.pe hb.pe, ?_⟩
  intro B F io σ H ρ d ρ' Q c e k
  obtain ⟨p, e1, e⟩ := Option.bind_eq_some_iff.mp e
  refine hc.se B F io σ H ρ p.1 p.2 _ c e1 fun F1 H1 g1 c1 => ?_
  by_cases hp : p.1 = true
  · rw [if_pos hp] at e ⊢
    exact ha.se B F1 io σ H1 p.2 d ρ' Q c1 e fun F2 H2 v g2 c2 d2 => k F2 H2 v (g1.trans g2) c2 d2
  · rw [if_neg hp] at e ⊢
    exact hb.se B F1 io σ H1 p.2 d ρ' Q c1 e fun F2 H2 v g2 c2 d2 => k F2 H2 v (g1.trans g2) c2 d2
theorem dn_if {fa fb : FN} (hc : DT X c tA fA) (ha : DN X a ta fa) (hb : DN X b tb fb) : DN X (.IfExp c a b pos) (tIf tA ta tb) (eIfN fA fa fb) := by
  refine ⟨pe_ifExp hc.pe ha.pe hb.pe, ?_⟩
  intro B F io σ H ρ d ρ' Q c e k
  obtain ⟨p, e1, e⟩ := Option.bind_eq_some_iff.mp e
  refine hc.se B F io σ H ρ p.1 p.2 _ c e1 fun F1 H1 g1 c1 => ?_
  by_cases hp : p.1 = true
  · rw [if_pos hp] at e ⊢
    exact ha.se B F1 io σ H1 p.2 d ρ' Q c1 e fun F2 H2 v o g2 c2 h1 h2 h3 h4 h5 => k F2 H2 v o (g1.trans g2) c2 h1 h2 h3 h4 h5
  · rw [if_neg hp] at e ⊢
    exact hb.se B F1 io σ H1 p.2 d ρ' Q c1 e fun F2 H2 v o g2 c2 h1 h2 h3 h4 h5 => k F2 H2 v o (g1.trans g2) c2 h1 h2 h3 h4 h5
/-! ### argument lists, displays -/
def aNil : FA := fun ρ => some ([], ρ)
def aCons (f : FE) (g : FA) : FA := fun ρ => (f ρ).bind fun p => (g p.2).map fun q => (p.1 :: q.1, q.2)
theorem da_nil : DA X [] tNil aNil := ⟨pa_nil, fun B F io σ H ρ ds ρ' Q c e k => by
  cases e
  exact k F H [] (Gr.refl _ _) c .nil⟩
theorem da_cons {e : Expr} {es : List Expr} {t : TA} {g : FA} (ha : DE X e ta fa) (hr : DA X es t g) (hs : starEach (e :: es) X.env = (false, eval e X.env) :: starEach es X.env := by rfl) : DA X (e :: es) (tCons ta t) (aCons fa g) :=
  ⟨pa_cons ha.pe hr.pe hs, fun B F io σ H ρ ds ρ' Q c h k => by
    obtain ⟨p, e1, h⟩ := Option.bind_eq_some_iff.mp h
    obtain ⟨q, e2, h⟩ := Option.map_eq_some_iff.mp h
    cases h
    refine ha.se B F io σ H ρ p.1 p.2 _ c e1 fun F1 H1 x g1 c1 d1 => ?_
    exact hr.se B F1 io σ H1 p.2 q.1 q.2 _ c1 e2 fun F2 H2 xs g2 c2 d2 => k F2 H2 (x :: xs) (g1.trans g2) c2 (.cons (dp_mono g2.sub d1) d2)⟩
def eTup (g : FA) : FE := fun ρ => (g ρ).bind fun p => if p.1.length ≤ sizeLine then some (.tuple p.1, p.2) else none
def eLst (g : FA) : FN := fun ρ => (g ρ).bind fun p => if p.1.length ≤ sizeLine then some (.ol p.1, p.2) else none
theorem de_tup {es : List Expr} {t : TA} {g : FA} {x1} (h : DA X es t g) : DE X (.Tuple es x1 pos) (tTup t) (eTup g) := by
  refine ⟨pe_tup h.pe, ?_⟩
  intro B F io σ H ρ d ρ' Q c e k
  obtain ⟨p, e1, e⟩ := Option.bind_eq_some_iff.mp e
  by_cases hz : p.1.length ≤ sizeLine
  · rw [if_pos hz] at e
    cases e
    refine h.se B F io σ H ρ p.1 p.2 _ c e1 fun F1 H1 xs g1 c1 d1 => ⟨by rw [d1.length]; exact hz, fun a na => ?_⟩
    have al := Al.laid (o := .tup xs) c1.frz na
    exact k _ _ _ (g1.trans (al.gr c1.base)) (c1.al al) (.tup (.inl (.inl upd_same)) (dpAll_mono al.ff d1))
  · rw [if_neg hz] at e
    cases e
theorem dn_lst {es : List Expr} {t : TA} {g : FA} (h : DA X es t g) : DN X (.List es pos) (tLst t) (eLst g) := by
  refine ⟨pe_lst h.pe, ?_⟩
  intro B F io σ H ρ d ρ' Q c e k
  obtain ⟨p, e1, e⟩ := Option.bind_eq_some_iff.mp e
  by_cases hz : p.1.length ≤ sizeLine
  · rw [if_pos hz] at e
    cases e
    refine h.se B F io σ H ρ p.1 p.2 _ c e1 fun F1 H1 xs g1 c1 d1 => ⟨by rw [d1.length]; exact hz, fun a na => ?_⟩
    have al := Al.laidH (o := .lst xs) c1.frz na
    exact k _ _ a (.lst xs) (g1.trans (al.gr c1.base)) (c1.al al) upd_same d1 (c1.frz.free na) (c1.base.free na) (c1.fresh_notOwned na)
  · rw [if_neg hz] at e
    cases e
/-- a new list, frozen at once -/
def eFrz (f : FN) : FE := fun ρ => (f ρ).bind fun p => (frzC p.1).map fun d => (d, p.2)
theorem se_frz {K : PySem.W.Frag} {t : TE} {f : FN} (h : SN K t f) : SE K t (eFrz f) := by
  intro B F io σ H ρ d ρ' Q c e k
  obtain ⟨p, e1, e⟩ := Option.bind_eq_some_iff.mp e
  obtain ⟨z, e2, e⟩ := Option.map_eq_some_iff.mp e
  cases e
  refine h B F io σ H ρ p.1 p.2 _ c e1 fun F1 H1 a o g1 c1 ha ob fa ba no => ?_
  cases hp : p.1 with
  | ol ds =>
    rw [hp] at e2 ob
    cases e2
    cases o with
    | lst vs =>
      have s1 : Same F1 (upd F1 a (.lst vs)) := same_upd fa
      have gr : Gr B F1 (upd F1 a (.lst vs)) := ⟨s1, fun b x e => by
        by_cases q : b = a
        · subst q; exact .inr ba
        · rw [upd_ne q] at e; exact .inl e⟩
      refine k (upd F1 a (.lst vs)) H1 _ (g1.trans gr) ⟨c1.len, c1.base, fun b x e => ?_, fun i u hu => ?_, c1.sep, c1.io⟩ (.lst (.inl (.inl upd_same)) (dpAll_mono s1 ob))
      · by_cases q : b = a
        · subst q; rw [upd_same] at e; rw [ha]; exact e
        · rw [upd_ne q] at e; exact c1.frz b x e
      · obtain ⟨x, hx, ok⟩ := c1.cell i u hu
        refine ⟨x, hx, ?_⟩
        by_cases ho : isOwn u = true
        · rw [cellOk_own ho] at ok ⊢
          obtain ⟨q, w, z1, z2, z3, z4, z5⟩ := ok
          subst z1
          refine ⟨q, w, rfl, z2, ob_mono s1 z3, ?_, z5⟩
          rw [upd_ne (fun z => no i u hu ho (by rw [hx, z]))]
          exact z4
        · cases u with
          | dead => trivial
          | sh d => obtain ⟨v, z1, z2⟩ := ok; exact ⟨v, z1, dp_mono s1 z2⟩
          | fd tk kvs => obtain ⟨p, ob, u, z1, z2, z3⟩ := ok; exact ⟨p, ob, u, z1, s1 _ _ z2, dictOb_mono s1 z3⟩
          | _ => exact absurd rfl ho
    | _ => exact False.elim ob
  | _ => rw [hp] at e2; cases e2
theorem DN.de {f : FN} (h : DN X a ta f) : DE X a ta (eFrz f) := ⟨h.pe, se_frz h.se⟩
/-! ### calls of built-in things -/
def eCB (g : List D → Option D) (fa : FA) : FE := fun ρ => (fa ρ).bind fun p => (g p.1).map fun d => (d, p.2)
def eCBN (g : List D → Option Cell) (fa : FA) : FN := fun ρ => (fa ρ).bind fun p => (g p.1).map fun d => (d, p.2)
theorem se_cb {K : PySem.W.Frag} {r : List V → Hp → VK → Prop} {g : List D → Option D} {t : TA} {fa : FA} (hg : OpA K r g) (ha : SA K t fa) : SE K (tCB r t) (eCB g fa) := by
  intro B F io σ H ρ d ρ' Q c h k
  obtain ⟨p, e1, h⟩ := Option.bind_eq_some_iff.mp h
  obtain ⟨z, e3, h⟩ := Option.map_eq_some_iff.mp h
  cases h
  refine ha B F io σ H ρ p.1 p.2 _ c e1 fun F1 H1 xs g1 c1 d1 => ?_
  exact hg F1 H1 xs p.1 d Q c1.frz d1 e3 fun F3 H3 v al d3 => k F3 H3 v (g1.trans (al.gr c1.base)) (c1.al al) d3
theorem se_cbN {K : PySem.W.Frag} {r : List V → Hp → VK → Prop} {g : List D → Option Cell} {t : TA} {fa : FA} (hg : OpAN K r g) (ha : SA K t fa) : SN K (tCB r t) (eCBN g fa) := by
  intro B F io σ H ρ d ρ' Q c h k
  obtain ⟨p, e1, h⟩ := Option.bind_eq_some_iff.mp h
  obtain ⟨z, e3, h⟩ := Option.map_eq_some_iff.mp h
  cases h
  refine ha B F io σ H ρ p.1 p.2 _ c e1 fun F1 H1 xs g1 c1 d1 => ?_
  exact hg F1 H1 xs p.1 d Q c1.frz d1 e3 fun F3 H3 a o al ha ob fa na => k F3 H3 a o (g1.trans (al.gr c1.base)) (c1.al al) ha ob fa (c1.base.free na) (c1.fresh_notOwned na)
variable {e : Expr} {es : List Expr} {t : TA} {fl : FA} {x : Str} {p : Pos} {r : List V → Hp → VK → Prop} {id T : String}
theorem de_callB {g : List D → Option D} (hc : CallR X (.builtin id) r) (hg' : OpA X.K r g) (hm : X.mg x = none) (ha : DA X (e :: es) t fl) (hv : bootBuiltins x = some (.builtin id) := by decide +kernel) (hg : Gl X x := by rfl) (hn : x ≠ "__name__" := by decide) (hdb : (x == ("__debug__" : Str)) = false := by decide)
    (he : starEach (e :: es) X.env = (false, eval e X.env) :: starEach es X.env := by rfl) (hpl : (backTo pos (starEach es X.env)).any (·.1) = false := by rfl) : DE X (.Call (.Name x p) (e :: es) [] pos) (tCB r t) (eCB g fl) :=
  ⟨pe_callB hc hg hm hv ha.pe hn hdb he hpl, se_cb hg' ha.se⟩
theorem dn_callB {g : List D → Option Cell} (hc : CallR X (.builtin id) r) (hg' : OpAN X.K r g) (hm : X.mg x = none) (ha : DA X (e :: es) t fl) (hv : bootBuiltins x = some (.builtin id) := by decide +kernel) (hg : Gl X x := by rfl) (hn : x ≠ "__name__" := by decide) (hdb : (x == ("__debug__" : Str)) = false := by decide)
    (he : starEach (e :: es) X.env = (false, eval e X.env) :: starEach es X.env := by rfl) (hpl : (backTo pos (starEach es X.env)).any (·.1) = false := by rfl) : DN X (.Call (.Name x p) (e :: es) [] pos) (tCB r t) (eCBN g fl) :=
  ⟨pe_callB hc hg hm hv ha.pe hn hdb he hpl, se_cbN hg' ha.se⟩
theorem de_callTy {g : List D → Option D} (hc : CallR X (.type T) r) (hg' : OpA X.K r g) (hm : X.mg x = none) (ha : DA X (e :: es) t fl) (hv : bootBuiltins x = some (.type T) := by decide +kernel) (hg : Gl X x := by rfl) (hn : x ≠ "__name__" := by decide) (hdb : (x == ("__debug__" : Str)) = false := by decide)
    (he : starEach (e :: es) X.env = (false, eval e X.env) :: starEach es X.env := by rfl) (hpl : (backTo pos (starEach es X.env)).any (·.1) = false := by rfl) : DE X (.Call (.Name x p) (e :: es) [] pos) (tCB r t) (eCB g fl) :=
  ⟨pe_callTy hc hg hm hv ha.pe hn hdb he hpl, se_cb hg' ha.se⟩
theorem dn_callTy {g : List D → Option Cell} (hc : CallR X (.type T) r) (hg' : OpAN X.K r g) (hm : X.mg x = none) (ha : DA X (e :: es) t fl) (hv : bootBuiltins x = some (.type T) := by decide +kernel) (hg : Gl X x := by rfl) (hn : x ≠ "__name__" := by decide) (hdb : (x == ("__debug__" : Str)) = false := by decide)
    (he : starEach (e :: es) X.env = (false, eval e X.env) :: starEach es X.env := by rfl) (hpl : (backTo pos (starEach es X.env)).any (·.1) = false := by rfl) : DN X (.Call (.Name x p) (e :: es) [] pos) (tCB r t) (eCBN g fl) :=
  ⟨pe_callTy hc hg hm hv ha.pe hn hdb he hpl, se_cbN hg' ha.se⟩
end
end L2.Pd

namespace L2.Pd
open PySem PySem.Spec PyProof.Rows
/-! ## Operations on values, as plain functions of data -/
def okD (d : D) : Bool := SeqAt.shaped d
/-! ### + - * // % ** -/
def dAdd : D → D → Option D
  | .int a, .int b => some (.int (a + b))
  | .str a, .str b => if a.length + b.length ≤ sizeLine then some (.str (a ++ b)) else none
  | .tuple a, .tuple b => if a.length + b.length ≤ sizeLine then some (.tuple (a ++ b)) else none
  | _, _ => none
def dSub : D → D → Option D
  | .int a, .int b => some (.int (a - b))
  | _, _ => none
def mulOk (i j : Int) : Bool := decide (i.natAbs < 2 ^ 64) || decide (j.natAbs < 2 ^ 64) || decide (i.natAbs.log2 + j.natAbs.log2 < 134217720)
def dMul : D → D → Option D
  | .int a, .int b => if mulOk a b = true then some (.int (a * b)) else none
  | _, _ => none
def dFdiv : D → D → Option D
  | .int a, .int b => if b ≠ 0 ∧ Builtin.divisionGoesByPylong a b = false then some (.int (a.fdiv b)) else none
  | _, _ => none
def dMod : D → D → Option D
  | .int a, .int b => if b ≠ 0 then some (.int (a.fmod b)) else none
  | _, _ => none
def dPow : D → D → Option D
  | .int a, .int b => if 0 ≤ b ∧ (Builtin.Int.intBits a : Int) * b ≤ 134217728 then some (.int (a ^ b.toNat)) else none
  | _, _ => none
def dNeg : D → Option D
  | .int a => some (.int (-a))
  | _ => none
theorem mulOk_ok {i j : Int} (h : mulOk i j = true) : IntMulOk i j := by
  unfold mulOk at h
  simp only [Bool.or_eq_true, decide_eq_true_eq] at h
  rcases h with (h | h) | h
  · exact .of_left (intBits_le_64 (by omega) (by omega))
  · exact .of_right (intBits_le_64 (by omega) (by omega))
  · have b : ∀ x : Int, Builtin.Int.intBits x ≤ x.natAbs.log2 + 1 := fun x => by
      unfold Builtin.Int.intBits
      split <;> omega
    have h1 := b i
    have h2 := b j
    have e : bitsLine = 134217728 := by decide
    unfold IntMulOk
    intro z
    rw [Bool.and_eq_true] at z
    have z2 := z.2
    unfold Builtin.Int.intTooBig at z2
    have z3 := of_decide_eq_true z2
    rw [e] at z3
    omega
section
variable {X : Cx}
abbrev rAddD (K : PySem.W.Frag) : R2 := fun x y H Q => rI0 (fun i j => .int (i + j)) x y H Q ∨ ((∃ i j, x = .str i ∧ y = .str j ∧ i.length + j.length ≤ sizeLine ∧ Q (.str (i ++ j)) H) ∨ rCatA K x y H Q)
theorem op_addD : OpR X (binaryOp .Add) (rAddD X.K) := op_add.or (op_add_str.or op_catA)
theorem v_add {K : PySem.W.Frag} : Op2 K (rAddD K) dAdd := by
  intro F H x y dx dy d Q s hx hy e k
  cases hx with
  | int a =>
    cases hy with
    | int b => cases e; exact .inl ⟨a, b, rfl, rfl, k F H _ (Al.refl s) (.int _)⟩
    | _ => cases e
  | str a =>
    cases hy with
    | str b =>
      have e : (if a.length + b.length ≤ sizeLine then some (PyData.str (a ++ b)) else none) = some d := e
      by_cases hz : a.length + b.length ≤ sizeLine
      · rw [if_pos hz] at e; cases e
        exact .inr (.inl ⟨a, b, rfl, rfl, hz, k F H _ (Al.refl s) (.str _)⟩)
      · rw [if_neg hz] at e; cases e
    | _ => cases e
  | @tup a xs ds q1 r1 =>
    cases hy with
    | @tup b ys es q2 r2 =>
      have e : (if ds.length + es.length ≤ sizeLine then some (PyData.tuple (ds ++ es)) else none) = some d := e
      by_cases hz : ds.length + es.length ≤ sizeLine
      · rw [if_pos hz] at e; cases e
        refine .inr (.inr ⟨a, b, xs, ys, rfl, rfl, sqT_mono s q1, sqT_mono s q2, by rw [r1.length, r2.length]; exact hz, fun h0 => ?_, fun _ h0 => ?_, fun _ _ p np => ?_⟩)
        · subst h0; cases r1
          exact k F H _ (Al.refl s) (by rw [List.nil_append]; exact .tup q2 r2)
        · subst h0; cases r2
          exact k F H _ (Al.refl s) (by rw [List.append_nil]; exact .tup q1 r1)
        · have al := Al.laid (o := .tup (xs ++ ys)) s np
          exact k _ _ _ al (.tup (.inl (.inl upd_same)) ((dpAll_mono al.ff r1).append (dpAll_mono al.ff r2)))
      · rw [if_neg hz] at e; cases e
    | _ => cases e
  | _ => cases e
theorem v_sub {K : PySem.W.Frag} : Op2 K (rI0 fun i j => .int (i - j)) dSub := by
  intro F H x y dx dy d Q s hx hy e k
  cases hx with
  | int a =>
    cases hy with
    | int b => cases e; exact ⟨a, b, rfl, rfl, k F H _ (Al.refl s) (.int _)⟩
    | _ => cases e
  | _ => cases e
theorem op_mulD : OpR X (binaryOp .Mult) (rI IntMulOk fun i j => .int (i * j)) := opI fun _ _ _ _ _ _ _ hc q => mul_int q hc
theorem v_mul {K : PySem.W.Frag} : Op2 K (rI IntMulOk fun i j => .int (i * j)) dMul := by
  intro F H x y dx dy d Q s hx hy e k
  cases hx with
  | int a =>
    cases hy with
    | int b =>
      have e : (if mulOk a b = true then some (PyData.int (a * b)) else none) = some d := e
      by_cases hz : mulOk a b = true
      · rw [if_pos hz] at e; cases e
        exact ⟨a, b, rfl, rfl, mulOk_ok hz, k F H _ (Al.refl s) (.int _)⟩
      · rw [if_neg hz] at e; cases e
    | _ => cases e
  | _ => cases e
def CFd (i j : Int) : Prop := j ≠ 0 ∧ Builtin.divisionGoesByPylong i j = false
theorem op_fdivD : OpR X (binaryOp .FloorDiv) (rI CFd fun i j => .int (i.fdiv j)) := opI fun _ _ _ _ _ _ _ hc q => floordiv_int hc.1 q (.inl hc.2)
theorem v_fdiv {K : PySem.W.Frag} : Op2 K (rI CFd fun i j => .int (i.fdiv j)) dFdiv := by
  intro F H x y dx dy d Q s hx hy e k
  cases hx with
  | int a =>
    cases hy with
    | int b =>
      have e : (if b ≠ 0 ∧ Builtin.divisionGoesByPylong a b = false then some (PyData.int (a.fdiv b)) else none) = some d := e
      by_cases hz : b ≠ 0 ∧ Builtin.divisionGoesByPylong a b = false
      · rw [if_pos hz] at e; cases e
        exact ⟨a, b, rfl, rfl, hz, k F H _ (Al.refl s) (.int _)⟩
      · rw [if_neg hz] at e; cases e
    | _ => cases e
  | _ => cases e
theorem v_mod {K : PySem.W.Frag} : Op2 K (rI (fun _ j => j ≠ 0) fun i j => .int (i.fmod j)) dMod := by
  intro F H x y dx dy d Q s hx hy e k
  cases hx with
  | int a =>
    cases hy with
    | int b =>
      have e : (if b ≠ 0 then some (PyData.int (a.fmod b)) else none) = some d := e
      by_cases hz : b ≠ 0
      · rw [if_pos hz] at e; cases e
        exact ⟨a, b, rfl, rfl, hz, k F H _ (Al.refl s) (.int _)⟩
      · rw [if_neg hz] at e; cases e
    | _ => cases e
  | _ => cases e
def CPowD (i j : Int) : Prop := 0 ≤ j ∧ (Builtin.Int.intBits i : Int) * j ≤ 134217728
theorem op_powD : OpR X (binaryOp .Pow) (rI CPowD fun i j => .int (i ^ j.toNat)) := opI fun _ _ _ _ _ _ _ hc q => pow_int hc.1 (by have := hc.2; omega) q
theorem v_pow {K : PySem.W.Frag} : Op2 K (rI CPowD fun i j => .int (i ^ j.toNat)) dPow := by
  intro F H x y dx dy d Q s hx hy e k
  cases hx with
  | int a =>
    cases hy with
    | int b =>
      have e : (if 0 ≤ b ∧ (Builtin.Int.intBits a : Int) * b ≤ 134217728 then some (PyData.int (a ^ b.toNat)) else none) = some d := e
      by_cases hz : 0 ≤ b ∧ (Builtin.Int.intBits a : Int) * b ≤ 134217728
      · rw [if_pos hz] at e; cases e
        exact ⟨a, b, rfl, rfl, hz, k F H _ (Al.refl s) (.int _)⟩
      · rw [if_neg hz] at e; cases e
    | _ => cases e
  | _ => cases e
theorem v_neg {K : PySem.W.Frag} : Op1 K (rU fun i => .int (-i)) dNeg := by
  intro F H x dx d Q s hx e k
  cases hx with
  | int a => cases e; exact ⟨a, rfl, k F H _ (Al.refl s) (.int _)⟩
  | _ => cases e
/-! ### comparisons -/
/-- an operation whose answer is a truth value told by the data -/
def rDat (K : PySem.W.Frag) (g : D → D → Option Bool) : R2 := fun x y H Q => ∃ d e b, Dp K H x d ∧ Dp K H y e ∧ g d e = some b ∧ Q (.bl b) H
theorem v_dat {K : PySem.W.Frag} {g : D → D → Option Bool} : Op2 K (rDat K g) (fun x y => (g x y).map .bool) := by
  intro F H x y dx dy d Q s hx hy e k
  obtain ⟨b, e1, e2⟩ := Option.map_eq_some_iff.mp e
  cases e2
  exact ⟨dx, dy, b, dp_mono s hx, dp_mono s hy, e1, k F H _ (Al.refl s) (.bl _)⟩
def bEq (a b : D) : Option Bool := if (okD a && okD b) = true then some (PyData.eqv a b) else none
def bNe (a b : D) : Option Bool := if (okD a && okD b) = true then some (!PyData.eqv a b) else none
def noNone : D → Bool
  | .none => false
  | _ => true
def cmpOk (a b : D) : Bool := okD a && PySem.W.alike a b && noNone a
def bLt (a b : D) : Option Bool := match a, b with
  | .int i, .int j => some (decide (i < j))
  | a, b => if cmpOk a b = true then some (PySem.W.dataLt a b) else none
def bGt (a b : D) : Option Bool := match a, b with
  | .int i, .int j => some (decide (j < i))
  | a, b => if cmpOk a b = true then some (PySem.W.dataLt b a) else none
def bLe (a b : D) : Option Bool := match a, b with
  | .int i, .int j => some (decide (i ≤ j))
  | a, b => if cmpOk a b = true then some (!PySem.W.dataLt b a) else none
def bGe (a b : D) : Option Bool := match a, b with
  | .int i, .int j => some (decide (j ≤ i))
  | a, b => if cmpOk a b = true then some (!PySem.W.dataLt a b) else none
theorem op_eqB (hu : X.A.units + 100 < cLine) : OpR X (compareOp .Eq) (rDat X.K bEq) := by
  intro pins s σ H x y v u Q I rx ry h
  obtain ⟨d, e, b, hd, he, hb, q⟩ := h
  unfold bEq at hb
  by_cases hz : (okD d && okD e) = true
  · rw [if_pos hz] at hb; cases hb
    rw [Bool.and_eq_true] at hz
    exact op_eqD (by omega) pins s σ H x y v u Q I rx ry ⟨d, e, hd, he, hz.1, hz.2, q⟩
  · rw [if_neg hz] at hb; cases hb
theorem op_neB (hu : X.A.units + 100 < cLine) : OpR X (compareOp .NotEq) (rDat X.K bNe) := by
  intro pins s σ H x y v u Q I rx ry h
  obtain ⟨d, e, b, hd, he, hb, q⟩ := h
  unfold bNe at hb
  by_cases hz : (okD d && okD e) = true
  · rw [if_pos hz] at hb; cases hb
    rw [Bool.and_eq_true] at hz
    exact op_neD (by omega) pins s σ H x y v u Q I rx ry ⟨d, e, hd, he, hz.1, hz.2, q⟩
  · rw [if_neg hz] at hb; cases hb
theorem noNone_ne {d : D} (h : noNone d = true) : d ≠ .none := fun e => by subst e; cases h
theorem cmp_room {A : Around} {d e : D} (h : okD d = true) (hu : A.units + 100 < cLine) : A.units + min d.depth e.depth < cLine := by
  have h1 := SeqAt.depth_of_shaped h
  have h2 : min d.depth e.depth ≤ d.depth := Nat.min_le_left _ _
  omega
theorem cmpOk_iff {a b : D} (h : cmpOk a b = true) : okD a = true ∧ PySem.W.alike a b = true ∧ a ≠ .none := by
  unfold cmpOk at h
  rw [Bool.and_eq_true, Bool.and_eq_true] at h
  exact ⟨h.1.1, h.1.2, noNone_ne h.2⟩
theorem cmp_case {g : D → D → Option Bool} {f : D → D → Bool} {p : Int → Int → Bool} (hg : g = fun a b => match a, b with
    | .int i, .int j => some (p i j)
    | a, b => if cmpOk a b = true then some (f a b) else none) {d e : D} {b : Bool} (h : g d e = some b) : (∃ i j, d = .int i ∧ e = .int j ∧ b = p i j) ∨ (cmpOk d e = true ∧ b = f d e) := by
  subst hg
  by_cases hz : cmpOk d e = true
  · cases d <;> first
      | (right; refine ⟨hz, ?_⟩; simp only [hz, if_true] at h; exact (Option.some.inj h).symm)
      | (cases e <;> first
          | (left; exact ⟨_, _, rfl, rfl, (Option.some.inj h).symm⟩)
          | (right; refine ⟨hz, ?_⟩; simp only [hz, if_true] at h; exact (Option.some.inj h).symm))
  · cases d <;> first
      | (simp only [hz, if_false] at h; cases h; done)
      | (cases e <;> first
          | (left; exact ⟨_, _, rfl, rfl, (Option.some.inj h).symm⟩)
          | (simp only [hz] at h; cases h; done))
theorem op_ltB (hu : X.A.units + 100 < cLine) : OpR X (compareOp .Lt) (rDat X.K bLt) := by
  intro pins s σ H x y v u Q I rx ry h
  obtain ⟨d, e, b, hd, he, hb, q⟩ := h
  rcases cmp_case (g := bLt) (f := PySem.W.dataLt) (p := fun i j => decide (i < j)) rfl hb with ⟨i, j, rfl, rfl, rfl⟩ | ⟨hz, rfl⟩
  · cases hd; cases he
    exact op_lt pins s σ H _ _ v u Q I rx ry ⟨i, j, rfl, rfl, q⟩
  · obtain ⟨z1, z2, z3⟩ := cmpOk_iff hz
    obtain ⟨as, r1⟩ := Dp.reads I d x v hd rx
    obtain ⟨bs, r2⟩ := Dp.reads I e y u he ry
    exact PySem.W.lt_data r1 r2 z2 z3 (cmp_room z1 hu) ⟨.bl _, H, I, rfl, q⟩
theorem op_gtB (hu : X.A.units + 100 < cLine) : OpR X (compareOp .Gt) (rDat X.K bGt) := by
  intro pins s σ H x y v u Q I rx ry h
  obtain ⟨d, e, b, hd, he, hb, q⟩ := h
  rcases cmp_case (g := bGt) (f := fun a b => PySem.W.dataLt b a) (p := fun i j => decide (j < i)) rfl hb with ⟨i, j, rfl, rfl, rfl⟩ | ⟨hz, rfl⟩
  · cases hd; cases he
    exact op_gt pins s σ H _ _ v u Q I rx ry ⟨i, j, rfl, rfl, q⟩
  · obtain ⟨z1, z2, z3⟩ := cmpOk_iff hz
    obtain ⟨as, r1⟩ := Dp.reads I d x v hd rx
    obtain ⟨bs, r2⟩ := Dp.reads I e y u he ry
    exact PySem.W.gt_data r1 r2 z2 z3 (cmp_room z1 hu) ⟨.bl _, H, I, rfl, q⟩
theorem op_leB (hu : X.A.units + 100 < cLine) : OpR X (compareOp .LtE) (rDat X.K bLe) := by
  intro pins s σ H x y v u Q I rx ry h
  obtain ⟨d, e, b, hd, he, hb, q⟩ := h
  rcases cmp_case (g := bLe) (f := fun a b => !PySem.W.dataLt b a) (p := fun i j => decide (i ≤ j)) rfl hb with ⟨i, j, rfl, rfl, rfl⟩ | ⟨hz, rfl⟩
  · cases hd; cases he
    exact op_le pins s σ H _ _ v u Q I rx ry ⟨i, j, rfl, rfl, q⟩
  · obtain ⟨z1, z2, z3⟩ := cmpOk_iff hz
    obtain ⟨as, r1⟩ := Dp.reads I d x v hd rx
    obtain ⟨bs, r2⟩ := Dp.reads I e y u he ry
    exact PySem.W.le_data r1 r2 z2 z3 (cmp_room z1 hu) ⟨.bl _, H, I, rfl, q⟩
theorem op_geB (hu : X.A.units + 100 < cLine) : OpR X (compareOp .GtE) (rDat X.K bGe) := by
  intro pins s σ H x y v u Q I rx ry h
  obtain ⟨d, e, b, hd, he, hb, q⟩ := h
  rcases cmp_case (g := bGe) (f := fun a b => !PySem.W.dataLt a b) (p := fun i j => decide (j ≤ i)) rfl hb with ⟨i, j, rfl, rfl, rfl⟩ | ⟨hz, rfl⟩
  · cases hd; cases he
    exact op_ge pins s σ H _ _ v u Q I rx ry ⟨i, j, rfl, rfl, q⟩
  · obtain ⟨z1, z2, z3⟩ := cmpOk_iff hz
    obtain ⟨as, r1⟩ := Dp.reads I d x v hd rx
    obtain ⟨bs, r2⟩ := Dp.reads I e y u he ry
    exact PySem.W.ge_data r1 r2 z2 z3 (cmp_room z1 hu) ⟨.bl _, H, I, rfl, q⟩
/-! ### in, not in -/
def bIn (x y : D) : Option Bool := match y with
  | .list ds => if (okD x && okD (.list ds)) = true then some (ds.any fun z => PyData.eqv z x) else none
  | .tuple ds => if (okD x && okD (.tuple ds)) = true then some (ds.any fun z => PyData.eqv z x) else none
  | .str z => match x with
    | .str w => if w.length = 1 then some (decide (w.cps.getD 0 0 ∈ z.cps.toList)) else some (!(Builtin.Str.occurrences z w 0 z.length 1).isEmpty)
    | _ => none
  | _ => none
def bNotIn (x y : D) : Option Bool := (bIn x y).map not
theorem str_one {w : Str} (h : w.length = 1) : w = ⟨#[w.cps.getD 0 0]⟩ := by
  obtain ⟨⟨l⟩⟩ := w
  have h : l.length = 1 := h
  match l, h with
  | [a], _ => rfl
theorem op_inB (hu : X.A.units + 100 < cLine) : OpR X (compareOp .In) (rDat X.K bIn) := by
  intro pins s σ H x y v u Q I rx ry h
  obtain ⟨d, e, b, hd, he, hb, q⟩ := h
  cases he with
  | @lst a vs ds q1 r1 =>
    have hb : (if (okD d && okD (.list ds)) = true then some (ds.any fun z => PyData.eqv z d) else none) = some b := hb
    by_cases hz : (okD d && okD (.list ds)) = true
    · rw [if_pos hz] at hb; cases hb
      rw [Bool.and_eq_true] at hz
      exact op_inD (by omega) pins s σ H x _ v u Q I rx ry ⟨d, ds, hd, .lst q1 r1, hz.1, hz.2, q⟩
    · rw [if_neg hz] at hb; cases hb
  | @tup a vs ds q1 r1 =>
    have hb : (if (okD d && okD (.tuple ds)) = true then some (ds.any fun z => PyData.eqv z d) else none) = some b := hb
    by_cases hz : (okD d && okD (.tuple ds)) = true
    · rw [if_pos hz] at hb; cases hb
      rw [Bool.and_eq_true] at hz
      obtain ⟨as, z1⟩ := Dp.reads I d x v hd rx
      obtain ⟨bs, z2⟩ := Dp.reads I (.tuple ds) _ u (.tup q1 r1) ry
      exact SeqAt.in_tuple_reads z2 z1 (SeqAt.canLay_of_shaped hz.2) (SeqAt.canLay_of_shaped hz.1) (room_in_shaped hz.1 (by omega)) ⟨.bl _, H, I, rfl, q⟩
    · rw [if_neg hz] at hb; cases hb
  | str z =>
    cases hd with
    | str w =>
      have hb : (if w.length = 1 then some (decide (w.cps.getD 0 0 ∈ z.cps.toList)) else some (!(Builtin.Str.occurrences z w 0 z.length 1).isEmpty)) = some b := hb
      by_cases hz : w.length = 1
      · rw [if_pos hz] at hb; cases hb
        rw [str_one hz] at rx
        exact op_in_sign pins s σ H _ _ v u Q I rx ry ⟨_, z, rfl, rfl, q⟩
      · rw [if_neg hz] at hb; cases hb
        exact op_in_str pins s σ H _ _ v u Q I rx ry ⟨_, z, rfl, rfl, q⟩
    | _ => cases hb
  | _ => cases hb
theorem op_notInB (hu : X.A.units + 100 < cLine) : OpR X (compareOp .NotIn) (rDat X.K bNotIn) := by
  intro pins s σ H x y v u Q I rx ry h
  obtain ⟨d, e, b0, hd, he, hb0, q⟩ := h
  obtain ⟨b, hb, eb⟩ := Option.map_eq_some_iff.mp hb0
  subst eb
  cases he with
  | @lst a vs ds q1 r1 =>
    have hb : (if (okD d && okD (.list ds)) = true then some (ds.any fun z => PyData.eqv z d) else none) = some b := hb
    by_cases hz : (okD d && okD (.list ds)) = true
    · rw [if_pos hz] at hb; cases hb
      rw [Bool.and_eq_true] at hz
      exact op_notInD (by omega) pins s σ H x _ v u Q I rx ry ⟨d, ds, hd, .lst q1 r1, hz.1, hz.2, q⟩
    · rw [if_neg hz] at hb; cases hb
  | @tup a vs ds q1 r1 =>
    have hb : (if (okD d && okD (.tuple ds)) = true then some (ds.any fun z => PyData.eqv z d) else none) = some b := hb
    by_cases hz : (okD d && okD (.tuple ds)) = true
    · rw [if_pos hz] at hb; cases hb
      rw [Bool.and_eq_true] at hz
      obtain ⟨as, z1⟩ := Dp.reads I d x v hd rx
      obtain ⟨bs, z2⟩ := Dp.reads I (.tuple ds) _ u (.tup q1 r1) ry
      exact SeqAt.notIn_tuple_reads z2 z1 (SeqAt.canLay_of_shaped hz.2) (SeqAt.canLay_of_shaped hz.1) (room_in_shaped hz.1 (by omega)) ⟨.bl _, H, I, rfl, q⟩
    · rw [if_neg hz] at hb; cases hb
  | str z =>
    cases hd with
    | str w =>
      have hb : (if w.length = 1 then some (decide (w.cps.getD 0 0 ∈ z.cps.toList)) else some (!(Builtin.Str.occurrences z w 0 z.length 1).isEmpty)) = some b := hb
      by_cases hz : w.length = 1
      · rw [if_pos hz] at hb; cases hb
        rw [str_one hz] at rx
        exact op_notIn_sign pins s σ H _ _ v u Q I rx ry ⟨_, z, rfl, rfl, q⟩
      · rw [if_neg hz] at hb; cases hb
        exact op_notin_str pins s σ H _ _ v u Q I rx ry ⟨_, z, rfl, rfl, q⟩
    | _ => cases hb
  | _ => cases hb
/-! ### is None, is not None -/
def isNone : D → Bool
  | .none => true
  | _ => false
def bIsN (x y : D) : Option Bool := if isNone y = true then some (isNone x) else none
def bNotN (x y : D) : Option Bool := if isNone y = true then some (!isNone x) else none
theorem isNone_dp {K : PySem.W.Frag} {H : Hp} {v : V} {d : D} (h : Dp K H v d) : decide (v = .non) = isNone d := by
  cases h <;> first | rfl | exact decide_eq_false (fun z => nomatch z)
theorem op_isNB : OpR X (compareOp .Is) (rDat X.K bIsN) := by
  intro pins s σ H x y v u Q I rx ry h
  obtain ⟨d, e, b, hd, he, hb, q⟩ := h
  unfold bIsN at hb
  by_cases hz : isNone e = true
  · rw [if_pos hz] at hb; cases hb
    cases he <;> first | cases hz | skip
    exact op_isN pins s σ H x _ v u Q I rx ry ⟨rfl, by rw [isNone_dp hd]; exact q⟩
  · rw [if_neg hz] at hb; cases hb
theorem op_notNB : OpR X (compareOp .IsNot) (rDat X.K bNotN) := by
  intro pins s σ H x y v u Q I rx ry h
  obtain ⟨d, e, b, hd, he, hb, q⟩ := h
  unfold bNotN at hb
  by_cases hz : isNone e = true
  · rw [if_pos hz] at hb; cases hb
    cases he <;> first | cases hz | skip
    exact op_notN pins s σ H x _ v u Q I rx ry ⟨rfl, by rw [isNone_dp hd]; exact q⟩
  · rw [if_neg hz] at hb; cases hb
/-! ### items, slices -/
def dIx : D → D → Option D
  | .list ds, .int i => atI ds i
  | .tuple ds, .int i => atI ds i
  | .str z, .int i => if z.length ≤ sizeLine then (atI z.cps.toList i).map fun c => .str ⟨#[c]⟩ else none
  | _, _ => none
theorem atI_dp {K : PySem.W.Frag} {F : Hp} {vs : List V} {ds : List D} {i : Int} {d : D} (h : DpAll K F vs ds) (e : atI ds i = some d) : ∃ v, atI vs i = some v ∧ Dp K F v d := by
  unfold atI at e ⊢
  rw [h.length]
  cases q : ixN ds.length i with
  | none => rw [q] at e; cases e
  | some j => rw [q] at e; exact h.get' e
theorem v_ix {K : PySem.W.Frag} : Op2 K (rIx K) dIx := by
  intro F H x y dx dy d Q s hx hy e k
  cases hx with
  | @lst a vs ds q1 r1 =>
    cases hy with
    | int i =>
      obtain ⟨v, e1, e2⟩ := atI_dp r1 e
      exact .inl ⟨a, vs, i, v, rfl, rfl, s.seq q1, e1, k F H v (Al.refl s) e2⟩
    | _ => cases e
  | @tup a vs ds q1 r1 =>
    cases hy with
    | int i =>
      obtain ⟨v, e1, e2⟩ := atI_dp r1 e
      exact .inr (.inl ⟨a, vs, i, v, rfl, rfl, sqT_mono s q1, e1, k F H v (Al.refl s) e2⟩)
    | _ => cases e
  | str z =>
    cases hy with
    | int i =>
      have e : (if z.length ≤ sizeLine then (atI z.cps.toList i).map fun c => PyData.str ⟨#[c]⟩ else none) = some d := e
      by_cases hz : z.length ≤ sizeLine
      · rw [if_pos hz] at e
        obtain ⟨c, e1, e2⟩ := Option.map_eq_some_iff.mp e
        cases e2
        exact .inr (.inr ⟨z, i, c, rfl, rfl, hz, e1, k F H _ (Al.refl s) (.str _)⟩)
      · rw [if_neg hz] at e; cases e
    | _ => cases e
  | _ => cases e
variable {a b : Expr} {ta tb : TE} {fa fb : FE} {pos : Pos}
theorem de_ix (ha : DE X a ta fa) (hb : DE X b tb fb) (hs : PlainIx b := by exact fun _ _ => rfl) : DE X (.Subscript a b pos) (tOp (rIx X.K) ta tb) (eBin dIx fa fb) :=
  ⟨pe_ix ix_seq ha.pe hb.pe hs, se_bin v_ix ha.se hb.se⟩
/-- a slice's bound -/
abbrev FO := En → Option (Option Int × En)
def SO (K : PySem.W.Frag) (t : TO) (f : FO) : Prop := ∀ (B F : Hp) (io : List (Nat × Addr)) (σ : St) (H : Hp) (ρ : En) (o : Option Int) (ρ' : En) (Q : Option Int → Hp → Prop), Con K B F io σ H ρ → f ρ = some (o, ρ') →
  (∀ F' H', Gr B F F' → Con K B F' io σ H' ρ' → Q o H') → t σ H Q
structure DO (X : Cx) (e : Option Expr) (t : TO) (f : FO) : Prop where
  pe : PO X e t
  se : SO X.K t f
def oNone : FO := fun ρ => some (none, ρ)
def intD : D → Option Int
  | .int i => some i
  | _ => none
def oSome (f : FE) : FO := fun ρ => (f ρ).bind fun p => (intD p.1).map fun i => (some i, p.2)
theorem do_none : DO X none tNoPart oNone := ⟨po_none, fun B F io σ H ρ o ρ' Q c e k => by cases e; exact k F H (Gr.refl _ _) c⟩
theorem do_some (ha : DE X a ta fa) : DO X (some a) (tPart ta) (oSome fa) := ⟨po_some ha.pe, fun B F io σ H ρ o ρ' Q c e k => by
  obtain ⟨p, e1, e⟩ := Option.bind_eq_some_iff.mp e
  obtain ⟨z, e3, e⟩ := Option.map_eq_some_iff.mp e
  cases e
  refine ha.se B F io σ H ρ p.1 p.2 _ c e1 fun F1 H1 x g1 c1 d1 => ?_
  cases hp : p.1 <;> rw [hp] at e3 d1 <;> cases e3
  cases d1
  exact ⟨_, rfl, k F1 H1 g1 c1⟩⟩
def cutD (ds : List D) (lo hi : Option Int) : List D := (ds.drop (HT.sIx ds.length 0 lo)).take (HT.sIx ds.length ds.length hi - HT.sIx ds.length 0 lo)
theorem cut_dp {K : PySem.W.Frag} {F : Hp} {vs : List V} {ds : List D} (h : DpAll K F vs ds) (lo hi : Option Int) : DpAll K F (cutV vs lo hi) (cutD ds lo hi) := by
  unfold cutV cutD
  rw [h.length]
  exact (h.drop _).take _
def dSl (x : D) (lo hi : Option Int) : Option D := match x with
  | .tuple ds => some (.tuple (cutD ds lo hi))
  | .list ds => some (.list (cutD ds lo hi))
  | .str z => if z.length ≤ sizeLine then some (.str (cutS z lo hi)) else none
  | _ => none
def eSl (fa : FE) (fl fh : FO) : FE := fun ρ => (fa ρ).bind fun p => (fl p.2).bind fun l => (fh l.2).bind fun h => (dSl p.1 l.1 h.1).map fun d => (d, h.2)
def eSlN (fa : FE) (fl fh : FO) : FN := fun ρ => (fa ρ).bind fun p => (fl p.2).bind fun l => (fh l.2).bind fun h => match p.1 with
  | .list ds => some (.ol (cutD ds l.1 h.1), h.2)
  | _ => none
abbrev rSlD (K : PySem.W.Frag) : V → Option Int → Option Int → Hp → VK → Prop := fun x lo hi H Q => rSlL K x lo hi H Q ∨ (rSlA K x lo hi H Q ∨ rSlS x lo hi H Q)
theorem sl_D : SlR X (rSlD X.K) := sl_list.or (sl_tupA.or sl_str)
variable {lo hi : Option Expr} {tl th : TO} {fl fh : FO} {p2 : Pos}
theorem cut_whole {α : Type} (xs : List α) (lo hi : Option Int) (h : HT.sIx xs.length 0 lo = 0 ∧ HT.sIx xs.length xs.length hi = xs.length) : (xs.drop (HT.sIx xs.length 0 lo)).take (HT.sIx xs.length xs.length hi - HT.sIx xs.length 0 lo) = xs := by
  rw [h.1, h.2, List.drop_zero, Nat.sub_zero, List.take_length]
theorem de_slice (he : DE X a ta fa) (hl : DO X lo tl fl) (hu : DO X hi th fh) : DE X (.Subscript a (.Slice lo hi none p2) pos) (tSl (rSlD X.K) ta tl th) (eSl fa fl fh) := by
  refine ⟨pe_slice sl_D he.pe hl.pe hu.pe, ?_⟩
  intro B F io σ H ρ d ρ' Q c e k
  obtain ⟨p, e1, e⟩ := Option.bind_eq_some_iff.mp e
  obtain ⟨l, e2, e⟩ := Option.bind_eq_some_iff.mp e
  obtain ⟨h, e3, e⟩ := Option.bind_eq_some_iff.mp e
  obtain ⟨z, e4, e⟩ := Option.map_eq_some_iff.mp e
  cases e
  refine he.se B F io σ H ρ p.1 p.2 _ c e1 fun F1 H1 x g1 c1 d1 => ?_
  refine hl.se B F1 io σ H1 p.2 l.1 l.2 _ c1 e2 fun F2 H2 g2 c2 => ?_
  refine hu.se B F2 io σ H2 l.2 h.1 h.2 _ c2 e3 fun F3 H3 g3 c3 => ?_
  have d3 := dp_mono (g2.sub.trans g3.sub) d1
  have g := (g1.trans g2).trans g3
  cases hp : p.1 with
  | list ds =>
    rw [hp] at e4 d3
    cases e4
    cases d3 with
    | @lst a vs _ q1 r1 =>
      refine .inl ⟨a, vs, rfl, c3.frz.seq q1, fun n nn => ?_⟩
      have al := Al.laid (o := .lst (cutV vs l.1 h.1)) c3.frz nn
      exact k _ _ _ (g.trans (al.gr c3.base)) (c3.al al) (.lst (.inl (.inl upd_same)) (cut_dp (dpAll_mono al.ff r1) _ _))
  | tuple ds =>
    rw [hp] at e4 d3
    cases e4
    cases d3 with
    | @tup a vs _ q1 r1 =>
      refine .inr (.inl ⟨a, vs, rfl, sqT_mono c3.frz q1, fun hw => ?_, fun _ n nn => ?_⟩)
      · refine k _ _ _ g c3 ?_
        have e5 : cutD ds l.1 h.1 = ds := cut_whole ds _ _ (by rw [← r1.length]; exact hw)
        rw [e5]
        exact .tup q1 r1
      · have al := Al.laid (o := .tup (cutV vs l.1 h.1)) c3.frz nn
        exact k _ _ _ (g.trans (al.gr c3.base)) (c3.al al) (.tup (.inl (.inl upd_same)) (cut_dp (dpAll_mono al.ff r1) _ _))
  | str z =>
    rw [hp] at e4 d3
    have e4 : (if z.length ≤ sizeLine then some (PyData.str (cutS z l.1 h.1)) else none) = some d := e4
    by_cases hz : z.length ≤ sizeLine
    · rw [if_pos hz] at e4; cases e4
      cases d3
      exact .inr (.inr ⟨z, rfl, hz, k _ _ _ g c3 (.str _)⟩)
    · rw [if_neg hz] at e4; cases e4
  | _ => rw [hp] at e4; cases e4
theorem dn_slice (he : DE X a ta fa) (hl : DO X lo tl fl) (hu : DO X hi th fh) : DN X (.Subscript a (.Slice lo hi none p2) pos) (tSl (rSlL X.K) ta tl th) (eSlN fa fl fh) := by
  refine ⟨pe_slice sl_list he.pe hl.pe hu.pe, ?_⟩
  intro B F io σ H ρ d ρ' Q c e k
  obtain ⟨p, e1, e⟩ := Option.bind_eq_some_iff.mp e
  obtain ⟨l, e2, e⟩ := Option.bind_eq_some_iff.mp e
  obtain ⟨h, e3, e4⟩ := Option.bind_eq_some_iff.mp e
  refine he.se B F io σ H ρ p.1 p.2 _ c e1 fun F1 H1 x g1 c1 d1 => ?_
  refine hl.se B F1 io σ H1 p.2 l.1 l.2 _ c1 e2 fun F2 H2 g2 c2 => ?_
  refine hu.se B F2 io σ H2 l.2 h.1 h.2 _ c2 e3 fun F3 H3 g3 c3 => ?_
  have d3 := dp_mono (g2.sub.trans g3.sub) d1
  have g := (g1.trans g2).trans g3
  cases hp : p.1 with
  | list ds =>
    rw [hp] at e4 d3
    cases e4
    cases d3 with
    | @lst a vs _ q1 r1 =>
      refine ⟨a, vs, rfl, c3.frz.seq q1, fun n nn => ?_⟩
      have al := Al.laidH (o := .lst (cutV vs l.1 h.1)) c3.frz nn
      exact k _ _ n _ (g.trans (al.gr c3.base)) (c3.al al) upd_same (cut_dp r1 _ _) (c3.frz.free nn) (c3.base.free nn) (c3.fresh_notOwned nn)
  | _ => rw [hp] at e4; cases e4
end
end L2.Pd

namespace L2.Pd
open PySem PySem.Spec PyProof.Rows
/-! ## Calls of built-in functions, as plain functions of data -/
/-- a call whose answer is told by the data, flat -/
def rDatA (K : PySem.W.Frag) (g : List D → Option D) : List V → Hp → VK → Prop := fun xs H Q => ∃ ds d, DpAll K H xs ds ∧ g ds = some d ∧ ∀ v, Dp K H v d → Q v H
def rDatN (K : PySem.W.Frag) (g : List D → Option (List D)) : List V → Hp → VK → Prop := fun xs H Q => ∃ ds es, DpAll K H xs ds ∧ g ds = some es ∧ ∀ p ws, H p = none → DpAll K H ws es → Q (.ref p) (upd H p (.lst ws))
/-- the answer's items are told by the items -/
theorem lift_dp {K : PySem.W.Frag} {F H : Hp} (s : Same F H) {vs : List V} {ds : List D} (h : DpAll K F vs ds) : DpAll K H vs ds := dpAll_mono s h
section
variable {X : Cx}
theorem one_of {K : PySem.W.Frag} {H : Hp} {xs : List V} {d : D} (h : DpAll K H xs [d]) : ∃ x, xs = [x] ∧ Dp K H x d := by
  cases h with
  | cons q r => cases r; exact ⟨_, rfl, q⟩
theorem two_of {K : PySem.W.Frag} {H : Hp} {xs : List V} {d e : D} (h : DpAll K H xs [d, e]) : ∃ x y, xs = [x, y] ∧ Dp K H x d ∧ Dp K H y e := by
  cases h with
  | cons q r =>
    cases r with
    | cons q' r' => cases r'; exact ⟨_, _, rfl, q, q'⟩
/-! ### len, int, abs, min, max of two, str -/
def cLen : List D → Option D
  | [.list ds] => some (.int ds.length)
  | [.tuple ds] => some (.int ds.length)
  | [.str z] => if z.length ≤ sizeLine then some (.int z.length) else none
  | _ => none
abbrev rLen (K : PySem.W.Frag) : List V → Hp → VK → Prop := fun xs H Q => ∃ x n, xs = [x] ∧ LenV K x H n ∧ Q (.int n) H
theorem a_len {K : PySem.W.Frag} : OpA K (rLen K) cLen := by
  intro F H xs ds d Q s hx e k
  match ds, hx, e with
  | [.list ds], hx, e =>
    obtain ⟨x, rfl, q⟩ := one_of hx
    cases q with
    | lst q1 r1 => cases e; exact ⟨_, _, rfl, .inl ⟨_, s.seq q1, rfl⟩, k F H _ (Al.refl s) (by rw [r1.length]; exact .int _)⟩
  | [.tuple ds], hx, e =>
    obtain ⟨x, rfl, q⟩ := one_of hx
    cases q with
    | tup q1 r1 => cases e; exact ⟨_, _, rfl, .inr ⟨_, sqT_mono s q1, rfl⟩, k F H _ (Al.refl s) (by rw [r1.length]; exact .int _)⟩
  | [.str z], hx, e =>
    obtain ⟨x, rfl, q⟩ := one_of hx
    cases q
    have e : (if z.length ≤ sizeLine then some (PyData.int z.length) else none) = some d := e
    by_cases hz : z.length ≤ sizeLine
    · rw [if_pos hz] at e; cases e
      exact ⟨_, _, rfl, ⟨hz, rfl⟩, k F H _ (Al.refl s) (.int _)⟩
    · rw [if_neg hz] at e; cases e
def cInt : List D → Option D
  | [.int i] => some (.int i)
  | [.bool b] => some (.int (if b then 1 else 0))
  | [.str a] => if a.length ≤ 640 then (PySem.intText? a).map .int else none
  | _ => none
abbrev rIntC : List V → Hp → VK → Prop := fun xs H Q => ((∃ i, xs = [.int i] ∧ Q (.int i) H) ∨ ∃ k, xs = [.bl k] ∧ Q (.int (if k then 1 else 0)) H) ∨ (∃ a n, xs = [.str a] ∧ PySem.intText? a = some n ∧ a.length ≤ 640 ∧ Q (.int n) H)
theorem call_intD : CallR X (.type "int") rIntC := call_int1.or call_int_str
theorem a_int {K : PySem.W.Frag} : OpA K rIntC cInt := by
  intro F H xs ds d Q s hx e k
  match ds, hx, e with
  | [.int i], hx, e =>
    obtain ⟨x, rfl, q⟩ := one_of hx
    cases q; cases e
    exact .inl (.inl ⟨i, rfl, k F H _ (Al.refl s) (.int _)⟩)
  | [.bool b], hx, e =>
    obtain ⟨x, rfl, q⟩ := one_of hx
    cases q; cases e
    exact .inl (.inr ⟨b, rfl, k F H _ (Al.refl s) (.int _)⟩)
  | [.str a], hx, e =>
    obtain ⟨x, rfl, q⟩ := one_of hx
    cases q
    have e : (if a.length ≤ 640 then (PySem.intText? a).map PyData.int else none) = some d := e
    by_cases hz : a.length ≤ 640
    · rw [if_pos hz] at e
      obtain ⟨n, e1, e2⟩ := Option.map_eq_some_iff.mp e
      cases e2
      exact .inr ⟨a, n, rfl, e1, hz, k F H _ (Al.refl s) (.int _)⟩
    · rw [if_neg hz] at e; cases e
def cAbs : List D → Option D
  | [.int i] => some (.int (if i < 0 then -i else i))
  | _ => none
theorem a_abs {K : PySem.W.Frag} : OpA K (fun xs H Q => ∃ i, xs = [.int i] ∧ Q (.int (if i < 0 then -i else i)) H) cAbs := by
  intro F H xs ds d Q s hx e k
  match ds, hx, e with
  | [.int i], hx, e =>
    obtain ⟨x, rfl, q⟩ := one_of hx
    cases q; cases e
    exact ⟨i, rfl, k F H _ (Al.refl s) (.int _)⟩
def cMax2 : List D → Option D
  | [.int i, .int j] => some (.int (if j > i then j else i))
  | _ => none
def cMin2 : List D → Option D
  | [.int i, .int j] => some (.int (if j < i then j else i))
  | _ => none
theorem a_max2 {K : PySem.W.Frag} : OpA K (fun xs H Q => ∃ i j, xs = [.int i, .int j] ∧ Q (.int (if j > i then j else i)) H) cMax2 := by
  intro F H xs ds d Q s hx e k
  match ds, hx, e with
  | [.int i, .int j], hx, e =>
    obtain ⟨x, y, rfl, q, q'⟩ := two_of hx
    cases q; cases q'; cases e
    exact ⟨i, j, rfl, k F H _ (Al.refl s) (.int _)⟩
theorem a_min2 {K : PySem.W.Frag} : OpA K (fun xs H Q => ∃ i j, xs = [.int i, .int j] ∧ Q (.int (if j < i then j else i)) H) cMin2 := by
  intro F H xs ds d Q s hx e k
  match ds, hx, e with
  | [.int i, .int j], hx, e =>
    obtain ⟨x, y, rfl, q, q'⟩ := two_of hx
    cases q; cases q'; cases e
    exact ⟨i, j, rfl, k F H _ (Al.refl s) (.int _)⟩
def cStr : List D → Option D
  | [.int i] => if i.natAbs.log2 < 1920 then some (.str (toString i)) else none
  | _ => none
theorem a_str {K : PySem.W.Frag} : OpA K (fun xs H Q => ∃ i, xs = [.int i] ∧ i.natAbs.log2 < 1920 ∧ Q (.str (toString i)) H) cStr := by
  intro F H xs ds d Q s hx e k
  match ds, hx, e with
  | [.int i], hx, e =>
    obtain ⟨x, rfl, q⟩ := one_of hx
    cases q
    have e : (if i.natAbs.log2 < 1920 then some (PyData.str (toString i)) else none) = some d := e
    by_cases hz : i.natAbs.log2 < 1920
    · rw [if_pos hz] at e; cases e
      exact ⟨i, rfl, hz, k F H _ (Al.refl s) (.str _)⟩
    · rw [if_neg hz] at e; cases e
/-! ### sum, any, all -/
def intsD : List D → Option (List Int)
  | [] => some []
  | .int i :: r => (intsD r).map (i :: ·)
  | _ :: _ => none
def bolsD : List D → Option (List Bool)
  | [] => some []
  | .bool i :: r => (bolsD r).map (i :: ·)
  | _ :: _ => none
theorem intsD_map : ∀ ns : List Int, intsD (ns.map .int) = some ns
  | [] => rfl
  | n :: ns => by show (intsD (ns.map .int)).map _ = _; rw [intsD_map ns]; rfl
theorem bolsD_map : ∀ ns : List Bool, bolsD (ns.map .bool) = some ns
  | [] => rfl
  | n :: ns => by show (bolsD (ns.map .bool)).map _ = _; rw [bolsD_map ns]; rfl
theorem intsD_eq : ∀ {ds : List D} {ns : List Int}, intsD ds = some ns → ds = ns.map .int
  | [], _, e => by cases e; rfl
  | d :: ds, ns, e => by
    cases d <;> first | (cases e; done) | skip
    obtain ⟨m, e1, e2⟩ := Option.map_eq_some_iff.mp e
    subst e2
    rw [intsD_eq e1]; rfl
theorem bolsD_eq : ∀ {ds : List D} {ns : List Bool}, bolsD ds = some ns → ds = ns.map .bool
  | [], _, e => by cases e; rfl
  | d :: ds, ns, e => by
    cases d <;> first | (cases e; done) | skip
    obtain ⟨m, e1, e2⟩ := Option.map_eq_some_iff.mp e
    subst e2
    rw [bolsD_eq e1]; rfl
def cSum : List D → Option D
  | [.list ds] => (intsD ds).map fun ns => .int ns.sum
  | _ => none
def cAny : List D → Option D
  | [.list ds] => (bolsD ds).map fun bs => .bool (bs.any id)
  | _ => none
def cAll : List D → Option D
  | [.list ds] => (bolsD ds).map fun bs => .bool (bs.all id)
  | _ => none
theorem a_sum {K : PySem.W.Frag} : OpA K (rSum K) cSum := by
  intro F H xs ds d Q s hx e k
  match ds, hx, e with
  | [.list ds], hx, e =>
    obtain ⟨x, rfl, q⟩ := one_of hx
    obtain ⟨ns, e1, e2⟩ := Option.map_eq_some_iff.mp e
    cases e2
    have := intsD_eq e1; subst this
    cases q with
    | lst q1 r1 => have := dp_ints_inv r1; subst this; exact ⟨_, ns, rfl, s.seq q1, k F H _ (Al.refl s) (.int _)⟩
theorem a_any {K : PySem.W.Frag} : OpA K (rAny K) cAny := by
  intro F H xs ds d Q s hx e k
  match ds, hx, e with
  | [.list ds], hx, e =>
    obtain ⟨x, rfl, q⟩ := one_of hx
    obtain ⟨ns, e1, e2⟩ := Option.map_eq_some_iff.mp e
    cases e2
    have := bolsD_eq e1; subst this
    cases q with
    | lst q1 r1 => have := dp_bls_inv r1; subst this; exact ⟨_, ns, rfl, s.seq q1, k F H _ (Al.refl s) (.bl _)⟩
theorem a_all {K : PySem.W.Frag} : OpA K (rAll K) cAll := by
  intro F H xs ds d Q s hx e k
  match ds, hx, e with
  | [.list ds], hx, e =>
    obtain ⟨x, rfl, q⟩ := one_of hx
    obtain ⟨ns, e1, e2⟩ := Option.map_eq_some_iff.mp e
    cases e2
    have := bolsD_eq e1; subst this
    cases q with
    | lst q1 r1 => have := dp_bls_inv r1; subst this; exact ⟨_, ns, rfl, s.seq q1, k F H _ (Al.refl s) (.bl _)⟩
/-! ### tuple(x), list(x) -/
def cTuple : List D → Option D
  | [.list ds] => some (.tuple ds)
  | [.tuple ds] => some (.tuple ds)
  | _ => none
abbrev rTupC (K : PySem.W.Frag) : List V → Hp → VK → Prop := fun xs H Q => ∃ p ys, xs = [.ref p] ∧ ((SqL K H p ys ∧ ∀ l, H l = none → Q (.ref l) (upd H l (.tup ys))) ∨ (SqT K H p ys ∧ Q (.ref p) H))
theorem a_tuple {K : PySem.W.Frag} : OpA K (rTupC K) cTuple := by
  intro F H xs ds d Q s hx e k
  match ds, hx, e with
  | [.list ds], hx, e =>
    obtain ⟨x, rfl, q⟩ := one_of hx
    cases e
    cases q with
    | @lst a vs _ q1 r1 =>
      refine ⟨a, vs, rfl, .inl ⟨s.seq q1, fun l nl => ?_⟩⟩
      have al := Al.laid (o := .tup vs) s nl
      exact k _ _ _ al (.tup (.inl (.inl upd_same)) (dpAll_mono al.ff r1))
  | [.tuple ds], hx, e =>
    obtain ⟨x, rfl, q⟩ := one_of hx
    cases e
    cases q with
    | @tup a vs _ q1 r1 => exact ⟨a, vs, rfl, .inr ⟨sqT_mono s q1, k F H _ (Al.refl s) (.tup q1 r1)⟩⟩
def cList : List D → Option Cell
  | [.list ds] => some (.ol ds)
  | [.tuple ds] => some (.ol ds)
  | _ => none
abbrev rLstC (K : PySem.W.Frag) : List V → Hp → VK → Prop := fun xs H Q => ∃ p ys, xs = [.ref p] ∧ (SqL K H p ys ∨ SqT K H p ys) ∧ ∀ l, H l = none → Q (.ref l) (upd H l (.lst ys))
theorem a_list {K : PySem.W.Frag} : OpAN K (rLstC K) cList := by
  intro F H xs ds c Q s hx e k
  match ds, hx, e with
  | [.list ds], hx, e =>
    obtain ⟨x, rfl, q⟩ := one_of hx
    cases e
    cases q with
    | @lst a vs _ q1 r1 =>
      refine ⟨a, vs, rfl, .inl (s.seq q1), fun l nl => ?_⟩
      have al := Al.laidH (o := .lst vs) s nl
      exact k _ _ l _ al upd_same r1 (s.free nl) nl
  | [.tuple ds], hx, e =>
    obtain ⟨x, rfl, q⟩ := one_of hx
    cases e
    cases q with
    | @tup a vs _ q1 r1 =>
      refine ⟨a, vs, rfl, .inr (sqT_mono s q1), fun l nl => ?_⟩
      have al := Al.laidH (o := .lst vs) s nl
      exact k _ _ l _ al upd_same r1 (s.free nl) nl
/-! ### sorted, min, max of a list or tuple of alike data -/
def alikeB (ds : List D) : Bool := (ds.all fun x => ds.all fun y => PySem.W.alike x y) && ds.all noNone && ds.all okD
def nonEmptyT : D → Bool
  | .tuple (_ :: _) => true
  | _ => false
def notTup : D → Bool
  | .tuple _ => false
  | .none => false
  | _ => true
def sortB (ds : List D) : Bool := alikeB ds && (ds.all nonEmptyT || ds.all notTup)
def sortD (ds : List D) : List D := ds.mergeSort (PySem.W.dataLe false id)
theorem alikeB_all {ds : List D} (h : alikeB ds = true) : PySem.W.AllAlike ds ∧ (∀ d ∈ ds, d ≠ .none) ∧ ∀ d ∈ ds, okD d = true := by
  unfold alikeB at h
  rw [Bool.and_eq_true, Bool.and_eq_true] at h
  obtain ⟨⟨h1, h2⟩, h3⟩ := h
  refine ⟨fun d hd e he => ?_, fun d hd => noNone_ne (List.all_eq_true.mp h2 d hd), fun d hd => List.all_eq_true.mp h3 d hd⟩
  exact List.all_eq_true.mp (List.all_eq_true.mp h1 d hd) e he
theorem sortB_all {ds : List D} (h : sortB ds = true) : PySem.W.AllAlike ds ∧ PySem.W.Sortable ds ∧ ∀ d ∈ ds, okD d = true := by
  unfold sortB at h
  rw [Bool.and_eq_true, Bool.or_eq_true] at h
  obtain ⟨h1, h2⟩ := h
  obtain ⟨a, b, c⟩ := alikeB_all h1
  refine ⟨a, ?_, c⟩
  rcases h2 with h2 | h2
  · refine .inl fun d hd => ?_
    have := List.all_eq_true.mp h2 d hd
    cases d with
    | tuple xs =>
      cases xs with
      | nil => cases this
      | cons x r => exact ⟨x, r, rfl⟩
    | _ => cases this
  · refine .inr fun d hd => ?_
    have := List.all_eq_true.mp h2 d hd
    refine ⟨fun e => ?_, fun xs e => ?_⟩ <;> (subst e; cases this)
abbrev DpV (K : PySem.W.Frag) (H : Hp) (u : Value) (d : D) : Prop := ∃ v, RelV v u ∧ Dp K H v d
theorem each_dp {K : PySem.W.Frag} {H : Hp} : ∀ {vs : List V} {us : List Value} {ds : List D}, Vals vs us → DpAll K H vs ds → PySem.W.EachIs (DpV K H) us ds
  | _, _, [], r, h => by cases h; cases r; exact .nil
  | _, _, d :: ds, r, h => by
    cases h with
    | cons q t =>
      cases r with
      | cons r1 r2 => exact .cons ⟨_, r1, q⟩ (each_dp r2 t)
theorem dp_each {K : PySem.W.Frag} {H : Hp} : ∀ {us : List Value} {ds : List D}, PySem.W.EachIs (DpV K H) us ds → ∃ vs, Vals vs us ∧ DpAll K H vs ds
  | [], _, h => by cases h; exact ⟨[], .nil, .nil⟩
  | u :: us, _, h => by
    cases h with
    | cons q t =>
      obtain ⟨v, r, d⟩ := q
      obtain ⟨vs, r2, d2⟩ := dp_each t
      exact ⟨v :: vs, .cons r r2, .cons d d2⟩
theorem reads_each {pins : List (Addr × Obj)} {σ : St} {H : Hp} {s : Shared} (I : Inv X pins σ H s) : ∀ {vs : List V} {us : List Value} {ds : List D}, Vals vs us → DpAll X.K H vs ds → PySem.W.EachIs (fun v b => ∃ as, Reads s.heap v (id b) as) us ds
  | _, _, [], r, h => by cases h; cases r; exact .nil
  | _, _, d :: ds, r, h => by
    cases h with
    | cons q t =>
      cases r with
      | cons r1 r2 => exact .cons (Dp.reads I d _ _ q r1) (reads_each I r2 t)
def cSorted : List D → Option Cell
  | [.list ds] => if sortB ds = true then some (.ol (sortD ds)) else none
  | _ => none
def rSrt (K : PySem.W.Frag) : List V → Hp → VK → Prop := fun xs H Q => ∃ F a vs ds, Same F H ∧ xs = [.ref a] ∧ SqL K H a vs ∧ DpAll K F vs ds ∧ sortB ds = true ∧ ∀ p ws, H p = none → DpAll K F ws (sortD ds) → Q (.ref p) (upd H p (.lst ws))
theorem call_srt (hu : X.A.units + 100 < cLine) : CallR X (.builtin "sorted") (rSrt X.K) := by
  intro pins s σ H xs us Q I r h
  obtain ⟨F, a, vs, ds, sm, rfl, hq, hd, hs, q⟩ := h
  obtain ⟨u, rfl, rx⟩ := vals1 r
  cases rx
  obtain ⟨its, rv, pl, hz⟩ := I.list hq
  obtain ⟨al, sb, ok⟩ := sortB_all hs
  have hl : ds.length ≤ sizeLine := by rw [← hd.length]; exact hz
  refine PySem.W.sorted_data (enc := id) (R := DpV X.K F) pl.isList (each_dp rv hd) (reads_each I rv (dpAll_mono sm hd)) (by rw [List.map_id]; exact al) (by rw [List.map_id]; exact sb) hl (fun b hb => ?_) fun out ho eo => ?_
  · have := SeqAt.depth_of_shaped (ok b hb)
    show X.A.units + 2 + b.depth < cLine
    omega
  · obtain ⟨ws, r2, d2⟩ := dp_each eo
    obtain ⟨ep, he'⟩ := PyProof.Rows.sortedAll_at s.heap its (List.toArray out)
    have hlen : ws.length ≤ sizeLine := by rw [r2.length, ho]; exact hl
    exact ⟨.ref _, upd H (s.heap.objs.size + 1) (.lst ws), I.laid (t' := s.toks) (fun _ _ => PyProof.Rows.sortedAll_old) (Nat.le_succ _) ⟨hlen, out, ep, r2, he'⟩, rfl, q _ ws (I.hok.fresh (Nat.le_succ _)) d2⟩
theorem a_sorted {K : PySem.W.Frag} : OpAN K (rSrt K) cSorted := by
  intro F H xs ds c Q s hx e k
  match ds, hx, e with
  | [.list ds], hx, e =>
    obtain ⟨x, rfl, q⟩ := one_of hx
    have e : (if sortB ds = true then some (Cell.ol (sortD ds)) else none) = some c := e
    by_cases hz : sortB ds = true
    · rw [if_pos hz] at e; cases e
      cases q with
      | @lst a vs _ q1 r1 =>
        refine ⟨F, a, vs, ds, s, rfl, s.seq q1, r1, hz, fun p ws np dw => ?_⟩
        have al := Al.laidH (o := .lst ws) s np
        exact k _ _ p _ al upd_same dw (s.free np) np
    · rw [if_neg hz] at e; cases e
/-- min(xs), max(xs) -/
def cMinL : List D → Option D
  | [.list (x :: ds)] => if alikeB (x :: ds) = true then some (PySem.W.minD x ds) else none
  | [.tuple (x :: ds)] => if alikeB (x :: ds) = true then some (PySem.W.minD x ds) else none
  | _ => none
def cMaxL : List D → Option D
  | [.list (x :: ds)] => if alikeB (x :: ds) = true then some (PySem.W.maxD x ds) else none
  | [.tuple (x :: ds)] => if alikeB (x :: ds) = true then some (PySem.W.maxD x ds) else none
  | _ => none
def rBest (K : PySem.W.Frag) (g : D → List D → D) : List V → Hp → VK → Prop := fun xs H Q => ∃ F a vs x ds, Same F H ∧ xs = [.ref a] ∧ (SqL K H a vs ∨ SqT K H a vs) ∧ DpAll K F vs (x :: ds) ∧ alikeB (x :: ds) = true ∧ ∀ v, Dp K F v (g x ds) → Q v H
theorem depthAll_le {ds : List D} (h : ∀ d ∈ ds, okD d = true) : PyData.depthAll ds ≤ 64 := by
  induction ds with
  | nil => exact Nat.zero_le _
  | cons d ds ih =>
    have h1 := SeqAt.depth_of_shaped (h d List.mem_cons_self)
    have h2 := ih fun e he => h e (List.mem_cons_of_mem _ he)
    show max d.depth (PyData.depthAll ds) ≤ 64
    omega
theorem best_item {pins : List (Addr × Obj)} {σ : St} {F H : Hp} {s : Shared} (I : Inv X pins σ H s) (sm : Same F H) {vs : List V} {its : List Value} {ds : List D} {d : D} {i : Nat} {u : Value} {h' : Heap} {bs : List Addr}
    (hok : ∀ e ∈ ds, okD e = true) (rv : Vals vs its) (hd : DpAll X.K F vs ds) (hu : its.toArray[i]? = some u) (hr : Reads h' u d bs) (hk : ∀ b o, s.heap.get? b = some o → h'.get? b = some o) : ∃ v, RelV v u ∧ Dp X.K F v d := by
  have hu2 : its[i]? = some u := by simpa using hu
  have hi : i < vs.length := by
    rw [rv.length]
    exact (List.getElem?_eq_some_iff.mp hu2).1
  obtain ⟨w, e1, r1⟩ := rv.get (List.getElem?_eq_getElem hi)
  rw [hu2] at e1
  cases e1
  obtain ⟨d0, e2, q⟩ := hd.get (List.getElem?_eq_getElem hi)
  obtain ⟨as, r2⟩ := Dp.reads I d0 _ _ (dp_mono sm q) r1
  have c0 : d0.canLay0 = true := SeqAt.canLay_of_shaped (hok d0 (List.mem_of_getElem? e2))
  have r3 : Reads h' u d0 as := PySem.W.reads_keeps hk r2
  have e3 : d0 = d := PySem.SeqAt.Reads.unique d0 _ _ _ _ c0 r3 hr
  subst e3
  exact ⟨_, r1, q⟩
theorem call_minB (hc : X.calm = true) (hu : X.A.units + 100 < cLine) : CallR X (.builtin "min") (rBest X.K PySem.W.minD) := by
  intro pins s σ H xs us Q I r h
  obtain ⟨F, a, vs, x, ds, sm, rfl, hq, hd, hs, q⟩ := h
  obtain ⟨u, rfl, rx⟩ := vals1 r
  cases rx
  obtain ⟨al, nn, ok⟩ := alikeB_all hs
  have hdp : X.A.units + 1 + PyData.depthAll (x :: ds) < cLine := by
    have := depthAll_le ok
    omega
  rcases hq with hq | hq
  · obtain ⟨its, rv, pl, hz⟩ := I.list hq
    obtain ⟨as, ra⟩ := Dp.readsAll I _ _ its (dpAll_mono sm hd) rv
    refine PySem.W.min_list_data (I.ok.hd hc) pl.isList (show ReadsAll s.heap its.toArray.toList _ as from ra) ⟨al, nn⟩ hdp fun i v h' tk bs e1 e2 hk => ?_
    obtain ⟨w, r1, d1⟩ := best_item I sm ok rv hd e1 e2 hk
    exact ⟨w, H, I.kept hk, r1, q w d1⟩
  · obtain ⟨its, rv, pl, hz⟩ := I.tuple hq
    obtain ⟨as, ra⟩ := Dp.readsAll I _ _ its (dpAll_mono sm hd) rv
    refine PySem.W.min_tuple_data (I.ok.hd hc) pl (show ReadsAll s.heap its.toArray.toList _ as from ra) ⟨al, nn⟩ hdp fun i v h' tk bs e1 e2 hk => ?_
    obtain ⟨w, r1, d1⟩ := best_item I sm ok rv hd e1 e2 hk
    exact ⟨w, H, I.kept hk, r1, q w d1⟩
theorem call_maxB (hc : X.calm = true) (hu : X.A.units + 100 < cLine) : CallR X (.builtin "max") (rBest X.K PySem.W.maxD) := by
  intro pins s σ H xs us Q I r h
  obtain ⟨F, a, vs, x, ds, sm, rfl, hq, hd, hs, q⟩ := h
  obtain ⟨u, rfl, rx⟩ := vals1 r
  cases rx
  obtain ⟨al, nn, ok⟩ := alikeB_all hs
  have hdp : X.A.units + 1 + PyData.depthAll (x :: ds) < cLine := by
    have := depthAll_le ok
    omega
  rcases hq with hq | hq
  · obtain ⟨its, rv, pl, hz⟩ := I.list hq
    obtain ⟨as, ra⟩ := Dp.readsAll I _ _ its (dpAll_mono sm hd) rv
    refine PySem.W.max_list_data (I.ok.hd hc) pl.isList (show ReadsAll s.heap its.toArray.toList _ as from ra) ⟨al, nn⟩ hdp fun i v h' tk bs e1 e2 hk => ?_
    obtain ⟨w, r1, d1⟩ := best_item I sm ok rv hd e1 e2 hk
    exact ⟨w, H, I.kept hk, r1, q w d1⟩
  · obtain ⟨its, rv, pl, hz⟩ := I.tuple hq
    obtain ⟨as, ra⟩ := Dp.readsAll I _ _ its (dpAll_mono sm hd) rv
    refine PySem.W.max_tuple_data (I.ok.hd hc) pl (show ReadsAll s.heap its.toArray.toList _ as from ra) ⟨al, nn⟩ hdp fun i v h' tk bs e1 e2 hk => ?_
    obtain ⟨w, r1, d1⟩ := best_item I sm ok rv hd e1 e2 hk
    exact ⟨w, H, I.kept hk, r1, q w d1⟩
theorem a_minL {K : PySem.W.Frag} : OpA K (rBest K PySem.W.minD) cMinL := by
  intro F H xs ds d Q s hx e k
  match ds, hx, e with
  | [.list (y :: ds)], hx, e =>
    obtain ⟨x, rfl, q⟩ := one_of hx
    have e : (if alikeB (y :: ds) = true then some (PySem.W.minD y ds) else none) = some d := e
    by_cases hz : alikeB (y :: ds) = true
    · rw [if_pos hz] at e; cases e
      cases q with
      | @lst a vs _ q1 r1 => exact ⟨F, a, vs, y, ds, s, rfl, .inl (s.seq q1), r1, hz, fun v dv => k F H v (Al.refl s) dv⟩
    · rw [if_neg hz] at e; cases e
  | [.tuple (y :: ds)], hx, e =>
    obtain ⟨x, rfl, q⟩ := one_of hx
    have e : (if alikeB (y :: ds) = true then some (PySem.W.minD y ds) else none) = some d := e
    by_cases hz : alikeB (y :: ds) = true
    · rw [if_pos hz] at e; cases e
      cases q with
      | @tup a vs _ q1 r1 => exact ⟨F, a, vs, y, ds, s, rfl, .inr (sqT_mono s q1), r1, hz, fun v dv => k F H v (Al.refl s) dv⟩
    · rw [if_neg hz] at e; cases e
theorem a_maxL {K : PySem.W.Frag} : OpA K (rBest K PySem.W.maxD) cMaxL := by
  intro F H xs ds d Q s hx e k
  match ds, hx, e with
  | [.list (y :: ds)], hx, e =>
    obtain ⟨x, rfl, q⟩ := one_of hx
    have e : (if alikeB (y :: ds) = true then some (PySem.W.maxD y ds) else none) = some d := e
    by_cases hz : alikeB (y :: ds) = true
    · rw [if_pos hz] at e; cases e
      cases q with
      | @lst a vs _ q1 r1 => exact ⟨F, a, vs, y, ds, s, rfl, .inl (s.seq q1), r1, hz, fun v dv => k F H v (Al.refl s) dv⟩
    · rw [if_neg hz] at e; cases e
  | [.tuple (y :: ds)], hx, e =>
    obtain ⟨x, rfl, q⟩ := one_of hx
    have e : (if alikeB (y :: ds) = true then some (PySem.W.maxD y ds) else none) = some d := e
    by_cases hz : alikeB (y :: ds) = true
    · rw [if_pos hz] at e; cases e
      cases q with
      | @tup a vs _ q1 r1 => exact ⟨F, a, vs, y, ds, s, rfl, .inr (sqT_mono s q1), r1, hz, fun v dv => k F H v (Al.refl s) dv⟩
    · rw [if_neg hz] at e; cases e
/-! ### isinstance(x, T) -/
def tyN : D → String
  | .none => "NoneType"
  | .bool _ => "bool"
  | .int _ => "int"
  | .str _ => "str"
  | .list _ => "list"
  | .tuple _ => "tuple"
  | .dict _ => "dict"
theorem tyX_dp {K : PySem.W.Frag} {H : Hp} {v : V} {d : D} (h : Dp K H v d) : TyX K H v (.type (tyN d)) := by
  cases h with
  | non => exact .base .non
  | bl b => exact .base (.bl b)
  | int i => exact .base (.int i)
  | str x => exact .base (.str x)
  | lst q _ =>
    rcases q with (q | ⟨o, q⟩) | ⟨o, its, n, q, c, _⟩
    · exact .base (.lst q)
    · exact .base (.frz q)
    · exact .kList q c
  | tup q _ =>
    rcases q with (q | ⟨o, q⟩) | ⟨o, its, n, q, c, _⟩
    · exact .base (.tup q)
    · exact .fTuple q
    · exact .kTuple q c
def eIsi (T : String) (fa : FE) : FE := fun ρ => (fa ρ).bind fun p => (kitB (tyN p.1) T).map fun b => (.bool b, p.2)
theorem de_isi {a : Expr} {ta : TE} {fa : FE} {T : String} {y x : Str} {p p2 pos : Pos} (ha : DE X a ta fa) (hx : X.mg x = none) (hy : X.mg y = none) (hv : bootBuiltins x = some (.builtin "isinstance") := by decide +kernel) (hT : bootBuiltins y = some (.type T) := by decide +kernel)
    (hg : Gl X x := by rfl) (hg2 : Gl X y := by rfl) (hn : x ≠ "__name__" := by decide) (hn2 : y ≠ "__name__" := by decide) (hdb : (x == ("__debug__" : Str)) = false := by decide) (hdb2 : (y == ("__debug__" : Str)) = false := by decide)
    (s1 : starEach [a, .Name y p2] X.env = (false, eval a X.env) :: starEach [.Name y p2] X.env := by rfl) (s2 : starEach [.Name y p2] X.env = (false, eval (.Name y p2) X.env) :: starEach [] X.env := by rfl) (hpl : (backTo pos (starEach [.Name y p2] X.env)).any (·.1) = false := by rfl) :
    DE X (.Call (.Name x p) [a, .Name y p2] [] pos) (tCB (rIsi X.K) (tCons ta (tCons (tC (.ty T)) tNil))) (eIsi T fa) := by
  refine ⟨pe_callB call_isi hg hx hv (pa_cons ha.pe (pa_cons (pe_bltn hg2 hy hT rfl hn2 hdb2) pa_nil s2) s1) hn hdb s1 hpl, ?_⟩
  intro B F io σ H ρ d ρ' Q c e k
  obtain ⟨q, e1, e⟩ := Option.bind_eq_some_iff.mp e
  obtain ⟨z, e3, e⟩ := Option.map_eq_some_iff.mp e
  cases e
  exact ha.se B F io σ H ρ q.1 q.2 _ c e1 fun F1 H1 v g1 c1 d1 => ⟨v, .ty T, _, _, z, rfl, .ty T, tyX_dp (dp_mono c1.frz d1), kit_ty e3, k F1 H1 _ g1 c1 (.bl z)⟩
end
end L2.Pd

namespace L2.Pd
open PySem PySem.Spec PyProof.Rows
/-! ## Statements -/
inductive Out where
  | nx (ρ : En)
  | rt (c : Cell) (ρ : En)
  | bk (ρ : En)
  | ct (ρ : En)
abbrev FS := En → Option Out
/-- what a def hands back -/
def RetOk (K : PySem.W.Frag) (B F : Hp) (σ : St) (H : Hp) (ρ : En) (v : V) : Cell → Prop
  | .dead => False
  | .sh d => Dp K F v d
  | c => ∃ a o, v = .ref a ∧ H a = some o ∧ Ob K F c o ∧ F a = none ∧ B a = none ∧ NotOwned σ ρ a
def Post (K : PySem.W.Frag) (B F : Hp) (io : List (Nat × Addr)) (Dn : Ends) : Out → Prop
  | .nx ρ' => ∀ F' σ' H', Gr B F F' → Con K B F' io σ' H' ρ' → Dn.nx σ' H'
  | .bk ρ' => ∀ F' σ' H', Gr B F F' → Con K B F' io σ' H' ρ' → Dn.bk σ' H'
  | .ct ρ' => ∀ F' σ' H', Gr B F F' → Con K B F' io σ' H' ρ' → Dn.ct σ' H'
  | .rt c ρ' => ∀ F' σ' H' v, Gr B F F' → Con K B F' io σ' H' ρ' → RetOk K B F' σ' H' ρ' v c → Dn.rt v H'
theorem Post.mono {K : PySem.W.Frag} {B F F1 : Hp} {io : List (Nat × Addr)} {Dn : Ends} {o : Out} (p : Post K B F io Dn o) (g : Gr B F F1) : Post K B F1 io Dn o := by
  cases o with
  | nx ρ => exact fun F' σ' H' g' c => p F' σ' H' (g.trans g') c
  | bk ρ => exact fun F' σ' H' g' c => p F' σ' H' (g.trans g') c
  | ct ρ => exact fun F' σ' H' g' c => p F' σ' H' (g.trans g') c
  | rt c ρ => exact fun F' σ' H' v g' c => p F' σ' H' v (g.trans g') c
def SS (K : PySem.W.Frag) (L : List Nat) (t : TS) (f : FS) : Prop := ∀ (B F : Hp) (io : List (Nat × Addr)) (σ : St) (H : Hp) (ρ : En) (o : Out) (Dn : Ends), io.map (·.1) = L → Con K B F io σ H ρ → f ρ = some o → Post K B F io Dn o → t Dn σ H
structure DS (X : Cx) (L : List Nat) (st : Stmt) (t : TS) (f : FS) : Prop where
  pe : PS X st t
  se : SS X.K L t f
structure DSs (X : Cx) (L : List Nat) (st : List Stmt) (t : TS) (f : FS) : Prop where
  pe : PSs X st t
  se : SS X.K L t f
def sSeq (f g : FS) : FS := fun ρ => (f ρ).bind fun o => match o with
  | .nx ρ' => g ρ'
  | o => some o
def sNx : FS := fun ρ => some (.nx ρ)
section
variable {X : Cx} {L : List Nat} {st : Stmt} {rest : List Stmt} {t u : TS} {f g : FS} {pos : Pos}
theorem dss_nil : DSs X L [] tNext sNx := ⟨pss_nil, fun B F io σ H ρ o Dn hL c e p => by cases e; exact p F σ H (Gr.refl _ _) c⟩
theorem dss_cons (h1 : DS X L st t f) (h2 : DSs X L rest u g) : DSs X L (st :: rest) (tSeq t u) (sSeq f g) := by
  refine ⟨pss_cons h1.pe h2.pe, ?_⟩
  intro B F io σ H ρ o Dn hL c e p
  obtain ⟨o1, e1, e⟩ := Option.bind_eq_some_iff.mp e
  refine h1.se B F io σ H ρ o1 { Dn with nx := u Dn } hL c e1 ?_
  cases o1 with
  | nx ρ1 => exact fun F' σ' H' g' c' => h2.se B F' io σ' H' ρ1 o Dn hL c' e (p.mono g')
  | bk ρ1 => cases e; exact p
  | ct ρ1 => cases e; exact p
  | rt c1 ρ1 => cases e; exact p
theorem dss_one (h1 : DS X L st t f) : DSs X L [st] t f := ⟨pss_one h1.pe, h1.se⟩
theorem ds_pass : DS X L (.Pass pos) tNext sNx := ⟨ps_pass, fun B F io σ H ρ o Dn hL c e p => by cases e; exact p F σ H (Gr.refl _ _) c⟩
def sBrk : FS := fun ρ => some (.bk ρ)
def sCnt : FS := fun ρ => some (.ct ρ)
theorem ds_break : DS X L (.Break pos) tBreak sBrk := ⟨ps_break, fun B F io σ H ρ o Dn hL c e p => by cases e; exact p F σ H (Gr.refl _ _) c⟩
theorem ds_continue : DS X L (.Continue pos) tCont sCnt := ⟨ps_continue, fun B F io σ H ρ o Dn hL c e p => by cases e; exact p F σ H (Gr.refl _ _) c⟩
/-! ### return -/
def sRet (f : FE) : FS := fun ρ => (f ρ).map fun p => .rt (.sh p.1) p.2
def sRetNew (f : FN) : FS := fun ρ => (f ρ).map fun p => .rt p.1 p.2
def sRetN : FS := fun ρ => some (.rt (.sh .none) ρ)
def sRetOwn (i : Nat) : FS := fun ρ => match ρ[i]? with
  | some (.ol ds) => some (.rt (.ol ds) (ρ.set i .dead))
  | some (.od tk ds) => some (.rt (.od tk ds) (ρ.set i .dead))
  | some (.sh d) => some (.rt (.sh d) ρ)
  | _ => none
variable {e : Expr} {te : TE} {fe : FE} {fn : FN}
theorem ds_ret (he : DE X e te fe) : DS X L (.Return (some e) pos) (tRet te) (sRet fe) := ⟨ps_ret he.pe, fun B F io σ H ρ o Dn hL c h p => by
  obtain ⟨q, e1, e2⟩ := Option.map_eq_some_iff.mp h
  subst e2
  exact he.se B F io σ H ρ q.1 q.2 _ c e1 fun F' H' v g c' d => p F' σ H' v g c' d⟩
theorem retOk_own {K : PySem.W.Frag} {B F : Hp} {σ : St} {H : Hp} {ρ : En} {v : V} {c : Cell} (h : isOwn c = true) : RetOk K B F σ H ρ v c ↔ ∃ a o, v = .ref a ∧ H a = some o ∧ Ob K F c o ∧ F a = none ∧ B a = none ∧ NotOwned σ ρ a := by
  cases c <;> first | exact Iff.rfl | (cases h)
theorem ds_retNew (he : DN X e te fn) : DS X L (.Return (some e) pos) (tRet te) (sRetNew fn) := ⟨ps_ret he.pe, fun B F io σ H ρ o Dn hL c h p => by
  obtain ⟨q, e1, e2⟩ := Option.map_eq_some_iff.mp h
  subst e2
  exact he.se B F io σ H ρ q.1 q.2 _ c e1 fun F' H' a o g c' h1 h2 h3 h4 h5 => p F' σ H' _ g c' ((retOk_own (ob_own h2)).mpr ⟨a, o, rfl, h1, h2, h3, h4, h5⟩)⟩
theorem ds_retN : DS X L (.Return none pos) tRetN sRetN := ⟨ps_retN, fun B F io σ H ρ o Dn hL c e p => by cases e; exact p F σ H _ (Gr.refl _ _) c .non⟩
theorem ds_retOwn (i : Nat) {x : Str} {p' : Pos} (hN : X.N[i]? = some x := by rfl) (hv : Vis X.env.scope x := by first | exact Or.inl rfl | exact Or.inr (Or.inl rfl) | exact Or.inr (Or.inr rfl)) (hd : (x == ("__debug__" : Str)) = false := by decide)
    (hcd : (x == ("__classdict__" : Str)) = false := by decide) : DS X L (.Return (some (.Name x p')) pos) (tRet (tVar i)) (sRetOwn i) := ⟨ps_ret (pe_var hN hv hd hcd), fun B F io σ H ρ o Dn hL c h p => by
  unfold sRetOwn at h
  cases q : ρ[i]? with
  | none => rw [q] at h; cases h
  | some u =>
    rw [q] at h
    by_cases ho : isOwn u = true
    · have e2 : o = .rt u (ρ.set i .dead) := by cases u <;> first | (cases ho; done) | (exact (Option.some.inj h).symm)
      subst e2
      obtain ⟨a, w, h1, h2, h3, h4, h5⟩ := c.own q ho
      refine ⟨.ref a, h1, p F σ H _ (Gr.refl _ _) (c.kill i) ((retOk_own ho).mpr ⟨a, w, rfl, h2, h3, h4, h5, fun j e he hj hs => ?_⟩)⟩
      rcases get_set_cases he with ⟨rfl, rfl, hl⟩ | ⟨ne, he⟩
      · cases hj
      · exact ne (c.sep j i e u a he q hj ho hs h1)
    · cases u with
      | sh d =>
        cases h
        obtain ⟨x, hx, v, rfl, dd⟩ := c.cell i _ q
        exact ⟨v, hx, p F σ H v (Gr.refl _ _) c dd⟩
      | dead => cases h
      | fd tk kvs => cases h
      | _ => exact absurd rfl ho⟩
/-! ### expression statements, if -/
def sExpr (f : FE) : FS := fun ρ => (f ρ).map fun p => .nx p.2
theorem ds_expr (he : DE X e te fe) (hs : swapsWith e none pos.line X.env = pure false := by rfl) : DS X L (.Expr e pos) (tDrop te) (sExpr fe) := ⟨ps_expr he.pe hs, fun B F io σ H ρ o Dn hL c h p => by
  obtain ⟨q, e1, e2⟩ := Option.map_eq_some_iff.mp h
  subst e2
  exact he.se B F io σ H ρ q.1 q.2 _ c e1 fun F' H' v g c' d => p F' σ H' g c'⟩
def sIf (c : FT) (f g : FS) : FS := fun ρ => (c ρ).bind fun p => if p.1 = true then f p.2 else g p.2
theorem ds_if {c : Expr} {a b : List Stmt} {tc : TT} {fc : FT} (hc : DT X c tc fc) (ha : DSs X L a t f) (hb : DSs X L b u g) : DS X L (.If c a b pos) (tIfS tc t u) (sIf fc f g) := ⟨ps_if hc.pe ha.pe hb.pe, fun B F io σ H ρ o Dn hL c h p => by
  obtain ⟨q, e1, h⟩ := Option.bind_eq_some_iff.mp h
  refine hc.se B F io σ H ρ q.1 q.2 _ c e1 fun F' H' g' c' => ?_
  by_cases hq : q.1 = true
  · rw [if_pos hq] at h ⊢
    exact ha.se B F' io σ H' q.2 o Dn hL c' h (p.mono g')
  · rw [if_neg hq] at h ⊢
    exact hb.se B F' io σ H' q.2 o Dn hL c' h (p.mono g')⟩
/-! ### stores to names -/
def sSet (i : Nat) (f : FE) : FS := fun ρ => (f ρ).map fun p => .nx (p.2.set i (.sh p.1))
def sSetN (i : Nat) (f : FN) : FS := fun ρ => (f ρ).map fun p => .nx (p.2.set i p.1)
theorem ss_set {K : PySem.W.Frag} {i : Nat} (hi : i ∉ L) (he : SE K te fe) : SS K L (tAsg te (gName i)) (sSet i fe) := fun B F io σ H ρ o Dn hL c h p => by
  obtain ⟨q, e1, e2⟩ := Option.map_eq_some_iff.mp h
  subst e2
  exact he B F io σ H ρ q.1 q.2 _ c e1 fun F' H' v g c' d => p F' _ H' g (c'.set_sh (by rw [hL]; exact hi) d)
theorem ss_setN {K : PySem.W.Frag} {i : Nat} (hi : i ∉ L) (he : SN K te fn) : SS K L (tAsg te (gName i)) (sSetN i fn) := fun B F io σ H ρ o Dn hL c h p => by
  obtain ⟨q, e1, e2⟩ := Option.map_eq_some_iff.mp h
  subst e2
  exact he B F io σ H ρ q.1 q.2 _ c e1 fun F' H' a o g c' h1 h2 h3 h4 h5 => p F' _ H' g (c'.set_own (by rw [hL]; exact hi) h1 h2 h3 h4 h5)
theorem ds_set {i : Nat} {x : Str} {pos' : Pos} (hN : X.N.Nodup) (he : DE X e te fe) (hi : X.N[i]? = some x := by rfl) (hl : i ∉ L := by decide) (hx : Loc X.env.scope x := by first | exact Or.inl rfl | exact Or.inr rfl) (hs : swapsWith e (some (.Name x pos')) pos.line X.env = pure false := by rfl)
    (hf : X.fn x = true ∨ X.env.scope.names.lookup x = some .local := by first | exact .inl rfl | exact .inr rfl | assumption) : DS X L (.Assign [.Name x pos'] e pos) (tAsg te (gName i)) (sSet i fe) := ⟨ps_set hN hi hx he.pe hs hf, ss_set hl he.se⟩
theorem ds_setN {i : Nat} {x : Str} {pos' : Pos} (hN : X.N.Nodup) (he : DN X e te fn) (hi : X.N[i]? = some x := by rfl) (hl : i ∉ L := by decide) (hx : Loc X.env.scope x := by first | exact Or.inl rfl | exact Or.inr rfl) (hs : swapsWith e (some (.Name x pos')) pos.line X.env = pure false := by rfl)
    (hf : X.fn x = true ∨ X.env.scope.names.lookup x = some .local := by first | exact .inl rfl | exact .inr rfl | assumption) : DS X L (.Assign [.Name x pos'] e pos) (tAsg te (gName i)) (sSetN i fn) := ⟨ps_set hN hi hx he.pe hs hf, ss_setN hl he.se⟩
/-! ### targets -/
abbrev FG := D → En → Option En
abbrev FGs := List D → En → Option En
/-- only these slots have been stored to -/
def Off (ws : List Nat) (σ σ' : St) : Prop := σ'.length = σ.length ∧ ∀ i, i ∉ ws → σ'[i]? = σ[i]?
theorem Off.refl (σ : St) : Off [] σ σ := ⟨rfl, fun _ _ => rfl⟩
theorem Off.trans {ws vs : List Nat} {σ σ' σ'' : St} (a : Off ws σ σ') (b : Off vs σ' σ'') : Off (ws ++ vs) σ σ'' := ⟨b.1.trans a.1, fun i hi => by
  rw [List.mem_append, not_or] at hi
  exact (b.2 i hi.2).trans (a.2 i hi.1)⟩
theorem Off.set (σ : St) (i : Nat) (x : Option V) : Off [i] σ (σ.set i x) := ⟨List.length_set, fun j hj => List.getElem?_set_ne (fun e => hj (by rw [e]; exact List.mem_singleton.mpr rfl))⟩
def SG (K : PySem.W.Frag) (L ws : List Nat) (t : TG) (g : FG) : Prop := ∀ (B F : Hp) (io : List (Nat × Addr)) (σ : St) (H : Hp) (ρ : En) (v : V) (d : D) (ρ' : En) (Q : St → Hp → Prop), io.map (·.1) = L → Con K B F io σ H ρ → Dp K F v d → g d ρ = some ρ' →
  (∀ F' σ' H', Gr B F F' → Con K B F' io σ' H' ρ' → Off ws σ σ' → Q σ' H') → t v σ H Q
def SGs (K : PySem.W.Frag) (L ws : List Nat) (t : TGs) (g : FGs) : Prop := ∀ (B F : Hp) (io : List (Nat × Addr)) (σ : St) (H : Hp) (ρ : En) (vs : List V) (ds : List D) (ρ' : En) (Q : St → Hp → Prop), io.map (·.1) = L → Con K B F io σ H ρ → DpAll K F vs ds → g ds ρ = some ρ' →
  (∀ F' σ' H', Gr B F F' → Con K B F' io σ' H' ρ' → Off ws σ σ' → Q σ' H') → t vs σ H Q
structure DG (X : Cx) (L ws : List Nat) (e : Expr) (t : TG) (g : FG) : Prop where
  pe : PG X e t
  se : SG X.K L ws t g
structure DGs (X : Cx) (L ws : List Nat) (es : List Expr) (t : TGs) (g : FGs) : Prop where
  pe : PGs X es t
  se : SGs X.K L ws t g
def gNm (i : Nat) : FG := fun d ρ => some (ρ.set i (.sh d))
def gNl : FGs := fun ds ρ => match ds with
  | [] => some ρ
  | _ => none
def gCn (g : FG) (h : FGs) : FGs := fun ds ρ => match ds with
  | d :: r => (g d ρ).bind (h r)
  | _ => none
def gTp (n : Nat) (h : FGs) : FG := fun d ρ => match d with
  | .tuple ds => if ds.length = n then h ds ρ else none
  | .list ds => if ds.length = n then h ds ρ else none
  | _ => none
/-- a tuple or a list, taken apart -/
abbrev gTupA (K : PySem.W.Frag) (n : Nat) (t : TGs) : TG := fun v σ H Q => gTup K n t v σ H Q ∨ gUnl K n t v σ H Q
theorem sg_name {K : PySem.W.Frag} {i : Nat} (hl : i ∉ L) : SG K L [i] (gName i) (gNm i) := fun B F io σ H ρ v d ρ' Q hL c dd e k => by
  cases e
  exact k F _ H (Gr.refl _ _) (c.set_sh (by rw [hL]; exact hl) dd) (Off.set σ i _)
theorem dg_name (i : Nat) {x : Str} (hN : X.N.Nodup) (hi : X.N[i]? = some x := by rfl) (hl : i ∉ L := by decide) (hx : Loc X.env.scope x := by first | exact Or.inl rfl | exact Or.inr rfl) (hf : X.fn x = true ∨ X.env.scope.names.lookup x = some .local := by first | exact .inl rfl | exact .inr rfl | assumption) :
    DG X L [i] (.Name x pos) (gName i) (gNm i) := ⟨pg_name hN hi hx hf, sg_name hl⟩
theorem dgs_nil : DGs X L [] [] gNil gNl := ⟨pgs_nil, fun B F io σ H ρ vs ds ρ' Q hL c dd e k => by
  cases ds with
  | nil => cases e; cases dd; exact ⟨rfl, k F σ H (Gr.refl _ _) c (Off.refl σ)⟩
  | cons d r => cases e⟩
theorem dgs_cons {es : List Expr} {ws ws2 : List Nat} {t1 : TG} {t2 : TGs} {g1 : FG} {g2 : FGs} (h1 : DG X L ws e t1 g1) (h2 : DGs X L ws2 es t2 g2) (hs : (assignEach (e :: es) X.env).map (·.2) = assign e X.env :: (assignEach es X.env).map (·.2) := by rfl) : DGs X L (ws ++ ws2) (e :: es) (gCons t1 t2) (gCn g1 g2) :=
  ⟨pgs_cons h1.pe h2.pe hs, fun B F io σ H ρ vs ds ρ' Q hL c dd e k => by
    cases ds with
    | nil => cases e
    | cons d r =>
      obtain ⟨ρ1, e1, e2⟩ := Option.bind_eq_some_iff.mp e
      cases dd with
      | cons q q' =>
        refine ⟨_, _, rfl, h1.se B F io σ H ρ _ d ρ1 _ hL c q e1 fun F1 σ1 H1 gr1 c1 o1 => ?_⟩
        exact h2.se B F1 io σ1 H1 ρ1 _ r ρ' Q hL c1 (dpAll_mono gr1.sub q') e2 fun F2 σ2 H2 gr2 c2 o2 => k F2 σ2 H2 (gr1.trans gr2) c2 (o1.trans o2)⟩
theorem dg_tup {es : List Expr} {ws : List Nat} {k0 : Nat} {t2 : TGs} {g2 : FGs} {n : Nat} (hc : X.calm = true) (h : DGs X L ws es t2 g2) (hn : (assignEach es X.env).length = n := by rfl) (hst : (assignEach es X.env).findIdx? (·.1) = none := by rfl) : DG X L ws (.Tuple es k0 pos) (gTupA X.K n t2) (gTp n g2) :=
  ⟨⟨fun pins s σ H v u Q I r hw => by
    rcases hw with hw | hw
    · exact (pg_tup hc h.pe hn hst).run pins s σ H v u Q I r hw
    · exact (pg_unl hc h.pe hn hst).run pins s σ H v u Q I r hw⟩, fun B F io σ H ρ v d ρ' Q hL c dd e k => by
    cases dd with
    | @tup a vs ds q r =>
      have e : (if ds.length = n then g2 ds ρ else none) = some ρ' := e
      by_cases hz : ds.length = n
      · rw [if_pos hz] at e
        exact .inl ⟨a, vs, rfl, sqT_mono c.frz q, by rw [r.length]; exact hz, h.se B F io σ H ρ vs ds ρ' Q hL c r e k⟩
      · rw [if_neg hz] at e; cases e
    | @lst a vs ds q r =>
      have e : (if ds.length = n then g2 ds ρ else none) = some ρ' := e
      by_cases hz : ds.length = n
      · rw [if_pos hz] at e
        exact .inr ⟨a, vs, rfl, c.frz.seq q, by rw [r.length]; exact hz, h.se B F io σ H ρ vs ds ρ' Q hL c r e k⟩
      · rw [if_neg hz] at e; cases e
    | _ => cases e⟩
def sAsg (f : FE) (g : FG) : FS := fun ρ => (f ρ).bind fun p => (g p.1 p.2).map .nx
theorem ds_asg {tg : Expr} {ws : List Nat} {t1 : TG} {g1 : FG} (he : DE X e te fe) (hg : DG X L ws tg t1 g1) (hs : swapsWithSole [tg] e pos.line X.env = pure false := by rfl) (hw : swappedStores [tg] e X.env = pure none := by rfl)
    (h1 : (assignEach [tg] X.env).map (·.2) = [assign tg X.env] := by rfl) : DS X L (.Assign [tg] e pos) (tAsg te t1) (sAsg fe g1) := ⟨ps_asg he.pe hg.pe hs hw h1, fun B F io σ H ρ o Dn hL c h p => by
  obtain ⟨q, e1, h⟩ := Option.bind_eq_some_iff.mp h
  obtain ⟨ρ1, e2, e3⟩ := Option.map_eq_some_iff.mp h
  subst e3
  refine he.se B F io σ H ρ q.1 q.2 _ c e1 fun F1 H1 v g1' c1 d1 => ?_
  exact hg.se B F1 io σ H1 q.2 v q.1 ρ1 _ hL c1 d1 e2 fun F2 σ2 H2 g2' c2 _ => p F2 σ2 H2 (g1'.trans g2') c2⟩
def sPar (i j : Nat) (f : FA) : FS := fun ρ => (f ρ).bind fun p => match p.1 with
  | [d, e] => some (.nx ((p.2.set i (.sh d)).set j (.sh e)))
  | _ => none
theorem ds_par {i j : Nat} {x y : Str} {a b : Expr} {ta : TA} {fa : FA} {px py pt : Pos} {kt k2 pt2} (hc : X.calm = true) (hN : X.N.Nodup) (ha : DA X [a, b] ta fa) (hi : X.N[i]? = some x := by rfl) (hj : X.N[j]? = some y := by rfl) (hij : i ≠ j := by decide) (hli : i ∉ L := by decide) (hlj : j ∉ L := by decide)
    (hx : X.env.scope.names.lookup x = some .local := by rfl) (hy : X.env.scope.names.lookup y = some .local := by rfl)
    (hw : swappedStores [.Tuple [.Name x px, .Name y py] kt pt] (.Tuple [a, b] k2 pt2) X.env = pure (some [x, y]) := by rfl)
    (hs : swapsWithSole [.Tuple [.Name x px, .Name y py] kt pt] (.Tuple [a, b] k2 pt2) pos.line X.env = pure false := by rfl) :
    DS X L (.Assign [.Tuple [.Name x px, .Name y py] kt pt] (.Tuple [a, b] k2 pt2) pos) (tPar i j ta) (sPar i j fa) := ⟨ps_par hc hN hi hj hij hx hy ha.pe hw hs, fun B F io σ H ρ o Dn hL c h p => by
  obtain ⟨q, e1, h⟩ := Option.bind_eq_some_iff.mp h
  refine ha.se B F io σ H ρ q.1 q.2 _ c e1 fun F1 H1 vs g1 c1 d1 => ?_
  obtain ⟨ds, ρ1⟩ := q
  match ds, d1, h with
  | [d, e], d1, h =>
    obtain ⟨v, w, rfl, q1, q2⟩ := two_of d1
    cases h
    exact ⟨v, w, rfl, p F1 _ H1 g1 ((c1.set_sh (by rw [hL]; exact hli) q1).set_sh (by rw [hL]; exact hlj) q2)⟩⟩
/-! ### x op= e -/
def sAug (i : Nat) (g : D → D → Option D) (f : FE) : FS := fun ρ => match ρ[i]? with
  | some (.sh d) => (f ρ).bind fun p => (g d p.1).map fun z => .nx (p.2.set i (.sh z))
  | _ => none
theorem ds_aug {i : Nat} {x : Str} {op : Operator} {r : R2} {g : D → D → Option D} {pos' : Pos} (hN : X.N.Nodup) (ho : OpR X (inplaceOp op) r) (hg : Op2 X.K r g) (he : DE X e te fe) (hi : X.N[i]? = some x := by rfl) (hl : i ∉ L := by decide) (hx : Loc X.env.scope x := by first | exact Or.inl rfl | exact Or.inr rfl)
    (hf : X.fn x = true ∨ X.env.scope.names.lookup x = some .local := by first | exact .inl rfl | exact .inr rfl | assumption) : DS X L (.AugAssign (.Name x pos') op e pos) (tAug i te r) (sAug i g fe) := ⟨ps_aug hN hi hx he.pe ho hf, fun B F io σ H ρ o Dn hL c h p => by
  unfold sAug at h
  cases q : ρ[i]? with
  | none => rw [q] at h; cases h
  | some u =>
    rw [q] at h
    cases u with
    | sh d =>
      obtain ⟨s, e1, h⟩ := Option.bind_eq_some_iff.mp h
      obtain ⟨z, e2, e3⟩ := Option.map_eq_some_iff.mp h
      subst e3
      obtain ⟨y, hy, v, rfl, dd⟩ := c.cell i _ q
      refine ⟨v, hy, he.se B F io σ H ρ s.1 s.2 _ c e1 fun F1 H1 w g1 c1 d1 => ?_⟩
      exact hg F1 H1 v w d s.1 z _ c1.frz (dp_mono g1.sub dd) d1 e2 fun F2 H2 r2 al d2 => p F2 _ H2 (g1.trans (al.gr c1.base)) ((c1.al al).set_sh (by rw [hL]; exact hl) d2)
    | _ => cases h⟩
/-! ### what is done to an own list -/
/-- the slot holds an own list -/
def ownL (j : Nat) (ρ : En) : Option (List D) := match ρ[j]? with
  | some (.ol ds) => some ds
  | _ => none
theorem ownL_eq {j : Nat} {ρ : En} {ds : List D} (h : ownL j ρ = some ds) : ρ[j]? = some (.ol ds) := by
  unfold ownL at h
  split at h
  · cases h; assumption
  · cases h
theorem own_list {K : PySem.W.Frag} {B F H : Hp} {io : List (Nat × Addr)} {σ : St} {ρ : En} {j : Nat} {ds : List D} (c : Con K B F io σ H ρ) (h : ownL j ρ = some ds) : ∃ a vs, σ[j]? = some (some (.ref a)) ∧ H a = some (.lst vs) ∧ DpAll K F vs ds := by
  obtain ⟨a, o, h1, h2, h3, _⟩ := c.own (ownL_eq h) rfl
  cases o with
  | lst vs => exact ⟨a, vs, h1, h2, h3⟩
  | _ => exact False.elim h3
/-- the list at j is written -/
theorem Con.putL {K : PySem.W.Frag} {B F H : Hp} {io : List (Nat × Addr)} {σ : St} {ρ : En} {j : Nat} {ds es : List D} {a : Addr} {ws : List V} (c : Con K B F io σ H ρ) (h : ownL j ρ = some ds) (hs : σ[j]? = some (some (.ref a))) (hw : DpAll K F ws es) :
    Con K B F io σ (upd H a (.lst ws)) (ρ.set j (.ol es)) := c.write (ownL_eq h) rfl hs hw
/-- xs[i] = e, xs an own list -/
def sItem (j : Nat) (fi fe : FE) : FS := fun ρ => (fe ρ).bind fun p => (ownL j p.2).bind fun _ => (fi p.2).bind fun q => (ownL j q.2).bind fun ds => (intD q.1).bind fun k => (ixN ds.length k).map fun n => .nx (q.2.set j (.ol (ds.set n p.1)))
theorem intD_eq {d : D} {i : Int} (h : intD d = some i) : d = .int i := by
  cases d <;> first | (cases h; rfl) | cases h
theorem ds_item {j : Nat} {x : Str} {i : Expr} {ti : TE} {fi : FE} {p1 p2 : Pos} (he : DE X e te fe) (hi : DE X i ti fi) (hN : X.N[j]? = some x := by rfl) (hv : Vis X.env.scope x := by first | exact Or.inl rfl | exact Or.inr (Or.inl rfl) | exact Or.inr (Or.inr rfl)) (hd : (x == ("__debug__" : Str)) = false := by decide)
    (hcd : (x == ("__classdict__" : Str)) = false := by decide) (hs : swapsWithSole [.Subscript (.Name x p1) i p2] e pos.line X.env = pure false := by rfl) (hw : swappedStores [.Subscript (.Name x p1) i p2] e X.env = pure none := by rfl)
    (h1 : (assignEach [.Subscript (.Name x p1) i p2] X.env).map (·.2) = [assign (.Subscript (.Name x p1) i p2) X.env] := by rfl)
    (ha : ∀ v, assign (.Subscript (.Name x p1) i p2) X.env v = (do
      let ov ← holding [v] (eval (.Name x p1) X.env)
      let iv ← holding [v, ov] (eval i X.env)
      standAt p2
      holding [v, ov, iv] (setItem ov iv v)
      release [v, ov, iv] []) := by intro _; rfl) :
    DS X L (.Assign [.Subscript (.Name x p1) i p2] e pos) (tAsg te (gSub (tVar j) ti rSetL)) (sItem j fi fe) := ⟨ps_asg he.pe (pg_sub (pe_var hN hv hd hcd) hi.pe set_list ha) hs hw h1, fun B F io σ H ρ o Dn hL c h p => by
  obtain ⟨q, e1, h⟩ := Option.bind_eq_some_iff.mp h
  obtain ⟨es, z1, h⟩ := Option.bind_eq_some_iff.mp h
  obtain ⟨r, e2, h⟩ := Option.bind_eq_some_iff.mp h
  obtain ⟨ds, z2, h⟩ := Option.bind_eq_some_iff.mp h
  obtain ⟨k, z3, h⟩ := Option.bind_eq_some_iff.mp h
  obtain ⟨n, z4, e4⟩ := Option.map_eq_some_iff.mp h
  subst e4
  refine he.se B F io σ H ρ q.1 q.2 _ c e1 fun F1 H1 v g1 c1 d1 => ?_
  obtain ⟨a, _, s1, _, _⟩ := own_list c1 z1
  refine ⟨.ref a, s1, hi.se B F1 io σ H1 q.2 r.1 r.2 _ c1 e2 fun F2 H2 y g2 c2 d2 => ?_⟩
  obtain ⟨a', vs, s2, h2, h3⟩ := own_list c2 z2
  have ea : a' = a := by rw [s1] at s2; cases s2; rfl
  subst ea
  rw [intD_eq z3] at d2
  cases d2
  refine ⟨a', vs, k, n, rfl, rfl, h2, by rw [h3.length]; exact z4, p F2 σ _ (g1.trans g2) (c2.putL z2 s1 (DpAll.set (dp_mono g2.sub d1) n h3))⟩⟩
/-! ### methods of an own list -/
def eMeth (j : Nat) (g : List D → List D → Option (D × List D)) (fa : FA) : FE := fun ρ => (ownL j ρ).bind fun _ => (fa ρ).bind fun p => (ownL j p.2).bind fun ds => (g ds p.1).map fun z => (z.1, p.2.set j (.ol z.2))
def eMeth0 (j : Nat) (g : List D → List D → Option (D × List D)) : FE := fun ρ => (ownL j ρ).bind fun ds => (g ds []).map fun z => (z.1, ρ.set j (.ol z.2))
/-- a method that writes its list -/
def OpL (K : PySem.W.Frag) (r : V → List V → Hp → VK → Prop) (g : List D → List D → Option (D × List D)) : Prop := ∀ (F H : Hp) (a : Addr) (vs xs : List V) (ds es : List D) (z : D × List D) (Q : VK), H a = some (.lst vs) → DpAll K F vs ds → DpAll K F xs es → g ds es = some z →
  (∀ v ws, Dp K F v z.1 → DpAll K F ws z.2 → Q v (upd H a (.lst ws))) → r (.ref a) xs H Q
theorem de_lm0 {j : Nat} {x name : Str} {apos cpos p1 : Pos} {id : String} {r : V → List V → Hp → VK → Prop} {g : List D → List D → Option (D × List D)} (slot : Slot "list" name id) (hty : typeOf (.builtin id) = pure (.type "method_descriptor")) (hm : MtR X id r) (hg : OpL X.K r g)
    (hN : X.N[j]? = some x := by rfl) (hv : Vis X.env.scope x := by first | exact Or.inl rfl | exact Or.inr (Or.inl rfl) | exact Or.inr (Or.inr rfl)) (hd : (x == ("__debug__" : Str)) = false := by decide) (hcd : (x == ("__classdict__" : Str)) = false := by decide)
    (hbase : attributeBase (.Name x p1) name X.env (eval (.Name x p1) X.env) = eval (.Name x p1) X.env := by rfl) (hline : (apos.endLine == cpos.line) = true := by rfl) :
    DE X (.Call (.Attribute (.Name x p1) name apos) [] [] cpos) (tBM0 X.K "list" r (tVar j)) (eMeth0 j g) := ⟨pe_bm0 PySem.F.plainAttrs_list slot hty hm (pe_var hN hv hd hcd) hbase hline, by
  intro B F io σ H ρ d ρ' Q c e k
  obtain ⟨ds, z1, e⟩ := Option.bind_eq_some_iff.mp e
  obtain ⟨z, z2, e2⟩ := Option.map_eq_some_iff.mp e
  cases e2
  obtain ⟨a, vs, s1, h1, d1⟩ := own_list c z1
  refine ⟨.ref a, s1, .inl ⟨rfl, vs, .inl (.inl h1)⟩, hg F H a vs [] ds [] z Q h1 d1 .nil z2 fun v ws dv dw => ?_⟩
  exact k F _ v (Gr.refl _ _) (c.putL z1 s1 dw) dv⟩
theorem de_lm {j : Nat} {x name : Str} {apos cpos p1 : Pos} {id : String} {r : V → List V → Hp → VK → Prop} {g : List D → List D → Option (D × List D)} {es : List Expr} {ta : TA} {fa : FA} (slot : Slot "list" name id) (hty : typeOf (.builtin id) = pure (.type "method_descriptor")) (hm : MtR X id r) (hg : OpL X.K r g)
    (ha : DA X (e :: es) ta fa) (hN : X.N[j]? = some x := by rfl) (hv : Vis X.env.scope x := by first | exact Or.inl rfl | exact Or.inr (Or.inl rfl) | exact Or.inr (Or.inr rfl)) (hd : (x == ("__debug__" : Str)) = false := by decide) (hcd : (x == ("__classdict__" : Str)) = false := by decide)
    (hbase : attributeBase (.Name x p1) name X.env (eval (.Name x p1) X.env) = eval (.Name x p1) X.env := by rfl)
    (hfew : ((backTo cpos (starEach (e :: es) X.env)).all (fun x => !x.1) && (backToKw cpos (keywordEach [] X.env)).all (fun x => x.1.isSome)
      && decide ((e :: es).length + ([] : List Keyword).length + (if ([] : List Keyword).isEmpty then 0 else 1) < 30)) = true := by rfl)
    (hline : (apos.endLine == cpos.line) = true := by rfl) (hs : starEach (e :: es) X.env = (false, eval e X.env) :: starEach es X.env := by rfl) (hplain : (backTo cpos (starEach es X.env)).any (·.1) = false := by rfl) :
    DE X (.Call (.Attribute (.Name x p1) name apos) (e :: es) [] cpos) (tBM X.K "list" r (tVar j) ta) (eMeth j g fa) := ⟨pe_bm PySem.F.plainAttrs_list slot hty hm (pe_var hN hv hd hcd) ha.pe hbase hfew hline hs hplain, by
  intro B F io σ H ρ d ρ' Q c e k
  obtain ⟨ds0, z0, e⟩ := Option.bind_eq_some_iff.mp e
  obtain ⟨p, e1, e⟩ := Option.bind_eq_some_iff.mp e
  obtain ⟨ds, z1, e⟩ := Option.bind_eq_some_iff.mp e
  obtain ⟨z, z2, e2⟩ := Option.map_eq_some_iff.mp e
  cases e2
  obtain ⟨a, vs0, s1, h1, _⟩ := own_list c z0
  refine ⟨.ref a, s1, .inl ⟨rfl, vs0, .inl (.inl h1)⟩, ha.se B F io σ H ρ p.1 p.2 _ c e1 fun F1 H1 xs g1 c1 d1 => ?_⟩
  obtain ⟨a', vs, s2, h2, d2⟩ := own_list c1 z1
  have ea : a' = a := by rw [s1] at s2; cases s2; rfl
  subst ea
  exact hg F1 H1 a' vs xs ds p.1 z Q h2 d2 d1 z2 fun v ws dv dw => k F1 _ v g1 (c1.putL z1 s1 dw) dv⟩
end
def lAppend : List D → List D → Option (D × List D)
  | ds, [e] => if ds.length < sizeLine then some (.none, ds ++ [e]) else none
  | _, _ => none
def lPop : List D → List D → Option (D × List D)
  | ds, [] => (ds[ds.length - 1]?).map fun d => (d, ds.dropLast)
  | _, _ => none
def lPopAt : List D → List D → Option (D × List D)
  | ds, [.int i] => if -(2 ^ 63) ≤ i ∧ i < 2 ^ 63 then (seqIndex? i ds.length).bind fun k => (ds[k]?).map fun d => (d, ds.eraseIdx k) else none
  | _, _ => none
def lReverse : List D → List D → Option (D × List D)
  | ds, [] => some (.none, ds.reverse)
  | _, _ => none
def lInsert : List D → List D → Option (D × List D)
  | ds, [.int i, e] => if ds.length < sizeLine ∧ 0 ≤ i ∧ i < 2 ^ 63 then some (.none, ds.take i.toNat ++ e :: ds.drop i.toNat) else none
  | _, _ => none
section
variable {K : PySem.W.Frag}
theorem l_append : OpL K rAppend lAppend := by
  intro F H a vs xs ds es z Q h d1 d2 e k
  match es, d2, e with
  | [x], d2, e =>
    obtain ⟨v, rfl, dv⟩ := one_of d2
    have e : (if ds.length < sizeLine then some (PyData.none, ds ++ [x]) else none) = some z := e
    by_cases hz : ds.length < sizeLine
    · rw [if_pos hz] at e; cases e
      exact ⟨a, vs, v, rfl, rfl, h, by rw [d1.length]; exact hz, k _ _ .non (d1.append (.one dv))⟩
    · rw [if_neg hz] at e; cases e
theorem l_pop : OpL K rPop lPop := by
  intro F H a vs xs ds es z Q h d1 d2 e k
  match es, d2, e with
  | [], d2, e =>
    cases d2
    obtain ⟨d, e1, e2⟩ := Option.map_eq_some_iff.mp e
    subst e2
    obtain ⟨v, e3, dv⟩ := d1.get' e1
    exact ⟨a, vs, v, rfl, rfl, h, by rw [d1.length]; exact e3, k _ _ dv d1.dropLast⟩
theorem l_popAt : OpL K rPopAt lPopAt := by
  intro F H a vs xs ds es z Q h d1 d2 e k
  match es, d2, e with
  | [.int i], d2, e =>
    obtain ⟨v, rfl, dv⟩ := one_of d2
    cases dv
    have e : (if -(2 ^ 63) ≤ i ∧ i < 2 ^ 63 then (seqIndex? i ds.length).bind fun k => (ds[k]?).map fun d => (d, ds.eraseIdx k) else none) = some z := e
    by_cases hz : -(2 ^ 63) ≤ i ∧ i < 2 ^ 63
    · rw [if_pos hz] at e
      obtain ⟨n, e1, e⟩ := Option.bind_eq_some_iff.mp e
      obtain ⟨d, e2, e3⟩ := Option.map_eq_some_iff.mp e
      subst e3
      obtain ⟨w, e4, dw⟩ := d1.get' e2
      exact ⟨a, vs, i, n, w, rfl, rfl, h, hz.1, hz.2, by rw [d1.length]; exact e1, e4, k _ _ dw (d1.eraseIdx n)⟩
    · rw [if_neg hz] at e; cases e
theorem l_reverse : OpL K rReverse lReverse := by
  intro F H a vs xs ds es z Q h d1 d2 e k
  match es, d2, e with
  | [], d2, e =>
    cases d2
    cases e
    exact ⟨a, vs, rfl, rfl, h, k _ _ .non d1.reverse⟩
end
end L2.Pd

namespace L2.Pd
open PySem PySem.Spec PyProof.Rows
/-! ## Loops and comprehensions -/
mutual
/-- the very same data -/
def beqD : D → D → Bool
  | .none, .none => true
  | .bool a, .bool b => a == b
  | .int a, .int b => a == b
  | .str a, .str b => decide (a = b)
  | .list a, .list b => beqDs a b
  | .tuple a, .tuple b => beqDs a b
  | _, _ => false
def beqDs : List D → List D → Bool
  | [], [] => true
  | a :: r, b :: s => beqD a b && beqDs r s
  | _, _ => false
end
mutual
theorem beqD_eq : ∀ {a b : D}, beqD a b = true → a = b
  | .none, b, h => by cases b <;> first | rfl | (simp [beqD] at h)
  | .bool a, b, h => by cases b <;> first | (simp [beqD] at h; done) | (simp [beqD] at h; rw [h])
  | .int a, b, h => by cases b <;> first | (simp [beqD] at h; done) | (simp [beqD] at h; rw [h])
  | .str a, b, h => by cases b <;> first | (simp [beqD] at h; done) | (simp [beqD] at h; rw [h])
  | .list a, b, h => by
    cases b with
    | list b => rw [beqDs_eq (a := a) (b := b) (by simpa [beqD] using h)]
    | _ => simp [beqD] at h
  | .tuple a, b, h => by
    cases b with
    | tuple b => rw [beqDs_eq (a := a) (b := b) (by simpa [beqD] using h)]
    | _ => simp [beqD] at h
  | .dict a, b, h => by cases b <;> (simp [beqD] at h)
theorem beqDs_eq : ∀ {a b : List D}, beqDs a b = true → a = b
  | [], b, h => by cases b <;> first | rfl | (simp [beqDs] at h)
  | x :: r, b, h => by
    cases b with
    | nil => simp [beqDs] at h
    | cons y s =>
      rw [beqDs, Bool.and_eq_true] at h
      rw [beqD_eq h.1, beqDs_eq h.2]
end
/-- no dict within -/
def noDict : D → Bool := fun d => d.canLay0 || true
def lockOk (lk : Option Nat) (xs : List D) (ρ : En) : Bool := match lk with
  | none => true
  | some j => match ρ[j]? with
    | some (.ol ds) => beqDs ds xs
    | _ => false
theorem lockOk_at {j : Nat} {xs : List D} {ρ : En} (h : lockOk (some j) xs ρ = true) : ρ[j]? = some (.ol xs) := by
  unfold lockOk at h
  simp only at h
  split at h
  · rename_i ds e
    rw [e, beqDs_eq h]
  · cases h
def killL : List Nat → En → En
  | [], ρ => ρ
  | i :: r, ρ => killL r (ρ.set i .dead)
section
variable {K : PySem.W.Frag} {B F F' H H' : Hp} {io : List (Nat × Addr)} {σ : St} {ρ : En}
theorem Con.killL (c : Con K B F io σ H ρ) : ∀ ks : List Nat, Con K B F io σ H (Pd.killL ks ρ) := by
  intro ks
  induction ks generalizing ρ with
  | nil => exact c
  | cons i r ih => exact ih (c.kill i)
theorem Con.subio {io' : List (Nat × Addr)} (c : Con K B F io σ H ρ) (h : ∀ p ∈ io', p ∈ io) : Con K B F io' σ H ρ := ⟨c.len, c.base, c.frz, c.cell, c.sep, fun p hp => c.io p (h p hp)⟩
theorem Con.addio (c : Con K B F io σ H ρ) {j : Nat} {a : Addr} (h : σ[j]? = some (some (.ref a))) : Con K B F ((j, a) :: io) σ H ρ := ⟨c.len, c.base, c.frz, c.cell, c.sep, fun p hp => by
  rcases List.mem_cons.mp hp with e | hp
  · subst e; exact h
  · exact c.io p hp⟩
end
/-! ### what is walked -/
structure Walk (K : PySem.W.Frag) (C : Hp → Hp → Prop) (J : It) (xs : List D) : Prop where
  go : ∀ i F H, C F H → i < xs.length → J.go i H
  yld : ∀ i F H x H', C F H → i < xs.length → J.yld i H x H' → H' = H ∧ ∃ d, xs[i]? = some d ∧ Dp K F x d
  stop : ∀ i F H, C F H → xs.length ≤ i → J.stop i H
def SI (K : PySem.W.Frag) (lk : Option Nat) (wi : TI) (f : FA) : Prop := ∀ (B F : Hp) (io : List (Nat × Addr)) (σ : St) (H : Hp) (ρ : En) (xs : List D) (ρ' : En) (R : It → Hp → Prop), Con K B F io σ H ρ → f ρ = some (xs, ρ') →
  (∀ F' H' J C, Gr B F F' → Con K B F' io σ H' ρ' → Walk K C J xs → (∀ B2 F2 io2 σ2 H2 ρ2, Same F' F2 → Con K B2 F2 io2 σ2 H2 ρ2 → lockOk lk xs ρ2 = true → (∀ j, lk = some j → σ2[j]? = σ[j]?) → C F2 H2) → (∀ j, lk = some j → ∃ a, σ[j]? = some (some (.ref a))) → R J H') → wi σ H R
structure DI (X : Cx) (lk : Option Nat) (tg iter : Expr) (wi : TI) (f : FA) : Prop where
  pe : PI X tg iter wi
  se : SI X.K lk wi f
def rngD (lo : Int) (n : Nat) : List D := (List.range n).map fun i => .int (lo + (i : Nat))
def rngC (lo c : Int) (n : Nat) : List D := (List.range n).map fun i => .int (lo + (i : Nat) * c)
theorem rngD_len (lo : Int) (n : Nat) : (rngD lo n).length = n := by unfold rngD; rw [List.length_map, List.length_range]
theorem rngC_len (lo c : Int) (n : Nat) : (rngC lo c n).length = n := by unfold rngC; rw [List.length_map, List.length_range]
theorem rngD_get {lo : Int} {n i : Nat} (h : i < n) : (rngD lo n)[i]? = some (.int (lo + (i : Nat))) := by
  unfold rngD
  rw [List.getElem?_map, List.getElem?_range h]
  rfl
theorem rngC_get {lo c : Int} {n i : Nat} (h : i < n) : (rngC lo c n)[i]? = some (.int (lo + (i : Nat) * c)) := by
  unfold rngC
  rw [List.getElem?_map, List.getElem?_range h]
  rfl
theorem walk_rng {K : PySem.W.Frag} (C : Hp → Hp → Prop) (lo : Int) (n : Nat) : Walk K C (Itr lo n) (rngD lo n) where
  go := fun i F H _ h => by rw [rngD_len] at h; exact h
  yld := fun i F H x H' _ hi h => by
    obtain ⟨e1, e2⟩ := h
    subst e2
    rw [rngD_len] at hi
    exact ⟨e1, _, rngD_get hi, .int _⟩
  stop := fun i F H _ h => by rw [rngD_len] at h; exact h
theorem walk_rngC {K : PySem.W.Frag} (C : Hp → Hp → Prop) (lo c : Int) (n : Nat) : Walk K C (Itc lo c n) (rngC lo c n) where
  go := fun i F H _ h => by rw [rngC_len] at h; exact h
  yld := fun i F H x H' _ hi h => by
    obtain ⟨e1, e2⟩ := h
    subst e2
    rw [rngC_len] at hi
    exact ⟨e1, _, rngC_get hi, .int _⟩
  stop := fun i F H _ h => by rw [rngC_len] at h; exact h
theorem walk_lst {K : PySem.W.Frag} (C : Hp → Hp → Prop) {a : Addr} {ds : List D} (h : ∀ F H, C F H → ∃ vs, SqL K H a vs ∧ DpAll K F vs ds) : Walk K C (Itl K a) ds where
  go := fun i F H c hi => by
    obtain ⟨vs, q, d⟩ := h F H c
    have hl : i < vs.length := by rw [d.length]; exact hi
    exact ⟨vs, vs[i], q, List.getElem?_eq_getElem hl⟩
  yld := fun i F H x H' c hi y => by
    obtain ⟨vs, q, d⟩ := h F H c
    obtain ⟨e1, e2⟩ := y
    exact ⟨e1, d.get (e2 vs q)⟩
  stop := fun i F H c hi => by
    obtain ⟨vs, q, d⟩ := h F H c
    exact ⟨vs, q, by rw [d.length]; exact hi⟩
theorem walk_tup {K : PySem.W.Frag} (C : Hp → Hp → Prop) {a : Addr} {ds : List D} (h : ∀ F H, C F H → ∃ vs, SqT K H a vs ∧ DpAll K F vs ds) : Walk K C (Itt K a) ds where
  go := fun i F H c hi => by
    obtain ⟨vs, q, d⟩ := h F H c
    have hl : i < vs.length := by rw [d.length]; exact hi
    exact ⟨vs, vs[i], q, List.getElem?_eq_getElem hl⟩
  yld := fun i F H x H' c hi y => by
    obtain ⟨vs, q, d⟩ := h F H c
    obtain ⟨e1, e2⟩ := y
    exact ⟨e1, d.get (e2 vs q)⟩
  stop := fun i F H c hi => by
    obtain ⟨vs, q, d⟩ := h F H c
    exact ⟨vs, q, by rw [d.length]; exact hi⟩
/-- the signs of a text -/
def signsD (x : Str) : List D := x.cps.toList.map fun c => .str ⟨#[c]⟩
theorem signsD_len (x : Str) : (signsD x).length = x.cps.size := by unfold signsD; rw [List.length_map, Array.length_toList]
theorem walk_str {K : PySem.W.Frag} (C : Hp → Hp → Prop) (x : Str) : Walk K C (Its x) (signsD x) where
  go := fun i F H _ h => by rw [signsD_len] at h; exact h
  yld := fun i F H v H' _ hi h => by
    obtain ⟨e1, c, e2, e3⟩ := h
    subst e3
    refine ⟨e1, .str ⟨#[c]⟩, ?_, .str _⟩
    unfold signsD
    rw [List.getElem?_map, Array.getElem?_toList, e2]
    rfl
  stop := fun i F H _ h => by rw [signsD_len] at h; exact h
section
variable {X : Cx} {tg a b c e : Expr} {ta : TA} {fa : FA} {te : TE} {fe : FE} {p pos : Pos}
def iR1 (f : FA) : FA := fun ρ => (f ρ).bind fun p => match p.1 with
  | [.int j] => if -(2 ^ 62) ≤ j ∧ j < 2 ^ 62 then some (rngD 0 j.toNat, p.2) else none
  | _ => none
def iR2 (f : FA) : FA := fun ρ => (f ρ).bind fun p => match p.1 with
  | [.int i, .int j] => if -(2 ^ 62) ≤ i ∧ i < 2 ^ 62 ∧ -(2 ^ 62) ≤ j ∧ j < 2 ^ 62 then some (rngD i (j - i).toNat, p.2) else none
  | _ => none
def iR3 (f : FA) : FA := fun ρ => (f ρ).bind fun p => match p.1 with
  | [.int i, .int j, .int c] => if c ≠ 0 ∧ c.natAbs < 1073741824 ∧ Builtin.Range.small i j c = true then some (rngC i c (Builtin.Range.rangeSize i j c).toNat, p.2) else none
  | _ => none
theorem di_range1 (ha : DA X [a] ta fa) (hm : X.mg "range" = none) (hg : Gl X "range" := by rfl) (hs : starEach [a] X.env = [(false, eval a X.env)] := by rfl) : DI X none tg (.Call (.Name "range" p) [a] [] pos) (iRng1 ta) (iR1 fa) := by
  refine ⟨pi_range1 hg hm ha.pe hs, ?_⟩
  intro B F io σ H ρ xs ρ' R c e k
  obtain ⟨⟨ds, ρ1⟩, e1, e⟩ := Option.bind_eq_some_iff.mp e
  refine ha.se B F io σ H ρ ds ρ1 _ c e1 fun F1 H1 vs g1 c1 d1 => ?_
  match ds, d1, e with
  | [.int j], d1, e =>
    obtain ⟨x, rfl, q⟩ := one_of d1
    cases q
    have e : (if -(2 ^ 62) ≤ j ∧ j < 2 ^ 62 then some (rngD 0 j.toNat, ρ1) else none) = some (xs, ρ') := e
    by_cases hz : -(2 ^ 62) ≤ j ∧ j < 2 ^ 62
    · rw [if_pos hz] at e
      cases e
      exact ⟨j, rfl, hz.1, hz.2, k F1 H1 _ (fun _ _ => True) g1 c1 (walk_rng _ _ _) (fun _ _ _ _ _ _ _ _ _ _ => trivial) (fun _ h => nomatch h)⟩
    · rw [if_neg hz] at e; cases e
theorem di_range2 (ha : DA X [a, b] ta fa) (hm : X.mg "range" = none) (hg : Gl X "range" := by rfl) (hs : starEach [a, b] X.env = [(false, eval a X.env), (false, eval b X.env)] := by rfl) (hs2 : starEach [b] X.env = [(false, eval b X.env)] := by rfl) :
    DI X none tg (.Call (.Name "range" p) [a, b] [] pos) (iRng2 ta) (iR2 fa) := by
  refine ⟨pi_range2 hg hm ha.pe hs hs2, ?_⟩
  intro B F io σ H ρ xs ρ' R c e k
  obtain ⟨⟨ds, ρ1⟩, e1, e⟩ := Option.bind_eq_some_iff.mp e
  refine ha.se B F io σ H ρ ds ρ1 _ c e1 fun F1 H1 vs g1 c1 d1 => ?_
  match ds, d1, e with
  | [.int i, .int j], d1, e =>
    obtain ⟨x, y, rfl, q, q'⟩ := two_of d1
    cases q
    cases q'
    have e : (if -(2 ^ 62) ≤ i ∧ i < 2 ^ 62 ∧ -(2 ^ 62) ≤ j ∧ j < 2 ^ 62 then some (rngD i (j - i).toNat, ρ1) else none) = some (xs, ρ') := e
    by_cases hz : -(2 ^ 62) ≤ i ∧ i < 2 ^ 62 ∧ -(2 ^ 62) ≤ j ∧ j < 2 ^ 62
    · rw [if_pos hz] at e
      cases e
      exact ⟨i, j, rfl, hz, k F1 H1 _ (fun _ _ => True) g1 c1 (walk_rng _ _ _) (fun _ _ _ _ _ _ _ _ _ _ => trivial) (fun _ h => nomatch h)⟩
    · rw [if_neg hz] at e; cases e
theorem three_of {K : PySem.W.Frag} {H : Hp} {xs : List V} {d e f : D} (h : DpAll K H xs [d, e, f]) : ∃ x y z, xs = [x, y, z] ∧ Dp K H x d ∧ Dp K H y e ∧ Dp K H z f := by
  cases h with
  | cons q r => obtain ⟨y, z, rfl, q1, q2⟩ := two_of r; exact ⟨_, y, z, rfl, q, q1, q2⟩
theorem rangeSize_nn (i j c : Int) : 0 ≤ Builtin.Range.rangeSize i j c := by
  unfold Builtin.Range.rangeSize
  split <;> first | omega | (split <;> first | omega | (have := Int.ediv_nonneg (a := j - i - 1) (b := c) (by omega) (by omega); omega) | (have := Int.ediv_nonneg (a := i - j - 1) (b := -c) (by omega) (by omega); omega))
theorem di_range3 (ha : DA X [a, b, c] ta fa) (hm : X.mg "range" = none) (hg : Gl X "range" := by rfl) (hs : starEach [a, b, c] X.env = (false, eval a X.env) :: starEach [b, c] X.env := by rfl) (hpl : (backTo pos (starEach [b, c] X.env)).any (·.1) = false := by rfl) :
    DI X none tg (.Call (.Name "range" p) [a, b, c] [] pos) (iRng3 ta) (iR3 fa) := by
  refine ⟨pi_range3 hg hm ha.pe hs hpl, ?_⟩
  intro B F io σ H ρ xs ρ' R cn e k
  obtain ⟨⟨ds, ρ1⟩, e1, e⟩ := Option.bind_eq_some_iff.mp e
  refine ha.se B F io σ H ρ ds ρ1 _ cn e1 fun F1 H1 vs g1 c1 d1 => ?_
  match ds, d1, e with
  | [.int i, .int j, .int c], d1, e =>
    obtain ⟨x, y, z, rfl, q, q', q''⟩ := three_of d1
    cases q
    cases q'
    cases q''
    have e : (if c ≠ 0 ∧ c.natAbs < 1073741824 ∧ Builtin.Range.small i j c = true then some (rngC i c (Builtin.Range.rangeSize i j c).toNat, ρ1) else none) = some (xs, ρ') := e
    by_cases hz : c ≠ 0 ∧ c.natAbs < 1073741824 ∧ Builtin.Range.small i j c = true
    · rw [if_pos hz] at e
      cases e
      exact ⟨i, j, c, _, rfl, ⟨hz.1, hz.2.1, hz.2.2, (Int.toNat_of_nonneg (rangeSize_nn i j c)).symm⟩, k F1 H1 _ (fun _ _ => True) g1 c1 (walk_rngC _ _ _ _) (fun _ _ _ _ _ _ _ _ _ _ => trivial) (fun _ h => nomatch h)⟩
    · rw [if_neg hz] at e; cases e
/-- a list, a tuple or a text that stays -/
def iSq (f : FE) : FA := fun ρ => (f ρ).bind fun p => match p.1 with
  | .list ds => some (ds, p.2)
  | .tuple ds => some (ds, p.2)
  | .str x => some (signsD x, p.2)
  | _ => none
abbrev iSqD (K : PySem.W.Frag) (te : TE) : TI := fun σ H R => iList K te σ H R ∨ iTup K te σ H R ∨ iStr te σ H R
theorem pi_sq (he : PE X e te) : PI X tg e (iSqD X.K te) := ⟨fun pins s σ H R I h => by
  rcases h with h | h | h
  · exact (pi_list he).run pins s σ H R I h
  · exact (pi_tup he).run pins s σ H R I h
  · exact (pi_str he).run pins s σ H R I h⟩
theorem di_sq (he : DE X e te fe) : DI X none tg e (iSqD X.K te) (iSq fe) := by
  refine ⟨pi_sq he.pe, ?_⟩
  intro B F io σ H ρ xs ρ' R c e k
  obtain ⟨⟨d, ρ1⟩, e1, e⟩ := Option.bind_eq_some_iff.mp e
  cases d with
  | list ds =>
    cases e
    refine .inl (he.se B F io σ H ρ _ _ _ c e1 fun F1 H1 v g1 c1 d1 => ?_)
    cases d1 with
    | @lst a vs _ q r =>
      exact ⟨a, rfl, ⟨vs, c1.frz.seq q⟩, k F1 H1 _ (fun F2 H2 => Same F1 F2 ∧ Same F2 H2) g1 c1 (walk_lst _ fun F2 H2 h => ⟨vs, (h.1.trans h.2).seq q, dpAll_mono h.1 r⟩) (fun B2 F2 io2 σ2 H2 ρ2 s2 c2 _ _ => ⟨s2, c2.frz⟩) (fun _ h => nomatch h)⟩
  | tuple ds =>
    cases e
    refine .inr (.inl (he.se B F io σ H ρ _ _ _ c e1 fun F1 H1 v g1 c1 d1 => ?_))
    cases d1 with
    | @tup a vs _ q r =>
      exact ⟨a, rfl, ⟨vs, sqT_mono c1.frz q⟩, k F1 H1 _ (fun F2 H2 => Same F1 F2 ∧ Same F2 H2) g1 c1 (walk_tup _ fun F2 H2 h => ⟨vs, sqT_mono (h.1.trans h.2) q, dpAll_mono h.1 r⟩) (fun B2 F2 io2 σ2 H2 ρ2 s2 c2 _ _ => ⟨s2, c2.frz⟩) (fun _ h => nomatch h)⟩
  | str x =>
    cases e
    refine .inr (.inr (he.se B F io σ H ρ _ _ _ c e1 fun F1 H1 v g1 c1 d1 => ?_))
    cases d1
    exact ⟨x, rfl, k F1 H1 _ (fun _ _ => True) g1 c1 (walk_str _ _) (fun _ _ _ _ _ _ _ _ _ _ => trivial) (fun _ h => nomatch h)⟩
  | _ => cases e
/-- an own list, as it stands -/
def iOwn (j : Nat) : FA := fun ρ => (ownL j ρ).map fun ds => (ds, ρ)
theorem di_own (j : Nat) {x : Str} (hN : X.N[j]? = some x := by rfl) (hv : Vis X.env.scope x := by first | exact Or.inl rfl | exact Or.inr (Or.inl rfl) | exact Or.inr (Or.inr rfl)) (hd : (x == ("__debug__" : Str)) = false := by decide) (hcd : (x == ("__classdict__" : Str)) = false := by decide) :
    DI X (some j) tg (.Name x p) (iList X.K (tVar j)) (iOwn j) := by
  refine ⟨pi_list (pe_var hN hv hd hcd), ?_⟩
  intro B F io σ H ρ xs ρ' R c e k
  obtain ⟨ds, e1, e2⟩ := Option.map_eq_some_iff.mp e
  cases e2
  obtain ⟨a, vs, s1, h1, d1⟩ := own_list c e1
  refine ⟨.ref a, s1, a, rfl, ⟨vs, .inl (.inl h1)⟩, k F H _ (fun F2 H2 => ∃ vs, SqL X.K H2 a vs ∧ DpAll X.K F2 vs xs) (Gr.refl _ _) c (walk_lst _ fun F2 H2 h => h) (fun B2 F2 io2 σ2 H2 ρ2 s2 c2 lk hs => ?_) (fun i h => by cases h; exact ⟨a, s1⟩)⟩
  obtain ⟨a2, vs2, s3, h3, d3⟩ := own_list (j := j) (ds := xs) c2 (by unfold ownL; rw [lockOk_at lk])
  have q := hs j rfl
  rw [s1, s3] at q
  cases q
  exact ⟨vs2, .inl (.inl h3), d3⟩
end
/-! ### for -/
def loopF (lk : Option Nat) (xs0 : List D) (ks : List Nat) (b : D → En → Option Out) : List D → En → Option Out
  | [], ρ => if lockOk lk xs0 (killL ks ρ) = true then some (.nx (killL ks ρ)) else none
  | x :: r, ρ => if lockOk lk xs0 (killL ks ρ) = true then (b x (killL ks ρ)).bind fun o => match o with
    | .nx ρ' => loopF lk xs0 ks b r ρ'
    | .ct ρ' => loopF lk xs0 ks b r ρ'
    | .bk ρ' => some (.nx (killL ks ρ'))
    | .rt c ρ' => some (.rt c ρ') else none
def sFor (lk : Option Nat) (ks : List Nat) (it : FA) (g : FG) (b : FS) : FS := fun ρ => (it ρ).bind fun p => loopF lk p.1 ks (fun x ρ => (g x ρ).bind b) p.1 p.2
def lkL : Option Nat → List Nat
  | none => []
  | some j => [j]
section
variable {X : Cx} {L : List Nat} {tg iter : Expr} {body : List Stmt} {wi : TI} {fi : FA} {lk : Option Nat} {ws : List Nat} {t1 : TG} {g1 : FG} {tb : TS} {fb : FS} {pos : Pos}
theorem ss_for {K : PySem.W.Frag} (ks : List Nat) (hi : SI K lk wi fi) (hg : SG K (lkL lk ++ L) ws t1 g1) (hb : SS K (lkL lk ++ L) tb fb) : SS K L (tFor wi t1 tb) (sFor lk ks fi g1 fb) := by
  intro B F io σ H ρ o Dn hL c e p
  obtain ⟨⟨xs, ρ0⟩, e1, e⟩ := Option.bind_eq_some_iff.mp e
  refine hi B F io σ H ρ xs ρ0 _ c e1 fun F0 H0 J C g0 c0 wk cl hlk => ?_
  -- the lock's own pair
  obtain ⟨io', hio', hsub, hj⟩ : ∃ io' : List (Nat × Addr), io'.map (·.1) = lkL lk ++ L ∧ (∀ q ∈ io, q ∈ io') ∧ (∀ q ∈ io', σ[q.1]? = some (some (.ref q.2))) := by
    cases lk with
    | none => exact ⟨io, by rw [hL]; rfl, fun _ h => h, c.io⟩
    | some j =>
      obtain ⟨a, ha⟩ := hlk j rfl
      refine ⟨(j, a) :: io, by rw [List.map_cons, hL]; rfl, fun _ h => List.mem_cons_of_mem _ h, fun q hq => ?_⟩
      rcases List.mem_cons.mp hq with rfl | hq
      · exact ha
      · exact c.io q hq
  have lkσ : ∀ {σ2 : St} {H2 F2 B2 : Hp} {ρ2 : En}, Con K B2 F2 io' σ2 H2 ρ2 → ∀ j, lk = some j → σ2[j]? = σ[j]? := by
    intro σ2 H2 F2 B2 ρ2 c2 j hjk
    subst hjk
    have : (j : Nat) ∈ io'.map (·.1) := by rw [hio']; exact List.mem_append_left _ (List.mem_singleton.mpr rfl)
    obtain ⟨q, hq, e⟩ := List.mem_map.mp this
    subst e
    rw [c2.io q hq, hj q hq]
  have c0' : Con K B F0 io' σ H0 ρ0 := ⟨c0.len, c0.base, c0.frz, c0.cell, c0.sep, hj⟩
  have p0 := p.mono g0
  refine ⟨fun i m σ H => m = xs.length - i ∧ i ≤ xs.length ∧ ∃ F2 ρ2, Gr B F0 F2 ∧ Con K B F2 io' σ H ρ2 ∧ loopF lk xs ks (fun x ρ => (g1 x ρ).bind fb) (xs.drop i) ρ2 = some o, ⟨xs.length, by simp, Nat.zero_le _, F0, ρ0, Gr.refl _ _, c0', e⟩, ?_⟩
  rintro i m σ2 H2 ⟨rfl, hi2, F2, ρ2, g2, c2, e2⟩
  have ck := c2.killL ks
  by_cases hlt : i < xs.length
  · rw [List.drop_eq_getElem_cons hlt] at e2
    unfold loopF at e2
    by_cases hlo : lockOk lk xs (killL ks ρ2) = true
    · rw [if_pos hlo] at e2
      obtain ⟨o1, e3, e4⟩ := Option.bind_eq_some_iff.mp e2
      obtain ⟨ρ3, e5, e6⟩ := Option.bind_eq_some_iff.mp e3
      have cc := cl B F2 io' σ2 H2 (killL ks ρ2) g2.sub ck hlo (lkσ c2)
      refine .inr ⟨wk.go i F2 H2 cc hlt, fun σ' H' => ∃ m', m' < xs.length - i ∧ (m' = xs.length - (i + 1) ∧ i + 1 ≤ xs.length ∧ ∃ F2 ρ2, Gr B F0 F2 ∧ Con K B F2 io' σ' H' ρ2 ∧ loopF lk xs ks (fun x ρ => (g1 x ρ).bind fb) (xs.drop (i + 1)) ρ2 = some o), fun σ' H' h => h, fun x H' y => ?_⟩
      obtain ⟨e7, d, e8, dd⟩ := wk.yld i F2 H2 x H' cc hlt y
      subst e7
      rw [List.getElem?_eq_getElem hlt] at e8
      cases e8
      refine hg B F2 io' σ2 H' (killL ks ρ2) x xs[i] ρ3 _ hio' ck dd e5 fun F3 σ3 H3 g3 c3 _ => ?_
      have again : ∀ {F4 : Hp} {σ4 : St} {H4 : Hp} {ρ4 : En}, Gr B F3 F4 → Con K B F4 io' σ4 H4 ρ4 → loopF lk xs ks (fun x ρ => (g1 x ρ).bind fb) (xs.drop (i + 1)) ρ4 = some o →
          ∃ m', m' < xs.length - i ∧ (m' = xs.length - (i + 1) ∧ i + 1 ≤ xs.length ∧ ∃ F2 ρ2, Gr B F0 F2 ∧ Con K B F2 io' σ4 H4 ρ2 ∧ loopF lk xs ks (fun x ρ => (g1 x ρ).bind fb) (xs.drop (i + 1)) ρ2 = some o) :=
        fun {F4 σ4 H4 ρ4} g4 c4 e9 => ⟨xs.length - (i + 1), by omega, rfl, hlt, F4, ρ4, (g2.trans g3).trans g4, c4, e9⟩
      refine hb B F3 io' σ3 H3 ρ3 o1 _ hio' c3 e6 ?_
      cases o1 with
      | nx ρ4 => exact fun F4 σ4 H4 g4 c4 => again g4 c4 e4
      | ct ρ4 => exact fun F4 σ4 H4 g4 c4 => again g4 c4 e4
      | bk ρ4 =>
        cases e4
        exact fun F4 σ4 H4 g4 c4 => p0 F4 σ4 H4 ((g2.trans g3).trans g4) ((c4.killL ks).subio hsub)
      | rt u ρ4 =>
        cases e4
        exact fun F4 σ4 H4 v g4 c4 r => p0 F4 σ4 H4 v ((g2.trans g3).trans g4) (c4.subio hsub) r
    · rw [if_neg hlo] at e2; cases e2
  · have hi3 : i = xs.length := by omega
    subst hi3
    rw [List.drop_length] at e2
    unfold loopF at e2
    by_cases hlo : lockOk lk xs (killL ks ρ2) = true
    · rw [if_pos hlo] at e2
      cases e2
      have cc := cl B F2 io' σ2 H2 (killL ks ρ2) g2.sub ck hlo (lkσ c2)
      exact .inl ⟨wk.stop _ F2 H2 cc (Nat.le_refl _), p0 F2 σ2 H2 g2 (ck.subio hsub)⟩
    · rw [if_neg hlo] at e2; cases e2
theorem ds_for (ks : List Nat) (hp : PassesOwn (model X.prog X.w) X.A X.env X.xe) (hc : X.calm = true) (hi : DI X lk tg iter wi fi) (hg : DG X (lkL lk ++ L) ws tg t1 g1) (hb : DSs X (lkL lk ++ L) body tb fb)
    (hs : ∀ x, foldedSetIterable iter X.env x = pure x := by intro _; rfl) : DS X L (.For tg iter body [] pos) (tFor wi t1 tb) (sFor lk ks fi g1 fb) :=
  ⟨ps_for hp hc hi.pe hg.pe hb.pe hs, ss_for ks hi.se hg.se hb.se⟩
end
/-! ### while -/
def whileF (ks : List Nat) (c : FT) (b : FS) : Nat → En → Option Out
  | 0, _ => none
  | n + 1, ρ => (c (killL ks ρ)).bind fun p => if p.1 = true then (b p.2).bind fun o => match o with
    | .nx ρ' => whileF ks c b n ρ'
    | .ct ρ' => whileF ks c b n ρ'
    | .bk ρ' => some (.nx (killL ks ρ'))
    | .rt u ρ' => some (.rt u ρ') else some (.nx p.2)
open Classical in
noncomputable def sWhile (ks : List Nat) (c : FT) (b : FS) : FS := fun ρ => if h : ∃ n o, whileF ks c b n ρ = some o then whileF ks c b h.choose ρ else none
theorem whileF_mono {ks : List Nat} {c : FT} {b : FS} : ∀ {n m : Nat} {ρ : En} {o : Out}, whileF ks c b n ρ = some o → n ≤ m → whileF ks c b m ρ = some o
  | 0, _, _, _, h, _ => by cases h
  | n + 1, 0, _, _, _, h => by omega
  | n + 1, m + 1, ρ, o, h, hm => by
    unfold whileF at h ⊢
    obtain ⟨p, e1, h⟩ := Option.bind_eq_some_iff.mp h
    rw [e1]
    show (if p.1 = true then _ else _) = _
    by_cases hp : p.1 = true
    · rw [if_pos hp] at h ⊢
      obtain ⟨o1, e2, h⟩ := Option.bind_eq_some_iff.mp h
      rw [e2]
      cases o1 with
      | nx ρ' => exact whileF_mono (n := n) (m := m) h (by omega)
      | ct ρ' => exact whileF_mono (n := n) (m := m) h (by omega)
      | bk ρ' => exact h
      | rt u ρ' => exact h
    · rw [if_neg hp] at h ⊢; exact h
theorem sWhile_of {ks : List Nat} {c : FT} {b : FS} {n : Nat} {ρ : En} {o : Out} (h : whileF ks c b n ρ = some o) : sWhile ks c b ρ = some o := by
  have hx : ∃ n o, whileF ks c b n ρ = some o := ⟨n, o, h⟩
  unfold sWhile
  rw [dif_pos hx]
  obtain ⟨o', e⟩ := hx.choose_spec
  rw [e]
  have h1 := whileF_mono e (Nat.le_max_left hx.choose n)
  have h2 := whileF_mono h (Nat.le_max_right hx.choose n)
  rw [h1] at h2
  exact h2
theorem of_sWhile {ks : List Nat} {c : FT} {b : FS} {ρ : En} {o : Out} (h : sWhile ks c b ρ = some o) : ∃ n, whileF ks c b n ρ = some o := by
  unfold sWhile at h
  split at h
  · exact ⟨_, h⟩
  · cases h
/-- one turn -/
theorem sWhile_step {ks : List Nat} {c : FT} {b : FS} {ρ ρ1 : En} {p : Bool × En} {o : Out} (h1 : c (killL ks ρ) = some p) (h2 : p.1 = true) (h3 : b p.2 = some (.nx ρ1)) (h4 : sWhile ks c b ρ1 = some o) : sWhile ks c b ρ = some o := by
  obtain ⟨n, e⟩ := of_sWhile h4
  refine sWhile_of (n := n + 1) ?_
  unfold whileF
  rw [h1]
  show (if p.1 = true then _ else _) = _
  rw [if_pos h2, h3]
  exact e
theorem sWhile_done {ks : List Nat} {c : FT} {b : FS} {ρ : En} {p : Bool × En} (h1 : c (killL ks ρ) = some p) (h2 : p.1 = false) : sWhile ks c b ρ = some (.nx p.2) := by
  refine sWhile_of (n := 1) ?_
  unfold whileF
  rw [h1]
  show (if p.1 = true then _ else _) = _
  rw [h2]
  rfl
theorem sWhile_rt {ks : List Nat} {c : FT} {b : FS} {ρ ρ1 : En} {p : Bool × En} {u : Cell} (h1 : c (killL ks ρ) = some p) (h2 : p.1 = true) (h3 : b p.2 = some (.rt u ρ1)) : sWhile ks c b ρ = some (.rt u ρ1) := by
  refine sWhile_of (n := 1) ?_
  unfold whileF
  rw [h1]
  show (if p.1 = true then _ else _) = _
  rw [if_pos h2, h3]
  rfl
section
variable {X : Cx} {L : List Nat} {c : Expr} {body : List Stmt} {tc : TT} {fc : FT} {tb : TS} {fb : FS} {pos : Pos}
theorem ds_while (ks : List Nat) (hp : PassesOwn (model X.prog X.w) X.A X.env X.xe) (hc : DT X c tc fc) (hb : DSs X L body tb fb) : DS X L (.While c body [] pos) (tWhile tc tb) (sWhile ks fc fb) := by
  refine ⟨ps_while hp hc.pe hb.pe, ?_⟩
  intro B F io σ H ρ o Dn hL cn e p
  obtain ⟨n, e⟩ := of_sWhile e
  refine ⟨fun m σ H => ∃ F2 ρ2, Gr B F F2 ∧ Con X.K B F2 io σ H ρ2 ∧ whileF ks fc fb m ρ2 = some o, ⟨n, F, ρ, Gr.refl _ _, cn, e⟩, ?_⟩
  rintro m σ2 H2 ⟨F2, ρ2, g2, c2, e2⟩
  cases m with
  | zero => cases e2
  | succ m =>
    unfold whileF at e2
    obtain ⟨q, e1, e2⟩ := Option.bind_eq_some_iff.mp e2
    refine hc.se B F2 io σ2 H2 _ q.1 q.2 _ (c2.killL ks) e1 fun F3 H3 g3 c3 => ?_
    by_cases hq : q.1 = true
    · rw [if_pos hq] at e2 ⊢
      obtain ⟨o1, e3, e4⟩ := Option.bind_eq_some_iff.mp e2
      refine ⟨fun σ' H' => ∃ m', m' < m + 1 ∧ ∃ F2 ρ2, Gr B F F2 ∧ Con X.K B F2 io σ' H' ρ2 ∧ whileF ks fc fb m' ρ2 = some o, fun σ' H' h => h, ?_⟩
      refine hb.se B F3 io σ2 H3 q.2 o1 _ hL c3 e3 ?_
      cases o1 with
      | nx ρ4 => exact fun F4 σ4 H4 g4 c4 => ⟨m, Nat.lt_succ_self m, F4, ρ4, (g2.trans g3).trans g4, c4, e4⟩
      | ct ρ4 => exact fun F4 σ4 H4 g4 c4 => ⟨m, Nat.lt_succ_self m, F4, ρ4, (g2.trans g3).trans g4, c4, e4⟩
      | bk ρ4 =>
        cases e4
        exact fun F4 σ4 H4 g4 c4 => p F4 σ4 H4 ((g2.trans g3).trans g4) (c4.killL ks)
      | rt u ρ4 =>
        cases e4
        exact fun F4 σ4 H4 v g4 c4 r => p F4 σ4 H4 v ((g2.trans g3).trans g4) c4 r
    · rw [if_neg hq] at e2 ⊢
      cases e2
      exact p F3 σ2 H3 (g2.trans g3) c3
end
end L2.Pd

namespace L2.Pd
open PySem PySem.Spec PyProof.Rows
/-! ## Comprehensions -/
theorem killL_len : ∀ (vs : List Nat) (ρ : En), (killL vs ρ).length = ρ.length
  | [], _ => rfl
  | i :: r, ρ => by
    show (killL r (ρ.set i .dead)).length = _
    rw [killL_len r, List.length_set]
theorem killL_get : ∀ (vs : List Nat) (ρ : En) (i : Nat), (killL vs ρ)[i]? = if i ∈ vs then (ρ[i]?).map (fun _ => Cell.dead) else ρ[i]?
  | [], ρ, i => by rw [if_neg (by simp)]; rfl
  | j :: r, ρ, i => by
    show (killL r (ρ.set j .dead))[i]? = _
    rw [killL_get r]
    by_cases h : i = j
    · subst h
      rw [if_pos (show i ∈ i :: r from List.mem_cons_self)]
      by_cases hl : i < ρ.length
      · rw [List.getElem?_set_self hl, List.getElem?_eq_getElem hl]
        split <;> rfl
      · rw [List.getElem?_eq_none (by rw [List.length_set]; omega), List.getElem?_eq_none (by omega)]
        split <;> rfl
    · rw [List.getElem?_set_ne (Ne.symm h)]
      by_cases hr : i ∈ r
      · rw [if_pos hr, if_pos (List.mem_cons_of_mem _ hr)]
      · rw [if_neg hr, if_neg (by simp only [List.mem_cons, not_or]; exact ⟨h, hr⟩)]
theorem wipe_get (σ : St) : ∀ (vs : List Nat) (i : Nat), i ∉ vs → (wipe σ vs)[i]? = σ[i]?
  | [], _, _ => rfl
  | v :: vs, i, h => by
    simp only [List.mem_cons, not_or] at h
    show ((wipe σ vs).set v none)[i]? = _
    rw [List.getElem?_set_ne (Ne.symm h.1), wipe_get σ vs i h.2]
theorem wipe_in (σ : St) : ∀ (vs : List Nat) (i : Nat), i ∈ vs → i < σ.length → (wipe σ vs)[i]? = some none
  | v :: vs, i, h, hl => by
    show ((wipe σ vs).set v none)[i]? = _
    by_cases e : v = i
    · subst e
      rw [List.getElem?_set_self (by rw [wipe_length]; exact hl)]
    · rw [List.getElem?_set_ne e]
      exact wipe_in σ vs i ((List.mem_cons.mp h).resolve_left fun z => e z.symm) hl
theorem wipe_off {σ σ' : St} {ws vs : List Nat} (h : Off ws σ σ') (hw : ∀ i ∈ ws, i ∈ vs) : wipe σ' vs = wipe σ vs := by
  refine List.ext_getElem? fun i => ?_
  by_cases hi : i ∈ vs
  · by_cases hl : i < σ.length
    · rw [wipe_in σ vs i hi hl, wipe_in σ' vs i hi (by rw [h.1]; exact hl)]
    · rw [List.getElem?_eq_none (show (wipe σ' vs).length ≤ i by rw [wipe_length, h.1]; omega), List.getElem?_eq_none (show (wipe σ vs).length ≤ i by rw [wipe_length]; omega)]
  · rw [wipe_get σ vs i hi, wipe_get σ' vs i hi, h.2 i fun z => hi (hw i z)]
theorem wipe_wipe (σ : St) (vs : List Nat) : wipe (wipe σ vs) vs = wipe σ vs := by
  refine List.ext_getElem? fun i => ?_
  by_cases hi : i ∈ vs
  · by_cases hl : i < σ.length
    · rw [wipe_in σ vs i hi hl, wipe_in _ vs i hi (by rw [wipe_length]; exact hl)]
    · rw [List.getElem?_eq_none (by rw [wipe_length, wipe_length]; omega), List.getElem?_eq_none (by rw [wipe_length]; omega)]
  · rw [wipe_get _ vs i hi]
section
variable {K : PySem.W.Frag} {B F F' H H' : Hp} {io io' : List (Nat × Addr)} {σ σ' : St} {ρ : En} {vs : List Nat}
/-- the slots may change where the cells are forgotten -/
theorem Con.move (c : Con K B F io σ H ρ) (vs : List Nat) (hl : σ'.length = σ.length) (h : ∀ i, i ∉ vs → σ'[i]? = σ[i]?) (hio : ∀ p ∈ io', σ'[p.1]? = some (some (.ref p.2))) : Con K B F io' σ' H (Pd.killL vs ρ) := by
  have own_off : ∀ {i : Nat} {e : Cell}, (Pd.killL vs ρ)[i]? = some e → isOwn e = true → i ∉ vs ∧ ρ[i]? = some e := fun {i e} he ho => by
    rw [killL_get] at he
    by_cases hi : i ∈ vs
    · rw [if_pos hi] at he
      obtain ⟨_, _, e2⟩ := Option.map_eq_some_iff.mp he
      subst e2; cases ho
    · rw [if_neg hi] at he; exact ⟨hi, he⟩
  refine ⟨by rw [hl, killL_len, c.len], c.base, c.frz, fun i e he => ?_, fun i j e1 e2 a h1 h2 o1 o2 s1 s2 => ?_, hio⟩
  · rw [killL_get] at he
    by_cases hi : i ∈ vs
    · rw [if_pos hi] at he
      obtain ⟨u, hu, e2⟩ := Option.map_eq_some_iff.mp he
      subst e2
      have hlt : i < σ'.length := by rw [hl, c.len]; exact (List.getElem?_eq_some_iff.mp hu).1
      exact ⟨σ'[i], List.getElem?_eq_getElem hlt, trivial⟩
    · rw [if_neg hi] at he
      rw [h i hi]
      exact c.cell i e he
  · obtain ⟨n1, h1⟩ := own_off h1 o1
    obtain ⟨n2, h2⟩ := own_off h2 o2
    rw [h i n1] at s1
    rw [h j n2] at s2
    exact c.sep i j e1 e2 a h1 h2 o1 o2 s1 s2
/-- the list that a comprehension makes stands in the base meanwhile -/
theorem Con.toBase (c : Con K B F io σ H ρ) {a : Addr} {o : HO} (n : H a = none) : Con K (upd B a o) F io σ (upd H a o) ρ := by
  refine ⟨c.len, same_upd2 c.base, c.frz.trans (same_upd n), fun i e he => ?_, c.sep, c.io⟩
  obtain ⟨x, hx, ok⟩ := c.cell i e he
  refine ⟨x, hx, ?_⟩
  by_cases ho : isOwn e = true
  · rw [cellOk_own ho] at ok ⊢
    obtain ⟨p, w, z1, z2, z3, z4, z5⟩ := ok
    have np : p ≠ a := ne_of_none z2 n
    exact ⟨p, w, z1, by rw [upd_ne np]; exact z2, z3, z4, by rw [upd_ne np]; exact z5⟩
  · cases e with
    | dead => trivial
    | sh d => exact ok
    | fd tk kvs => exact ok
    | _ => exact absurd rfl ho
theorem Con.reBase {a : Addr} {o o' : HO} (c : Con K (upd B a o) F io σ H ρ) (fa : F a = none) : Con K (upd B a o') F io σ (upd H a o') ρ := by
  refine ⟨c.len, fun b x e => ?_, fun b x e => ?_, fun i e he => ?_, c.sep, c.io⟩
  · by_cases q : b = a
    · subst q; rw [upd_same] at e ⊢; exact e
    · rw [upd_ne q] at e ⊢; exact c.base b x (by rw [upd_ne q]; exact e)
  · rw [upd_ne (ne_of_none e fa)]; exact c.frz b x e
  · obtain ⟨x, hx, ok⟩ := c.cell i e he
    refine ⟨x, hx, ?_⟩
    by_cases ho : isOwn e = true
    · rw [cellOk_own ho] at ok ⊢
      obtain ⟨p, w, z1, z2, z3, z4, z5⟩ := ok
      have np : p ≠ a := fun z => by subst z; rw [upd_same] at z5; cases z5
      rw [upd_ne np] at z5
      exact ⟨p, w, z1, by rw [upd_ne np]; exact z2, z3, z4, by rw [upd_ne np]; exact z5⟩
    · cases e with
      | dead => trivial
      | sh d => exact ok
      | fd tk kvs => exact ok
      | _ => exact absurd rfl ho
theorem Con.unBase {a : Addr} {o : HO} (c : Con K (upd B a o) F io σ H ρ) (n : B a = none) : Con K B F io σ H ρ := by
  refine ⟨c.len, (same_upd n).trans c.base, c.frz, fun i e he => ?_, c.sep, c.io⟩
  obtain ⟨x, hx, ok⟩ := c.cell i e he
  refine ⟨x, hx, ?_⟩
  by_cases ho : isOwn e = true
  · rw [cellOk_own ho] at ok ⊢
    obtain ⟨p, w, z1, z2, z3, z4, z5⟩ := ok
    have np : p ≠ a := fun z => by subst z; rw [upd_same] at z5; cases z5
    rw [upd_ne np] at z5
    exact ⟨p, w, z1, z2, z3, z4, z5⟩
  · cases e with
    | dead => trivial
    | sh d => exact ok
    | fd tk kvs => exact ok
    | _ => exact absurd rfl ho
theorem Con.notOwned_base {a : Addr} {o : HO} (c : Con K (upd B a o) F io σ H ρ) : NotOwned σ ρ a := fun i e he ho q => by
  obtain ⟨p, w, z1, z2, z3, z4, z5⟩ := c.own he ho
  rw [q] at z1
  cases z1
  rw [upd_same] at z5
  cases z5
theorem Gr.unBase {a : Addr} {o : HO} (g : Gr (upd B a o) F F') (n : B a = none) : Gr B F F' := ⟨g.sub, fun b x e => by
  rcases g.new b x e with q | q
  · exact .inl q
  · by_cases z : b = a
    · subst z; exact .inr n
    · rw [upd_ne z] at q; exact .inr q⟩
theorem Gr.at {a : Addr} {o : HO} (g : Gr (upd B a o) F F') (n : F a = none) : F' a = none := by
  cases q : F' a with
  | none => rfl
  | some x =>
    rcases g.new a x q with z | z
    · rw [n] at z; cases z
    · rw [upd_same] at z; cases z
end
def cYes : FT := fun ρ => some (true, ρ)
structure DTs (X : Cx) (ifs : List Expr) (t : TT) (f : FT) : Prop where
  pe : PTs X ifs t
  se : ST X.K t f
theorem dts_nil {X : Cx} : DTs X [] tYes cYes := ⟨pts_nil, fun B F io σ H ρ b ρ' Q c e k => by cases e; exact k F H (Gr.refl _ _) c⟩
theorem dts_one {X : Cx} {c : Expr} {t : TT} {f : FT} (h : DT X c t f) : DTs X [c] t f := ⟨pts_one h.pe, h.se⟩
def compG (lk : Option Nat) (xs0 : List D) (vs : List Nat) (g : FG) (step : List D → En → Option (List D × En)) : List D → List D → En → Option (List D × En)
  | [], acc, ρ => if lockOk lk xs0 (killL vs ρ) = true then some (acc, killL vs ρ) else none
  | x :: r, acc, ρ => if lockOk lk xs0 (killL vs ρ) = true then (g x (killL vs ρ)).bind fun ρ1 => (step acc ρ1).bind fun q => compG lk xs0 vs g step r q.1 q.2 else none
def stp (c : FT) (e : FE) (acc : List D) (ρ : En) : Option (List D × En) := (c ρ).bind fun p => if p.1 = true then (e p.2).bind fun q => if acc.length < sizeLine then some (acc ++ [q.1], q.2) else none else some (acc, p.2)
/-- the outer values of a comprehension's names are as they were -/
def putB : List Nat → En → En → En
  | [], _, ρ => ρ
  | i :: r, ρ0, ρ => match ρ0[i]? with
    | some (.sh d) => putB r ρ0 (ρ.set i (.sh d))
    | _ => putB r ρ0 ρ
theorem Con.recall {K : PySem.W.Frag} {B F H : Hp} {io : List (Nat × Addr)} {σ : St} {ρ : En} (c : Con K B F io σ H ρ) {i : Nat} {v : V} {d : D} (hs : σ[i]? = some (some v)) (h : Dp K F v d) : Con K B F io σ H (ρ.set i (.sh d)) := by
  refine ⟨by rw [List.length_set, c.len], c.base, c.frz, fun j e he => ?_, fun j k e1 e2 a h1 h2 o1 o2 s1 s2 => ?_, c.io⟩
  · rcases get_set_cases he with ⟨rfl, rfl, hl⟩ | ⟨ne, he⟩
    · exact ⟨some v, hs, v, rfl, h⟩
    · exact c.cell j e he
  · rcases get_set_cases h1 with ⟨rfl, rfl, hl⟩ | ⟨ne1, g1⟩
    · cases o1
    · rcases get_set_cases h2 with ⟨rfl, rfl, hl⟩ | ⟨ne2, g2⟩
      · cases o2
      · exact c.sep j k e1 e2 a g1 g2 o1 o2 s1 s2
theorem Con.putB {K : PySem.W.Frag} {B F0 H0 B0 F H : Hp} {io io0 : List (Nat × Addr)} {σ : St} {ρ0 : En} (c0 : Con K B0 F0 io0 σ H0 ρ0) (s : Same F0 F) : ∀ (vs : List Nat) {ρ : En}, Con K B F io σ H ρ → Con K B F io σ H (Pd.putB vs ρ0 ρ)
  | [], _, c => c
  | i :: r, ρ, c => by
    unfold Pd.putB
    split
    · rename_i d e
      obtain ⟨x, hx, v, rfl, dd⟩ := c0.cell i _ e
      exact Con.putB c0 s r (c.recall hx (dp_mono s dd))
    · exact Con.putB c0 s r c
theorem notOwned_putB {σ : St} {ρ0 : En} {a : Addr} : ∀ (vs : List Nat) {ρ : En}, NotOwned σ ρ a → NotOwned σ (Pd.putB vs ρ0 ρ) a
  | [], _, h => h
  | i :: r, ρ, h => by
    unfold Pd.putB
    split
    · refine notOwned_putB r fun j e he ho => ?_
      rcases get_set_cases he with ⟨rfl, rfl, _⟩ | ⟨ne, he⟩
      · cases ho
      · exact h j e he ho
    · exact notOwned_putB r h
def eComp (lk : Option Nat) (vs : List Nat) (it : FA) (g : FG) (c : FT) (e : FE) : FN := fun ρ => (it ρ).bind fun p => (compG lk p.1 vs g (stp c e) p.1 [] p.2).map fun q => (.ol q.1, putB vs p.2 (killL vs q.2))
section
variable {X : Cx} {tg iter elt : Expr} {ifs : List Expr} {scope : Scope} {own : List (Str × Nat)} {pos : Pos} {wi : TI} {fi : FA} {lk : Option Nat} {ws vs : List Nat} {t1 : TG} {g1 : FG} {tt : TT} {fc : FT} {te : TE} {fe : FE}
theorem sn_comp {K : PySem.W.Frag} (hi : SI K lk wi fi) (hg : SG K [] ws t1 g1) (hc : ST K tt fc) (he : SE K te fe) (hw : ∀ i ∈ ws, i ∈ vs) (hlv : ∀ j, lk = some j → j ∉ vs) : SN K (tLc wi t1 tt te vs) (eComp lk vs fi g1 fc fe) := by
  intro B F io σ H ρ cl ρ' Q c e k
  obtain ⟨⟨xs, ρ0⟩, e1, e⟩ := Option.bind_eq_some_iff.mp e
  obtain ⟨⟨out, ρz⟩, e2, e3⟩ := Option.map_eq_some_iff.mp e
  cases e3
  refine hi B F io σ H ρ xs ρ0 _ c e1 fun F0 H0 J C g0 c0 wk hcl hlk => ?_
  intro Dd nD
  have bD : B Dd = none := c0.base.free nD
  have fD0 : F0 Dd = none := c0.frz.free nD
  have hσ : ∀ i, i ∉ vs → (wipe σ vs)[i]? = σ[i]? := wipe_get σ vs
  refine ⟨fun i m H => m = xs.length - i ∧ i ≤ xs.length ∧ ∃ F2 ρ2 acc accV, Gr B F0 F2 ∧ Con K (upd B Dd (.lst accV)) F2 [] (wipe σ vs) H (killL vs ρ2) ∧ F2 Dd = none ∧ DpAll K F2 accV acc ∧ compG lk xs vs g1 (stp fc fe) (xs.drop i) acc ρ2 = some (out, ρz),
    ⟨xs.length, by simp, Nat.zero_le _, F0, ρ0, [], [], Gr.refl _ _, (c0.toBase nD).move vs (wipe_length σ vs) hσ (fun p hp => absurd hp (List.not_mem_nil)), fD0, .nil, e2⟩, ?_⟩
  rintro i m H2 ⟨rfl, hi2, F2, ρ2, acc, accV, g2, c2, fD, dA, e4⟩
  by_cases hlt : i < xs.length
  · rw [List.drop_eq_getElem_cons hlt] at e4
    unfold compG at e4
    by_cases hlo : lockOk lk xs (killL vs ρ2) = true
    · rw [if_pos hlo] at e4
      obtain ⟨ρ3, e5, e4⟩ := Option.bind_eq_some_iff.mp e4
      obtain ⟨⟨acc4, ρ4⟩, e6, e7⟩ := Option.bind_eq_some_iff.mp e4
      have cc := hcl _ F2 [] (wipe σ vs) H2 (killL vs ρ2) g2.sub c2 hlo (fun j hj => hσ j (hlv j hj))
      refine .inr ⟨wk.go i F2 H2 cc hlt, fun H' => ∃ m', m' < xs.length - i ∧ (m' = xs.length - (i + 1) ∧ i + 1 ≤ xs.length ∧ ∃ F2 ρ2 acc accV, Gr B F0 F2 ∧ Con K (upd B Dd (.lst accV)) F2 [] (wipe σ vs) H' (killL vs ρ2) ∧ F2 Dd = none ∧ DpAll K F2 accV acc ∧ compG lk xs vs g1 (stp fc fe) (xs.drop (i + 1)) acc ρ2 = some (out, ρz)), fun H' h => h, fun x H' y => ?_⟩
      obtain ⟨e8, d, e9, dd⟩ := wk.yld i F2 H2 x H' cc hlt y
      subst e8
      rw [List.getElem?_eq_getElem hlt] at e9
      cases e9
      refine hg _ F2 [] (wipe σ vs) H' (killL vs ρ2) x xs[i] ρ3 _ rfl c2 dd e5 fun F3 σ3 H3 g3 c3 off => ⟨?_, ?_⟩
      · rw [wipe_off off hw, wipe_wipe]
      obtain ⟨p, e10, e11⟩ := Option.bind_eq_some_iff.mp e6
      refine hc _ F3 [] σ3 H3 ρ3 p.1 p.2 _ c3 e10 fun F4 H4 g4 c4 => ?_
      have back : ∀ {F5 : Hp} {H5 : Hp} {ρ5 : En} {B5 : Hp}, Con K B5 F5 [] σ3 H5 ρ5 → Con K B5 F5 [] (wipe σ vs) H5 (killL vs ρ5) := fun {F5 H5 ρ5 B5} c5 =>
        c5.move vs (by rw [off.1]) (fun j hj => ((off.2 j fun z => hj (hw j z))).symm) (fun p hp => absurd hp (List.not_mem_nil))
      by_cases hp : p.1 = true
      · rw [if_pos hp] at e11 ⊢
        obtain ⟨q, e12, e13⟩ := Option.bind_eq_some_iff.mp e11
        by_cases hz : acc.length < sizeLine
        · rw [if_pos hz] at e13
          cases e13
          refine he _ F4 [] σ3 H4 p.2 q.1 q.2 _ c4 e12 fun F5 H5 v g5 c5 d5 => ?_
          have gg := (g3.trans g4).trans g5
          have fD5 := gg.at fD
          have dA5 := dpAll_mono gg.sub dA
          refine ⟨accV, c5.base _ _ upd_same, by rw [dA.length]; exact hz, xs.length - (i + 1), by omega, rfl, hlt, F5, q.2, acc ++ [q.1], accV ++ [v], g2.trans (gg.unBase bD), back (c5.reBase fD5), fD5, dA5.append (.one d5), e7⟩
        · rw [if_neg hz] at e13; cases e13
      · rw [if_neg hp] at e11 ⊢
        cases e11
        have gg := g3.trans g4
        exact ⟨xs.length - (i + 1), by omega, rfl, hlt, F4, p.2, acc, accV, g2.trans (gg.unBase bD), back c4, gg.at fD, dpAll_mono gg.sub dA, e7⟩
    · rw [if_neg hlo] at e4; cases e4
  · have hi3 : i = xs.length := by omega
    subst hi3
    rw [List.drop_length] at e4
    unfold compG at e4
    by_cases hlo : lockOk lk xs (killL vs ρ2) = true
    · rw [if_pos hlo] at e4
      cases e4
      have cc := hcl _ F2 [] (wipe σ vs) H2 (killL vs ρ2) g2.sub c2 hlo (fun j hj => hσ j (hlv j hj))
      refine .inl ⟨wk.stop _ F2 H2 cc (Nat.le_refl _), ?_⟩
      have cf : Con K (upd B Dd (.lst accV)) F2 io σ H2 (killL vs (killL vs ρ2)) := c2.move vs (wipe_length σ vs).symm (fun j hj => (hσ j hj).symm) c.io
      exact k F2 H2 Dd (.lst accV) (g0.trans g2) (Con.putB c0 g2.sub vs (cf.unBase bD)) (c2.base _ _ upd_same) dA fD bD (notOwned_putB vs cf.notOwned_base)
    · rw [if_neg hlo] at e4; cases e4
theorem dn_comp (hcm : X.calm = true) (hN : X.N.Nodup) (hi : DI X lk tg iter wi fi) (ok : BlkOk X.N X.env.scope scope own)
    (hg : ∀ (s : Shared) (H : Hp) (C : Addr) (cl : List (Str × Addr)) (fp : List Addr), DG (X.blk s H scope (compEnvC scope cl C X.env) fp) [] ws tg t1 g1) (ht : ∀ (s : Shared) (H : Hp) (C : Addr) (cl : List (Str × Addr)) (fp : List Addr), DTs (X.blk s H scope (compEnvC scope cl C X.env) fp) ifs tt fc)
    (he : ∀ (s : Shared) (H : Hp) (C : Addr) (cl : List (Str × Addr)) (fp : List Addr), DE (X.blk s H scope (compEnvC scope cl C X.env) fp) elt te fe) (hw : ∀ i ∈ ws, i ∈ own.map (·.2) := by decide) (hlv : ∀ j, lk = some j → j ∉ own.map (·.2) := by decide) (hs : ∀ x, foldedSetIterable iter X.env x = pure x := by intro _; rfl) :
    DN X (.ListComp elt [⟨tg, iter, ifs, 0⟩] scope pos) (tLc wi t1 tt te (own.map (·.2))) (eComp lk (own.map (·.2)) fi g1 fc fe) :=
  ⟨pe_lc hcm hN hi.pe ok (fun s H C cl fp => (hg s H C cl fp).pe) (fun s H C cl fp => (ht s H C cl fp).pe) (fun s H C cl fp => (he s H C cl fp).pe) hs,
   sn_comp hi.se (hg X.s_0 X.H_0 0 [] []).se (ht X.s_0 X.H_0 0 [] []).se (he X.s_0 X.H_0 0 [] []).se hw hlv⟩
variable {L : List Nat}
/-- y = [..] on one line, y a local -/
theorem ds_setCompN {i : Nat} {y : Str} {py spos : Pos} (hcm : X.calm = true) (hN : X.N.Nodup) (hi : DI X lk tg iter wi fi) (ok : BlkOk X.N X.env.scope scope own)
    (hg : ∀ (s : Shared) (H : Hp) (C : Addr) (cl : List (Str × Addr)) (fp : List Addr), DG (X.blk s H scope (compEnvC scope cl C X.env) fp) [] ws tg t1 g1) (ht : ∀ (s : Shared) (H : Hp) (C : Addr) (cl : List (Str × Addr)) (fp : List Addr), DTs (X.blk s H scope (compEnvC scope cl C X.env) fp) ifs tt fc)
    (he : ∀ (s : Shared) (H : Hp) (C : Addr) (cl : List (Str × Addr)) (fp : List Addr), DE (X.blk s H scope (compEnvC scope cl C X.env) fp) elt te fe) (hy : X.N[i]? = some y := by rfl) (hyl : X.env.scope.names.lookup y = some .local := by rfl)
    (hsw : swapsWith (.ListComp elt [⟨tg, iter, ifs, 0⟩] scope pos) (some (.Name y py)) spos.line X.env = pure true := by exact sw_true rfl rfl rfl (by decide +kernel))
    (hw : ∀ i ∈ ws, i ∈ own.map (·.2) := by decide) (hlv : ∀ j, lk = some j → j ∉ own.map (·.2) := by decide) (hl : i ∉ L := by decide) (hs : ∀ x, foldedSetIterable iter X.env x = pure x := by intro _; rfl) :
    DS X L (.Assign [.Name y py] (.ListComp elt [⟨tg, iter, ifs, 0⟩] scope pos) spos) (tAsg (tLc wi t1 tt te (own.map (·.2))) (gName i)) (sSetN i (eComp lk (own.map (·.2)) fi g1 fc fe)) :=
  ⟨ps_setLc hcm hN hy hyl hsw hi.pe ok (fun s H C cl fp => (hg s H C cl fp).pe) (fun s H C cl fp => (ht s H C cl fp).pe) (fun s H C cl fp => (he s H C cl fp).pe) hs,
   ss_setN hl (sn_comp hi.se (hg X.s_0 X.H_0 0 [] []).se (ht X.s_0 X.H_0 0 [] []).se (he X.s_0 X.H_0 0 [] []).se hw hlv)⟩
/-- the same, the list never changed -/
theorem ds_setComp {i : Nat} {y : Str} {py spos : Pos} (hcm : X.calm = true) (hN : X.N.Nodup) (hi : DI X lk tg iter wi fi) (ok : BlkOk X.N X.env.scope scope own)
    (hg : ∀ (s : Shared) (H : Hp) (C : Addr) (cl : List (Str × Addr)) (fp : List Addr), DG (X.blk s H scope (compEnvC scope cl C X.env) fp) [] ws tg t1 g1) (ht : ∀ (s : Shared) (H : Hp) (C : Addr) (cl : List (Str × Addr)) (fp : List Addr), DTs (X.blk s H scope (compEnvC scope cl C X.env) fp) ifs tt fc)
    (he : ∀ (s : Shared) (H : Hp) (C : Addr) (cl : List (Str × Addr)) (fp : List Addr), DE (X.blk s H scope (compEnvC scope cl C X.env) fp) elt te fe) (hy : X.N[i]? = some y := by rfl) (hyl : X.env.scope.names.lookup y = some .local := by rfl)
    (hsw : swapsWith (.ListComp elt [⟨tg, iter, ifs, 0⟩] scope pos) (some (.Name y py)) spos.line X.env = pure true := by exact sw_true rfl rfl rfl (by decide +kernel))
    (hw : ∀ i ∈ ws, i ∈ own.map (·.2) := by decide) (hlv : ∀ j, lk = some j → j ∉ own.map (·.2) := by decide) (hl : i ∉ L := by decide) (hs : ∀ x, foldedSetIterable iter X.env x = pure x := by intro _; rfl) :
    DS X L (.Assign [.Name y py] (.ListComp elt [⟨tg, iter, ifs, 0⟩] scope pos) spos) (tAsg (tLc wi t1 tt te (own.map (·.2))) (gName i)) (sSet i (eFrz (eComp lk (own.map (·.2)) fi g1 fc fe))) :=
  ⟨ps_setLc hcm hN hy hyl hsw hi.pe ok (fun s H C cl fp => (hg s H C cl fp).pe) (fun s H C cl fp => (ht s H C cl fp).pe) (fun s H C cl fp => (he s H C cl fp).pe) hs,
   ss_set hl (se_frz (sn_comp hi.se (hg X.s_0 X.H_0 0 [] []).se (ht X.s_0 X.H_0 0 [] []).se (he X.s_0 X.H_0 0 [] []).se hw hlv))⟩
end
/-! ## Defs and their calls -/
def RetC (K : PySem.W.Frag) (F' H H' : Hp) (v : V) : Cell → Prop
  | .dead => False
  | .sh d => Dp K F' v d
  | c => ∃ a o, v = .ref a ∧ H' a = some o ∧ Ob K F' c o ∧ F' a = none ∧ H a = none
theorem retC_own {K : PySem.W.Frag} {F' H H' : Hp} {v : V} {c : Cell} (h : isOwn c = true) : RetC K F' H H' v c ↔ ∃ a o, v = .ref a ∧ H' a = some o ∧ Ob K F' c o ∧ F' a = none ∧ H a = none := by
  cases c <;> first | exact Iff.rfl | (cases h)
abbrev FnS := List Cell → Option (Cell × List Cell)
/-- a def's promise: the plain function m of its arguments' cells; ios: the parameters that are lists which it changes -/
def spD (K : PySem.W.Frag) (ios : List Nat) (m : FnS) : Sp := fun vs H Q _ => ∃ (F : Hp) (cs cs' : List Cell) (r : Cell), Same F H ∧ vs.length = cs.length ∧ m cs = some (r, cs') ∧
  (∀ i c, cs[i]? = some c → i ∉ ios → ∃ v d, vs[i]? = some v ∧ c = .sh d ∧ Dp K F v d) ∧
  (∀ i, i ∈ ios → ∃ a o c, cs[i]? = some c ∧ isOwn c = true ∧ vs[i]? = some (.ref a) ∧ H a = some o ∧ Ob K F c o ∧ F a = none) ∧
  (∀ i j a, i ∈ ios → j ∈ ios → vs[i]? = some (.ref a) → vs[j]? = some (.ref a) → i = j) ∧
  ∀ F' H' v, Same F F' → Same F' H' → (∀ a o, F' a = some o → F a = some o ∨ H a = none) → (∀ a o, H a = some o → (∀ i, i ∈ ios → vs[i]? ≠ some (.ref a)) → H' a = some o) → RetC K F' H H' v r →
    (∀ i, i ∈ ios → ∀ a, vs[i]? = some (.ref a) → ∃ o c', cs'[i]? = some c' ∧ isOwn c' = true ∧ H' a = some o ∧ Ob K F' c' o ∧ F' a = none) → Q v H'
def ownAt (ρ : En) (i : Nat) : Bool := match ρ[i]? with
  | some c => isOwn c
  | none => false
/-- what is told of the arguments' cells: nothing, if none is changed -/
def keepN : List Nat → Nat → Nat
  | [], _ => 0
  | _ :: _, n => n
theorem keepN_mem {ios : List Nat} {i n : Nat} (h : i ∈ ios) : keepN ios n = n := by
  cases ios with
  | nil => cases h
  | cons _ _ => rfl
def fnSem (n : Nat) (ios : List Nat) (body : FS) : FnS := fun cs => (body (cs ++ List.replicate (n - cs.length) Cell.dead)).bind fun o => match o with
  | .rt c ρ' => if ios.all (ownAt ρ') = true then some (c, ρ'.take (keepN ios cs.length)) else none
  | .nx ρ' => if ios.all (ownAt ρ') = true then some (.sh .none, ρ'.take (keepN ios cs.length)) else none
  | _ => none
section
variable {P : Program} {w : World} {K : PySem.W.Frag} {mg : Str → Option Value} {base : Heap}
theorem ownAt_get {ρ : En} {i : Nat} (h : ownAt ρ i = true) : ∃ c, ρ[i]? = some c ∧ isOwn c = true := by
  unfold ownAt at h
  split at h
  · exact ⟨_, by assumption, h⟩
  · cases h
open Classical in
theorem pd_fn {x qual : Str} {st : Stmt} {f : Addr} {fd : FuncData} {N ps : List Str} {k : Nat} (ios : List Nat) {body : FS} (Fn : Fun K x qual st f fd) (S : FnScope N ps (defScope st)) (hps : ∀ cs r, fnSem N.length ios body cs = some r → cs.length = ps.length → cs.length ≤ N.length)
    (hbody : ∀ (cdv : Value) (A : Around) (outer : List Env) (s : Shared) (H : Hp) (E : XK), Room k (A.deeper (envOfC qual (defScope st) s.heap.objs.size f cdv)) →
      ∃ t, DSs (cxOf CX0 P w K mg base N qual (defScope st) f cdv A outer s H E).nox ios (defBody st) t body) :
    FnOk P w K mg base CX0 (k + 1) f fd ps (fun vs H Q E => vs.length = ps.length ∧ spD K ios (fnSem N.length ios body) vs H Q E) := by
  refine Fn.ok S (fun vs H Q E h => h.1) (fun cdv A outer s H vs Q E hr h => ?_)
  obtain ⟨hvl, F, cs, cs', r, sm, hlen, hm, hd, ho, hsep, hq⟩ := h
  obtain ⟨t, pe, se⟩ := hbody cdv A outer s H E hr
  refine ⟨t, pe, ?_⟩
  have hcN : cs.length ≤ N.length := hps cs _ hm (by rw [← hlen]; exact hvl)
  obtain ⟨o, e1, e2⟩ := Option.bind_eq_some_iff.mp hm
  let adr : Nat → Addr := fun i => match vs[i]? with
    | some (.ref a) => a
    | _ => 0
  have hadr : ∀ i a, vs[i]? = some (.ref a) → adr i = a := fun i a e => by show (match vs[i]? with | some (.ref a) => a | _ => 0) = a; rw [e]
  let B : Hp := fun a => if ∃ i, i ∈ ios ∧ vs[i]? = some (.ref a) then none else H a
  have hB : ∀ {a}, (∀ i, i ∈ ios → vs[i]? ≠ some (.ref a)) → B a = H a := fun {a} h => if_neg (fun ⟨i, z1, z2⟩ => h i z1 z2)
  have hB0 : ∀ {a i}, i ∈ ios → vs[i]? = some (.ref a) → B a = none := fun {a i} z1 z2 => if_pos ⟨i, z1, z2⟩
  have sBH : Same B H := fun a x e => by
    by_cases z : ∃ i, i ∈ ios ∧ vs[i]? = some (.ref a)
    · have : B a = none := if_pos z
      rw [this] at e; cases e
    · have : B a = H a := if_neg z
      rw [this] at e; exact e
  have hstart : start N vs = vs.map some ++ List.replicate (N.length - cs.length) none := by rw [← hlen]; rfl
  have getσ : ∀ {i v}, vs[i]? = some v → (start N vs)[i]? = some (some v) := fun {i v} e => by
    rw [hstart, List.getElem?_append_left (by rw [List.length_map]; exact (List.getElem?_eq_some_iff.mp e).1), List.getElem?_map, e]
    rfl
  have getρ : ∀ {i c}, (cs ++ List.replicate (N.length - cs.length) Cell.dead)[i]? = some c → cs[i]? = some c ∨ c = Cell.dead := fun {i c} e => by
    by_cases hi : i < cs.length
    · rw [List.getElem?_append_left hi] at e; exact .inl e
    · rw [List.getElem?_append_right (by omega)] at e
      exact .inr (List.eq_of_mem_replicate (List.mem_of_getElem? e))
  have c0 : Con K B F (ios.map fun i => (i, adr i)) (start N vs) H (cs ++ List.replicate (N.length - cs.length) Cell.dead) := by
    refine ⟨by rw [hstart, List.length_append, List.length_append, List.length_map, List.length_replicate, List.length_replicate, hlen], sBH, sm, fun i c he => ?_, fun i j c1 c2 a h1 h2 o1 o2 s1 s2 => ?_, fun p hp => ?_⟩
    · rcases getρ he with he' | rfl
      · by_cases hi : i ∈ ios
        · obtain ⟨a, w, c', z1, z2, z3, z4, z5, z6⟩ := ho i hi
          rw [he'] at z1
          cases z1
          exact ⟨_, getσ z3, (cellOk_own z2).mpr ⟨a, w, rfl, z4, z5, z6, hB0 hi z3⟩⟩
        · obtain ⟨v, d, z1, rfl, z2⟩ := hd i c he' hi
          exact ⟨_, getσ z1, v, rfl, z2⟩
      · have hlt : i < (start N vs).length := by
          have := (List.getElem?_eq_some_iff.mp he).1
          rw [List.length_append, List.length_replicate] at this
          rw [hstart, List.length_append, List.length_map, List.length_replicate, hlen]
          exact this
        exact ⟨_, List.getElem?_eq_getElem hlt, trivial⟩
    · have i1 : i ∈ ios := by
        rcases getρ h1 with z | rfl
        · by_cases hi : i ∈ ios
          · exact hi
          · obtain ⟨v, d, _, rfl, _⟩ := hd i c1 z hi; cases o1
        · cases o1
      have j1 : j ∈ ios := by
        rcases getρ h2 with z | rfl
        · by_cases hi : j ∈ ios
          · exact hi
          · obtain ⟨v, d, _, rfl, _⟩ := hd j c2 z hi; cases o2
        · cases o2
      obtain ⟨a1, _, _, _, _, z3, _⟩ := ho i i1
      obtain ⟨a2, _, _, _, _, z4, _⟩ := ho j j1
      rw [getσ z3] at s1
      rw [getσ z4] at s2
      cases s1
      cases s2
      exact hsep i j a i1 j1 z3 z4
    · obtain ⟨i, hi, rfl⟩ := List.mem_map.mp hp
      obtain ⟨a1, _, _, _, _, z3, _⟩ := ho i hi
      rw [getσ z3, hadr i a1 z3]
  have fin : ∀ {c ρ'}, ios.all (ownAt ρ') = true → r = c → cs' = ρ'.take (keepN ios cs.length) → ∀ F' σ' H' v, Gr B F F' → Con K B F' (ios.map fun i => (i, adr i)) σ' H' ρ' → RetOk K B F' σ' H' ρ' v c → Q v H' := by
    intro c ρ' hall hr hcs F' σ' H' v g cn ret
    subst hr hcs
    have ioc : ∀ i, i ∈ ios → ∀ a, vs[i]? = some (.ref a) → ∃ c', ρ'[i]? = some c' ∧ isOwn c' = true ∧ ∃ o, σ'[i]? = some (some (.ref a)) ∧ H' a = some o ∧ Ob K F' c' o ∧ F' a = none := fun i hi a ha => by
      obtain ⟨c', z1, z2⟩ := ownAt_get (List.all_eq_true.mp hall i hi)
      obtain ⟨a', o', y1, y2, y3, y4, _⟩ := cn.own z1 z2
      have y5 := cn.io (i, adr i) (List.mem_map.mpr ⟨i, hi, rfl⟩)
      have y5 : σ'[i]? = some (some (.ref (adr i))) := y5
      rw [hadr i a ha, y1] at y5
      cases y5
      exact ⟨c', z1, z2, o', y1, y2, y3, y4⟩
    refine hq F' H' v g.sub cn.frz (fun a o e => ?_) (fun a o e hn => cn.base a o (by rw [hB hn]; exact e)) ?_ (fun i hi a ha => ?_)
    · rcases g.new a o e with z | z
      · exact .inl z
      · by_cases hx : ∃ i, i ∈ ios ∧ vs[i]? = some (.ref a)
        · obtain ⟨i, hi, ha⟩ := hx
          obtain ⟨_, _, _, _, _, _, _, y⟩ := ioc i hi a ha
          rw [y] at e; cases e
        · rw [hB (fun i hi ha => hx ⟨i, hi, ha⟩)] at z; exact .inr z
    · by_cases hown : isOwn r = true
      · rw [retOk_own hown] at ret
        rw [retC_own hown]
        obtain ⟨a, o, y1, y2, y3, y4, y5, y6⟩ := ret
        refine ⟨a, o, y1, y2, y3, y4, ?_⟩
        by_cases hx : ∃ i, i ∈ ios ∧ vs[i]? = some (.ref a)
        · obtain ⟨i, hi, ha⟩ := hx
          obtain ⟨c', z1, z2, _, z3, _⟩ := ioc i hi a ha
          exact absurd z3 (y6 i c' z1 z2)
        · rw [hB (fun i hi ha => hx ⟨i, hi, ha⟩)] at y5; exact y5
      · cases r with
        | dead => exact ret
        | sh d => exact ret
        | fd tk kvs =>
          obtain ⟨_, _, _, _, h, _⟩ := ret
          exact h.elim
        | _ => exact absurd rfl hown
    · obtain ⟨c', z1, z2, o', _, z4, z5, z6⟩ := ioc i hi a ha
      have hi2 : i < cs.length := by rw [← hlen]; exact (List.getElem?_eq_some_iff.mp ha).1
      exact ⟨o', c', by rw [keepN_mem hi, List.getElem?_take_of_lt hi2]; exact z1, z2, z4, z5, z6⟩
  refine se B F (ios.map fun i => (i, adr i)) (start N vs) H _ o _ (by rw [List.map_map]; exact List.map_id _) c0 e1 ?_
  cases o with
  | rt c ρ' =>
    have e2 : (if ios.all (ownAt ρ') = true then some (c, ρ'.take (keepN ios cs.length)) else none) = some (r, cs') := e2
    by_cases hall : ios.all (ownAt ρ') = true
    · rw [if_pos hall] at e2
      cases e2
      exact fin hall rfl rfl
    · rw [if_neg hall] at e2; cases e2
  | nx ρ' =>
    have e2 : (if ios.all (ownAt ρ') = true then some (Cell.sh .none, ρ'.take (keepN ios cs.length)) else none) = some (r, cs') := e2
    by_cases hall : ios.all (ownAt ρ') = true
    · rw [if_pos hall] at e2
      cases e2
      exact fun F' σ' H' g cn => fin hall rfl rfl F' σ' H' .non g cn .non
    · rw [if_neg hall] at e2; cases e2
  | bk ρ' => cases e2
  | ct ρ' => cases e2
end
end L2.Pd

namespace L2.Pd
open PySem PySem.Spec PyProof.Rows
/-! ## The call of a def -/
abbrev FC := En → Option (Cell × En)
def SC (K : PySem.W.Frag) (t : TE) (f : FC) : Prop := ∀ (B F : Hp) (io : List (Nat × Addr)) (σ : St) (H : Hp) (ρ : En) (c : Cell) (ρ' : En) (Q : VK), Con K B F io σ H ρ → f ρ = some (c, ρ') →
  (∀ F' H' v, Gr B F F' → Con K B F' io σ H' ρ' → RetOk K B F' σ H' ρ' v c → Q v H') → t σ H Q
structure DC (X : Cx) (e : Expr) (t : TE) (f : FC) : Prop where
  pe : PE X e t
  se : SC X.K t f
/-- a new list is frozen -/
theorem Con.freeze_new {K : PySem.W.Frag} {B F H : Hp} {io : List (Nat × Addr)} {σ : St} {ρ : En} {a : Addr} {o : HO} {ds : List D} (c : Con K B F io σ H ρ) (ha : H a = some o) (ob : Ob K F (.ol ds) o) (fa : F a = none) (ba : B a = none) (no : NotOwned σ ρ a) :
    ∃ F', Gr B F F' ∧ Con K B F' io σ H ρ ∧ Dp K F' (.ref a) (.list ds) := by
  cases o with
  | lst vs =>
    have s1 : Same F (upd F a (.lst vs)) := same_upd fa
    refine ⟨upd F a (.lst vs), ⟨s1, fun b x e => ?_⟩, ⟨c.len, c.base, fun b x e => ?_, fun i u hu => ?_, c.sep, c.io⟩, .lst (.inl (.inl upd_same)) (dpAll_mono s1 ob)⟩
    · by_cases q : b = a
      · subst q; exact .inr ba
      · rw [upd_ne q] at e; exact .inl e
    · by_cases q : b = a
      · subst q; rw [upd_same] at e; rw [ha]; exact e
      · rw [upd_ne q] at e; exact c.frz b x e
    · obtain ⟨x, hx, ok⟩ := c.cell i u hu
      refine ⟨x, hx, ?_⟩
      by_cases ho : isOwn u = true
      · rw [cellOk_own ho] at ok ⊢
        obtain ⟨q, w, z1, z2, z3, z4, z5⟩ := ok
        subst z1
        refine ⟨q, w, rfl, z2, ob_mono s1 z3, ?_, z5⟩
        rw [upd_ne (fun z => no i u hu ho (by rw [hx, z]))]
        exact z4
      · cases u with
        | dead => trivial
        | sh d => obtain ⟨v, z1, z2⟩ := ok; exact ⟨v, z1, dp_mono s1 z2⟩
        | fd tk kvs => obtain ⟨p, ob, u, z1, z2, z3⟩ := ok; exact ⟨p, ob, u, z1, s1 _ _ z2, dictOb_mono s1 z3⟩
        | _ => exact absurd rfl ho
  | _ => exact False.elim ob
def cellD : Cell → Option D
  | .sh d => some d
  | .ol ds => some (.list ds)
  | _ => none
def ownC : Cell → Option Cell
  | .ol ds => some (.ol ds)
  | .od tk ds => some (.od tk ds)
  | _ => none
theorem ownC_eq {c c' : Cell} (h : ownC c = some c') : c' = c ∧ isOwn c = true := by
  cases c <;> first | (cases h; exact ⟨rfl, rfl⟩) | (cases h; done)
def eRetD (f : FC) : FE := fun ρ => (f ρ).bind fun p => (cellD p.1).map fun d => (d, p.2)
def eRetN (f : FC) : FN := fun ρ => (f ρ).bind fun p => (ownC p.1).map fun c => (c, p.2)
section
variable {X : Cx} {e : Expr} {t : TE} {f : FC}
theorem DC.de (h : DC X e t f) : DE X e t (eRetD f) := ⟨h.pe, by
  intro B F io σ H ρ d ρ' Q c e k
  obtain ⟨p, e1, e⟩ := Option.bind_eq_some_iff.mp e
  obtain ⟨z, e2, e3⟩ := Option.map_eq_some_iff.mp e
  cases e3
  refine h.se B F io σ H ρ p.1 p.2 _ c e1 fun F1 H1 v g1 c1 r1 => ?_
  cases hp : p.1 with
  | sh d0 =>
    rw [hp] at e2 r1
    cases e2
    exact k F1 H1 v g1 c1 r1
  | ol ds =>
    rw [hp] at e2 r1
    cases e2
    obtain ⟨a, o, rfl, h1, h2, h3, h4, h5⟩ := (retOk_own rfl).mp r1
    obtain ⟨F2, g2, c2, d2⟩ := c1.freeze_new h1 h2 h3 h4 h5
    exact k F2 H1 _ (g1.trans g2) c2 d2
  | _ => rw [hp] at e2; cases e2⟩
theorem DC.dn (h : DC X e t f) : DN X e t (eRetN f) := ⟨h.pe, by
  intro B F io σ H ρ d ρ' Q c e k
  obtain ⟨p, e1, e⟩ := Option.bind_eq_some_iff.mp e
  obtain ⟨z, e2, e3⟩ := Option.map_eq_some_iff.mp e
  cases e3
  obtain ⟨e4, ho⟩ := ownC_eq e2
  rw [← e4] at ho
  refine h.se B F io σ H ρ p.1 p.2 _ c e1 fun F1 H1 v g1 c1 r1 => ?_
  rw [← e4] at r1
  obtain ⟨a, o, rfl, h1, h2, h3, h4, h5⟩ := (retOk_own ho).mp r1
  exact k F1 H1 a o g1 c1 h1 h2 h3 h4 h5⟩
end
/-- f(e, ..), no argument is changed -/
def eCall0 (m : FnS) (fa : FA) : FC := fun ρ => (fa ρ).bind fun p => (m (p.1.map .sh)).map fun r => (r.1, p.2)
section
variable {X : Cx} {k : Nat} {f : Addr} {fd : FuncData} {ps : List Str} {m : FnS} {x : Str} {p pos : Pos} {e : Expr} {es : List Expr} {t : TA} {fa : FA}
abbrev FnD (P : Program) (w : World) (K : PySem.W.Frag) (mg : Str → Option Value) (base : Heap) (k : Nat) (f : Addr) (fd : FuncData) (ps : List Str) (ios : List Nat) (m : FnS) : Prop :=
  FnOk P w K mg base CX0 k f fd ps (fun vs H Q E => vs.length = ps.length ∧ spD K ios m vs H Q E)
theorem shs_get {K : PySem.W.Frag} {F : Hp} {vs : List V} {ds : List D} (h : DpAll K F vs ds) {i : Nat} {c : Cell} (e : (ds.map Cell.sh)[i]? = some c) : ∃ v d, vs[i]? = some v ∧ c = .sh d ∧ Dp K F v d := by
  rw [List.getElem?_map] at e
  obtain ⟨d, e1, e2⟩ := Option.map_eq_some_iff.mp e
  obtain ⟨v, e3, q⟩ := h.get' e1
  exact ⟨v, d, e3, e2.symm, q⟩
theorem sc_call0 {K : PySem.W.Frag} {sp : Sp} (hsp : sp = fun vs H Q E => vs.length = ps.length ∧ spD K [] m vs H Q E) (hn : ∀ ρ ds ρ', fa ρ = some (ds, ρ') → ds.length = ps.length) (ha : SA K t fa) : SC K (tCall sp [] E0 t) (eCall0 m fa) := by
  subst hsp
  intro B F io σ H ρ c ρ' Q cn e k
  obtain ⟨⟨ds, ρ1⟩, e1, e⟩ := Option.bind_eq_some_iff.mp e
  obtain ⟨⟨r, cs'⟩, e2, e3⟩ := Option.map_eq_some_iff.mp e
  cases e3
  refine ha B F io σ H ρ ds ρ1 _ cn e1 fun F1 H1 vs g1 c1 d1 => ?_
  rw [List.append_nil]
  refine ⟨by rw [d1.length]; exact hn _ _ _ e1, F1, _, cs', r, c1.frz, by rw [List.length_map, d1.length], e2, fun i c he _ => shs_get d1 he, fun i hi => absurd hi (List.not_mem_nil), fun i j a hi => absurd hi (List.not_mem_nil), ?_⟩
  intro F' H' v s1 s2 hnew hkeep ret _
  have al : Al F1 H1 F' H' := ⟨s1, fun a o ha => hkeep a o ha (fun i hi => absurd hi (List.not_mem_nil)), s2, hnew⟩
  have c2 := c1.al al
  refine k F' H' v (g1.trans (al.gr c1.base)) c2 ?_
  by_cases ho : isOwn r = true
  · rw [retC_own ho] at ret
    obtain ⟨a, o, y1, y2, y3, y4, y5⟩ := ret
    exact (retOk_own ho).mpr ⟨a, o, y1, y2, y3, y4, c1.base.free y5, c1.fresh_notOwned y5⟩
  · cases r with
    | dead => exact ret
    | sh d => exact ret
    | fd tk kvs =>
      obtain ⟨_, _, _, _, h, _⟩ := ret
      exact h.elim
    | _ => exact absurd rfl ho
/-- the arguments are so many -/
def aLen (fa : FA) (n : Nat) : Prop := ∀ ρ ds ρ', fa ρ = some (ds, ρ') → ds.length = n
theorem aLen_nil : aLen aNil 0 := fun ρ ds ρ' h => by cases h; rfl
theorem aLen_cons {f : FE} {g : FA} {n : Nat} (h : aLen g n) : aLen (aCons f g) (n + 1) := fun ρ ds ρ' e => by
  obtain ⟨p, _, e⟩ := Option.bind_eq_some_iff.mp e
  obtain ⟨q, e2, e⟩ := Option.map_eq_some_iff.mp e
  cases e
  rw [List.length_cons, h _ _ _ e2]
theorem dc_call0 (F : FnD X.prog X.w X.K X.mg X.base k f fd ps [] m) (hr : Room k X.A) (hm : X.mg x = some (.ref f)) (hk : PySem.W.keepIn X.K (.ref f) = true) (hb : Binds X.K fd ps []) (ha : DA X (e :: es) t fa) (hn : aLen fa ps.length) (hg : Gl X x := by rfl)
    (hdb : (x == ("__debug__" : Str)) = false := by decide) (he : starEach (e :: es) X.env = (false, eval e X.env) :: starEach es X.env := by rfl) (hpl : (backTo pos (starEach es X.env)).any (·.1) = false := by rfl) :
    DC X (.Call (.Name x p) (e :: es) [] pos) (tCall (fun vs H Q E => vs.length = ps.length ∧ spD X.K [] m vs H Q E) [] E0 t) (eCall0 m fa) :=
  ⟨pe_call F hr hg hm hk hb .nil pass0 ha.pe hdb he hpl, sc_call0 rfl hn ha.se⟩
theorem dc_call00 (F : FnD X.prog X.w X.K X.mg X.base k f fd ps [] m) (hr : Room k X.A) (hm : X.mg x = some (.ref f)) (hk : PySem.W.keepIn X.K (.ref f) = true) (hb : Binds X.K fd ps []) (hn : ps.length = 0) (hg : Gl X x := by rfl)
    (hdb : (x == ("__debug__" : Str)) = false := by decide) :
    DC X (.Call (.Name x p) [] [] pos) (tCall (fun vs H Q E => vs.length = ps.length ∧ spD X.K [] m vs H Q E) [] E0 tNil) (eCall0 m aNil) :=
  ⟨pe_call0 F hr hg hm hk hb .nil pass0 hdb, sc_call0 rfl (by rw [hn]; exact aLen_nil) da_nil.se⟩
where da_nil : DA X [] tNil aNil := Pd.da_nil
end
/-! ### one argument is a list that the def changes -/
abbrev FR := En → Option (List (Option D) × En)
def AOk (K : PySem.W.Frag) (F : Hp) (x : Option (Option V)) (v : V) : Option D → Prop
  | some d => Dp K F v d
  | none => x = some (some v)
def SR (K : PySem.W.Frag) (j : Nat) (t : TA) (f : FR) : Prop := ∀ (B F : Hp) (io : List (Nat × Addr)) (σ : St) (H : Hp) (ρ : En) (as : List (Option D)) (ρ' : En) (Q : List V → Hp → Prop), Con K B F io σ H ρ → f ρ = some (as, ρ') →
  (∀ F' H' vs, Gr B F F' → Con K B F' io σ H' ρ' → Paired (fun v a => AOk K F' σ[j]? v a) vs as → Q vs H') → t σ H Q
structure DR (X : Cx) (j : Nat) (sh : List Bool) (es : List Expr) (t : TA) (f : FR) : Prop where
  pe : PA X es t
  se : SR X.K j t f
  shp : ∀ ρ as ρ', f ρ = some (as, ρ') → as.map Option.isSome = sh
def rNil : FR := fun ρ => some ([], ρ)
def rCons (f : FE) (g : FR) : FR := fun ρ => (f ρ).bind fun p => (g p.2).map fun q => (some p.1 :: q.1, q.2)
def rIo (j : Nat) (g : FR) : FR := fun ρ => if ownAt ρ j = true then (g ρ).map fun q => (none :: q.1, q.2) else none
section
variable {X : Cx} {j : Nat} {sh : List Bool} {e : Expr} {es : List Expr} {te : TE} {fe : FE} {t : TA} {g : FR}
theorem dr_nil : DR X j [] [] tNil rNil := ⟨pa_nil, fun B F io σ H ρ as ρ' Q c e k => by cases e; exact k F H [] (Gr.refl _ _) c .nil, fun ρ as ρ' e => by cases e; rfl⟩
theorem aok_mono {K : PySem.W.Frag} {F F' : Hp} {x : Option (Option V)} {v : V} {a : Option D} (s : Same F F') (h : AOk K F x v a) : AOk K F' x v a := by
  cases a with
  | none => exact h
  | some d => exact dp_mono s h
theorem dr_cons (ha : DE X e te fe) (hr : DR X j sh es t g) (hs : starEach (e :: es) X.env = (false, eval e X.env) :: starEach es X.env := by rfl) : DR X j (true :: sh) (e :: es) (tCons te t) (rCons fe g) := by
  refine ⟨pa_cons ha.pe hr.pe hs, ?_, ?_⟩
  · intro B F io σ H ρ as ρ' Q c h k
    obtain ⟨p, e1, h⟩ := Option.bind_eq_some_iff.mp h
    obtain ⟨q, e2, h⟩ := Option.map_eq_some_iff.mp h
    cases h
    refine ha.se B F io σ H ρ p.1 p.2 _ c e1 fun F1 H1 x g1 c1 d1 => ?_
    exact hr.se B F1 io σ H1 p.2 q.1 q.2 _ c1 e2 fun F2 H2 xs g2 c2 d2 => k F2 H2 (x :: xs) (g1.trans g2) c2 (.cons (dp_mono g2.sub d1) d2)
  · intro ρ as ρ' h
    obtain ⟨p, e1, h⟩ := Option.bind_eq_some_iff.mp h
    obtain ⟨q, e2, h⟩ := Option.map_eq_some_iff.mp h
    cases h
    rw [List.map_cons, hr.shp _ _ _ e2]
    rfl
theorem dr_io {x : Str} {pos : Pos} (hr : DR X j sh es t g) (hN : X.N[j]? = some x := by rfl) (hv : Vis X.env.scope x := by first | exact Or.inl rfl | exact Or.inr (Or.inl rfl) | exact Or.inr (Or.inr rfl)) (hd : (x == ("__debug__" : Str)) = false := by decide) (hcd : (x == ("__classdict__" : Str)) = false := by decide)
    (hs : starEach (.Name x pos :: es) X.env = (false, eval (.Name x pos) X.env) :: starEach es X.env := by rfl) : DR X j (false :: sh) (.Name x pos :: es) (tCons (tVar j) t) (rIo j g) := by
  refine ⟨pa_cons (pe_var hN hv hd hcd) hr.pe hs, ?_, ?_⟩
  · intro B F io σ H ρ as ρ' Q c h k
    have h : (if ownAt ρ j = true then (g ρ).map fun q => ((none : Option D) :: q.1, q.2) else none) = some (as, ρ') := h
    by_cases ho : ownAt ρ j = true
    · rw [if_pos ho] at h
      obtain ⟨q, e2, h⟩ := Option.map_eq_some_iff.mp h
      cases h
      obtain ⟨u, z1, z2⟩ := ownAt_get ho
      obtain ⟨a, o, h1, _⟩ := c.own z1 z2
      exact ⟨.ref a, h1, hr.se B F io σ H ρ q.1 q.2 _ c e2 fun F2 H2 xs g2 c2 d2 => k F2 H2 (.ref a :: xs) g2 c2 (.cons h1 d2)⟩
    · rw [if_neg ho] at h; cases h
  · intro ρ as ρ' h
    have h : (if ownAt ρ j = true then (g ρ).map fun q => ((none : Option D) :: q.1, q.2) else none) = some (as, ρ') := h
    by_cases ho : ownAt ρ j = true
    · rw [if_pos ho] at h
      obtain ⟨q, e2, h⟩ := Option.map_eq_some_iff.mp h
      cases h
      rw [List.map_cons, hr.shp _ _ _ e2]
      rfl
    · rw [if_neg ho] at h; cases h
end
def argC (c : Cell) : Option D → Cell
  | some d => .sh d
  | none => c
def eCall1 (i0 j : Nat) (m : FnS) (fr : FR) : FC := fun ρ => (fr ρ).bind fun p => (p.2[j]?).bind fun c => if isOwn c = true then (m (p.1.map (argC c))).bind fun r => (r.2[i0]?).map fun c' => (r.1, p.2.set j c') else none
section
variable {X : Cx} {k : Nat} {f : Addr} {fd : FuncData} {ps : List Str} {m : FnS} {x : Str} {p pos : Pos} {e : Expr} {es : List Expr} {t : TA} {fr : FR} {i0 j : Nat} {sh : List Bool}
theorem paired_get' {α β : Type} {R : α → β → Prop} : ∀ {as : List α} {bs : List β} {i : Nat} {b : β}, Paired R as bs → bs[i]? = some b → ∃ a, as[i]? = some a ∧ R a b
  | _, _, _, _, .nil, e => by simp at e
  | _, _, 0, b, .cons r _, e => by simp at e; subst e; exact ⟨_, rfl, r⟩
  | _, _, i + 1, b, .cons _ t, e => by
    obtain ⟨a, h1, h2⟩ := paired_get' (i := i) t (by simpa using e)
    exact ⟨a, by simpa using h1, h2⟩
theorem sc_call1 {K : PySem.W.Frag} {sp : Sp} (hsp : sp = fun vs H Q E => vs.length = ps.length ∧ spD K [i0] m vs H Q E) (hsh : ∀ i b, sh[i]? = some b → (b = false ↔ i = i0)) (hi0 : i0 < sh.length) (hn : sh.length = ps.length) (hs : ∀ ρ as ρ', fr ρ = some (as, ρ') → as.map Option.isSome = sh) (ha : SR K j t fr) :
    SC K (tCall sp [] E0 t) (eCall1 i0 j m fr) := by
  subst hsp
  intro B F io σ H ρ c ρ' Q cn e k
  obtain ⟨⟨as, ρ1⟩, e1, e⟩ := Option.bind_eq_some_iff.mp e
  obtain ⟨u, hu, e⟩ := Option.bind_eq_some_iff.mp e
  have e : (if isOwn u = true then (m (as.map (argC u))).bind fun r => (r.2[i0]?).map fun c' => (r.1, ρ1.set j c') else none) = some (c, ρ') := e
  by_cases hou : isOwn u = true
  case neg => rw [if_neg hou] at e; cases e
  rw [if_pos hou] at e
  obtain ⟨⟨r, cs'⟩, e2, e⟩ := Option.bind_eq_some_iff.mp e
  obtain ⟨c', e3, e4⟩ := Option.map_eq_some_iff.mp e
  cases e4
  have hshape := hs _ _ _ e1
  have hlen : as.length = sh.length := by rw [← hshape, List.length_map]
  refine ha B F io σ H ρ as ρ1 _ cn e1 fun F1 H1 vs g1 c1 d1 => ?_
  rw [List.append_nil]
  have hvl : vs.length = as.length := Paired.length d1
  obtain ⟨a, o, a1, a2, a3, a4, a5⟩ := c1.own hu hou
  have kind : ∀ {i : Nat} {b : Option D}, as[i]? = some b → (b = none ↔ i = i0) := fun {i b} hb => by
    have : sh[i]? = some b.isSome := by rw [← hshape, List.getElem?_map, hb]; rfl
    rw [← hsh i _ this]
    cases b <;> simp
  have at0 : as[i0]? = some none := by
    have hlt : i0 < as.length := by omega
    have e5 := List.getElem?_eq_getElem hlt
    rw [e5, (kind e5).mpr rfl]
  have v0 : vs[i0]? = some (.ref a) := by
    obtain ⟨v, q1, q2⟩ := paired_get' d1 at0
    have q2 : σ[j]? = some (some v) := q2
    rw [a1] at q2
    cases q2
    exact q1
  refine ⟨by rw [hvl, hlen, hn], F1, as.map (argC u), cs', r, c1.frz, by rw [List.length_map, hvl], e2, fun i w he hi => ?_, fun i hi => ?_, fun i i' b hi hi' _ _ => ?_, ?_⟩
  · rw [List.getElem?_map] at he
    obtain ⟨b, q1, q2⟩ := Option.map_eq_some_iff.mp he
    have hi : i ≠ i0 := fun z => hi (by rw [z]; exact List.mem_singleton.mpr rfl)
    cases b with
    | none => exact absurd ((kind q1).mp rfl) hi
    | some d =>
      obtain ⟨v, q3, q4⟩ := paired_get' d1 q1
      exact ⟨v, d, q3, q2.symm, q4⟩
  · have : i = i0 := List.mem_singleton.mp hi
    subst this
    exact ⟨a, o, u, by rw [List.getElem?_map, at0]; rfl, hou, v0, a2, a3, a4⟩
  · rw [List.mem_singleton.mp hi, List.mem_singleton.mp hi']
  · intro F' H' v s1 s2 hnew hkeep ret hio
    obtain ⟨o', c'', b1, b2, b3, b4, b5⟩ := hio i0 (List.mem_singleton.mpr rfl) a v0
    rw [e3] at b1
    cases b1
    have keep : ∀ b x, H1 b = some x → b ≠ a → H' b = some x := fun b x hb hne => hkeep b x hb fun i hi hv => by
      rw [List.mem_singleton.mp hi, v0] at hv
      cases hv
      exact hne rfl
    have free : ∀ {b}, H1 b ≠ none → F1 b = none → F' b = none := fun {b} hb hf => by
      cases q : F' b with
      | none => rfl
      | some x =>
        rcases hnew b x q with z | z
        · rw [hf] at z; cases z
        · exact absurd z hb
    have gr : Gr B F1 F' := ⟨s1, fun b x hb => by
      rcases hnew b x hb with z | z
      · exact .inl z
      · exact .inr (c1.base.free z)⟩
    have others : ∀ {i : Nat} {w : Cell}, i ≠ j → ρ1[i]? = some w → isOwn w = true → ∃ b x, σ[i]? = some (some (.ref b)) ∧ b ≠ a ∧ H1 b = some x ∧ H' b = some x ∧ Ob K F' w x ∧ F' b = none ∧ B b = none := fun {i w} hne hw how => by
      obtain ⟨b, x, y1, y2, y3, y4, y5⟩ := c1.own hw how
      have nb : b ≠ a := fun z => hne (c1.sep i j w u a hw hu how hou (by rw [y1, z]) a1)
      exact ⟨b, x, y1, nb, y2, keep b x y2 nb, ob_mono s1 y3, free (by rw [y2]; exact fun z => nomatch z) y4, y5⟩
    have hjl : j < ρ1.length := (List.getElem?_eq_some_iff.mp hu).1
    have c2 : Con K B F' io σ H' (ρ1.set j c') := by
      refine ⟨by rw [List.length_set, c1.len], fun b x hb => keep b x (c1.base b x hb) (fun z => by subst z; rw [a5] at hb; cases hb), s2, fun i w hw => ?_, fun i i' w w' b h1 h2 o1 o2 t1 t2 => ?_, c1.io⟩
      · rcases get_set_cases hw with ⟨rfl, rfl, _⟩ | ⟨ne, hw⟩
        · exact ⟨_, a1, (cellOk_own b2).mpr ⟨a, o', rfl, b3, b4, b5, a5⟩⟩
        · obtain ⟨y, hy, ok⟩ := c1.cell i w hw
          refine ⟨y, hy, ?_⟩
          by_cases how : isOwn w = true
          · obtain ⟨b, z, y1, _, _, y3, y4, y5, y6⟩ := others ne hw how
            rw [hy] at y1
            cases y1
            exact (cellOk_own how).mpr ⟨b, z, rfl, y3, y4, y5, y6⟩
          · cases w with
            | dead => trivial
            | sh d => obtain ⟨v', z1, z2⟩ := ok; exact ⟨v', z1, dp_mono s1 z2⟩
            | fd tk kvs => obtain ⟨p, ob, u, z1, z2, z3⟩ := ok; exact ⟨p, ob, u, z1, s1 _ _ z2, dictOb_mono s1 z3⟩
            | _ => exact absurd rfl how
      · rcases get_set_cases h1 with ⟨rfl, rfl, _⟩ | ⟨ne1, g1'⟩
        · rcases get_set_cases h2 with ⟨rfl, rfl, _⟩ | ⟨ne2, g2'⟩
          · rfl
          · obtain ⟨b', _, y1, y2, _⟩ := others ne2 g2' o2
            rw [a1] at t1; rw [y1] at t2
            cases t1; cases t2
            exact absurd rfl y2
        · rcases get_set_cases h2 with ⟨rfl, rfl, _⟩ | ⟨ne2, g2'⟩
          · obtain ⟨b', _, y1, y2, _⟩ := others ne1 g1' o1
            rw [a1] at t2; rw [y1] at t1
            cases t1; cases t2
            exact absurd rfl y2
          · exact c1.sep i i' w w' b g1' g2' o1 o2 t1 t2
    refine k F' H' v (g1.trans gr) c2 ?_
    by_cases ho : isOwn r = true
    · rw [retC_own ho] at ret
      obtain ⟨b, x, y1, y2, y3, y4, y5⟩ := ret
      refine (retOk_own ho).mpr ⟨b, x, y1, y2, y3, y4, c1.base.free y5, fun i w hw how hs => ?_⟩
      rcases get_set_cases hw with ⟨rfl, rfl, _⟩ | ⟨ne, hw⟩
      · rw [a1] at hs; cases hs
        rw [a2] at y5; cases y5
      · obtain ⟨b', z, y1', _, y3', _⟩ := others ne hw how
        rw [y1'] at hs; cases hs
        rw [y3'] at y5; cases y5
    · cases r with
      | dead => exact ret
      | sh d => exact ret
      | fd tk kvs =>
        obtain ⟨_, _, _, _, h, _⟩ := ret
        exact h.elim
      | _ => exact absurd rfl ho
def shapeOk (i0 : Nat) (sh : List Bool) : Bool := decide (i0 < sh.length) && (List.range sh.length).all fun i => (sh[i]? == some false) == decide (i = i0)
theorem shapeOk_iff (h : shapeOk i0 sh = true) : (∀ i b, sh[i]? = some b → (b = false ↔ i = i0)) ∧ i0 < sh.length := by
  unfold shapeOk at h
  rw [Bool.and_eq_true] at h
  refine ⟨fun i b hb => ?_, of_decide_eq_true h.1⟩
  have hi : i < sh.length := (List.getElem?_eq_some_iff.mp hb).1
  have := List.all_eq_true.mp h.2 i (List.mem_range.mpr hi)
  rw [hb] at this
  have this := beq_iff_eq.mp this
  constructor
  · intro e; subst e
    exact of_decide_eq_true (this.symm.trans (by rfl))
  · intro e
    rw [decide_eq_true e] at this
    have := beq_iff_eq.mp this
    cases this; rfl
theorem dc_call1 (F : FnD X.prog X.w X.K X.mg X.base k f fd ps [i0] m) (hr : Room k X.A) (hm : X.mg x = some (.ref f)) (hk : PySem.W.keepIn X.K (.ref f) = true) (hb : Binds X.K fd ps []) (ha : DR X j sh (e :: es) t fr) (hsh : shapeOk i0 sh = true := by decide) (hn : sh.length = ps.length := by decide) (hg : Gl X x := by rfl)
    (hdb : (x == ("__debug__" : Str)) = false := by decide) (he : starEach (e :: es) X.env = (false, eval e X.env) :: starEach es X.env := by rfl) (hpl : (backTo pos (starEach es X.env)).any (·.1) = false := by rfl) :
    DC X (.Call (.Name x p) (e :: es) [] pos) (tCall (fun vs H Q E => vs.length = ps.length ∧ spD X.K [i0] m vs H Q E) [] E0 t) (eCall1 i0 j m fr) :=
  ⟨pe_call F hr hg hm hk hb .nil pass0 ha.pe hdb he hpl, sc_call1 rfl (shapeOk_iff hsh).1 (shapeOk_iff hsh).2 hn ha.shp ha.se⟩
end
end L2.Pd

namespace L2.Pd
open PySem PySem.Spec PyProof.Rows
/-! ## Own lists read; borrowed -/
section
variable {X : Cx} {i : Expr} {ti : TE} {fi : FE} {x y : Str} {p p1 p2 pos : Pos} {j : Nat}
/-- x[i], x an own list -/
def eIxOwn (j : Nat) (fi : FE) : FE := fun ρ => (ownL j ρ).bind fun _ => (fi ρ).bind fun q => (ownL j q.2).bind fun ds => (intD q.1).bind fun k => (atI ds k).map fun d => (d, q.2)
theorem de_ixOwn (j : Nat) (hi : DE X i ti fi) (hN : X.N[j]? = some x := by rfl) (hv : Vis X.env.scope x := by first | exact Or.inl rfl | exact Or.inr (Or.inl rfl) | exact Or.inr (Or.inr rfl)) (hd : (x == ("__debug__" : Str)) = false := by decide)
    (hcd : (x == ("__classdict__" : Str)) = false := by decide) (hs : PlainIx i := by exact fun _ _ => rfl) : DE X (.Subscript (.Name x p1) i pos) (tOp (rIx X.K) (tVar j) ti) (eIxOwn j fi) := by
  refine ⟨pe_ix ix_seq (pe_var hN hv hd hcd) hi.pe hs, ?_⟩
  intro B F io σ H ρ d ρ' Q c e k
  obtain ⟨ds0, z0, e⟩ := Option.bind_eq_some_iff.mp e
  obtain ⟨q, e1, e⟩ := Option.bind_eq_some_iff.mp e
  obtain ⟨ds, z1, e⟩ := Option.bind_eq_some_iff.mp e
  obtain ⟨n, z2, e⟩ := Option.bind_eq_some_iff.mp e
  obtain ⟨d', z3, e4⟩ := Option.map_eq_some_iff.mp e
  cases e4
  obtain ⟨a, _, s1, _, _⟩ := own_list c z0
  refine ⟨.ref a, s1, hi.se B F io σ H ρ q.1 q.2 _ c e1 fun F1 H1 v g1 c1 d1 => ?_⟩
  obtain ⟨a', vs, s2, h2, d2⟩ := own_list c1 z1
  have ea : a' = a := by rw [s1] at s2; cases s2; rfl
  subst ea
  rw [intD_eq z2] at d1
  cases d1
  obtain ⟨w, e5, e6⟩ := atI_dp d2 z3
  exact .inl ⟨a', vs, n, w, rfl, rfl, .inl (.inl h2), e5, k F1 H1 w g1 c1 e6⟩
/-- len(x), x an own list -/
def eLenOwn (j : Nat) : FE := fun ρ => (ownL j ρ).map fun ds => (.int ds.length, ρ)
theorem de_lenOwn (j : Nat) (hm : X.mg "len" = none) (hN : X.N[j]? = some x := by rfl) (hv : Vis X.env.scope x := by first | exact Or.inl rfl | exact Or.inr (Or.inl rfl) | exact Or.inr (Or.inr rfl)) (hd : (x == ("__debug__" : Str)) = false := by decide)
    (hcd : (x == ("__classdict__" : Str)) = false := by decide) (hg : Gl X "len" := by rfl) (he : starEach [.Name x p1] X.env = (false, eval (.Name x p1) X.env) :: starEach [] X.env := by rfl) (hpl : (backTo pos (starEach [] X.env)).any (·.1) = false := by rfl) :
    DE X (.Call (.Name "len" p) [.Name x p1] [] pos) (tCB (rLen X.K) (tCons (tVar j) tNil)) (eLenOwn j) := by
  refine ⟨pe_callB call_len hg hm (by decide +kernel) (pa_cons (pe_var hN hv hd hcd) pa_nil he) (by decide) (by decide) he hpl, ?_⟩
  intro B F io σ H ρ d ρ' Q c e k
  obtain ⟨ds, z0, e4⟩ := Option.map_eq_some_iff.mp e
  cases e4
  obtain ⟨a, vs, s1, h1, d1⟩ := own_list c z0
  exact ⟨.ref a, s1, _, _, rfl, .inl ⟨vs, .inl (.inl h1), rfl⟩, k F H _ (Gr.refl _ _) c (by rw [d1.length]; exact .int _)⟩
end
/-! ### a list lent for the while of an expression -/
mutual
def noL : D → Bool
  | .list _ => false
  | .tuple ds => noLs ds
  | .dict _ => false
  | _ => true
def noLs : List D → Bool
  | [] => true
  | d :: r => noL d && noLs r
end
def noLC : Cell → Bool
  | .dead => true
  | .sh d => noL d
  | .ol ds => noLs ds
  | .od _ kvs => noLs (kvs.map (·.2))
  | .fd _ kvs => noLs (kvs.map (·.2))
def without (F : Hp) (a : Addr) : Hp := fun b => if b = a then none else F b
theorem without_ne {F : Hp} {a b : Addr} (h : b ≠ a) : without F a b = F b := if_neg h
theorem without_at {F : Hp} {a : Addr} : without F a a = none := if_pos rfl
section
variable {K : PySem.W.Frag} {F : Hp} {a : Addr} {ws : List V}
theorem sqT_without (h : F a = some (.lst ws)) {b : Addr} {xs : List V} (q : SqT K F b xs) : SqT K (without F a) b xs := by
  rcases q with (q | ⟨o, q⟩) | q
  · exact .inl (.inl (by rw [without_ne (fun z => by subst z; rw [h] at q; cases q)]; exact q))
  · exact .inl (.inr ⟨o, by rw [without_ne (fun z => by subst z; rw [h] at q; cases q)]; exact q⟩)
  · exact .inr q
mutual
theorem dp_without (h : F a = some (.lst ws)) : ∀ {d : D} {v : V}, Dp K F v d → noL d = true → Dp K (without F a) v d
  | .none, _, q, _ => by cases q; exact .non
  | .bool _, _, q, _ => by cases q; exact .bl _
  | .int _, _, q, _ => by cases q; exact .int _
  | .str _, _, q, _ => by cases q; exact .str _
  | .list ds, _, _, n => by simp [noL] at n
  | .dict ds, _, _, n => by simp [noL] at n
  | .tuple ds, _, q, n => by
    cases q with
    | tup q r => exact .tup (sqT_without h q) (dpAll_without h r (by simpa [noL] using n))
theorem dpAll_without (h : F a = some (.lst ws)) : ∀ {ds : List D} {vs : List V}, DpAll K F vs ds → noLs ds = true → DpAll K (without F a) vs ds
  | [], _, q, _ => by cases q; exact .nil
  | d :: ds, _, q, n => by
    rw [noLs, Bool.and_eq_true] at n
    cases q with
    | cons q r => exact .cons (dp_without h q n.1) (dpAll_without h r n.2)
end
theorem kvK_without (h : F a = some (.lst ws)) : ∀ {kvs : List (D × D)} {us : List (Key × V)}, KvK K F kvs us → noLs (kvs.map (·.2)) = true → KvK K (without F a) kvs us
  | [], _, q, _ => by cases q; exact .nil
  | p :: r, _, q, n => by
    cases q with
    | cons q t =>
      have n : noLs (p.2 :: r.map (·.2)) = true := n
      rw [noLs, Bool.and_eq_true] at n
      exact .cons ⟨q.1, dp_without h q.2 n.1⟩ (kvK_without h t n.2)
theorem kvT_without (h : F a = some (.lst ws)) : ∀ {kvs : List (D × D)} {us : List (List Key × V)}, KvT K F kvs us → noLs (kvs.map (·.2)) = true → KvT K (without F a) kvs us
  | [], _, q, _ => by cases q; exact .nil
  | p :: r, _, q, n => by
    cases q with
    | cons q t =>
      have n : noLs (p.2 :: r.map (·.2)) = true := n
      rw [noLs, Bool.and_eq_true] at n
      exact .cons ⟨q.1, dp_without h q.2 n.1⟩ (kvT_without h t n.2)
theorem dictOb_without (h : F a = some (.lst ws)) {kvs : List (D × D)} {tk : Bool} {u : HO} (q : DictOb K F kvs tk u) (n : noLs (kvs.map (·.2)) = true) : DictOb K (without F a) kvs tk u := by
  cases tk <;> cases u <;> first
    | exact kvK_without h q n
    | exact kvT_without h q n
    | exact q.elim
theorem ob_without (h : F a = some (.lst ws)) {c : Cell} {o : HO} (q : Ob K F c o) (n : noLC c = true) : Ob K (without F a) c o := by
  cases c with
  | od tk kvs => exact dictOb_without h q n
  | _ =>
    cases o <;> first
      | exact False.elim q
      | exact dpAll_without h q n
      | exact q
end
def beqKvs : List (D × D) → List (D × D) → Bool
  | [], [] => true
  | (k, d) :: r, (l, e) :: s => beqD k l && beqD d e && beqKvs r s
  | _, _ => false
theorem beqKvs_eq : ∀ {a b : List (D × D)}, beqKvs a b = true → a = b
  | [], [], _ => rfl
  | [], _ :: _, h => by simp [beqKvs] at h
  | _ :: _, [], h => by simp [beqKvs] at h
  | (k, d) :: r, (l, e) :: s, h => by
    simp only [beqKvs, Bool.and_eq_true] at h
    rw [beqD_eq h.1.1, beqD_eq h.1.2, beqKvs_eq h.2]
def beqC : Cell → Cell → Bool
  | .dead, .dead => true
  | .sh a, .sh b => beqD a b
  | .ol a, .ol b => beqDs a b
  | .od t a, .od u b => decide (t = u) && beqKvs a b
  | _, _ => false
theorem beqC_eq {a b : Cell} (h : beqC a b = true) : a = b := by
  cases a <;> cases b <;> first
    | rfl
    | (cases h; done)
    | (exact congrArg _ (beqD_eq h))
    | (exact congrArg _ (beqDs_eq h))
    | (have h := Bool.and_eq_true_iff.mp h; rw [of_decide_eq_true h.1, beqKvs_eq h.2])
/-- each cell has no list within, or is shared data as before -/
def lentOk : En → En → Bool
  | [], _ => true
  | c :: r, ρ => (noLC c || (match c, ρ with | .sh d, .sh e :: _ => beqD d e | _, _ => false)) && lentOk r ρ.tail
theorem lentOk_get : ∀ {ρ' ρ : En} {i : Nat} {c : Cell}, lentOk ρ' ρ = true → ρ'[i]? = some c → noLC c = true ∨ (∃ d, c = .sh d ∧ ρ[i]? = some (.sh d))
  | [], _, i, c, _, e => by simp at e
  | u :: r, ρ, 0, c, h, e => by
    simp at e; subst e
    simp only [lentOk, Bool.and_eq_true, Bool.or_eq_true] at h
    rcases h.1 with h1 | h1
    · exact .inl h1
    · cases u <;> cases ρ with
      | nil => cases h1
      | cons d s => cases d <;> first | (cases h1; done) | exact .inr ⟨_, rfl, by rw [beqD_eq h1]; rfl⟩
  | u :: r, ρ, i + 1, c, h, e => by
    simp only [lentOk, Bool.and_eq_true] at h
    have := lentOk_get (ρ' := r) (ρ := ρ.tail) (i := i) (c := c) h.2 (by simpa using e)
    rcases this with q | ⟨d, q1, q⟩
    · exact .inl q
    · cases ρ with
      | nil => simp at q
      | cons d s => exact .inr ⟨_, q1, by simpa using q⟩
theorem Con.lend {K : PySem.W.Frag} {B F F' H H' : Hp} {io : List (Nat × Addr)} {σ : St} {ρ ρ' : En} {j : Nat} {ds : List D} {a : Addr} {vs : List V} (c : Con K B F io σ H ρ) (h : ownL j ρ = some ds) (ha : σ[j]? = some (some (.ref a))) (hh : H a = some (.lst vs)) (dv : DpAll K F vs ds)
    (g : Gr B (upd F a (.lst vs)) F') (c' : Con K B F' io σ H' ρ') (ok : lentOk (ρ'.set j .dead) ρ = true) : Gr B F (without F' a) ∧ Con K B (without F' a) io σ H' (ρ'.set j (.ol ds)) ∧ F' a = some (.lst vs) := by
  obtain ⟨a0, o0, h1, h2, h3, h4, h5⟩ := c.own (ownL_eq h) rfl
  have ea : a0 = a := by rw [ha] at h1; cases h1; rfl
  subst ea
  have fa : F' a0 = some (.lst vs) := g.sub _ _ upd_same
  have sF : Same F (without F' a0) := fun b x e => by
    have nb : b ≠ a0 := fun z => by subst z; rw [h4] at e; cases e
    rw [without_ne nb]
    exact g.sub b x (by rw [upd_ne nb]; exact e)
  have sub : ∀ b x, without F' a0 b = some x → b ≠ a0 ∧ F' b = some x := fun b x e => by
    by_cases z : b = a0
    · subst z; rw [without_at] at e; cases e
    · rw [without_ne z] at e; exact ⟨z, e⟩
  have gr : Gr B F (without F' a0) := ⟨sF, fun b x e => by
    obtain ⟨nb, e⟩ := sub b x e
    rcases g.new b x e with q | q
    · rw [upd_ne nb] at q; exact .inl q
    · exact .inr q⟩
  have ha' : H' a0 = some (.lst vs) := c'.frz _ _ fa
  refine ⟨gr, ⟨by rw [List.length_set, c'.len], c'.base, fun b x e => c'.frz b x (sub b x e).2, fun i w hw => ?_, fun i i' w w' b q1 q2 o1 o2 t1 t2 => ?_, c'.io⟩, fa⟩
  · rcases get_set_cases hw with ⟨rfl, rfl, hl⟩ | ⟨ne, hw⟩
    · exact ⟨_, ha, (cellOk_own rfl).mpr ⟨a0, .lst vs, rfl, ha', dpAll_mono sF dv, without_at, h5⟩⟩
    · obtain ⟨y, hy, okc⟩ := c'.cell i w hw
      refine ⟨y, hy, ?_⟩
      have hset : (ρ'.set j .dead)[i]? = some w := by rw [List.getElem?_set_ne (Ne.symm ne)]; exact hw
      rcases lentOk_get ok hset with hn | ⟨d, rfl, hs⟩
      · by_cases how : isOwn w = true
        · rw [cellOk_own how] at okc ⊢
          obtain ⟨b, z, y1, y2, y3, y4, y5⟩ := okc
          refine ⟨b, z, y1, y2, ob_without fa y3 hn, ?_, y5⟩
          by_cases nb : b = a0
          · subst nb; exact without_at
          · rw [without_ne nb]; exact y4
        · cases w with
          | dead => trivial
          | sh d => obtain ⟨v, z1, z2⟩ := okc; exact ⟨v, z1, dp_without fa z2 hn⟩
          | fd tk kvs =>
            obtain ⟨p, ob, u, z1, z2, z3⟩ := okc
            exact ⟨p, ob, u, z1, by rw [without_ne (fun z => by subst z; rw [fa] at z2; cases z2)]; exact z2, dictOb_without fa z3 hn⟩
          | _ => exact absurd rfl how
      · obtain ⟨y2, hy2, ok2⟩ := c.cell i _ hs
        have ey : y2 = y := by rw [hy] at hy2; cases hy2; rfl
        subst ey
        obtain ⟨v, z1, z2⟩ := ok2
        exact ⟨v, z1, dp_mono sF z2⟩
  · have key : ∀ (i : Nat) (w : Cell), i ≠ j → ρ'[i]? = some w → isOwn w = true → σ[i]? ≠ some (some (.ref a0)) := fun i w ne hw how q => by
      obtain ⟨a1, o1, e1, _, _, e4, _⟩ := c'.own hw how
      rw [q] at e1
      cases e1
      rw [fa] at e4
      cases e4
    rcases get_set_cases q1 with ⟨rfl, rfl, _⟩ | ⟨ne1, g1⟩
    · rcases get_set_cases q2 with ⟨rfl, rfl, _⟩ | ⟨ne2, g2⟩
      · rfl
      · rw [ha] at t1
        cases t1
        exact absurd t2 (key i' w' ne2 g2 o2)
    · rcases get_set_cases q2 with ⟨rfl, rfl, _⟩ | ⟨ne2, g2⟩
      · rw [ha] at t2
        cases t2
        exact absurd t1 (key i w ne1 g1 o1)
      · exact c'.sep i i' w w' b g1 g2 o1 o2 t1 t2
/-! the wrappers: slot j is lent -/
def lendB (j : Nat) (ds : List D) (ρ ρ' : En) : Option En := if lentOk (ρ'.set j .dead) ρ = true then some (ρ'.set j (.ol ds)) else none
def eBor (j : Nat) (f : FE) : FE := fun ρ => (ownL j ρ).bind fun ds => (f (ρ.set j (.sh (.list ds)))).bind fun p => if noL p.1 = true then (lendB j ds ρ p.2).map fun ρ' => (p.1, ρ') else none
def eBorT (j : Nat) (f : FT) : FT := fun ρ => (ownL j ρ).bind fun ds => (f (ρ.set j (.sh (.list ds)))).bind fun p => (lendB j ds ρ p.2).map fun ρ' => (p.1, ρ')
def eBorN (j : Nat) (f : FN) : FN := fun ρ => (ownL j ρ).bind fun ds => (f (ρ.set j (.sh (.list ds)))).bind fun p => if noLC p.1 = true then (lendB j ds ρ p.2).map fun ρ' => (p.1, ρ') else none
theorem lendB_eq {j : Nat} {ds : List D} {ρ ρ' r : En} (h : lendB j ds ρ ρ' = some r) : lentOk (ρ'.set j .dead) ρ = true ∧ r = ρ'.set j (.ol ds) := by
  unfold lendB at h
  split at h
  · cases h; exact ⟨by assumption, rfl⟩
  · cases h
theorem se_bor {K : PySem.W.Frag} {t : TE} {f : FE} (j : Nat) (h : SE K t f) : SE K t (eBor j f) := by
  intro B F io σ H ρ d ρ' Q c e k
  obtain ⟨ds, z0, e⟩ := Option.bind_eq_some_iff.mp e
  obtain ⟨p, e1, e⟩ := Option.bind_eq_some_iff.mp e
  obtain ⟨a, vs, h1, h2, dv, g, dd, cf⟩ := c.freezeV (ownL_eq z0)
  by_cases hn : noL p.1 = true
  · rw [if_pos hn] at e
    obtain ⟨r, e2, e3⟩ := Option.map_eq_some_iff.mp e
    cases e3
    obtain ⟨ok, rfl⟩ := lendB_eq e2
    refine h B _ io σ H _ p.1 p.2 _ cf e1 fun F1 H1 v g1 c1 d1 => ?_
    obtain ⟨g2, c2, fa⟩ := Con.lend c z0 h1 h2 dv g1 c1 ok
    exact k _ H1 v g2 c2 (dp_without fa d1 hn)
  · rw [if_neg hn] at e; cases e
theorem st_bor {K : PySem.W.Frag} {t : TT} {f : FT} (j : Nat) (h : ST K t f) : ST K t (eBorT j f) := by
  intro B F io σ H ρ d ρ' Q c e k
  obtain ⟨ds, z0, e⟩ := Option.bind_eq_some_iff.mp e
  obtain ⟨p, e1, e⟩ := Option.bind_eq_some_iff.mp e
  obtain ⟨a, vs, h1, h2, dv, g, dd, cf⟩ := c.freezeV (ownL_eq z0)
  obtain ⟨r, e2, e3⟩ := Option.map_eq_some_iff.mp e
  cases e3
  obtain ⟨ok, rfl⟩ := lendB_eq e2
  refine h B _ io σ H _ p.1 p.2 _ cf e1 fun F1 H1 g1 c1 => ?_
  obtain ⟨g2, c2, fa⟩ := Con.lend c z0 h1 h2 dv g1 c1 ok
  exact k _ H1 g2 c2
theorem sn_bor {K : PySem.W.Frag} {t : TE} {f : FN} (j : Nat) (h : SN K t f) : SN K t (eBorN j f) := by
  intro B F io σ H ρ d ρ' Q c e k
  obtain ⟨ds, z0, e⟩ := Option.bind_eq_some_iff.mp e
  obtain ⟨p, e1, e⟩ := Option.bind_eq_some_iff.mp e
  obtain ⟨a, vs, h1, h2, dv, g, dd, cf⟩ := c.freezeV (ownL_eq z0)
  by_cases hn : noLC p.1 = true
  · rw [if_pos hn] at e
    obtain ⟨r, e2, e3⟩ := Option.map_eq_some_iff.mp e
    cases e3
    obtain ⟨ok, rfl⟩ := lendB_eq e2
    refine h B _ io σ H _ p.1 p.2 _ cf e1 fun F1 H1 b o g1 c1 hb ob fb bb no => ?_
    obtain ⟨g2, c2, fa⟩ := Con.lend c z0 h1 h2 dv g1 c1 ok
    have nb : b ≠ a := fun z => by subst z; rw [fa] at fb; cases fb
    refine k _ H1 b o g2 c2 hb (ob_without fa ob hn) (by rw [without_ne nb]; exact fb) bb fun i w hw how q => ?_
    rcases get_set_cases hw with ⟨rfl, rfl, _⟩ | ⟨ne, hw⟩
    · rw [h1] at q; cases q; exact nb rfl
    · exact no i w hw how q
  · rw [if_neg hn] at e; cases e
theorem de_bor {X : Cx} {e : Expr} {t : TE} {f : FE} (j : Nat) (h : DE X e t f) : DE X e t (eBor j f) := ⟨h.pe, se_bor j h.se⟩
theorem dt_bor {X : Cx} {e : Expr} {t : TT} {f : FT} (j : Nat) (h : DT X e t f) : DT X e t (eBorT j f) := ⟨h.pe, st_bor j h.se⟩
theorem dn_bor {X : Cx} {e : Expr} {t : TE} {f : FN} (j : Nat) (h : DN X e t f) : DN X e t (eBorN j f) := ⟨h.pe, sn_bor j h.se⟩
end L2.Pd

namespace L2.Pd
open PySem PySem.Spec PyProof.Rows
/-! ## A def as its callers know it -/
/-- the text's def x, as the top has left it -/
structure Src (K : PySem.W.Frag) (mg : Str → Option Value) (x : Str) (st : Stmt) (ps : List Str) : Prop where
  ex : ∃ (f : Addr) (fd : FuncData), Fun K x x st f fd ∧ mg x = some (.ref f) ∧ Binds K fd ps []
/-- the def x keeps the promise m -/
structure Cal (P : Program) (w : World) (K : PySem.W.Frag) (mg : Str → Option Value) (base : Heap) (k : Nat) (x : Str) (ps : List Str) (ios : List Nat) (m : FnS) : Prop where
  ex : ∃ (f : Addr) (fd : FuncData), FnD P w K mg base k f fd ps ios m ∧ mg x = some (.ref f) ∧ PySem.W.keepIn K (.ref f) = true ∧ Binds K fd ps []
section
variable {P : Program} {w : World} {K : PySem.W.Frag} {mg : Str → Option Value} {base : Heap}
theorem pd_cal {x : Str} {st : Stmt} {N ps : List Str} {k : Nat} (ios : List Nat) {n : Nat} {body : FS} (S : Src K mg x st ps) (C : FnScope N ps (defScope st)) (hn : N.length = n := by rfl)
    (hbody : ∀ (f : Addr) (cdv : Value) (A : Around) (outer : List Env) (s : Shared) (H : Hp) (E : XK), Room k (A.deeper (envOfC x (defScope st) s.heap.objs.size f cdv)) →
      ∃ t, DSs (cxOf CX0 P w K mg base N x (defScope st) f cdv A outer s H E).nox ios (defBody st) t body) :
    Cal P w K mg base (k + 1) x ps ios (fnSem n ios body) := by
  subst hn
  obtain ⟨f, fd, F, hm, hb⟩ := S.ex
  refine ⟨f, fd, pd_fn ios F C (fun cs r _ hl => ?_) (hbody f), hm, F.kp, hb⟩
  rw [hl, ← C.pre, List.length_take]
  exact Nat.min_le_right _ _
theorem pd_fnN {x : Str} {st : Stmt} {f : Addr} {fd : FuncData} {N ps : List Str} {k : Nat} (ios : List Nat) {n : Nat} {body : FS} (Fn : Fun K x x st f fd) (C : FnScope N ps (defScope st)) (hn : N.length = n := by rfl)
    (hbody : ∀ (cdv : Value) (A : Around) (outer : List Env) (s : Shared) (H : Hp) (E : XK), Room k (A.deeper (envOfC x (defScope st) s.heap.objs.size f cdv)) →
      ∃ t, DSs (cxOf CX0 P w K mg base N x (defScope st) f cdv A outer s H E).nox ios (defBody st) t body) : FnD P w K mg base (k + 1) f fd ps ios (fnSem n ios body) := by
  subst hn
  refine pd_fn ios Fn C (fun cs r _ hl => ?_) hbody
  rw [hl, ← C.pre, List.length_take]
  exact Nat.min_le_right _ _
theorem src_mk {x : Str} {st : Stmt} {ps : List Str} {f : Addr} {oc : Value} {od an : Option Addr} {osl : Array (Option Value)} {kV doc pm cdv ct : Value} (hm : mg x = some (.ref f)) (l : K.lookup f = some ⟨oc, od, .func (PySem.W.fnOf x x (defArgs st) (defBody st) (defScope st) .none kV doc pm an cdv ct), osl⟩)
    (c : PySem.W.codeIn K cdv x = true) (k : PySem.W.keepIn K (.ref f) = true)
    (h : ∀ (kV doc pm : Value) (an : Option Addr) (cdv ct : Value) (us : List Value), us.length = ps.length → bindArgs (PySem.W.fnOf x x (defArgs st) (defBody st) (defScope st) .none kV doc pm an cdv ct) ⟨us, []⟩ = pure (ps.zip us)) : Src K mg x st ps := by
  have F := fun_mk l c k
  exact ⟨f, _, F, hm, F.binds h⟩
theorem cal_none {x : Str} {st : Stmt} {ps : List Str} {k : Nat} {ios : List Nat} (S : Src K mg x st ps) : Cal P w K mg base k x ps ios (fun _ => none) := by
  obtain ⟨f, fd, F, hm, hb⟩ := S.ex
  refine ⟨f, fd, ⟨fun vs H Q E h => ?_, fun A outer s H args us vs Q E hr => ?_⟩, hm, F.kp, hb⟩
  · exact h.1
  · rintro - - - ⟨-, F, cs, cs', r, -, -, hm, -⟩
    cases hm
theorem Cal.cast {j k : Nat} {x : Str} {ps : List Str} {ios : List Nat} {m : FnS} (h : Cal P w K mg base k x ps ios m) (e : k = j) : Cal P w K mg base j x ps ios m := e ▸ h
/-- a constant of the module -/
structure Kon (K : PySem.W.Frag) (mg : Str → Option Value) (x : Str) (v : V) (d : D) : Prop where
  ex : ∃ (u : Value), mg x = some u ∧ RelV v u ∧ ∀ F, Dp K F v d
/-- a tuple that the top has written -/
theorem kon_tup {h : Heap} {x : Str} {a : Addr} {its : Array Value} {n : Nat} {od : Option Addr} {sl : Array (Option Value)} {xs : List V} {ds : List D} (X : K.In h) (G : h.Ns mainGlobals mg) (e : PySem.W.nsIn K mainGlobals x = some (some (.ref a))) (l : K.lookup a = some ⟨.type "tuple", od, .seq its n, sl⟩)
    (hs : its.size ≤ sizeLine) (hv : Vals xs its.toList) (hd : ∀ F, DpAll K F xs ds) : Kon K mg x (.ref a) (.tuple ds) :=
  ⟨_, PySem.W.mg_of X G e, rfl, fun F => .tup (.inr ⟨_, its, n, l, rfl, rfl, hs, hv⟩) (hd F)⟩
end
section
variable {X : Cx} {k : Nat} {ps : List Str} {m : FnS} {x : Str} {p pos : Pos} {e : Expr} {es : List Expr} {t : TA} {fa : FA} {fr : FR} {i0 j : Nat} {sh : List Bool}
theorem dc_cal0 (C : Cal X.prog X.w X.K X.mg X.base k x ps [] m) (hr : Room k X.A) (ha : DA X (e :: es) t fa) (hn : aLen fa ps.length) (hg : Gl X x := by rfl)
    (hdb : (x == ("__debug__" : Str)) = false := by decide) (he : starEach (e :: es) X.env = (false, eval e X.env) :: starEach es X.env := by rfl) (hpl : (backTo pos (starEach es X.env)).any (·.1) = false := by rfl) :
    DC X (.Call (.Name x p) (e :: es) [] pos) (tCall (fun vs H Q E => vs.length = ps.length ∧ spD X.K [] m vs H Q E) [] E0 t) (eCall0 m fa) := by
  obtain ⟨f, fd, F, hm, hk, hb⟩ := C.ex
  exact dc_call0 F hr hm hk hb ha hn hg hdb he hpl
theorem dc_cal00 (C : Cal X.prog X.w X.K X.mg X.base k x ps [] m) (hr : Room k X.A) (hn : ps.length = 0 := by rfl) (hg : Gl X x := by rfl)
    (hdb : (x == ("__debug__" : Str)) = false := by decide) :
    DC X (.Call (.Name x p) [] [] pos) (tCall (fun vs H Q E => vs.length = ps.length ∧ spD X.K [] m vs H Q E) [] E0 tNil) (eCall0 m aNil) := by
  obtain ⟨f, fd, F, hm, hk, hb⟩ := C.ex
  exact dc_call00 F hr hm hk hb hn hg hdb
theorem dc_cal1 (C : Cal X.prog X.w X.K X.mg X.base k x ps [i0] m) (hr : Room k X.A) (ha : DR X j sh (e :: es) t fr) (hsh : shapeOk i0 sh = true := by decide) (hn : sh.length = ps.length := by decide) (hg : Gl X x := by rfl)
    (hdb : (x == ("__debug__" : Str)) = false := by decide) (he : starEach (e :: es) X.env = (false, eval e X.env) :: starEach es X.env := by rfl) (hpl : (backTo pos (starEach es X.env)).any (·.1) = false := by rfl) :
    DC X (.Call (.Name x p) (e :: es) [] pos) (tCall (fun vs H Q E => vs.length = ps.length ∧ spD X.K [i0] m vs H Q E) [] E0 t) (eCall1 i0 j m fr) := by
  obtain ⟨f, fd, F, hm, hk, hb⟩ := C.ex
  exact dc_call1 F hr hm hk hb ha hsh hn hg hdb he hpl
theorem de_kon {v : V} {d : D} (C : Kon X.K X.mg x v d) (hg : Gl X x := by rfl) (hd : (x == ("__debug__" : Str)) = false := by decide) : DE X (.Name x pos) (tC v) (eC d) := by
  obtain ⟨u, hm, r, h⟩ := C.ex
  exact de_glob hm r h hg hd
theorem hu_of' {A : Around} {k : Nat} (hr : Room k A) : A.units + 100 < cLine := by have := hr.un; omega
end
/-! ## x op= e for ints and texts -/
section
variable {X : Cx} {K : PySem.W.Frag}
abbrev rIaddD : R2 := fun x y H Q => rI0 (fun i j => .int (i + j)) x y H Q ∨ (∃ i j, x = .str i ∧ y = .str j ∧ i.length + j.length ≤ sizeLine ∧ Q (.str (i ++ j)) H)
theorem ip_addD : OpR X (inplaceOp .Add) rIaddD := iop_add.or iop_add_str
def dIadd : D → D → Option D
  | .int a, .int b => some (.int (a + b))
  | .str a, .str b => if a.length + b.length ≤ sizeLine then some (.str (a ++ b)) else none
  | _, _ => none
theorem v_iadd : Op2 K rIaddD dIadd := by
  intro F H x y dx dy d Q s hx hy e k
  cases hx with
  | int a =>
    cases hy with
    | int b => cases e; exact .inl ⟨a, b, rfl, rfl, k F H _ (Al.refl s) (.int _)⟩
    | _ => cases e
  | str a =>
    cases hy with
    | str b =>
      have e : (if a.length + b.length ≤ sizeLine then some (PyData.str (a ++ b)) else none) = some d := e
      by_cases hz : a.length + b.length ≤ sizeLine
      · rw [if_pos hz] at e; cases e
        exact .inr ⟨a, b, rfl, rfl, hz, k F H _ (Al.refl s) (.str _)⟩
      · rw [if_neg hz] at e; cases e
    | _ => cases e
  | _ => cases e
theorem ip_subD : OpR X (inplaceOp .Sub) (rI0 fun i j => .int (i - j)) := iop_sub
theorem ip_mulD : OpR X (inplaceOp .Mult) (rI IntMulOk fun i j => .int (i * j)) := opI fun _ _ _ _ _ _ _ hc q => imul_int q hc
theorem ip_fdivD : OpR X (inplaceOp .FloorDiv) (rI CFd fun i j => .int (i.fdiv j)) := opI fun _ _ _ _ _ _ _ hc q => ifloordiv_int hc.1 q (.inl hc.2)
theorem ip_modD : OpR X (inplaceOp .Mod) (rI (fun _ j => j ≠ 0) fun i j => .int (i.fmod j)) := opI fun _ _ _ _ _ _ _ hc q => imod_int hc q
/-! ### lists: a + b -/
def rCatL (K : PySem.W.Frag) : R2 := fun x y H Q => ∃ l b xs zs, x = .ref l ∧ y = .ref b ∧ SqL K H l xs ∧ SqL K H b zs ∧ xs.length + zs.length ≤ sizeLine ∧ ∀ p, H p = none → Q (.ref p) (upd H p (.lst (xs ++ zs)))
theorem op_addL : OpR X (binaryOp .Add) (rCatL X.K) := by
  intro pins s σ H x y v u Q I rx ry h
  obtain ⟨l, b, xs, zs, rfl, rfl, hH, hB, hz, q⟩ := h
  cases rx
  cases ry
  obtain ⟨its, r, ht, _⟩ := I.list hH
  obtain ⟨its2, r2, ht2, _⟩ := I.list hB
  have e1 := r.length
  have e2 := r2.length
  obtain ⟨⟨cls, dd, data, sl⟩, ho, hc, n, hd⟩ := ht.isList
  obtain ⟨⟨cls2, dd2, data2, sl2⟩, ho2, hc2, n2, hd2⟩ := ht2.isList
  simp only at hc hd hc2 hd2
  subst hc hd hc2 hd2
  have ea : its.toArray ++ its2.toArray = (its ++ its2).toArray := by simp
  refine concat_meets ⟨_, ho, rfl⟩ ⟨_, ho2, rfl⟩ noFill_list_add seq_list_add PySem.F.slot_list_add PySem.F.entry_list_add (PySem.F.args_list_add_2 _ _) (list_addW l b its.toArray its2.toArray n n2 dd dd2 sl sl2 (by rw [List.size_toArray, List.size_toArray]; omega)) ⟨ho, ho2, ?_⟩
  rw [ea]
  exact ⟨.ref _, _, I.lnew (t' := s.toks) (r.append r2) (by rw [List.length_append]; omega), rfl, q _ I.fresh⟩
def dAddL : D → D → Option Cell
  | .list a, .list b => if a.length + b.length ≤ sizeLine then some (.ol (a ++ b)) else none
  | _, _ => none
theorem v_addL : Op2N K (rCatL K) dAddL := by
  intro F H x y dx dy c Q s hx hy e k
  cases hx with
  | @lst a xs ds q1 r1 =>
    cases hy with
    | @lst b ys es q2 r2 =>
      have e : (if ds.length + es.length ≤ sizeLine then some (Cell.ol (ds ++ es)) else none) = some c := e
      by_cases hz : ds.length + es.length ≤ sizeLine
      · rw [if_pos hz] at e; cases e
        refine ⟨a, b, xs, ys, rfl, rfl, s.seq q1, s.seq q2, by rw [r1.length, r2.length]; exact hz, fun p np => ?_⟩
        exact k F _ p (.lst (xs ++ ys)) (Al.laidH s np) upd_same (r1.append r2) (s.free np) np
      · rw [if_neg hz] at e; cases e
    | _ => cases e
  | _ => cases e
/-- a + b of ints, texts, tuples; of lists, frozen -/
abbrev rAddA (K : PySem.W.Frag) : R2 := fun x y H Q => rAddD K x y H Q ∨ rCatL K x y H Q
theorem op_addA : OpR X (binaryOp .Add) (rAddA X.K) := op_addD.or op_addL
def dAddA : D → D → Option D
  | .list a, .list b => if a.length + b.length ≤ sizeLine then some (.list (a ++ b)) else none
  | a, b => dAdd a b
theorem v_addA : Op2 K (rAddA K) dAddA := by
  intro F H x y dx dy d Q s hx hy e k
  by_cases hl : ∃ a b, dx = .list a ∧ dy = .list b
  · obtain ⟨a, b, rfl, rfl⟩ := hl
    refine .inr (v_addL.frz F H x y _ _ d Q s hx hy ?_ k)
    have e : (if a.length + b.length ≤ sizeLine then some (PyData.list (a ++ b)) else none) = some d := e
    show (if a.length + b.length ≤ sizeLine then some (Cell.ol (a ++ b)) else none).bind frzC = some d
    by_cases hz : a.length + b.length ≤ sizeLine
    · rw [if_pos hz] at e ⊢; exact e
    · rw [if_neg hz] at e; cases e
  · refine .inl (v_add F H x y dx dy d Q s hx hy ?_ k)
    cases dx <;> cases dy <;> first | exact e | exact absurd ⟨_, _, rfl, rfl⟩ hl
/-! ### list * int, the list new -/
def eRepN (fa : FN) (fb : FE) : FN := fun ρ => (fa ρ).bind fun p => (fb p.2).bind fun q => match p.1, q.1 with
  | .ol ds, .int n => if -(2 ^ 63) ≤ n ∧ n < 2 ^ 63 ∧ ds.length * n.toNat ≤ sizeLine then some (.ol (List.replicate n.toNat ds).flatten, q.2) else none
  | _, _ => none
theorem _root_.L2.DpAll.rep {F : Hp} {vs : List V} {ds : List D} (h : DpAll K F vs ds) : ∀ n : Nat, DpAll K F (List.replicate n vs).flatten (List.replicate n ds).flatten
  | 0 => .nil
  | n + 1 => by
    rw [List.replicate_succ, List.replicate_succ, List.flatten_cons, List.flatten_cons]
    exact h.append (DpAll.rep h n)
/-! ### list.insert -/
abbrev rInsertD : V → List V → Hp → VK → Prop := fun x vs H Q => ∃ (l : Addr) (xs : List V) (i : Int) (y : V), x = .ref l ∧ vs = [.int i, y] ∧ H l = some (.lst xs) ∧ xs.length < sizeLine ∧ 0 ≤ i ∧ i < 2 ^ 63 ∧ Q .non (upd H l (.lst (xs.take i.toNat ++ [y] ++ xs.drop i.toNat)))
theorem l_insert : OpL K rInsertD lInsert := by
  intro F H a vs xs ds es z Q h d1 d2 e k
  match es, d2, e with
  | [.int i, x], d2, e =>
    obtain ⟨v1, v, rfl, dv1, dv⟩ := two_of d2
    cases dv1
    have e : (if ds.length < sizeLine ∧ 0 ≤ i ∧ i < 2 ^ 63 then some (PyData.none, ds.take i.toNat ++ x :: ds.drop i.toNat) else none) = some z := e
    by_cases hz : ds.length < sizeLine ∧ 0 ≤ i ∧ i < 2 ^ 63
    · rw [if_pos hz] at e; cases e
      refine ⟨a, vs, i, v, rfl, rfl, h, by rw [d1.length]; exact hz.1, hz.2.1, hz.2.2, k _ _ .non ?_⟩
      have := ((d1.take i.toNat).append (DpAll.one dv)).append (d1.drop i.toNat)
      simpa using this
    · rw [if_neg hz] at e; cases e
end
/-! ## The law's own head -/
theorem law_sp {K : PySem.W.Frag} {m : FnS} {a : Addr} {H : Hp} {ns : List Int} {E : XK} (hS : SqL K H a (ns.map V.int)) (hm : ∃ z, m [.sh (.list (ns.map .int))] = some (.sh (.bool true), z)) : [V.ref a].length = ["script"].length ∧ spD K [] m [.ref a] H (fun v _ => v = .bl true) E := by
  obtain ⟨z, hm⟩ := hm
  refine ⟨rfl, H, _, z, _, Same.refl H, rfl, hm, fun i c hc _ => ?_, fun i hi => absurd hi (List.not_mem_nil), fun i j b hi => absurd hi (List.not_mem_nil), ?_⟩
  · match i, hc with
    | 0, hc => cases hc; exact ⟨.ref a, _, rfl, rfl, .lst hS (dp_ints ns)⟩
  · intro F' H' v _ _ _ _ ret _
    cases ret
    rfl
end L2.Pd

namespace L2.Pd
open PySem PySem.Spec PyProof.Rows
/-! ## Comprehensions, the readings of their parts told per entry -/
section
variable {X : Cx} {elt tg iter : Expr} {ifs : List Expr} {scope : Scope} {own : List (Str × Nat)} {pos : Pos} {wi : TI} {lk : Option Nat} {fi : FA} {ws : List Nat} {g1 : FG} {fc : FT} {fe : FE} {L : List Nat}
  {t1 : Shared → Hp → Addr → List (Str × Addr) → List Addr → TG} {tt : Shared → Hp → Addr → List (Str × Addr) → List Addr → TT} {te : Shared → Hp → Addr → List (Str × Addr) → List Addr → TE}
theorem dn_compX (hcm : X.calm = true) (hN : X.N.Nodup) (hi : DI X lk tg iter wi fi) (ok : BlkOk X.N X.env.scope scope own)
    (hg : ∀ (s : Shared) (H : Hp) (C : Addr) (cl : List (Str × Addr)) (fp : List Addr), DG (X.blk s H scope (compEnvC scope cl C X.env) fp) [] ws tg (t1 s H C cl fp) g1) (ht : ∀ (s : Shared) (H : Hp) (C : Addr) (cl : List (Str × Addr)) (fp : List Addr), DTs (X.blk s H scope (compEnvC scope cl C X.env) fp) ifs (tt s H C cl fp) fc)
    (he : ∀ (s : Shared) (H : Hp) (C : Addr) (cl : List (Str × Addr)) (fp : List Addr), DE (X.blk s H scope (compEnvC scope cl C X.env) fp) elt (te s H C cl fp) fe) (hw : ∀ i ∈ ws, i ∈ own.map (·.2) := by decide) (hlv : ∀ j, lk = some j → j ∉ own.map (·.2) := by decide) (hs : ∀ x, foldedSetIterable iter X.env x = pure x := by intro _; rfl)
    (h1 : ∀ s H C cl fp, t1 s H C cl fp = t1 X.s_0 X.H_0 0 [] [] := by exact fun _ _ _ _ _ => rfl) (h2 : ∀ s H C cl fp, tt s H C cl fp = tt X.s_0 X.H_0 0 [] [] := by exact fun _ _ _ _ _ => rfl) (h3 : ∀ s H C cl fp, te s H C cl fp = te X.s_0 X.H_0 0 [] [] := by exact fun _ _ _ _ _ => rfl) :
    DN X (.ListComp elt [⟨tg, iter, ifs, 0⟩] scope pos) (tLc wi (t1 X.s_0 X.H_0 0 [] []) (tt X.s_0 X.H_0 0 [] []) (te X.s_0 X.H_0 0 [] []) (own.map (·.2))) (eComp lk (own.map (·.2)) fi g1 fc fe) :=
  dn_comp hcm hN hi ok (fun s H C cl fp => h1 s H C cl fp ▸ hg s H C cl fp) (fun s H C cl fp => h2 s H C cl fp ▸ ht s H C cl fp) (fun s H C cl fp => h3 s H C cl fp ▸ he s H C cl fp) hw hlv hs
theorem ds_setCompNX {i : Nat} {y : Str} {py spos : Pos} (hcm : X.calm = true) (hN : X.N.Nodup) (hi : DI X lk tg iter wi fi) (ok : BlkOk X.N X.env.scope scope own)
    (hg : ∀ (s : Shared) (H : Hp) (C : Addr) (cl : List (Str × Addr)) (fp : List Addr), DG (X.blk s H scope (compEnvC scope cl C X.env) fp) [] ws tg (t1 s H C cl fp) g1) (ht : ∀ (s : Shared) (H : Hp) (C : Addr) (cl : List (Str × Addr)) (fp : List Addr), DTs (X.blk s H scope (compEnvC scope cl C X.env) fp) ifs (tt s H C cl fp) fc)
    (he : ∀ (s : Shared) (H : Hp) (C : Addr) (cl : List (Str × Addr)) (fp : List Addr), DE (X.blk s H scope (compEnvC scope cl C X.env) fp) elt (te s H C cl fp) fe) (hy : X.N[i]? = some y := by rfl) (hyl : X.env.scope.names.lookup y = some .local := by rfl)
    (hsw : swapsWith (.ListComp elt [⟨tg, iter, ifs, 0⟩] scope pos) (some (.Name y py)) spos.line X.env = pure true := by exact sw_true rfl rfl rfl (by decide +kernel))
    (hw : ∀ i ∈ ws, i ∈ own.map (·.2) := by decide) (hlv : ∀ j, lk = some j → j ∉ own.map (·.2) := by decide) (hl : i ∉ L := by decide) (hs : ∀ x, foldedSetIterable iter X.env x = pure x := by intro _; rfl)
    (h1 : ∀ s H C cl fp, t1 s H C cl fp = t1 X.s_0 X.H_0 0 [] [] := by exact fun _ _ _ _ _ => rfl) (h2 : ∀ s H C cl fp, tt s H C cl fp = tt X.s_0 X.H_0 0 [] [] := by exact fun _ _ _ _ _ => rfl) (h3 : ∀ s H C cl fp, te s H C cl fp = te X.s_0 X.H_0 0 [] [] := by exact fun _ _ _ _ _ => rfl) :
    DS X L (.Assign [.Name y py] (.ListComp elt [⟨tg, iter, ifs, 0⟩] scope pos) spos) (tAsg (tLc wi (t1 X.s_0 X.H_0 0 [] []) (tt X.s_0 X.H_0 0 [] []) (te X.s_0 X.H_0 0 [] []) (own.map (·.2))) (gName i)) (sSetN i (eComp lk (own.map (·.2)) fi g1 fc fe)) :=
  ds_setCompN hcm hN hi ok (fun s H C cl fp => h1 s H C cl fp ▸ hg s H C cl fp) (fun s H C cl fp => h2 s H C cl fp ▸ ht s H C cl fp) (fun s H C cl fp => h3 s H C cl fp ▸ he s H C cl fp) hy hyl hsw hw hlv hl hs
theorem ds_setCompX {i : Nat} {y : Str} {py spos : Pos} (hcm : X.calm = true) (hN : X.N.Nodup) (hi : DI X lk tg iter wi fi) (ok : BlkOk X.N X.env.scope scope own)
    (hg : ∀ (s : Shared) (H : Hp) (C : Addr) (cl : List (Str × Addr)) (fp : List Addr), DG (X.blk s H scope (compEnvC scope cl C X.env) fp) [] ws tg (t1 s H C cl fp) g1) (ht : ∀ (s : Shared) (H : Hp) (C : Addr) (cl : List (Str × Addr)) (fp : List Addr), DTs (X.blk s H scope (compEnvC scope cl C X.env) fp) ifs (tt s H C cl fp) fc)
    (he : ∀ (s : Shared) (H : Hp) (C : Addr) (cl : List (Str × Addr)) (fp : List Addr), DE (X.blk s H scope (compEnvC scope cl C X.env) fp) elt (te s H C cl fp) fe) (hy : X.N[i]? = some y := by rfl) (hyl : X.env.scope.names.lookup y = some .local := by rfl)
    (hsw : swapsWith (.ListComp elt [⟨tg, iter, ifs, 0⟩] scope pos) (some (.Name y py)) spos.line X.env = pure true := by exact sw_true rfl rfl rfl (by decide +kernel))
    (hw : ∀ i ∈ ws, i ∈ own.map (·.2) := by decide) (hlv : ∀ j, lk = some j → j ∉ own.map (·.2) := by decide) (hl : i ∉ L := by decide) (hs : ∀ x, foldedSetIterable iter X.env x = pure x := by intro _; rfl)
    (h1 : ∀ s H C cl fp, t1 s H C cl fp = t1 X.s_0 X.H_0 0 [] [] := by exact fun _ _ _ _ _ => rfl) (h2 : ∀ s H C cl fp, tt s H C cl fp = tt X.s_0 X.H_0 0 [] [] := by exact fun _ _ _ _ _ => rfl) (h3 : ∀ s H C cl fp, te s H C cl fp = te X.s_0 X.H_0 0 [] [] := by exact fun _ _ _ _ _ => rfl) :
    DS X L (.Assign [.Name y py] (.ListComp elt [⟨tg, iter, ifs, 0⟩] scope pos) spos) (tAsg (tLc wi (t1 X.s_0 X.H_0 0 [] []) (tt X.s_0 X.H_0 0 [] []) (te X.s_0 X.H_0 0 [] []) (own.map (·.2))) (gName i)) (sSet i (eFrz (eComp lk (own.map (·.2)) fi g1 fc fe))) :=
  ds_setComp hcm hN hi ok (fun s H C cl fp => h1 s H C cl fp ▸ hg s H C cl fp) (fun s H C cl fp => h2 s H C cl fp ▸ ht s H C cl fp) (fun s H C cl fp => h3 s H C cl fp ▸ he s H C cl fp) hy hyl hsw hw hlv hl hs
end
end L2.Pd

namespace L2.Pd
open PySem PySem.Spec PyProof.Rows
/-! ## x[::-1] -/
section
variable {prog : Program} {w : World} {A : Around} {E : Value → Shared → Prop} {s : Shared}
theorem adjust_rev (n : Nat) : Builtin.Slice.sliceAdjust none none (-1) (n : Int) = ((n : Int) - 1, -1) := rfl
theorem places_rev (n : Nat) : Builtin.Slice.slicePlaces ((n : Int) - 1) (-1) (-1) = n := by
  unfold Builtin.Slice.slicePlaces
  have h1 : ¬ ((-1 : Int) > 0) := by decide
  rw [if_neg h1]
  have e : (- (-1) : Int) = 1 := by decide
  rw [e, Int.ediv_one]
  split <;> omega
theorem sliceApplied_rev {sl : Addr} {vk : Value} {n : Nat} {Q : Int × Int × Nat → Shared → Prop} (hs : s.heap.IsSliceOf sl .none .none vk) (ps : IsPart vk (some (-1)))
    (h : Q ((n : Int) - 1, -1, n) s) : wpAny (model prog w) A (Builtin.Slice.sliceApplied (.ref sl) (pure (n : Int))) Q E s := by
  obtain ⟨os, hos, hcs, hds⟩ := id hs
  unfold Builtin.Slice.sliceApplied Builtin.Slice.sliceFields
  refine wpAny_bind (wpAny_bind (wpAny_field hos hds (x := .none) rfl (wpAny_bind (wpAny_field hos hds (x := .none) rfl (wpAny_bind (wpAny_field hos hds (x := vk) rfl (wpAny_pure ?_)))))))
  refine wpAny_bind (HT.slicePart_ ps ?_)
  show wpAny _ _ (if ((-1 : Int) == 0) = true then _ else _) _ _ s
  rw [if_neg (by decide)]
  refine wpAny_bind (slicePart_none (wpAny_bind (slicePart_none (wpAny_bind (wpAny_pure ?_)))))
  show wpAny _ _ (match Builtin.Slice.sliceAdjust none none (-1) (n : Int) with | (lo, hi) => pure (lo, (-1 : Int), Builtin.Slice.slicePlaces lo hi (-1))) _ _ s
  rw [adjust_rev]
  show wpAny _ _ (pure ((n : Int) - 1, (-1 : Int), Builtin.Slice.slicePlaces ((n : Int) - 1) (-1) (-1))) _ _ s
  rw [places_rev]
  exact wpAny_pure h
theorem fm_congr {α β : Type} {f g : α → Option β} : ∀ {l : List α}, (∀ x ∈ l, f x = g x) → l.filterMap f = l.filterMap g
  | [], _ => rfl
  | x :: r, h => by rw [List.filterMap_cons, List.filterMap_cons, h x List.mem_cons_self, fm_congr fun y hy => h y (List.mem_cons_of_mem _ hy)]
theorem pick_rev (xs : Array Value) : ((List.range xs.size).filterMap fun (m : Nat) => xs[(((xs.size : Nat) : Int) - 1 + (m : Int) * (-1)).toNat]?).toArray = xs.toList.reverse.toArray := by
  have e : (List.range xs.size).filterMap (fun (m : Nat) => xs[(((xs.size : Nat) : Int) - 1 + (m : Int) * (-1)).toNat]?) = ((List.range xs.size).map fun k => xs.size - 1 - k).filterMap (xs[·]?) := by
    rw [List.filterMap_map]
    refine fm_congr fun m hm => ?_
    have := List.mem_range.mp hm
    show xs[(((xs.size : Nat) : Int) - 1 + (m : Int) * (-1)).toNat]? = xs[xs.size - 1 - m]?
    have : (((xs.size : Nat) : Int) - 1 + (m : Int) * (-1)).toNat = xs.size - 1 - m := by omega
    rw [this]
  rw [e, PySem.W.krv_range, List.filterMap_reverse, PySem.W.krv_all]
theorem getItem_tuple_rev {t sl : Addr} {items : Array Value} {vk : Value} {Q : Value → Shared → Prop} (ht : IsTup s.heap t items) (hs : s.heap.IsSliceOf sl .none .none vk) (ps : IsPart vk (some (-1)))
    (h : Q (.ref s.heap.objs.size) { s with heap := s.heap.push { cls := .type "tuple", data := .seq items.toList.reverse.toArray } })
    (hsz : items.size ≤ sizeLine) : wpAny (model prog w) A (getItem (.ref t) (.ref sl)) Q E s := by
  have htake : sizeOk (.seq items.toList.reverse.toArray) := by
    show items.toList.reverse.toArray.size ≤ sizeLine
    rw [List.size_toArray, List.length_reverse, Array.length_toList]
    exact hsz
  obtain ⟨os, hos, hcs, hds⟩ := id hs
  have hTs : s.TypeIs (.ref sl) "slice" := ⟨os, hos, hcs⟩
  unfold getItem
  try with_reducible refine wpAny_holding ?_
  first | refine wpAny_bind (wpAny_pure ?_) | skip
  refine wpAny_bind (wpAny_sequenceKey ht.typeIs (by decide) ?_)
  refine wpAny_bind (wpAny_callSpecial?_slot (name := Str.ofString "__getitem__") ht.typeIs PyProof.Rows.slot_tuple_getitem
    (wpAny_call_entry PyProof.Rows.slot_tuple_getitem ht.typeIs entry_tuple_getitem ?_ (args_tuple_getitem _ _)))
  show wpAny _ _ (Builtin.Tuple.tupleItemsOf (.ref t) >>= _) _ _ s
  refine wpAny_bind (tupleItemsOf_ ht ?_)
  refine wpAny_bind (wpAny_typeOf hTs ?_)
  rw [if_pos (by decide)]
  refine wpAny_bind (sliceApplied_rev hs ps ?_)
  have hno : ¬ ((((items.size : Int) - 1 == 0 && (-1 : Int) == 1 && items.size == items.size)) = true) := by
    intro q
    rw [Bool.and_eq_true, Bool.and_eq_true] at q
    exact absurd q.1.2 (by decide)
  show wpAny _ _ (if ((((items.size : Int) - 1 == 0 && (-1 : Int) == 1 && items.size == items.size)) = true) then _ else _) _ _ s
  rw [if_neg hno, pick_rev]
  first
    | exact wpAny_bind (m := Builtin.Tuple.tupleExact _) (wpAny_newObj_type (wpAny_pure ⟨_, rfl, wpAny_pure h⟩) htake)
    | exact wpAny_bind (m := Builtin.Tuple.tupleExact _) (wpAny_newObj_type (wpAny_bind (wpAny_pure (wpAny_pure ⟨_, rfl, wpAny_pure h⟩))) htake)
    | exact wpAny_bind (wpAny_bind (m := Builtin.Tuple.tupleExact _) (wpAny_newObj_type (wpAny_pure (wpAny_pure ⟨_, rfl, wpAny_pure h⟩)) htake))
    | exact wpAny_bind (wpAny_bind (m := Builtin.Tuple.tupleExact _) (wpAny_newObj_type (wpAny_pure ⟨_, rfl, wpAny_pure h⟩) htake))
end
def revS (z : Str) : Str := ⟨z.cps.reverse⟩
theorem revS_len (z : Str) : (revS z).length = z.length := by show z.cps.reverse.size = z.cps.size; rw [Array.size_reverse]
theorem indices_rev (n : Nat) : Builtin.Str.strSliceIndices none none (-1) n = (List.range n).map fun k => n - 1 - k := by
  have : Builtin.Str.strSliceIndices none none (-1) n = sliceRange ((n : Int) - 1) (-1) (-1) := rfl
  rw [this, PySem.W.krv_sliceRange]
theorem picked_rev (z : Str) : ((Builtin.Str.strSliceIndices none none (-1) z.length).filterMap (z.cps[·]?)).toArray = z.cps.reverse := by
  rw [indices_rev]
  have h : ((List.range z.cps.size).map fun k => z.cps.size - 1 - k).filterMap (z.cps[·]?) = z.cps.toList.reverse := by
    rw [PySem.W.krv_range, List.filterMap_reverse, PySem.W.krv_all]
  have h2 : ((List.range z.length).map fun k => z.length - 1 - k).filterMap (z.cps[·]?) = z.cps.toList.reverse := h
  rw [h2]
  apply Array.ext'
  simp
def rRev (K : PySem.W.Frag) : V → Hp → VK → Prop := fun x H Q => (∃ a xs, x = .ref a ∧ SqL K H a xs ∧ ∀ p, H p = none → Q (.ref p) (upd H p (.lst xs.reverse))) ∨
  (∃ a xs, x = .ref a ∧ SqT K H a xs ∧ ∀ p, H p = none → Q (.ref p) (upd H p (.tup xs.reverse))) ∨ (∃ z : Str, x = .str z ∧ z.length ≤ sizeLine ∧ Q (.str (revS z)) H)
section
variable {X : Cx} {e : Expr} {te : TE} {fe : FE} {k : Nat} {p1 p2 p3 pos : Pos}
theorem pe_rev (he : PE X e te) : PE X (.Subscript e (.Slice none none (some (.UnaryOp .USub (.Constant (.int 1) k p1) p2)) p3) pos) (tUn (rRev X.K) te) := by
  refine ⟨fun pins s σ H Q I h => ?_⟩
  refine Subscript_ (thn (he.run pins s σ H _ I h) fun v s1 ⟨x, H1, I1, r1, q1⟩ => ?_)
  have hst : PO X (some (.UnaryOp .USub (.Constant (.int 1) k p1) p2)) (tPart (tUn (rU fun i => .int (-i)) (tC (.int 1)))) := po_some (pe_un un_neg pe_int)
  refine wpAny_Slice (thn (po_none.run pins s1 σ H1 (fun o H2 => o = none ∧ H2 = H1) I1 ⟨rfl, rfl⟩) fun vl s2 ⟨l, H2, I2, pl, el, e2⟩ => ?_)
  subst el e2
  refine thn (po_none.run pins s2 σ H2 (fun o H3 => o = none ∧ H3 = H2) I2 ⟨rfl, rfl⟩) fun vu s3 ⟨u, H3, I3, pu, eu, e3⟩ => ?_
  subst eu e3
  refine thn (hst.run pins s3 σ H3 (fun o H4 => o = some (-1) ∧ H4 = H3) I3 ⟨1, rfl, -1, rfl, rfl, rfl⟩) fun vs s4 ⟨o, H4, I4, ps, eo, e4⟩ => ?_
  subst eo e4
  have I5 : Inv X pins σ H4 { s4 with heap := s4.heap.push { cls := .type "slice", data := .fields #[vl, vu, vs] } } := I4.kept (t' := s4.toks) fun b ob q => Heap.get?_push_of_some _ q
  have hso := Heap.IsSliceOf.new s4.heap vl vu vs
  cases pl
  cases pu
  rcases q1 with ⟨a, xs, ex, hx, q⟩ | ⟨a, xs, ex, hx, q⟩ | ⟨z, ex, hz, q⟩
  · subst ex
    cases r1
    obtain ⟨its, r, ht, hz⟩ := I5.list hx
    have hlen := r.length
    show wpAny (model X.prog X.w) X.A (subscriptTail e (.Slice none none (some (.UnaryOp .USub (.Constant (.int 1) k p1) p2)) p3) (.ref a) (.ref s4.heap.objs.size)) (EP X pins σ Q) X.xe { s4 with heap := s4.heap.push { cls := .type "slice", data := .fields #[.none, .none, vs] } }
    refine tail_any (ops := [.ref a, .ref s4.heap.objs.size]) ht.isList.typeIs (PySem.slot_list_getitem.lookup) ?_ (by with_unfolding_all rfl)
    refine wpAny_getItem_list_slice ht.isList hso .none .none ps (by decide) ?_ (by rw [List.size_toArray]; omega)
    rw [PySem.W.krv_pick]
    refine ⟨.ref _, _, I5.laid (t' := s4.toks) (o := .lst xs.reverse) (fun b ob q => Heap.get?_push_of_some _ q) (Nat.le_refl _) ?_, rfl, q _ (I5.hok.fresh (Nat.le_refl _))⟩
    exact ⟨by rw [List.length_reverse]; exact hz, _, 0, r.reverse, Heap.get?_push_size _ rfl⟩
  · subst ex
    cases r1
    obtain ⟨its, r, ht, hz⟩ := I5.tuple hx
    have hlen : its.toArray.size = xs.length := by rw [List.size_toArray]; exact r.length.symm
    show wpAny (model X.prog X.w) X.A (subscriptTail e (.Slice none none (some (.UnaryOp .USub (.Constant (.int 1) k p1) p2)) p3) (.ref a) (.ref s4.heap.objs.size)) (EP X pins σ Q) X.xe { s4 with heap := s4.heap.push { cls := .type "slice", data := .fields #[.none, .none, vs] } }
    refine tail_any (ops := [.ref a, .ref s4.heap.objs.size]) ht.typeIs (PyProof.Rows.slot_tuple_getitem.lookup) ?_ (by with_unfolding_all rfl)
    refine getItem_tuple_rev ht hso ps ?_ (by rw [hlen]; exact hz)
    refine ⟨.ref _, _, I5.laid (t' := s4.toks) (o := .tup xs.reverse) (fun b ob q => Heap.get?_push_of_some _ q) (Nat.le_refl _) ?_, rfl, q _ (I5.hok.fresh (Nat.le_refl _))⟩
    exact ⟨by rw [List.length_reverse]; exact hz, _, r.reverse, IsTup.new _ _⟩
  · subst ex
    obtain ⟨t, rfl⟩ := r1
    obtain ⟨c, rfl, hc⟩ := IsPart.raw ps
    show wpAny (model X.prog X.w) X.A (subscriptTail e (.Slice none none (some (.UnaryOp .USub (.Constant (.int 1) k p1) p2)) p3) (.str z t) (.ref s4.heap.objs.size)) (EP X pins σ Q) X.xe { s4 with heap := s4.heap.push { cls := .type "slice", data := .fields #[.none, .none, partValue c] } }
    refine tail_any (ops := [.str z t, .ref s4.heap.objs.size]) (typeIs_str _ _ _) F.slot_str_getitem.lookup ?_ (by with_unfolding_all rfl)
    obtain ⟨os, hos, hcs, hds⟩ := hso
    refine wpAny_getItem_str_slice (l := none) (u := none) (st := c) ⟨os, hos, hcs, hds⟩ (by rw [hc]; rfl) ?_
    unfold sliceMade slicePicked
    rw [hc]
    show Made.post (if ((-1 : Int) == 1 && (Builtin.Str.strSliceIndices none none (-1) z.length).length == z.length) = true then Made.val (.str z t)
      else Made.str ⟨((Builtin.Str.strSliceIndices none none (-1) z.length).filterMap (z.cps[·]?)).toArray⟩) (EP X pins σ Q) _
    have hno : ¬ (((-1 : Int) == 1 && (Builtin.Str.strSliceIndices none none (-1) z.length).length == z.length) = true) := by
      intro q
      rw [Bool.and_eq_true] at q
      exact absurd q.1 (by decide)
    rw [if_neg hno, picked_rev]
    exact ⟨by show (revS z).length ≤ sizeLine; rw [revS_len]; exact hz, .str _, H4, I5.tok _, ⟨_, rfl⟩, q⟩
def dRev : D → Option D
  | .list ds => some (.list ds.reverse)
  | .tuple ds => some (.tuple ds.reverse)
  | .str z => if z.length ≤ sizeLine then some (.str (revS z)) else none
  | _ => none
theorem v_rev {K : PySem.W.Frag} : Op1 K (rRev K) dRev := by
  intro F H x dx d Q s hx e k
  cases hx with
  | @lst a vs ds q1 r1 =>
    cases e
    refine .inl ⟨a, vs, rfl, s.seq q1, fun n nn => ?_⟩
    have al := Al.laid (o := .lst vs.reverse) s nn
    exact k _ _ _ al (.lst (.inl (.inl upd_same)) (dpAll_mono al.ff r1).reverse)
  | @tup a vs ds q1 r1 =>
    cases e
    refine .inr (.inl ⟨a, vs, rfl, sqT_mono s q1, fun n nn => ?_⟩)
    have al := Al.laid (o := .tup vs.reverse) s nn
    exact k _ _ _ al (.tup (.inl (.inl upd_same)) (dpAll_mono al.ff r1).reverse)
  | str z =>
    have e : (if z.length ≤ sizeLine then some (PyData.str (revS z)) else none) = some d := e
    by_cases hz : z.length ≤ sizeLine
    · rw [if_pos hz] at e; cases e
      exact .inr (.inr ⟨z, rfl, hz, k _ _ _ (Al.refl s) (.str _)⟩)
    · rw [if_neg hz] at e; cases e
  | _ => cases e
theorem de_rev (he : DE X e te fe) : DE X (.Subscript e (.Slice none none (some (.UnaryOp .USub (.Constant (.int 1) k p1) p2)) p3) pos) (tUn (rRev X.K) te) (eUn dRev fe) := ⟨pe_rev he.pe, se_un v_rev he.se⟩
def eRevN (fa : FE) : FN := fun ρ => (fa ρ).bind fun p => match p.1 with
  | .list ds => some (.ol ds.reverse, p.2)
  | _ => none
theorem dn_rev (he : DE X e te fe) : DN X (.Subscript e (.Slice none none (some (.UnaryOp .USub (.Constant (.int 1) k p1) p2)) p3) pos) (tUn (rRev X.K) te) (eRevN fe) := by
  refine ⟨pe_rev he.pe, ?_⟩
  intro B F io σ H ρ d ρ' Q c e k
  obtain ⟨p, e1, e4⟩ := Option.bind_eq_some_iff.mp e
  refine he.se B F io σ H ρ p.1 p.2 _ c e1 fun F1 H1 x g1 c1 d1 => ?_
  cases hp : p.1 with
  | list ds =>
    rw [hp] at e4 d1
    cases e4
    cases d1 with
    | @lst a vs _ q1 r1 =>
      refine .inl ⟨a, vs, rfl, c1.frz.seq q1, fun n nn => ?_⟩
      have al := Al.laidH (o := .lst vs.reverse) c1.frz nn
      exact k _ _ n _ (g1.trans (al.gr c1.base)) (c1.al al) upd_same r1.reverse (c1.frz.free nn) (c1.base.free nn) (c1.fresh_notOwned nn)
  | _ => rw [hp] at e4; cases e4
end
/-! ## ''.join(texts) -/
def strsOf : List D → Option (List Str)
  | [] => some []
  | .str z :: r => (strsOf r).map (z :: ·)
  | _ => none
theorem strsOf_dp {K : PySem.W.Frag} {F : Hp} : ∀ {ds : List D} {vs : List V} {ys : List Str}, DpAll K F vs ds → strsOf ds = some ys → vs = ys.map V.str
  | [], _, _, h, e => by cases h; cases e; rfl
  | .str z :: r, _, _, h, e => by
    obtain ⟨zs, e1, e2⟩ := Option.map_eq_some_iff.mp e
    subst e2
    cases h with
    | cons q t => cases q; rw [strsOf_dp t e1]; rfl
  | .none :: _, _, _, _, e => by cases e
  | .bool _ :: _, _, _, _, e => by cases e
  | .int _ :: _, _, _, _, e => by cases e
  | .list _ :: _, _, _, _, e => by cases e
  | .tuple _ :: _, _, _, _, e => by cases e
  | .dict _ :: _, _, _, _, e => by cases e
def joinS (a : Str) (ys : List Str) : Option D := if (ys.map (·.length)).sum + ys.length * a.length ≤ 16777216 then some (.str (Txt.join a ys)) else none
def dJoin : D → D → Option D
  | .str a, .list ds => (strsOf ds).bind (joinS a)
  | .str a, .tuple ds => (strsOf ds).bind (joinS a)
  | _, _ => none
/-! ## methods of texts -/
def strD : D → Option Str
  | .str z => some z
  | _ => none
theorem strD_eq {d : D} {z : Str} (h : strD d = some z) : d = .str z := by
  cases d <;> first | (cases h; rfl) | cases h
def OpS (K : PySem.W.Frag) (r : V → List V → Hp → VK → Prop) (g : Str → List D → Option D) : Prop := ∀ (F H : Hp) (a : Str) (xs : List V) (ds : List D) (d : D) (Q : VK), Same F H → DpAll K F xs ds → g a ds = some d →
  (∀ F' H' v, Al F H F' H' → Dp K F' v d → Q v H') → r (.str a) xs H Q
def eSM (g : Str → List D → Option D) (fo : FE) (fa : FA) : FE := fun ρ => (fo ρ).bind fun p => (strD p.1).bind fun z => (fa p.2).bind fun q => (g z q.1).map fun d => (d, q.2)
def eSM0 (g : Str → List D → Option D) (fo : FE) : FE := fun ρ => (fo ρ).bind fun p => (strD p.1).bind fun z => (g z []).map fun d => (d, p.2)
section
variable {X : Cx} {o e : Expr} {es : List Expr} {to : TE} {fo : FE} {t : TA} {fa : FA} {name : Str} {apos cpos : Pos} {id : String} {r : V → List V → Hp → VK → Prop} {g : Str → List D → Option D}
theorem de_sm (slot : Slot "str" name id) (hty : typeOf (.builtin id) = pure (.type "method_descriptor")) (hm : MtR X id r) (hg : OpS X.K r g) (ho : DE X o to fo) (ha : DA X (e :: es) t fa)
    (hbase : attributeBase o name X.env (eval o X.env) = eval o X.env := by rfl)
    (hfew : ((backTo cpos (starEach (e :: es) X.env)).all (fun x => !x.1) && (backToKw cpos (keywordEach [] X.env)).all (fun x => x.1.isSome)
      && decide ((e :: es).length + ([] : List Keyword).length + (if ([] : List Keyword).isEmpty then 0 else 1) < 30)) = true := by rfl)
    (hline : (apos.endLine == cpos.line) = true := by rfl) (hs : starEach (e :: es) X.env = (false, eval e X.env) :: starEach es X.env := by rfl) (hplain : (backTo cpos (starEach es X.env)).any (·.1) = false := by rfl) :
    DE X (.Call (.Attribute o name apos) (e :: es) [] cpos) (tBM X.K "str" r to t) (eSM g fo fa) := by
  refine ⟨pe_bm PySem.F.plainAttrs_str slot hty hm ho.pe ha.pe hbase hfew hline hs hplain, ?_⟩
  intro B F io σ H ρ d ρ' Q c h k
  obtain ⟨p, e1, h⟩ := Option.bind_eq_some_iff.mp h
  obtain ⟨z, e2, h⟩ := Option.bind_eq_some_iff.mp h
  obtain ⟨q, e3, h⟩ := Option.bind_eq_some_iff.mp h
  obtain ⟨u, e4, h⟩ := Option.map_eq_some_iff.mp h
  cases h
  refine ho.se B F io σ H ρ p.1 p.2 _ c e1 fun F1 H1 x g1 c1 d1 => ?_
  rw [strD_eq e2] at d1
  cases d1
  refine ⟨rfl, ?_⟩
  refine ha.se B F1 io σ H1 p.2 q.1 q.2 _ c1 e3 fun F2 H2 xs g2 c2 d2 => ?_
  exact hg F2 H2 z xs q.1 d Q c2.frz d2 e4 fun F3 H3 v al d3 => k F3 H3 v ((g1.trans g2).trans (al.gr c2.base)) (c2.al al) d3
theorem de_sm0 (slot : Slot "str" name id) (hty : typeOf (.builtin id) = pure (.type "method_descriptor")) (hm : MtR X id r) (hg : OpS X.K r g) (ho : DE X o to fo)
    (hbase : attributeBase o name X.env (eval o X.env) = eval o X.env := by rfl) (hline : (apos.endLine == cpos.line) = true := by rfl) :
    DE X (.Call (.Attribute o name apos) [] [] cpos) (tBM0 X.K "str" r to) (eSM0 g fo) := by
  refine ⟨pe_bm0 PySem.F.plainAttrs_str slot hty hm ho.pe hbase hline, ?_⟩
  intro B F io σ H ρ d ρ' Q c h k
  obtain ⟨p, e1, h⟩ := Option.bind_eq_some_iff.mp h
  obtain ⟨z, e2, h⟩ := Option.bind_eq_some_iff.mp h
  obtain ⟨u, e4, h⟩ := Option.map_eq_some_iff.mp h
  cases h
  refine ho.se B F io σ H ρ p.1 p.2 _ c e1 fun F1 H1 x g1 c1 d1 => ?_
  rw [strD_eq e2] at d1
  cases d1
  refine ⟨rfl, ?_⟩
  exact hg F1 H1 z [] [] d Q c1.frz .nil e4 fun F3 H3 v al d3 => k F3 H3 v (g1.trans (al.gr c1.base)) (c1.al al) d3
end
def sJoin (a : Str) : List D → Option D
  | [.list ds] => (strsOf ds).bind (joinS a)
  | [.tuple ds] => (strsOf ds).bind (joinS a)
  | _ => none
def sCount (a : Str) : List D → Option D
  | [.str b] => some (.int (Txt.count a b))
  | _ => none
def sLstrip (a : Str) : List D → Option D
  | [.str b] => if a.length ≤ sizeLine then some (.str (Txt.lstripChars a b)) else none
  | _ => none
def sStarts (a : Str) : List D → Option D
  | [.str b] => some (.bool (Txt.startswith a b))
  | _ => none
def sFind (a : Str) : List D → Option D
  | [.str b] => some (.int (Txt.find a b))
  | _ => none
def sIndex (a : Str) : List D → Option D
  | [.str b] => match Builtin.Str.occurrences a b 0 a.length 1 with
    | i :: _ => some (.int (i : Nat))
    | [] => none
  | _ => none
section
variable {K : PySem.W.Frag}
theorem s_join : OpS K (fun x xs H Q => ∃ a p, ∃ ys : List Str, x = .str a ∧ xs = [.ref p] ∧ (SqL K H p (ys.map V.str) ∨ SqT K H p (ys.map V.str)) ∧ (ys.map (·.length)).sum + ys.length * a.length ≤ 16777216 ∧ Q (.str (Txt.join a ys)) H) sJoin := by
  intro F H a xs ds d Q s h e k
  have fin : ∀ {es : List D} {vs : List V}, DpAll K F vs es → (strsOf es).bind (joinS a) = some d → ∃ ys : List Str, vs = ys.map V.str ∧ (ys.map (·.length)).sum + ys.length * a.length ≤ 16777216 ∧ Q (.str (Txt.join a ys)) H := by
    intro es vs h1 e1
    obtain ⟨ys, e2, e3⟩ := Option.bind_eq_some_iff.mp e1
    unfold joinS at e3
    by_cases hz : (ys.map (·.length)).sum + ys.length * a.length ≤ 16777216
    · rw [if_pos hz] at e3; cases e3
      exact ⟨ys, strsOf_dp h1 e2, hz, k _ _ _ (Al.refl s) (.str _)⟩
    · rw [if_neg hz] at e3; cases e3
  unfold sJoin at e
  split at e
  · cases h with
    | cons q r => cases r; cases q with
      | @lst p vs _ q1 r1 =>
        obtain ⟨ys, rfl, h1, h2⟩ := fin r1 e
        exact ⟨a, p, ys, rfl, rfl, .inl (s.seq q1), h1, h2⟩
  · cases h with
    | cons q r => cases r; cases q with
      | @tup p vs _ q1 r1 =>
        obtain ⟨ys, rfl, h1, h2⟩ := fin r1 e
        exact ⟨a, p, ys, rfl, rfl, .inr (sqT_mono s q1), h1, h2⟩
  · cases e
theorem s_count : OpS K (fun x xs H Q => ∃ a b, x = .str a ∧ xs = [.str b] ∧ Q (.int (Txt.count a b)) H) sCount := by
  intro F H a xs ds d Q s h e k
  unfold sCount at e
  split at e
  · cases e
    cases h with
    | cons q r => cases r; cases q; exact ⟨a, _, rfl, rfl, k _ _ _ (Al.refl s) (.int _)⟩
  · cases e
theorem s_find : OpS K (fun x xs H Q => ∃ a b, x = .str a ∧ xs = [.str b] ∧ Q (.int (Txt.find a b)) H) sFind := by
  intro F H a xs ds d Q s h e k
  unfold sFind at e
  split at e
  · cases e
    cases h with
    | cons q r => cases r; cases q; exact ⟨a, _, rfl, rfl, k _ _ _ (Al.refl s) (.int _)⟩
  · cases e
theorem s_starts : OpS K (fun x xs H Q => ∃ a b, x = .str a ∧ xs = [.str b] ∧ Q (.bl (Txt.startswith a b)) H) sStarts := by
  intro F H a xs ds d Q s h e k
  unfold sStarts at e
  split at e
  · cases e
    cases h with
    | cons q r => cases r; cases q; exact ⟨a, _, rfl, rfl, k _ _ _ (Al.refl s) (.bl _)⟩
  · cases e
end
/-! ## list(range(..)), tuple(range(..)) -/
abbrev FR2 := En → Option ((Int × Int) × En)
def SRg (K : PySem.W.Frag) (t : St → Hp → (Int → Int → Hp → Prop) → Prop) (f : FR2) : Prop := ∀ (B F : Hp) (io : List (Nat × Addr)) (σ : St) (H : Hp) (ρ : En) (p : Int × Int) (ρ' : En) (Q : Int → Int → Hp → Prop), Con K B F io σ H ρ → f ρ = some (p, ρ') →
  (∀ F' H', Gr B F F' → Con K B F' io σ H' ρ' → Q p.1 p.2 H') → t σ H Q
structure DRg (X : Cx) (e : Expr) (t : St → Hp → (Int → Int → Hp → Prop) → Prop) (f : FR2) : Prop where
  pe : PRg X e t
  se : SRg X.K t f
def gR1 (fa : FE) : FR2 := fun ρ => (fa ρ).bind fun p => (intD p.1).map fun n => ((0, n), p.2)
def gR2 (fa fb : FE) : FR2 := fun ρ => (fa ρ).bind fun p => (fb p.2).bind fun q => (intD p.1).bind fun m => (intD q.1).map fun n => ((m, n), q.2)
def rgOk (a b : Int) : Bool := decide (-(2 ^ 62) ≤ a ∧ a < 2 ^ 62 ∧ -(2 ^ 62) ≤ b ∧ b < 2 ^ 62 ∧ (b - a).toNat ≤ 2 ^ 24)
def eLRg (f : FR2) : FN := fun ρ => (f ρ).bind fun p => if rgOk p.1.1 p.1.2 = true then some (.ol (rngD p.1.1 (p.1.2 - p.1.1).toNat), p.2) else none
def eTRg (f : FR2) : FE := fun ρ => (f ρ).bind fun p => if rgOk p.1.1 p.1.2 = true then some (.tuple (rngD p.1.1 (p.1.2 - p.1.1).toNat), p.2) else none
theorem dpAll_rg {K : PySem.W.Frag} {F : Hp} (a b : Int) : DpAll K F (rgV a b) (rngD a (b - a).toNat) := by
  unfold rgV rngD
  generalize List.range (b - a).toNat = l
  induction l with
  | nil => exact .nil
  | cons x r ih => exact .cons (.int _) ih
section
variable {X : Cx} {a b e : Expr} {ta tb : TE} {fa fb : FE} {p pos : Pos} {te : St → Hp → (Int → Int → Hp → Prop) → Prop} {f : FR2}
theorem drg_1 (ha : DE X a ta fa) (hm : X.mg "range" = none) (hg : Gl X "range" := by rfl) (na : starEach [a] X.env = (false, eval a X.env) :: starEach [] X.env := by rfl) : DRg X (.Call (.Name "range" p) [a] [] pos) (tRg1 ta) (gR1 fa) := by
  refine ⟨prg_1 hg hm ha.pe na, ?_⟩
  intro B F io σ H ρ d ρ' Q c h k
  obtain ⟨u, e1, h⟩ := Option.bind_eq_some_iff.mp h
  obtain ⟨z, e2, h⟩ := Option.map_eq_some_iff.mp h
  cases h
  refine ha.se B F io σ H ρ u.1 u.2 _ c e1 fun F1 H1 x g1 c1 d1 => ?_
  rw [intD_eq e2] at d1
  cases d1
  exact ⟨z, rfl, k F1 H1 g1 c1⟩
theorem drg_2 (ha : DE X a ta fa) (hb : DE X b tb fb) (hm : X.mg "range" = none) (hg : Gl X "range" := by rfl) (na : starEach [a, b] X.env = (false, eval a X.env) :: starEach [b] X.env := by rfl) (nb : starEach [b] X.env = (false, eval b X.env) :: starEach [] X.env := by rfl) (hp : (backTo pos (starEach [b] X.env)).any (·.1) = false := by rfl) : DRg X (.Call (.Name "range" p) [a, b] [] pos) (tRg2 ta tb) (gR2 fa fb) := by
  refine ⟨prg_2 hg hm ha.pe hb.pe na nb hp, ?_⟩
  intro B F io σ H ρ d ρ' Q c h k
  obtain ⟨u, e1, h⟩ := Option.bind_eq_some_iff.mp h
  obtain ⟨v, e3, h⟩ := Option.bind_eq_some_iff.mp h
  obtain ⟨z, e2, h⟩ := Option.bind_eq_some_iff.mp h
  obtain ⟨y, e4, h⟩ := Option.map_eq_some_iff.mp h
  cases h
  refine ha.se B F io σ H ρ u.1 u.2 _ c e1 fun F1 H1 x g1 c1 d1 => ?_
  refine hb.se B F1 io σ H1 u.2 v.1 v.2 _ c1 e3 fun F2 H2 x2 g2 c2 d2 => ?_
  rw [intD_eq e2] at d1
  rw [intD_eq e4] at d2
  cases d1
  cases d2
  exact ⟨z, y, rfl, rfl, k F2 H2 (g1.trans g2) c2⟩
theorem dn_listRg (hc : X.calm = true) (he : DRg X e te f) (hm : X.mg "list" = none) (hg : Gl X "list" := by rfl) (na : starEach [e] X.env = (false, eval e X.env) :: starEach [] X.env := by rfl) : DN X (.Call (.Name "list" p) [e] [] pos) (tLstRg te) (eLRg f) := by
  refine ⟨pe_listRg hc hg hm he.pe na, ?_⟩
  intro B F io σ H ρ d ρ' Q c h k
  obtain ⟨u, e1, h⟩ := Option.bind_eq_some_iff.mp h
  by_cases hz : rgOk u.1.1 u.1.2 = true
  · rw [if_pos hz] at h
    cases h
    refine he.se B F io σ H ρ u.1 u.2 _ c e1 fun F1 H1 g1 c1 => ⟨by unfold rgOk at hz; rw [decide_eq_true_eq] at hz; exact hz, fun n nn => ?_⟩
    have al := Al.laidH (o := .lst (rgV u.1.1 u.1.2)) c1.frz nn
    exact k _ _ n _ (g1.trans (al.gr c1.base)) (c1.al al) upd_same (dpAll_rg _ _) (c1.frz.free nn) (c1.base.free nn) (c1.fresh_notOwned nn)
  · rw [if_neg hz] at h; cases h
theorem de_tupRg (hc : X.calm = true) (he : DRg X e te f) (hm : X.mg "tuple" = none) (hg : Gl X "tuple" := by rfl) (na : starEach [e] X.env = (false, eval e X.env) :: starEach [] X.env := by rfl) : DE X (.Call (.Name "tuple" p) [e] [] pos) (tTupRg te) (eTRg f) := by
  refine ⟨pe_tupRg hc hg hm he.pe na, ?_⟩
  intro B F io σ H ρ d ρ' Q c h k
  obtain ⟨u, e1, h⟩ := Option.bind_eq_some_iff.mp h
  by_cases hz : rgOk u.1.1 u.1.2 = true
  · rw [if_pos hz] at h
    cases h
    refine he.se B F io σ H ρ u.1 u.2 _ c e1 fun F1 H1 g1 c1 => ⟨by unfold rgOk at hz; rw [decide_eq_true_eq] at hz; exact hz, fun n nn => ?_⟩
    have al := Al.laid (o := .tup (rgV u.1.1 u.1.2)) c1.frz nn
    exact k _ _ _ (g1.trans (al.gr c1.base)) (c1.al al) (.tup (.inl (.inl upd_same)) (dpAll_rg _ _))
  · rw [if_neg hz] at h; cases h
end
/-! ## {k1: v1, k2: v2}.get(e, f), all of them texts -/
theorem upd_twice {H : Hp} {p : Addr} {o o' : HO} : upd (upd H p o) p o' = upd H p o' := by
  funext a
  by_cases h : a = p
  · subst h; rw [upd_same, upd_same]
  · rw [upd_ne h, upd_ne h, upd_ne h]
def eGet2 (k1 v1 k2 v2 : Str) (fe ff : FE) : FE := fun ρ => (fe ρ).bind fun p => (ff p.2).bind fun q => (strD p.1).map fun z => (if z = k1 then .str v1 else if z = k2 then .str v2 else q.1, q.2)
section
variable {X : Cx} {e f : Expr} {te tf : TE} {fe ff : FE} {a1 a2 a3 a4 : Nat} {p1 p2 p3 p4 dpos apos cpos : Pos} {k1 v1 k2 v2 : Str}
theorem de_get2 (hu : X.A.units + 1 < cLine) (he : DE X e te fe) (hf : DE X f tf ff) (hk : k1 ≠ k2 := by decide)
    (m1 : attributeBase (.Dict [some (.Constant (.str k1) a1 p1), some (.Constant (.str k2) a2 p2)] [.Constant (.str v1) a3 p3, .Constant (.str v2) a4 p4] dpos) "get" X.env (eval (.Dict [some (.Constant (.str k1) a1 p1), some (.Constant (.str k2) a2 p2)] [.Constant (.str v1) a3 p3, .Constant (.str v2) a4 p4] dpos) X.env) = eval (.Dict [some (.Constant (.str k1) a1 p1), some (.Constant (.str k2) a2 p2)] [.Constant (.str v1) a3 p3, .Constant (.str v2) a4 p4] dpos) X.env := by rfl)
    (m2 : ((backTo cpos (starEach [e, f] X.env)).all (fun x => !x.1) && (backToKw cpos (keywordEach [] X.env)).all (fun x => x.1.isSome)
      && decide (([e, f] : List Expr).length + ([] : List Keyword).length + (if ([] : List Keyword).isEmpty then 0 else 1) < 30)) = true := by rfl)
    (m3 : (apos.endLine == cpos.line) = true := by rfl) (m4 : backTo cpos (starEach [e, f] X.env) = [(false, eval e X.env), (false, eval f X.env)] := by rfl) :
    DE X (.Call (.Attribute (.Dict [some (.Constant (.str k1) a1 p1), some (.Constant (.str k2) a2 p2)] [.Constant (.str v1) a3 p3, .Constant (.str v2) a4 p4] dpos) "get" apos) [e, f] [] cpos)
      (tDGet2 (tDisp [(tC (.str k1), tC (.str v1)), (tC (.str k2), tC (.str v2))]) te tf) (eGet2 k1 v1 k2 v2 fe ff) := by
  refine ⟨pe_dget2 hu (pe_disp (pps_cons pe_str pe_str (pps_cons pe_str pe_str pps_nil)) rfl rfl (by simp) (by simp)) he.pe hf.pe ⟨m1, m2, m3, m4⟩, ?_⟩
  intro B F io σ H ρ d ρ' Q c h k
  obtain ⟨p, e1, h⟩ := Option.bind_eq_some_iff.mp h
  obtain ⟨q, e2, h⟩ := Option.bind_eq_some_iff.mp h
  obtain ⟨z, e3, h⟩ := Option.map_eq_some_iff.mp h
  cases h
  intro Dd nD
  refine ⟨upd_same, [(.inr k1, .str v1), (.inr k2, .str v2)], rfl, by simp, Dd, rfl, ?_⟩
  rw [upd_twice]
  have bD : B Dd = none := c.base.free nD
  have fD : F Dd = none := c.frz.free nD
  have c0 := c.toBase (o := .dK (mergeK [] [(.inr k1, .str v1), (.inr k2, .str v2)])) nD
  refine ⟨.inl ⟨_, .inl upd_same⟩, ?_⟩
  refine he.se _ F io σ _ ρ p.1 p.2 _ c0 e1 fun F1 H1 x g1 c1 d1 => ?_
  refine hf.se _ F1 io σ H1 p.2 q.1 q.2 _ c1 e2 fun F2 H2 y g2 c2 d2 => ?_
  rw [strD_eq e3] at d1
  cases d1
  have hd := c2.base Dd _ upd_same
  have gg := g1.trans g2
  refine ⟨_, DGet.k (k := .inr z) hd, ?_⟩
  have hm : mergeK [] [((.inr k1 : Key), V.str v1), (.inr k2, .str v2)] = [(.inr k1, .str v1), (.inr k2, .str v2)] := by
    have hk' : (Sum.inr k1 : Key) ≠ .inr k2 := fun e => hk (Sum.inr.inj e)
    simp [mergeK, putK, hk']
  refine k F2 H2 _ (gg.unBase bD) (c2.unBase bD) ?_
  rw [hm]
  by_cases h1 : z = k1
  · subst h1
    rw [if_pos rfl, valV_pos rfl]
    exact .str _
  · rw [if_neg h1, valV_neg (fun e => h1 (Sum.inr.inj e).symm)]
    by_cases h2 : z = k2
    · subst h2
      rw [if_pos rfl, valV_pos rfl]
      exact .str _
    · rw [if_neg h2, valV_neg (fun e => h2 (Sum.inr.inj e).symm), valV_nil]
      exact d2
end
/-! ## a name whose value is not looked at -/
noncomputable def hid {α : Type} (a : α) : α := Classical.choose (⟨a, rfl⟩ : ∃ b, b = a)
theorem hid_eq {α : Type} (a : α) : hid a = a := Classical.choose_spec (⟨a, rfl⟩ : ∃ b, b = a)
theorem dn_hid {X : Cx} {e : Expr} {t : TE} {k f : FN} (h : k = f) (d : DN X e t f) : DN X e t k := h ▸ d
theorem ds_hidN {X : Cx} {L : List Nat} {st : Stmt} {t : TS} {i : Nat} {k f : FN} (h : k = f) (d : DS X L st t (sSetN i f)) : DS X L st t (sSetN i k) := h ▸ d
theorem ds_hidF {X : Cx} {L : List Nat} {st : Stmt} {t : TS} {i : Nat} {k f : FN} (h : k = f) (d : DS X L st t (sSet i (eFrz f))) : DS X L st t (sSet i (eFrz k)) := h ▸ d
theorem ds_hid {X : Cx} {L : List Nat} {st : Stmt} {t : TS} {k f : FS} (h : k = f) (d : DS X L st t f) : DS X L st t k := h ▸ d
/-! ## texts and tuples, many times -/
def rMulS : R2 := fun x y H Q => ∃ (z : Str) (n : Int), x = .str z ∧ y = .int n ∧ MulOk z n ∧ Q (.str (Txt.mul z n)) H
theorem op_mulS {X : Cx} : OpR X (binaryOp .Mult) rMulS := by
  intro pins s σ H x y v u Q I rx ry h
  obtain ⟨z, n, rfl, rfl, hok, q⟩ := h
  obtain ⟨t, rfl⟩ := rx
  obtain ⟨t', rfl⟩ := ry
  exact SB.mul hok fun t2 k => ⟨.str _, H, I.tok _, ⟨_, rfl⟩, q⟩
theorem mulOk_str {z : Str} {n : Int} (h0 : -(2 ^ 62) ≤ n) (h1 : n < 2 ^ 62) (h : z.length * n.toNat ≤ 16777216) : MulOk z n := by
  refine ⟨by rw [decide_eq_false (by omega), decide_eq_false (by omega)]; rfl, fun hn _ => ?_, fun hn _ => ?_⟩
  · intro hgt
    have hz : (z.length : Int) ≤ 16777216 := by
      have : z.length * 1 ≤ z.length * n.toNat := Nat.mul_le_mul_left _ (by omega)
      omega
    have hm : (z.length : Int) * n ≤ 16777216 := by
      have e : ((z.length * n.toNat : Nat) : Int) = (z.length : Int) * n := by push_cast; rw [Int.toNat_of_nonneg (by omega)]
      omega
    have : (z.length : Int) ≤ (2 ^ 63 - 1) / n := Int.le_ediv_of_mul_le (by omega) (by omega)
    omega
  · unfold Builtin.Str.tooLong sizeLine
    exact decide_eq_false (by omega)
section
variable {prog : Program} {w : World} {A : Around} {E : Value → Shared → Prop} {s : Shared}
theorem tuple_mul0 (l : Addr) (items : Array Value) (n : Nat) (dd : Option Addr) (sl : Array (Option Value)) (x : Int) (u : Tok) (c0 : (decide (x < -(2 ^ 63)) || decide (x ≥ 2 ^ 63)) = false) (c1 : (items.isEmpty || x == 1) = false) (c2 : (decide (x ≤ 0) || items.isEmpty) = true) :
    Meets (Builtin.«tuple.__mul__» ⟨[.ref l, .int x u], []⟩) (fun _ R s => s.heap.get? l = some { cls := .type "tuple", dict := dd, data := .seq items n, slots := sl } ∧
      R (.ok (.ret (Value.ref s.heap.objs.size))) { s with heap := s.heap.push { cls := Value.type "tuple", data := Data.seq #[] }, toks := s.toks }) :=
  .of_wp fun prog w A R s h => by
    obtain ⟨hp, g, d, tk, os⟩ := s
    obtain ⟨hl, h⟩ := h
    have f1 := AutoSeq1.idx_int
    wp_walk using wpAny_loadPart' hl
    repeat (first
      | (refine wpAny_ite_false (decide_eq_false (by rw [c0]; exact Bool.false_ne_true)) ?_; wp_walk using wpAny_loadPart' hl)
      | (refine wpAny_ite_false (decide_eq_false (by rw [c1]; exact Bool.false_ne_true)) ?_; wp_walk using wpAny_loadPart' hl)
      | (refine wpAny_ite_true (decide_eq_true c2) ?_; wp_walk using wpAny_loadPart' hl))
    exact ⟨_, rfl, h⟩
theorem tuple_mul1 (l : Addr) (items : Array Value) (n : Nat) (dd : Option Addr) (sl : Array (Option Value)) (x : Int) (u : Tok) (c0 : (decide (x < -(2 ^ 63)) || decide (x ≥ 2 ^ 63)) = false) (c1 : (items.isEmpty || x == 1) = true) :
    Meets (Builtin.«tuple.__mul__» ⟨[.ref l, .int x u], []⟩) (fun _ R s => s.heap.get? l = some { cls := .type "tuple", dict := dd, data := .seq items n, slots := sl } ∧
      R (.ok (.ret (Value.ref l))) s) :=
  .of_wp fun prog w A R s h => by
    obtain ⟨hp, g, d, tk, os⟩ := s
    obtain ⟨hl, h⟩ := h
    have f1 := AutoSeq1.idx_int
    wp_walk using wpAny_loadPart' hl
    repeat (first
      | (refine wpAny_ite_false (decide_eq_false (by rw [c0]; exact Bool.false_ne_true)) ?_; wp_walk using wpAny_loadPart' hl)
      | (refine wpAny_ite_true (decide_eq_true c1) ?_; wp_walk using wpAny_loadPart' hl))
    exact ⟨_, rfl, h⟩
end
theorem size_rep' (its : List Value) (m : Nat) : (List.foldl (fun x1 x2 => x1 ++ x2) #[] (List.replicate m its.toArray)) = (List.replicate m its).flatten.toArray := by
  have := foldl_rep its m []
  rw [List.nil_append] at this
  exact this
def rRepA (K : PySem.W.Frag) : R2 := fun x y H Q => ∃ (l : Addr) (k : Int) (xs : List V), x = .ref l ∧ y = .int k ∧ SqT K H l xs ∧ -(2 ^ 62) ≤ k ∧ k < 2 ^ 62 ∧ xs.length * k.toNat ≤ 16777216 ∧ (xs = [] ∨ k = 1 → Q (.ref l) H) ∧
  (¬ (xs = [] ∨ k = 1) → ∀ p, H p = none → Q (.ref p) (upd H p (.tup (List.replicate k.toNat xs).flatten)))
theorem op_repA {X : Cx} : OpR X (binaryOp .Mult) (rRepA X.K) := by
  intro pins s σ H x y v u Q I rx ry h
  obtain ⟨l, k, xs, rfl, rfl, hT, h1, h2, hz, q1, q2⟩ := h
  cases rx
  obtain ⟨t, rfl⟩ := ry
  obtain ⟨its, r, ⟨⟨cls, dd, data, sl⟩, ho, hc, n, hd⟩, hs⟩ := I.tuple hT
  simp only at hc hd
  subst hc hd
  have hle : its.length = xs.length := r.length.symm
  have c0 : (decide (k < -(2 ^ 63)) || decide (k ≥ 2 ^ 63)) = false := by
    rw [decide_eq_false (by omega), decide_eq_false (by omega)] <;> rfl
  have hne : its = [] ↔ xs = [] := by
    constructor
    · intro e; rw [e] at hle; exact List.eq_nil_of_length_eq_zero hle.symm
    · intro e; rw [e] at hle; exact List.eq_nil_of_length_eq_zero hle
  by_cases hb : xs = [] ∨ k = 1
  · have c1 : (its.toArray.isEmpty || k == 1) = true := by
      rcases hb with e | e
      · rw [hne.mpr e]; rfl
      · subst e; simp
    exact wpAny_binaryOp_repeat_ref (T := "tuple") (U := "int") (by decide) ⟨_, ho, rfl⟩ (fun s' => typeIs_int s' k t) noFill_tuple_mul F.fills_int_mul F.slot_int_rmul repeat_tuple F.slot_int_index.lookup
      (call_meets F.slot_int_rmul (typeIs_int s k t) F.entry_int_rmul (F.args_int_rmul_2 _ _) (int_rmul_tuple k t l its.toArray n dd sl)
        ⟨ho, rfl, ⟨_, ho, rfl⟩, call_meets F.slot_tuple_mul ⟨_, ho, rfl⟩ F.entry_tuple_mul (F.args_tuple_mul_2 _ _) (tuple_mul1 l its.toArray n dd sl k t c0 c1) ⟨ho, ⟨.ref l, H, I, rfl, q1 hb⟩⟩⟩)
  · have hb1 : xs ≠ [] := fun e => hb (.inl e)
    have hb2 : k ≠ 1 := fun e => hb (.inr e)
    have hi : its.toArray.isEmpty = false := by
      cases its with
      | nil => exact absurd (hne.mp rfl) hb1
      | cons a b => rfl
    have c1 : (its.toArray.isEmpty || k == 1) = false := by
      rw [hi, Bool.false_or]
      exact beq_eq_false_iff_ne.mpr hb2
    have flen : (List.replicate k.toNat its).flatten.length ≤ sizeLine := by
      rw [PyProof.Rows.lm_len_rep_flat, hle, sizeLine_eq, Nat.mul_comm]
      exact hz
    have q3 := q2 hb
    by_cases h0 : k ≤ 0
    · have c2 : (decide (k ≤ 0) || its.toArray.isEmpty) = true := by rw [decide_eq_true h0]; rfl
      have e0 : (List.replicate k.toNat xs).flatten = [] := by rw [show k.toNat = 0 by omega]; rfl
      rw [e0] at q3
      refine wpAny_binaryOp_repeat_ref (T := "tuple") (U := "int") (by decide) ⟨_, ho, rfl⟩ (fun s' => typeIs_int s' k t) noFill_tuple_mul F.fills_int_mul F.slot_int_rmul repeat_tuple F.slot_int_index.lookup
        (call_meets F.slot_int_rmul (typeIs_int s k t) F.entry_int_rmul (F.args_int_rmul_2 _ _) (int_rmul_tuple k t l its.toArray n dd sl)
          ⟨ho, rfl, ⟨_, ho, rfl⟩, call_meets F.slot_tuple_mul ⟨_, ho, rfl⟩ F.entry_tuple_mul (F.args_tuple_mul_2 _ _) (tuple_mul0 l its.toArray n dd sl k t c0 c1 c2) ⟨ho, ?_⟩⟩)
      refine ⟨.ref s.heap.objs.size, _, I.laid (t' := s.toks) (o := .tup []) (fun b ob q => Heap.get?_push_of_some _ q) (Nat.le_refl _) ?_, rfl, q3 _ (I.hok.fresh (Nat.le_refl _))⟩
      exact ⟨Nat.zero_le _, [], .nil, IsTup.new _ _⟩
    · have hm : ((its.toArray.size : Nat) : Int) * k ≤ 16777216 := by
        rw [List.size_toArray, hle]
        have e : ((xs.length * k.toNat : Nat) : Int) = (xs.length : Int) * k := by push_cast; rw [Int.toNat_of_nonneg (by omega)]
        omega
      have c2 : (decide (k ≤ 0) || its.toArray.isEmpty) = false := by
        rw [hi, Bool.or_false]
        exact decide_eq_false (by omega)
      have c4 : Builtin.Tuple.tupleTooMany (((its.toArray.size : Nat) : Int) * k) = false := by
        unfold Builtin.Tuple.tupleTooMany
        rw [sizeLine_eq]
        exact decide_eq_false (by omega)
      refine wpAny_binaryOp_repeat_ref (T := "tuple") (U := "int") (by decide) ⟨_, ho, rfl⟩ (fun s' => typeIs_int s' k t) noFill_tuple_mul F.fills_int_mul F.slot_int_rmul repeat_tuple F.slot_int_index.lookup
        (call_meets F.slot_int_rmul (typeIs_int s k t) F.entry_int_rmul (F.args_int_rmul_2 _ _) (int_rmul_tuple k t l its.toArray n dd sl)
          ⟨ho, rfl, ⟨_, ho, rfl⟩, call_meets F.slot_tuple_mul ⟨_, ho, rfl⟩ F.entry_tuple_mul (F.args_tuple_mul_2 _ _) (tuple_mulW l its.toArray n dd sl k t c0 c1 c2 (by omega) c4 (by rw [size_rep', List.size_toArray]; exact flen)) ⟨ho, ?_⟩⟩)
      rw [size_rep']
      refine ⟨.ref s.heap.objs.size, _, I.laid (t' := s.toks) (o := .tup (List.replicate k.toNat xs).flatten) (fun b ob q => Heap.get?_push_of_some _ q) (Nat.le_refl _) ?_, rfl, q3 _ (I.hok.fresh (Nat.le_refl _))⟩
      exact ⟨by rw [PyProof.Rows.lm_len_rep_flat, sizeLine_eq, Nat.mul_comm]; exact hz, _, r.rep k.toNat, IsTup.new _ _⟩
def repOk (n : Nat) (k : Int) : Bool := decide (-(2 ^ 62) ≤ k ∧ k < 2 ^ 62 ∧ n * k.toNat ≤ 16777216)
theorem repOk_eq {n : Nat} {k : Int} (h : repOk n k = true) : -(2 ^ 62) ≤ k ∧ k < 2 ^ 62 ∧ n * k.toNat ≤ 16777216 := by unfold repOk at h; rw [decide_eq_true_eq] at h; exact h
def dMulA : D → D → Option D
  | .int a, .int b => if mulOk a b = true then some (.int (a * b)) else none
  | .str z, .int k => if repOk z.length k = true then some (.str (Txt.mul z k)) else none
  | .tuple ds, .int k => if repOk ds.length k = true then some (.tuple (List.replicate k.toNat ds).flatten) else none
  | _, _ => none
abbrev rMulA (K : PySem.W.Frag) : R2 := fun x y H Q => rI IntMulOk (fun i j => .int (i * j)) x y H Q ∨ (rMulS x y H Q ∨ rRepA K x y H Q)
theorem op_mulA {X : Cx} : OpR X (binaryOp .Mult) (rMulA X.K) := op_mulD.or (op_mulS.or op_repA)
theorem dpAll_rep {K : PySem.W.Frag} {F : Hp} {vs : List V} {ds : List D} (h : DpAll K F vs ds) : ∀ n : Nat, DpAll K F (List.replicate n vs).flatten (List.replicate n ds).flatten
  | 0 => .nil
  | n + 1 => by rw [List.replicate_succ, List.replicate_succ, List.flatten_cons, List.flatten_cons]; exact h.append (dpAll_rep h n)
theorem v_mulA {K : PySem.W.Frag} : Op2 K (rMulA K) dMulA := by
  intro F H x y dx dy d Q s hx hy e k
  match dx, dy, hx, hy, e with
  | .int a, .int b, hx, hy, e =>
    cases hx; cases hy
    have e : (if mulOk a b = true then some (PyData.int (a * b)) else none) = some d := e
    by_cases hz : mulOk a b = true
    · rw [if_pos hz] at e; cases e
      exact .inl ⟨a, b, rfl, rfl, mulOk_ok hz, k F H _ (Al.refl s) (.int _)⟩
    · rw [if_neg hz] at e; cases e
  | .str z, .int b, hx, hy, e =>
    cases hx; cases hy
    have e : (if repOk z.length b = true then some (PyData.str (Txt.mul z b)) else none) = some d := e
    by_cases hz : repOk z.length b = true
    · rw [if_pos hz] at e; cases e
      obtain ⟨h1, h2, h3⟩ := repOk_eq hz
      exact .inr (.inl ⟨z, b, rfl, rfl, mulOk_str h1 h2 h3, k F H _ (Al.refl s) (.str _)⟩)
    · rw [if_neg hz] at e; cases e
  | .tuple ds, .int b, hx, hy, e =>
    cases hy
    have e : (if repOk ds.length b = true then some (PyData.tuple (List.replicate b.toNat ds).flatten) else none) = some d := e
    by_cases hz : repOk ds.length b = true
    · rw [if_pos hz] at e; cases e
      obtain ⟨h1, h2, h3⟩ := repOk_eq hz
      cases hx with
      | @tup a vs _ q1 r1 =>
        refine .inr (.inr ⟨a, b, vs, rfl, rfl, sqT_mono s q1, h1, h2, by rw [r1.length]; exact h3, fun hb => ?_, fun hb p hp => ?_⟩)
        · have e2 : (List.replicate b.toNat ds).flatten = ds := by
            rcases hb with hb | hb
            · subst hb; cases r1; generalize b.toNat = n; induction n with
              | zero => rfl
              | succ n ih => rw [List.replicate_succ, List.flatten_cons, ih]; rfl
            · subst hb; show (List.replicate 1 ds).flatten = ds; rw [List.replicate_succ, List.flatten_cons]; exact List.append_nil _
          exact k F H (.ref a) (Al.refl s) (by rw [e2]; exact .tup q1 r1)
        · have al := Al.laid (o := .tup (List.replicate b.toNat vs).flatten) s hp
          exact k _ _ _ al (.tup (.inl (.inl upd_same)) (dpAll_rep (dpAll_mono al.ff r1) _))
    · rw [if_neg hz] at e; cases e
/-! ### list.index of ints -/
def ixOf (k : Int) : List Int → Option Nat
  | [] => none
  | n :: r => if n = k then some 0 else (ixOf k r).map (· + 1)
theorem ixOf_ok {k : Int} : ∀ {ns : List Int} {j : Nat}, ixOf k ns = some j → ns[j]? = some k ∧ ∀ m, m < j → ns[m]? ≠ some k
  | [], j, h => by cases h
  | n :: r, j, h => by
    unfold ixOf at h
    by_cases e : n = k
    · rw [if_pos e] at h
      cases h
      exact ⟨by rw [← e]; rfl, fun m hm => absurd hm (Nat.not_lt_zero _)⟩
    · rw [if_neg e] at h
      obtain ⟨i, h1, rfl⟩ := Option.map_eq_some_iff.mp h
      obtain ⟨h2, h3⟩ := ixOf_ok h1
      refine ⟨by rw [List.getElem?_cons_succ]; exact h2, fun m hm => ?_⟩
      cases m with
      | zero => intro z; rw [List.getElem?_cons_zero] at z; exact e (Option.some.inj z)
      | succ m => rw [List.getElem?_cons_succ]; exact h3 m (by omega)
def lIndex : List D → List D → Option (D × List D)
  | ds, [.int k] => (intsD ds).bind fun ns => (ixOf k ns).map fun j => (.int (j : Nat), ds)
  | _, _ => none
theorem l_index {K : PySem.W.Frag} : OpL K (rIndex K) lIndex := by
  intro F H a vs xs ds es z Q h d1 d2 e k
  match es, d2, e with
  | [.int x], d2, e =>
    obtain ⟨v, rfl, dv⟩ := one_of d2
    cases dv
    obtain ⟨ns, e1, e⟩ := Option.bind_eq_some_iff.mp e
    obtain ⟨j, e2, e⟩ := Option.map_eq_some_iff.mp e
    cases e
    have := intsD_eq e1; subst this
    have := dp_ints_inv d1; subst this
    obtain ⟨h1, h2⟩ := ixOf_ok e2
    have hu : upd H a (.lst (ns.map V.int)) = H := by
      funext b
      unfold upd
      by_cases z : b = a
      · rw [if_pos z, z, h]
      · rw [if_neg z]
    have hq := k (.int (j : Nat)) (ns.map V.int) (.int _) d1
    rw [hu] at hq
    refine ⟨a, ns.map V.int, .int x, j, .int x, rfl, rfl, .inl (.inl h), rfl, ?_, by rw [List.getElem?_map, h1]; rfl, ?_, fun m z' hm hz => ?_, hq⟩
    · rw [List.all_map, List.all_eq_true]; exact fun _ _ => rfl
    · show (x == x) = true
      exact beq_self_eq_true _
    · rw [List.getElem?_map] at hz
      obtain ⟨n, h3, rfl⟩ := Option.map_eq_some_iff.mp hz
      show (n == x) = false
      rw [beq_eq_false_iff_ne]
      intro q
      exact h2 m hm (by rw [h3, q])
/-- l.index(x), l plain data -/
def eIdx (fo : FE) (fa : FA) : FE := fun ρ => (fo ρ).bind fun p => match p.1 with
  | .list ds => (fa p.2).bind fun q => (lIndex ds q.1).map fun z => (z.1, q.2)
  | _ => none
section
variable {X : Cx} {o e : Expr} {es : List Expr} {to : TE} {fo : FE} {t : TA} {fa : FA} {name : Str} {apos cpos : Pos} {id : String}
theorem de_lix (slot : Slot "list" name id) (hty : typeOf (.builtin id) = pure (.type "method_descriptor")) (hm : MtR X id (rIndex X.K)) (ho : DE X o to fo) (ha : DA X (e :: es) t fa)
    (hbase : attributeBase o name X.env (eval o X.env) = eval o X.env := by rfl)
    (hfew : ((backTo cpos (starEach (e :: es) X.env)).all (fun x => !x.1) && (backToKw cpos (keywordEach [] X.env)).all (fun x => x.1.isSome)
      && decide ((e :: es).length + ([] : List Keyword).length + (if ([] : List Keyword).isEmpty then 0 else 1) < 30)) = true := by rfl)
    (hline : (apos.endLine == cpos.line) = true := by rfl) (hs : starEach (e :: es) X.env = (false, eval e X.env) :: starEach es X.env := by rfl) (hplain : (backTo cpos (starEach es X.env)).any (·.1) = false := by rfl) :
    DE X (.Call (.Attribute o name apos) (e :: es) [] cpos) (tBM X.K "list" (rIndex X.K) to t) (eIdx fo fa) := by
  refine ⟨pe_bm PySem.F.plainAttrs_list slot hty hm ho.pe ha.pe hbase hfew hline hs hplain, ?_⟩
  intro B F io σ H ρ d ρ' Q c h k
  obtain ⟨p, e1, h⟩ := Option.bind_eq_some_iff.mp h
  refine ho.se B F io σ H ρ p.1 p.2 _ c e1 fun F1 H1 x g1 c1 d1 => ?_
  obtain ⟨dp, ρp⟩ := p
  cases dp with
  | list ds =>
    obtain ⟨q, e3, h⟩ := Option.bind_eq_some_iff.mp h
    obtain ⟨z, e4, h⟩ := Option.map_eq_some_iff.mp h
    cases h
    cases d1 with
    | @lst a vs _ q1 r1 =>
      refine ⟨.inl ⟨rfl, vs, c1.frz.seq q1⟩, ?_⟩
      refine ha.se B F1 io σ H1 _ q.1 q.2 _ c1 e3 fun F2 H2 xs g2 c2 d2 => ?_
      obtain ⟨es2, ρq⟩ := q
      match es2, d2, e4 with
      | [.int x], d2, e4 =>
        obtain ⟨v, rfl, dv⟩ := one_of d2
        cases dv
        obtain ⟨ns, e5, e4⟩ := Option.bind_eq_some_iff.mp e4
        obtain ⟨j, e6, e4⟩ := Option.map_eq_some_iff.mp e4
        cases e4
        have := intsD_eq e5; subst this
        have := dp_ints_inv r1; subst this
        obtain ⟨h1, h2⟩ := ixOf_ok e6
        refine ⟨a, ns.map V.int, .int x, j, .int x, rfl, rfl, c2.frz.seq (g2.sub.seq q1), rfl, ?_, by rw [List.getElem?_map, h1]; rfl, ?_, fun m z' hm hz => ?_, k F2 H2 _ (g1.trans g2) c2 (.int _)⟩
        · rw [List.all_map, List.all_eq_true]; exact fun _ _ => rfl
        · show (x == x) = true
          exact beq_self_eq_true _
        · rw [List.getElem?_map] at hz
          obtain ⟨n, h3, rfl⟩ := Option.map_eq_some_iff.mp hz
          show (n == x) = false
          rw [beq_eq_false_iff_ne]
          intro q
          exact h2 m hm (by rw [h3, q])
  | _ => cases h
end
/-- a def's plain function by its body -/
class FnIs (m : FnS) (n : outParam Nat) (ios : outParam (List Nat)) (s : outParam FS) : Prop where
  eq : m = fnSem n ios s
end L2.Pd

namespace L2.Pd
open PySem PySem.Spec PyProof.Rows
/-! ## Comprehensions of two clauses -/
def stp2 (c : FT) (lk1 : Option Nat) (vs1 : List Nat) (it1 : FA) (g1 : FG) (c1 : FT) (e : FE) (acc : List D) (ρ : En) : Option (List D × En) := (c ρ).bind fun p => if p.1 = true then (it1 p.2).bind fun q => compG lk1 q.1 vs1 g1 (stp c1 e) q.1 acc q.2 else some (acc, p.2)
def eComp2 (lk : Option Nat) (vs : List Nat) (it : FA) (g : FG) (c : FT) (lk1 : Option Nat) (vs1 : List Nat) (it1 : FA) (g1 : FG) (c1 : FT) (e : FE) : FN := fun ρ => (it ρ).bind fun p => (compG lk p.1 vs g (stp2 c lk1 vs1 it1 g1 c1 e) p.1 [] p.2).map fun q => (.ol q.1, putB vs p.2 (killL vs q.2))
section
variable {X : Cx} {tg iter tg1 iter1 elt : Expr} {ifs ifs1 : List Expr} {scope : Scope} {own : List (Str × Nat)} {pos : Pos} {wi wi1 : TI} {fi fi1 : FA} {lk lk1 : Option Nat} {ws vs ws1 vs1 : List Nat} {t1 t2 : TG} {g1 g2 : FG} {tt tt1 : TT} {fc fc1 : FT} {te : TE} {fe : FE}
theorem sn_comp2 {K : PySem.W.Frag} (hi : SI K lk wi fi) (hg : SG K [] ws t1 g1) (hc : ST K tt fc) (hi1 : SI K lk1 wi1 fi1) (hg1 : SG K [] ws1 t2 g2) (hc1 : ST K tt1 fc1) (he : SE K te fe) (hw : ∀ i ∈ ws, i ∈ vs) (hw1 : ∀ i ∈ ws1, i ∈ vs1) (hvv : ∀ i ∈ vs1, i ∈ vs) (hlv : ∀ j, lk = some j → j ∉ vs) (hlv1 : ∀ j, lk1 = some j → j ∉ vs1) :
    SN K (tLc2 wi t1 tt wi1 t2 tt1 te vs vs1) (eComp2 lk vs fi g1 fc lk1 vs1 fi1 g2 fc1 fe) := by
  intro B F io σ H ρ cl ρ' Q c e k
  obtain ⟨⟨xs, ρ0⟩, e1, e⟩ := Option.bind_eq_some_iff.mp e
  obtain ⟨⟨out, ρz⟩, e2, e3⟩ := Option.map_eq_some_iff.mp e
  cases e3
  refine hi B F io σ H ρ xs ρ0 _ c e1 fun F0 H0 J C g0 c0 wk hcl hlk => ?_
  intro Dd nD
  have bD : B Dd = none := c0.base.free nD
  have fD0 : F0 Dd = none := c0.frz.free nD
  have hσ : ∀ i, i ∉ vs → (wipe σ vs)[i]? = σ[i]? := wipe_get σ vs
  refine ⟨fun i m H => m = xs.length - i ∧ i ≤ xs.length ∧ ∃ F2 ρ2 acc accV, Gr B F0 F2 ∧ Con K (upd B Dd (.lst accV)) F2 [] (wipe σ vs) H (killL vs ρ2) ∧ F2 Dd = none ∧ DpAll K F2 accV acc ∧ compG lk xs vs g1 (stp2 fc lk1 vs1 fi1 g2 fc1 fe) (xs.drop i) acc ρ2 = some (out, ρz),
    ⟨xs.length, by simp, Nat.zero_le _, F0, ρ0, [], [], Gr.refl _ _, (c0.toBase nD).move vs (wipe_length σ vs) hσ (fun p hp => absurd hp (List.not_mem_nil)), fD0, .nil, e2⟩, ?_⟩
  rintro i m H2 ⟨rfl, hi2, F2, ρ2, acc, accV, gq2, c2, fD, dA, e4⟩
  by_cases hlt : i < xs.length
  · rw [List.drop_eq_getElem_cons hlt] at e4
    unfold compG at e4
    by_cases hlo : lockOk lk xs (killL vs ρ2) = true
    · rw [if_pos hlo] at e4
      obtain ⟨ρ3, e5, e4⟩ := Option.bind_eq_some_iff.mp e4
      obtain ⟨⟨acc4, ρ4⟩, e6, e7⟩ := Option.bind_eq_some_iff.mp e4
      have cc := hcl _ F2 [] (wipe σ vs) H2 (killL vs ρ2) gq2.sub c2 hlo (fun j hj => hσ j (hlv j hj))
      refine .inr ⟨wk.go i F2 H2 cc hlt, fun H' => ∃ m', m' < xs.length - i ∧ (m' = xs.length - (i + 1) ∧ i + 1 ≤ xs.length ∧ ∃ F2 ρ2 acc accV, Gr B F0 F2 ∧ Con K (upd B Dd (.lst accV)) F2 [] (wipe σ vs) H' (killL vs ρ2) ∧ F2 Dd = none ∧ DpAll K F2 accV acc ∧ compG lk xs vs g1 (stp2 fc lk1 vs1 fi1 g2 fc1 fe) (xs.drop (i + 1)) acc ρ2 = some (out, ρz)), fun H' h => h, fun x H' y => ?_⟩
      obtain ⟨e8, d, e9, dd⟩ := wk.yld i F2 H2 x H' cc hlt y
      subst e8
      rw [List.getElem?_eq_getElem hlt] at e9
      cases e9
      refine hg _ F2 [] (wipe σ vs) H' (killL vs ρ2) x xs[i] ρ3 _ rfl c2 dd e5 fun F3 σ3 H3 g3 c3 off => ⟨?_, ?_⟩
      · rw [wipe_off off hw, wipe_wipe]
      obtain ⟨p, e10, e11⟩ := Option.bind_eq_some_iff.mp e6
      refine hc _ F3 [] σ3 H3 ρ3 p.1 p.2 _ c3 e10 fun F4 H4 g4 c4 => ?_
      have back : ∀ {F5 : Hp} {H5 : Hp} {ρ5 : En} {B5 : Hp} {σ5 : St}, σ5.length = σ3.length → (∀ j, j ∉ vs → σ5[j]? = σ3[j]?) → Con K B5 F5 [] σ5 H5 ρ5 → Con K B5 F5 [] (wipe σ vs) H5 (killL vs ρ5) := fun {F5 H5 ρ5 B5 σ5} hl5 h5 c5 =>
        c5.move vs (by rw [hl5, off.1]) (fun j hj => by rw [h5 j hj]; exact ((off.2 j fun z => hj (hw j z))).symm) (fun p hp => absurd hp (List.not_mem_nil))
      by_cases hp : p.1 = true
      · rw [if_pos hp] at e11 ⊢
        obtain ⟨⟨xs1, ρ5⟩, e12, e13⟩ := Option.bind_eq_some_iff.mp e11
        refine hi1 _ F4 [] σ3 H4 p.2 xs1 ρ5 _ c4 e12 fun F5 H5 J1 C1 g5 c5 wk1 hcl1 hlk1 => ?_
        have hσ1 : ∀ i, i ∉ vs1 → (wipe σ3 vs1)[i]? = σ3[i]? := wipe_get σ3 vs1
        have gg5 := (g3.trans g4).trans g5
        refine ⟨fun j m H => m = xs1.length - j ∧ j ≤ xs1.length ∧ ∃ F6 ρ6 acc6 accV6, Gr B F0 F6 ∧ Same F5 F6 ∧ Con K (upd B Dd (.lst accV6)) F6 [] (wipe σ3 vs1) H (killL vs1 ρ6) ∧ F6 Dd = none ∧ DpAll K F6 accV6 acc6 ∧ compG lk1 xs1 vs1 g2 (stp fc1 fe) (xs1.drop j) acc6 ρ6 = some (acc4, ρ4),
          ⟨xs1.length, by simp, Nat.zero_le _, F5, ρ5, acc, accV, gq2.trans (gg5.unBase bD), Same.refl _, c5.move vs1 (wipe_length σ3 vs1) hσ1 (fun p hp => absurd hp (List.not_mem_nil)), gg5.at fD, dpAll_mono gg5.sub dA, e13⟩, ?_⟩
        rintro j m H6 ⟨rfl, hj2, F6, ρ6, acc6, accV6, g6, s56, c6, fD6, dA6, e14⟩
        by_cases hlt1 : j < xs1.length
        · rw [List.drop_eq_getElem_cons hlt1] at e14
          unfold compG at e14
          by_cases hlo1 : lockOk lk1 xs1 (killL vs1 ρ6) = true
          · rw [if_pos hlo1] at e14
            obtain ⟨ρ7, e15, e14⟩ := Option.bind_eq_some_iff.mp e14
            obtain ⟨⟨acc8, ρ8⟩, e16, e17⟩ := Option.bind_eq_some_iff.mp e14
            have cc1 := hcl1 _ F6 [] (wipe σ3 vs1) H6 (killL vs1 ρ6) s56 c6 hlo1 (fun j hj => hσ1 j (hlv1 j hj))
            refine .inr ⟨wk1.go j F6 H6 cc1 hlt1, fun H' => ∃ m', m' < xs1.length - j ∧ (m' = xs1.length - (j + 1) ∧ j + 1 ≤ xs1.length ∧ ∃ F6 ρ6 acc6 accV6, Gr B F0 F6 ∧ Same F5 F6 ∧ Con K (upd B Dd (.lst accV6)) F6 [] (wipe σ3 vs1) H' (killL vs1 ρ6) ∧ F6 Dd = none ∧ DpAll K F6 accV6 acc6 ∧ compG lk1 xs1 vs1 g2 (stp fc1 fe) (xs1.drop (j + 1)) acc6 ρ6 = some (acc4, ρ4)), fun H' h => h, fun x1 H7 y1 => ?_⟩
            obtain ⟨e18, d1, e19, dd1⟩ := wk1.yld j F6 H6 x1 H7 cc1 hlt1 y1
            subst e18
            rw [List.getElem?_eq_getElem hlt1] at e19
            cases e19
            refine hg1 _ F6 [] (wipe σ3 vs1) H7 (killL vs1 ρ6) x1 xs1[j] ρ7 _ rfl c6 dd1 e15 fun F7 σ7 H8 g7 c7 off1 => ⟨?_, ?_⟩
            · rw [wipe_off off1 hw1, wipe_wipe]
            have back1 : ∀ {F9 : Hp} {H9 : Hp} {ρ9 : En} {B9 : Hp}, Con K B9 F9 [] σ7 H9 ρ9 → Con K B9 F9 [] (wipe σ3 vs1) H9 (killL vs1 ρ9) := fun {F9 H9 ρ9 B9} c9 =>
              c9.move vs1 (by rw [off1.1]) (fun j hj => ((off1.2 j fun z => hj (hw1 j z))).symm) (fun p hp => absurd hp (List.not_mem_nil))
            obtain ⟨p1, e20, e21⟩ := Option.bind_eq_some_iff.mp e16
            refine hc1 _ F7 [] σ7 H8 ρ7 p1.1 p1.2 _ c7 e20 fun F9 H9 g9 c9 => ?_
            by_cases hp1 : p1.1 = true
            · rw [if_pos hp1] at e21 ⊢
              obtain ⟨q, e22, e23⟩ := Option.bind_eq_some_iff.mp e21
              by_cases hz : acc6.length < sizeLine
              · rw [if_pos hz] at e23
                cases e23
                refine he _ F9 [] σ7 H9 p1.2 q.1 q.2 _ c9 e22 fun F10 H10 v g10 c10 d10 => ?_
                have gg := (g7.trans g9).trans g10
                have fD10 := gg.at fD6
                have dA10 := dpAll_mono gg.sub dA6
                refine ⟨accV6, c10.base _ _ upd_same, by rw [dA6.length]; exact hz, xs1.length - (j + 1), by omega, rfl, hlt1, F10, q.2, acc6 ++ [q.1], accV6 ++ [v], g6.trans (gg.unBase bD), s56.trans gg.sub, back1 (c10.reBase fD10), fD10, dA10.append (.one d10), e17⟩
              · rw [if_neg hz] at e23; cases e23
            · rw [if_neg hp1] at e21 ⊢
              cases e21
              have gg := g7.trans g9
              exact ⟨xs1.length - (j + 1), by omega, rfl, hlt1, F9, p1.2, acc6, accV6, g6.trans (gg.unBase bD), s56.trans gg.sub, back1 c9, gg.at fD6, dpAll_mono gg.sub dA6, e17⟩
          · rw [if_neg hlo1] at e14; cases e14
        · have hj3 : j = xs1.length := by omega
          subst hj3
          rw [List.drop_length] at e14
          unfold compG at e14
          by_cases hlo1 : lockOk lk1 xs1 (killL vs1 ρ6) = true
          · rw [if_pos hlo1] at e14
            cases e14
            have cc1 := hcl1 _ F6 [] (wipe σ3 vs1) H6 (killL vs1 ρ6) s56 c6 hlo1 (fun j hj => hσ1 j (hlv1 j hj))
            refine .inl ⟨wk1.stop _ F6 H6 cc1 (Nat.le_refl _), ?_⟩
            exact ⟨xs.length - (i + 1), by omega, rfl, hlt, F6, killL vs1 ρ6, acc4, accV6, g6, back (wipe_length σ3 vs1) (fun j hj => hσ1 j fun z => hj (hvv j z)) c6, fD6, dA6, e7⟩
          · rw [if_neg hlo1] at e14; cases e14
      · rw [if_neg hp] at e11 ⊢
        cases e11
        have gg := g3.trans g4
        exact ⟨xs.length - (i + 1), by omega, rfl, hlt, F4, p.2, acc, accV, gq2.trans (gg.unBase bD), back rfl (fun _ _ => rfl) c4, gg.at fD, dpAll_mono gg.sub dA, e7⟩
    · rw [if_neg hlo] at e4; cases e4
  · have hi3 : i = xs.length := by omega
    subst hi3
    rw [List.drop_length] at e4
    unfold compG at e4
    by_cases hlo : lockOk lk xs (killL vs ρ2) = true
    · rw [if_pos hlo] at e4
      cases e4
      have cc := hcl _ F2 [] (wipe σ vs) H2 (killL vs ρ2) gq2.sub c2 hlo (fun j hj => hσ j (hlv j hj))
      refine .inl ⟨wk.stop _ F2 H2 cc (Nat.le_refl _), ?_⟩
      have cf : Con K (upd B Dd (.lst accV)) F2 io σ H2 (killL vs (killL vs ρ2)) := c2.move vs (wipe_length σ vs).symm (fun j hj => (hσ j hj).symm) c.io
      exact k F2 H2 Dd (.lst accV) (g0.trans gq2) (Con.putB c0 gq2.sub vs (cf.unBase bD)) (c2.base _ _ upd_same) dA fD bD (notOwned_putB vs cf.notOwned_base)
    · rw [if_neg hlo] at e4; cases e4
end
section
variable {X : Cx} {elt tg iter tg1 iter1 : Expr} {ifs ifs1 : List Expr} {scope : Scope} {own : List (Str × Nat)} {pos : Pos} {wi : TI} {lk lk1 : Option Nat} {fi fi1 : FA} {ws ws1 vs1 : List Nat} {g1 g2 : FG} {fc fc1 : FT} {fe : FE} {L : List Nat}
  {t1 t2 : Shared → Hp → Addr → List (Str × Addr) → List Addr → TG} {wi1 : Shared → Hp → Addr → List (Str × Addr) → List Addr → TI} {tt tt1 : Shared → Hp → Addr → List (Str × Addr) → List Addr → TT} {te : Shared → Hp → Addr → List (Str × Addr) → List Addr → TE}
theorem dn_comp2X (vs1 : List Nat) (hcm : X.calm = true) (hN : X.N.Nodup) (hi : DI X lk tg iter wi fi) (ok : BlkOk X.N X.env.scope scope own)
    (hg : ∀ (s : Shared) (H : Hp) (C : Addr) (cl : List (Str × Addr)) (fp : List Addr), DG (X.blk s H scope (compEnvC scope cl C X.env) fp) [] ws tg (t1 s H C cl fp) g1) (ht : ∀ (s : Shared) (H : Hp) (C : Addr) (cl : List (Str × Addr)) (fp : List Addr), DTs (X.blk s H scope (compEnvC scope cl C X.env) fp) ifs (tt s H C cl fp) fc)
    (hi1 : ∀ (s : Shared) (H : Hp) (C : Addr) (cl : List (Str × Addr)) (fp : List Addr), DI (X.blk s H scope (compEnvC scope cl C X.env) fp) lk1 tg1 iter1 (wi1 s H C cl fp) fi1)
    (hg1 : ∀ (s : Shared) (H : Hp) (C : Addr) (cl : List (Str × Addr)) (fp : List Addr), DG (X.blk s H scope (compEnvC scope cl C X.env) fp) [] ws1 tg1 (t2 s H C cl fp) g2) (ht1 : ∀ (s : Shared) (H : Hp) (C : Addr) (cl : List (Str × Addr)) (fp : List Addr), DTs (X.blk s H scope (compEnvC scope cl C X.env) fp) ifs1 (tt1 s H C cl fp) fc1)
    (he : ∀ (s : Shared) (H : Hp) (C : Addr) (cl : List (Str × Addr)) (fp : List Addr), DE (X.blk s H scope (compEnvC scope cl C X.env) fp) elt (te s H C cl fp) fe) (hw : ∀ i ∈ ws, i ∈ own.map (·.2) := by decide) (hw1 : ∀ i ∈ ws1, i ∈ vs1 := by decide) (hvv : ∀ i ∈ vs1, i ∈ own.map (·.2) := by decide) (hlv : ∀ j, lk = some j → j ∉ own.map (·.2) := by decide) (hlv1 : ∀ j, lk1 = some j → j ∉ vs1 := by decide)
    (hs : ∀ x, foldedSetIterable iter X.env x = pure x := by intro _; rfl) (hs1 : ∀ env x, foldedSetIterable iter1 env x = pure x := by intro _ _; rfl)
    (h1 : ∀ s H C cl fp, t1 s H C cl fp = t1 X.s_0 X.H_0 0 [] [] := by exact fun _ _ _ _ _ => rfl) (h2 : ∀ s H C cl fp, tt s H C cl fp = tt X.s_0 X.H_0 0 [] [] := by exact fun _ _ _ _ _ => rfl) (h3 : ∀ s H C cl fp, te s H C cl fp = te X.s_0 X.H_0 0 [] [] := by exact fun _ _ _ _ _ => rfl)
    (h4 : ∀ s H C cl fp, wi1 s H C cl fp = wi1 X.s_0 X.H_0 0 [] [] := by exact fun _ _ _ _ _ => rfl) (h5 : ∀ s H C cl fp, t2 s H C cl fp = t2 X.s_0 X.H_0 0 [] [] := by exact fun _ _ _ _ _ => rfl) (h6 : ∀ s H C cl fp, tt1 s H C cl fp = tt1 X.s_0 X.H_0 0 [] [] := by exact fun _ _ _ _ _ => rfl) :
    DN X (.ListComp elt [⟨tg, iter, ifs, 0⟩, ⟨tg1, iter1, ifs1, 0⟩] scope pos) (tLc2 wi (t1 X.s_0 X.H_0 0 [] []) (tt X.s_0 X.H_0 0 [] []) (wi1 X.s_0 X.H_0 0 [] []) (t2 X.s_0 X.H_0 0 [] []) (tt1 X.s_0 X.H_0 0 [] []) (te X.s_0 X.H_0 0 [] []) (own.map (·.2)) vs1) (eComp2 lk (own.map (·.2)) fi g1 fc lk1 vs1 fi1 g2 fc1 fe) :=
  ⟨pe_lc2 hcm hN hi.pe ok hvv (fun s H C cl fp => h1 s H C cl fp ▸ (hg s H C cl fp).pe) (fun s H C cl fp => h2 s H C cl fp ▸ (ht s H C cl fp).pe) (fun s H C cl fp => h4 s H C cl fp ▸ (hi1 s H C cl fp).pe) (fun s H C cl fp => h5 s H C cl fp ▸ (hg1 s H C cl fp).pe) (fun s H C cl fp => h6 s H C cl fp ▸ (ht1 s H C cl fp).pe) (fun s H C cl fp => h3 s H C cl fp ▸ (he s H C cl fp).pe) hs hs1,
   sn_comp2 hi.se (hg X.s_0 X.H_0 0 [] []).se (ht X.s_0 X.H_0 0 [] []).se (hi1 X.s_0 X.H_0 0 [] []).se (hg1 X.s_0 X.H_0 0 [] []).se (ht1 X.s_0 X.H_0 0 [] []).se (he X.s_0 X.H_0 0 [] []).se hw hw1 hvv hlv hlv1⟩
theorem ds_setComp2NX {i : Nat} {y : Str} {py spos : Pos} (vs1 : List Nat) (hcm : X.calm = true) (hN : X.N.Nodup) (hi : DI X lk tg iter wi fi) (ok : BlkOk X.N X.env.scope scope own)
    (hg : ∀ (s : Shared) (H : Hp) (C : Addr) (cl : List (Str × Addr)) (fp : List Addr), DG (X.blk s H scope (compEnvC scope cl C X.env) fp) [] ws tg (t1 s H C cl fp) g1) (ht : ∀ (s : Shared) (H : Hp) (C : Addr) (cl : List (Str × Addr)) (fp : List Addr), DTs (X.blk s H scope (compEnvC scope cl C X.env) fp) ifs (tt s H C cl fp) fc)
    (hi1 : ∀ (s : Shared) (H : Hp) (C : Addr) (cl : List (Str × Addr)) (fp : List Addr), DI (X.blk s H scope (compEnvC scope cl C X.env) fp) lk1 tg1 iter1 (wi1 s H C cl fp) fi1)
    (hg1 : ∀ (s : Shared) (H : Hp) (C : Addr) (cl : List (Str × Addr)) (fp : List Addr), DG (X.blk s H scope (compEnvC scope cl C X.env) fp) [] ws1 tg1 (t2 s H C cl fp) g2) (ht1 : ∀ (s : Shared) (H : Hp) (C : Addr) (cl : List (Str × Addr)) (fp : List Addr), DTs (X.blk s H scope (compEnvC scope cl C X.env) fp) ifs1 (tt1 s H C cl fp) fc1)
    (he : ∀ (s : Shared) (H : Hp) (C : Addr) (cl : List (Str × Addr)) (fp : List Addr), DE (X.blk s H scope (compEnvC scope cl C X.env) fp) elt (te s H C cl fp) fe) (hy : X.N[i]? = some y := by rfl) (hyl : X.env.scope.names.lookup y = some .local := by rfl)
    (hsw : swapsWith (.ListComp elt [⟨tg, iter, ifs, 0⟩, ⟨tg1, iter1, ifs1, 0⟩] scope pos) (some (.Name y py)) spos.line X.env = pure true := by exact sw_true rfl rfl rfl (by decide +kernel))
    (hw : ∀ i ∈ ws, i ∈ own.map (·.2) := by decide) (hw1 : ∀ i ∈ ws1, i ∈ vs1 := by decide) (hvv : ∀ i ∈ vs1, i ∈ own.map (·.2) := by decide) (hlv : ∀ j, lk = some j → j ∉ own.map (·.2) := by decide) (hlv1 : ∀ j, lk1 = some j → j ∉ vs1 := by decide) (hl : i ∉ L := by decide)
    (hs : ∀ x, foldedSetIterable iter X.env x = pure x := by intro _; rfl) (hs1 : ∀ env x, foldedSetIterable iter1 env x = pure x := by intro _ _; rfl)
    (h1 : ∀ s H C cl fp, t1 s H C cl fp = t1 X.s_0 X.H_0 0 [] [] := by exact fun _ _ _ _ _ => rfl) (h2 : ∀ s H C cl fp, tt s H C cl fp = tt X.s_0 X.H_0 0 [] [] := by exact fun _ _ _ _ _ => rfl) (h3 : ∀ s H C cl fp, te s H C cl fp = te X.s_0 X.H_0 0 [] [] := by exact fun _ _ _ _ _ => rfl)
    (h4 : ∀ s H C cl fp, wi1 s H C cl fp = wi1 X.s_0 X.H_0 0 [] [] := by exact fun _ _ _ _ _ => rfl) (h5 : ∀ s H C cl fp, t2 s H C cl fp = t2 X.s_0 X.H_0 0 [] [] := by exact fun _ _ _ _ _ => rfl) (h6 : ∀ s H C cl fp, tt1 s H C cl fp = tt1 X.s_0 X.H_0 0 [] [] := by exact fun _ _ _ _ _ => rfl) :
    DS X L (.Assign [.Name y py] (.ListComp elt [⟨tg, iter, ifs, 0⟩, ⟨tg1, iter1, ifs1, 0⟩] scope pos) spos) (tAsg (tLc2 wi (t1 X.s_0 X.H_0 0 [] []) (tt X.s_0 X.H_0 0 [] []) (wi1 X.s_0 X.H_0 0 [] []) (t2 X.s_0 X.H_0 0 [] []) (tt1 X.s_0 X.H_0 0 [] []) (te X.s_0 X.H_0 0 [] []) (own.map (·.2)) vs1) (gName i)) (sSetN i (eComp2 lk (own.map (·.2)) fi g1 fc lk1 vs1 fi1 g2 fc1 fe)) :=
  ⟨ps_setLc2 hcm hN hy hyl hsw hi.pe ok hvv (fun s H C cl fp => h1 s H C cl fp ▸ (hg s H C cl fp).pe) (fun s H C cl fp => h2 s H C cl fp ▸ (ht s H C cl fp).pe) (fun s H C cl fp => h4 s H C cl fp ▸ (hi1 s H C cl fp).pe) (fun s H C cl fp => h5 s H C cl fp ▸ (hg1 s H C cl fp).pe) (fun s H C cl fp => h6 s H C cl fp ▸ (ht1 s H C cl fp).pe) (fun s H C cl fp => h3 s H C cl fp ▸ (he s H C cl fp).pe) hs hs1,
   ss_setN hl (sn_comp2 hi.se (hg X.s_0 X.H_0 0 [] []).se (ht X.s_0 X.H_0 0 [] []).se (hi1 X.s_0 X.H_0 0 [] []).se (hg1 X.s_0 X.H_0 0 [] []).se (ht1 X.s_0 X.H_0 0 [] []).se (he X.s_0 X.H_0 0 [] []).se hw hw1 hvv hlv hlv1)⟩
theorem ds_setComp2X {i : Nat} {y : Str} {py spos : Pos} (vs1 : List Nat) (hcm : X.calm = true) (hN : X.N.Nodup) (hi : DI X lk tg iter wi fi) (ok : BlkOk X.N X.env.scope scope own)
    (hg : ∀ (s : Shared) (H : Hp) (C : Addr) (cl : List (Str × Addr)) (fp : List Addr), DG (X.blk s H scope (compEnvC scope cl C X.env) fp) [] ws tg (t1 s H C cl fp) g1) (ht : ∀ (s : Shared) (H : Hp) (C : Addr) (cl : List (Str × Addr)) (fp : List Addr), DTs (X.blk s H scope (compEnvC scope cl C X.env) fp) ifs (tt s H C cl fp) fc)
    (hi1 : ∀ (s : Shared) (H : Hp) (C : Addr) (cl : List (Str × Addr)) (fp : List Addr), DI (X.blk s H scope (compEnvC scope cl C X.env) fp) lk1 tg1 iter1 (wi1 s H C cl fp) fi1)
    (hg1 : ∀ (s : Shared) (H : Hp) (C : Addr) (cl : List (Str × Addr)) (fp : List Addr), DG (X.blk s H scope (compEnvC scope cl C X.env) fp) [] ws1 tg1 (t2 s H C cl fp) g2) (ht1 : ∀ (s : Shared) (H : Hp) (C : Addr) (cl : List (Str × Addr)) (fp : List Addr), DTs (X.blk s H scope (compEnvC scope cl C X.env) fp) ifs1 (tt1 s H C cl fp) fc1)
    (he : ∀ (s : Shared) (H : Hp) (C : Addr) (cl : List (Str × Addr)) (fp : List Addr), DE (X.blk s H scope (compEnvC scope cl C X.env) fp) elt (te s H C cl fp) fe) (hy : X.N[i]? = some y := by rfl) (hyl : X.env.scope.names.lookup y = some .local := by rfl)
    (hsw : swapsWith (.ListComp elt [⟨tg, iter, ifs, 0⟩, ⟨tg1, iter1, ifs1, 0⟩] scope pos) (some (.Name y py)) spos.line X.env = pure true := by exact sw_true rfl rfl rfl (by decide +kernel))
    (hw : ∀ i ∈ ws, i ∈ own.map (·.2) := by decide) (hw1 : ∀ i ∈ ws1, i ∈ vs1 := by decide) (hvv : ∀ i ∈ vs1, i ∈ own.map (·.2) := by decide) (hlv : ∀ j, lk = some j → j ∉ own.map (·.2) := by decide) (hlv1 : ∀ j, lk1 = some j → j ∉ vs1 := by decide) (hl : i ∉ L := by decide)
    (hs : ∀ x, foldedSetIterable iter X.env x = pure x := by intro _; rfl) (hs1 : ∀ env x, foldedSetIterable iter1 env x = pure x := by intro _ _; rfl)
    (h1 : ∀ s H C cl fp, t1 s H C cl fp = t1 X.s_0 X.H_0 0 [] [] := by exact fun _ _ _ _ _ => rfl) (h2 : ∀ s H C cl fp, tt s H C cl fp = tt X.s_0 X.H_0 0 [] [] := by exact fun _ _ _ _ _ => rfl) (h3 : ∀ s H C cl fp, te s H C cl fp = te X.s_0 X.H_0 0 [] [] := by exact fun _ _ _ _ _ => rfl)
    (h4 : ∀ s H C cl fp, wi1 s H C cl fp = wi1 X.s_0 X.H_0 0 [] [] := by exact fun _ _ _ _ _ => rfl) (h5 : ∀ s H C cl fp, t2 s H C cl fp = t2 X.s_0 X.H_0 0 [] [] := by exact fun _ _ _ _ _ => rfl) (h6 : ∀ s H C cl fp, tt1 s H C cl fp = tt1 X.s_0 X.H_0 0 [] [] := by exact fun _ _ _ _ _ => rfl) :
    DS X L (.Assign [.Name y py] (.ListComp elt [⟨tg, iter, ifs, 0⟩, ⟨tg1, iter1, ifs1, 0⟩] scope pos) spos) (tAsg (tLc2 wi (t1 X.s_0 X.H_0 0 [] []) (tt X.s_0 X.H_0 0 [] []) (wi1 X.s_0 X.H_0 0 [] []) (t2 X.s_0 X.H_0 0 [] []) (tt1 X.s_0 X.H_0 0 [] []) (te X.s_0 X.H_0 0 [] []) (own.map (·.2)) vs1) (gName i)) (sSet i (eFrz (eComp2 lk (own.map (·.2)) fi g1 fc lk1 vs1 fi1 g2 fc1 fe))) :=
  ⟨ps_setLc2 hcm hN hy hyl hsw hi.pe ok hvv (fun s H C cl fp => h1 s H C cl fp ▸ (hg s H C cl fp).pe) (fun s H C cl fp => h2 s H C cl fp ▸ (ht s H C cl fp).pe) (fun s H C cl fp => h4 s H C cl fp ▸ (hi1 s H C cl fp).pe) (fun s H C cl fp => h5 s H C cl fp ▸ (hg1 s H C cl fp).pe) (fun s H C cl fp => h6 s H C cl fp ▸ (ht1 s H C cl fp).pe) (fun s H C cl fp => h3 s H C cl fp ▸ (he s H C cl fp).pe) hs hs1,
   ss_set hl (se_frz (sn_comp2 hi.se (hg X.s_0 X.H_0 0 [] []).se (ht X.s_0 X.H_0 0 [] []).se (hi1 X.s_0 X.H_0 0 [] []).se (hg1 X.s_0 X.H_0 0 [] []).se (ht1 X.s_0 X.H_0 0 [] []).se (he X.s_0 X.H_0 0 [] []).se hw hw1 hvv hlv hlv1))⟩
end
/-! ## a, b, c = x, y, z -/
def sPar3 (i j l : Nat) (f : FA) : FS := fun ρ => (f ρ).bind fun p => match p.1 with
  | [d, e, g] => some (.nx (((p.2.set i (.sh d)).set j (.sh e)).set l (.sh g)))
  | _ => none
section
variable {X : Cx} {L : List Nat} {pos : Pos}
theorem ds_par3 {i j l : Nat} {x y z : Str} {a b c : Expr} {ta : TA} {fa : FA} {px py pz pt : Pos} {kt k2 pt2} (hc : X.calm = true) (hN : X.N.Nodup) (ha : DA X [a, b, c] ta fa) (hi : X.N[i]? = some x := by rfl) (hj : X.N[j]? = some y := by rfl) (hl : X.N[l]? = some z := by rfl) (hij : i ≠ j := by decide) (hil : i ≠ l := by decide) (hjl : j ≠ l := by decide)
    (hli : i ∉ L := by decide) (hlj : j ∉ L := by decide) (hll : l ∉ L := by decide)
    (hx : X.env.scope.names.lookup x = some .local := by rfl) (hy : X.env.scope.names.lookup y = some .local := by rfl) (hz : X.env.scope.names.lookup z = some .local := by rfl)
    (hw : swappedStores [.Tuple [.Name x px, .Name y py, .Name z pz] kt pt] (.Tuple [a, b, c] k2 pt2) X.env = pure (some [x, y, z]) := by rfl)
    (hs : swapsWithSole [.Tuple [.Name x px, .Name y py, .Name z pz] kt pt] (.Tuple [a, b, c] k2 pt2) pos.line X.env = pure false := by rfl) :
    DS X L (.Assign [.Tuple [.Name x px, .Name y py, .Name z pz] kt pt] (.Tuple [a, b, c] k2 pt2) pos) (tPar3 i j l ta) (sPar3 i j l fa) := ⟨ps_par3 hc hN hi hj hl hij hil hjl hx hy hz ha.pe hw hs, fun B F io σ H ρ o Dn hL c h p => by
  obtain ⟨q, e1, h⟩ := Option.bind_eq_some_iff.mp h
  refine ha.se B F io σ H ρ q.1 q.2 _ c e1 fun F1 H1 vs g1 c1 d1 => ?_
  obtain ⟨ds, ρ1⟩ := q
  match ds, d1, h with
  | [d, e, g], d1, h =>
    obtain ⟨v, w, u, rfl, q1, q2, q3⟩ := three_of d1
    cases h
    exact ⟨v, w, u, rfl, p F1 _ H1 g1 (((c1.set_sh (by rw [hL]; exact hli) q1).set_sh (by rw [hL]; exact hlj) q2).set_sh (by rw [hL]; exact hll) q3)⟩⟩
end
/-! ## tuple(range(a, b, c)) -/
def rg3N (i j c : Int) : Nat := ((j - i + c - 1) / c).toNat
def rg3V (i j c : Int) : List V := (List.range (rg3N i j c)).map fun k => V.int (i + (k : Nat) * c)
def rg3Ok (i j c : Int) : Bool := decide (0 ≤ i ∧ i < 2 ^ 20 ∧ 0 ≤ j ∧ j < 2 ^ 20 ∧ 0 < c ∧ c < 2 ^ 20)
theorem rg3_size {i j c : Int} (hc : 0 < c) : PySem.Builtin.Range.rangeSize i j c = ((rg3N i j c : Nat) : Int) := by
  unfold PySem.Builtin.Range.rangeSize rg3N
  rw [if_pos (by omega)]
  have e : j - i + c - 1 = (j - i - 1) + 1 * c := by omega
  by_cases h : i < j
  · rw [if_pos h, e, Int.add_mul_ediv_right _ _ (by omega), Int.toNat_of_nonneg (by have := Int.ediv_nonneg (a := j - i - 1) (b := c) (by omega) (by omega); omega)]
  · rw [if_neg h]
    have : (j - i + c - 1) / c ≤ 0 := by
      have : (j - i + c - 1) / c < 1 := Int.ediv_lt_of_lt_mul hc (by omega)
      omega
    omega
theorem rg3_le {i j c : Int} (h : rg3Ok i j c = true) : rg3N i j c ≤ 2 ^ 21 := by
  unfold rg3Ok at h
  simp only [decide_eq_true_eq] at h
  obtain ⟨h1, h2, h3, h4, h5, h6⟩ := h
  unfold rg3N
  have : (j - i + c - 1) / c < 2 ^ 21 := by
    refine Int.ediv_lt_of_lt_mul h5 ?_
    have : (2:Int) ^ 21 * 1 ≤ 2 ^ 21 * c := Int.mul_le_mul_of_nonneg_left (by omega) (by decide)
    omega
  omega
theorem rg3_small {i j c : Int} (h : rg3Ok i j c = true) : PySem.Builtin.Range.small i j c = true := by
  have hn := rg3_le h
  unfold rg3Ok at h
  simp only [decide_eq_true_eq] at h
  obtain ⟨h1, h2, h3, h4, h5, h6⟩ := h
  unfold PySem.Builtin.Range.small
  rw [rg3_size h5]
  generalize rg3N i j c = n at *
  have f : ∀ x : Int, -(2 ^ 62) ≤ x → x < 2 ^ 62 → PySem.Builtin.Range.rangeFitsLong x = true := by
    intro x a b
    unfold PySem.Builtin.Range.rangeFitsLong
    simp
    omega
  rw [if_pos (by omega), f i (by omega) (by omega), f j (by omega) (by omega), f c (by omega) (by omega), f n (by omega) (by omega), f (j + (c - 1)) (by omega) (by omega)]
  simp
theorem rg3V_length (i j c : Int) : (rg3V i j c).length = rg3N i j c := by unfold rg3V; rw [List.length_map, List.length_range]
theorem vals_rg3 {i j c : Int} {acc : Array Value} (h : ItemsOf (fun k v => ∃ t, v = .int (i + k * c) t) acc (rg3N i j c)) : Vals (rg3V i j c) acc.toList := by
  have e : acc.toList.length = rg3N i j c := by rw [Array.length_toList]; exact h.1
  unfold rg3V
  rw [← e]
  refine vals_of_get acc.toList _ fun n u hj => ?_
  obtain ⟨t, rfl⟩ := h.2 n u (by rw [← hj, Array.getElem?_toList])
  exact ⟨t, rfl⟩
def tRg3 (ta : TA) : TE := fun σ H Q => ta σ H fun vs H1 => ∃ i j c, vs = [.int i, .int j, .int c] ∧ rg3Ok i j c = true ∧ ∀ q, H1 q = none → Q (.ref q) (upd H1 q (.tup (rg3V i j c)))
theorem dpAll_rg3 {K : PySem.W.Frag} {F : Hp} (i j c : Int) : DpAll K F (rg3V i j c) ((rngC i c (rg3N i j c))) := by
  unfold rg3V rngC
  generalize List.range (rg3N i j c) = l
  induction l with
  | nil => exact .nil
  | cons x r ih => exact .cons (.int _) ih
def eRg3 (fa : FA) : FE := fun ρ => (fa ρ).bind fun p => match p.1 with
  | [.int i, .int j, .int c] => if rg3Ok i j c = true then some (.tuple ((rngC i c (rg3N i j c))), p.2) else none
  | _ => none
section
variable {X : Cx} {a b e : Expr} {ta : TA} {fa : FA} {p p' pos pos' : Pos}
theorem pe_rg3 (hc : X.calm = true) (hg' : Gl X "tuple") (hm' : X.mg "tuple" = none) (hg : Gl X "range") (hm : X.mg "range" = none) (ha : PA X [a, b, e] ta)
    (he : starEach [a, b, e] X.env = (false, eval a X.env) :: starEach [b, e] X.env := by rfl) (hpl : (backTo pos' (starEach [b, e] X.env)).any (·.1) = false := by rfl)
    (na : starEach [.Call (.Name "range" p') [a, b, e] [] pos'] X.env = (false, eval (.Call (.Name "range" p') [a, b, e] [] pos') X.env) :: starEach [] X.env := by rfl) : PE X (.Call (.Name "tuple" p) [.Call (.Name "range" p') [a, b, e] [] pos'] [] pos) (tRg3 ta) := by
  refine ⟨fun pins s σ H Q I h => ?_⟩
  refine Call_ (ld_blt I hg' hm' boot_tuple (PyProof.Rows.callWith_type1 (args_cons (thn (Q := fun x s' => ∃ r i j c t u v H', x = .ref r ∧ IsRange s'.heap r i j c t u v ∧ Inv X pins σ H' s' ∧ rg3Ok i j c = true ∧ ∀ q, H' q = none → Q (.ref q) (upd H' q (.tup (rg3V i j c)))) ?_ fun x s1 ⟨r, i, j, c, t, u, v, H1, ex, hr, I1, ok, q⟩ => args_nil ?_) na) na))
  · refine Call_ (ld_blt I hg hm boot_range (PyProof.Rows.callWith_type1 (thn (ha.run pos' pins s σ H _ I h) fun us s1 ⟨vs, H1, I1, r1, q1⟩ => ?_) he hpl))
    obtain ⟨i, j, c, rfl, ok, q⟩ := q1
    cases r1 with
    | cons a1 r1 =>
    cases r1 with
    | cons a2 r1 =>
    cases r1 with
    | cons a3 r1 =>
    cases r1
    obtain ⟨t1, rfl⟩ := a1
    obtain ⟨t2, rfl⟩ := a2
    obtain ⟨t3, rfl⟩ := a3
    have ok' := ok
    unfold rg3Ok at ok'
    simp only [decide_eq_true_eq] at ok'
    exact call_range_3 (by omega) ⟨_, i, j, c, _, _, _, H1, rfl, IsRange.new _ _ _ _ _ _ _, I1.kept fun b u e => Heap.get?_push_of_some _ e, ok, q⟩ (Or.inl (PyProof.noPylong_small (by omega)))
  · subst ex
    have hn := rg3_le ok
    have hc0 : 0 < c := by unfold rg3Ok at ok; simp only [decide_eq_true_eq] at ok; omega
    refine call_tuple_range (n := rg3N i j c) (I1.ok.hd hc) hr (rg3_small ok) (rg3_size hc0) (by omega) fun h' tk acc hk hi => ?_
    have I2 : Inv X pins σ H1 { s1 with heap := h', toks := tk } := I1.kept hk
    refine ⟨.ref h'.objs.size, upd H1 h'.objs.size (.tup (rg3V i j c)), I2.laid (t' := tk) (fun c o e => Heap.get?_push_of_some _ e) (Nat.le_refl _) (show ObjOk X.prog X.w _ _ _ (.tup (rg3V i j c)) from ⟨?_, acc.toList, vals_rg3 hi, ?_⟩), rfl, q _ (I2.hok.fresh (Nat.le_refl _))⟩
    · rw [rg3V_length, sizeLine_eq]; omega
    · rw [Array.toArray_toList]; exact IsTup.new _ _
theorem de_rg3 (hc : X.calm = true) (ha : DA X [a, b, e] ta fa) (hm : X.mg "range" = none) (hm' : X.mg "tuple" = none) (hg' : Gl X "tuple" := by rfl) (hg : Gl X "range" := by rfl)
    (he : starEach [a, b, e] X.env = (false, eval a X.env) :: starEach [b, e] X.env := by rfl) (hpl : (backTo pos' (starEach [b, e] X.env)).any (·.1) = false := by rfl)
    (na : starEach [.Call (.Name "range" p') [a, b, e] [] pos'] X.env = (false, eval (.Call (.Name "range" p') [a, b, e] [] pos') X.env) :: starEach [] X.env := by rfl) : DE X (.Call (.Name "tuple" p) [.Call (.Name "range" p') [a, b, e] [] pos'] [] pos) (tRg3 ta) (eRg3 fa) := by
  refine ⟨pe_rg3 hc hg' hm' hg hm ha.pe he hpl na, ?_⟩
  intro B F io σ H ρ d ρ' Q c h k
  obtain ⟨⟨ds, ρ1⟩, e1, h⟩ := Option.bind_eq_some_iff.mp h
  refine ha.se B F io σ H ρ ds ρ1 _ c e1 fun F1 H1 vs g1 c1 d1 => ?_
  match ds, h with
  | [.int i, .int j, .int l], h =>
    obtain ⟨v, w, u, rfl, q1, q2, q3⟩ := three_of d1
    by_cases hz : rg3Ok i j l = true
    · simp only [hz, if_true] at h
      cases h
      cases q1; cases q2; cases q3
      refine ⟨i, j, l, rfl, hz, fun n nn => ?_⟩
      have al := Al.laid (o := .tup (rg3V i j l)) c1.frz nn
      exact k _ _ _ (g1.trans (al.gr c1.base)) (c1.al al) (.tup (.inl (.inl upd_same)) (dpAll_rg3 _ _ _))
    · simp [hz] at h
end
end L2.Pd

namespace L2.Pd
open PySem PySem.Spec PyProof.Rows
/-! ## sum of a list or of a tuple of ints -/
def rSumA (K : PySem.W.Frag) : List V → Hp → VK → Prop := fun xs H Q => ∃ (a : Addr) (ns : List Int), xs = [.ref a] ∧ (SqL K H a (ns.map V.int) ∨ SqT K H a (ns.map V.int)) ∧ Q (.int ns.sum) H
theorem call_sumA {X : Cx} (hc : X.calm = true) : CallR X (.builtin "sum") (rSumA X.K) := by
  intro pins s σ H vs us Q I r h
  obtain ⟨a, ns, rfl, hs, q⟩ := h
  rcases hs with hs | hs
  · exact cr_sum hc pins s σ H _ us Q I r ⟨a, ns, rfl, hs, q⟩
  · obtain ⟨its, rv, pl, _⟩ := I.tuple hs
    rw [Vals.ref1 r]
    obtain ⟨xs, e⟩ := rv.ints.allInts.items
    have hn : numsOf (intItems xs).toList = ns := by rw [← e]; exact rv.ints.numsOf
    rw [nums_intItems] at hn
    have pl : s.heap.IsTuple a its.toArray := pl
    rw [e] at pl
    refine PySem.W.ktm_sumG (I.ok.hd hc) pl fun h' tk t' hk => ?_
    rw [preSum_eq, List.take_of_length_le (by simp), hn]
    exact ⟨.int _, H, I.kept hk, ⟨_, rfl⟩, q⟩
def cSumA : List D → Option D
  | [.list ds] => (intsD ds).map fun ns => .int ns.sum
  | [.tuple ds] => (intsD ds).map fun ns => .int ns.sum
  | _ => none
theorem a_sumA {K : PySem.W.Frag} : OpA K (rSumA K) cSumA := by
  intro F H xs ds d Q s hx e k
  match ds, hx, e with
  | [.list ds], hx, e =>
    obtain ⟨x, rfl, q⟩ := one_of hx
    obtain ⟨ns, e1, e2⟩ := Option.map_eq_some_iff.mp e
    cases e2
    have := intsD_eq e1; subst this
    cases q with
    | lst q1 r1 => have := dp_ints_inv r1; subst this; exact ⟨_, ns, rfl, .inl (s.seq q1), k F H _ (Al.refl s) (.int _)⟩
  | [.tuple ds], hx, e =>
    obtain ⟨x, rfl, q⟩ := one_of hx
    obtain ⟨ns, e1, e2⟩ := Option.map_eq_some_iff.mp e
    cases e2
    have := intsD_eq e1; subst this
    cases q with
    | tup q1 r1 => have := dp_ints_inv r1; subst this; exact ⟨_, ns, rfl, .inr (sqT_mono s q1), k F H _ (Al.refl s) (.int _)⟩
theorem cSumA_L (ns : List Int) : cSumA [.list (ns.map .int)] = some (.int ns.sum) := by show (intsD _).map _ = _; rw [intsD_map]; rfl
theorem cSumA_T (ns : List Int) : cSumA [.tuple (ns.map .int)] = some (.int ns.sum) := by show (intsD _).map _ = _; rw [intsD_map]; rfl
end L2.Pd

namespace L2.Pd
open PySem PySem.Spec PyProof.Rows
/-! ## floor division of long numbers by long ones: the start's heap has no hook (NoSeer), and what the start's heap has stays -/
section
variable {X : Cx}
theorem op_fdivP (hns : X.base.NoSeer) (ht : X.prog.given.tree = none) (hd : X.A.depth + Builtin.pylongFrames < recursionLimit) (hs : X.stack = X.env :: X.outer := by rfl) (g1 : X.env.scope.isGenerator = false := by rfl) (g2 : X.env.scope.isCoroutine = false := by rfl) :
    OpR X (binaryOp .FloorDiv) (rI (fun _ j => j ≠ 0) fun i j => .int (i.fdiv j)) := by
  intro pins s σ H x y v u Q I rx ry h
  obtain ⟨i, j, rfl, rfl, hc, q⟩ := h
  obtain ⟨t, rfl⟩ := rx
  obtain ⟨t', rfl⟩ := ry
  exact floordiv_int hc ⟨.int (i.fdiv j), H, I.tok _, ⟨_, rfl⟩, q⟩ (.inr (PylongRoom.of I.nolimit hd (SeerAt.of (hns.keeps I.bk) ht (I.ok.frames.trans (by rw [hs])) g1 g2 I.ok.blt I.ok.glob)))
theorem room_py {k : Nat} {A : Around} (r : Room k A) (h : 32 ≤ k) : A.depth + Builtin.pylongFrames < recursionLimit := by
  have := r.dp
  have e : Builtin.pylongFrames = 100 := rfl
  omega
def dFdivP : D → D → Option D
  | .int a, .int b => if b ≠ 0 then some (.int (a.fdiv b)) else none
  | _, _ => none
theorem v_fdivP {K : PySem.W.Frag} : Op2 K (rI (fun _ j => j ≠ 0) fun i j => .int (i.fdiv j)) dFdivP := by
  intro F H x y dx dy d Q s hx hy e k
  cases hx with
  | int a =>
    cases hy with
    | int b =>
      have e : (if b ≠ 0 then some (PyData.int (a.fdiv b)) else none) = some d := e
      by_cases hz : b ≠ 0
      · rw [if_pos hz] at e; cases e
        exact ⟨a, b, rfl, rfl, hz, k F H _ (Al.refl s) (.int _)⟩
      · rw [if_neg hz] at e; cases e
    | _ => cases e
  | _ => cases e
@[simp] theorem ev_fdivP {a b : Int} : dFdivP (.int a) (.int b) = if b ≠ 0 then some (.int (a.fdiv b)) else none := rfl
end
/-! ### the law's start, the heap without a hook -/
section
theorem hid_seer {h : Heap} {T : Hp} {a : Addr} {vs : List Value} (S : h.NoSeer) (one : ∀ b, T b ≠ none → b = a) (ha : h.get? a = some { cls := .type "list", data := .seq vs.toArray }) : (hidT h T).NoSeer := by
  have off : ∀ {b : Addr} {o : Obj}, h.get? b = some o → (∀ es ep, o.data = .dict es ep → True) → o.cls ≠ .type "list" ∨ (∃ es ep, o.data = .dict es ep) → T b = none := by
    intro b o e _ w
    refine Classical.byContradiction fun n => ?_
    have := one b n
    subst this
    rw [ha] at e
    cases e
    rcases w with w | ⟨es, ep, w⟩
    · exact w rfl
    · cases w
  have ns : ∀ {b : Addr} {m : Str → Option Value}, h.Ns b m → (hidT h T).Ns b m := fun {b m} q => by
    obtain ⟨o, es, ep, e, d, r⟩ := q
    exact ⟨o, es, ep, hidT_get e (off e (fun _ _ _ => trivial) (.inr ⟨es, ep, d⟩)), d, r⟩
  constructor
  · obtain ⟨mc, e, r⟩ := S.statics; exact ⟨mc, ns e, r⟩
  · obtain ⟨mm, e, r⟩ := S.mods; exact ⟨mm, ns e, r⟩
  · obtain ⟨mb, e, r⟩ := S.imp; exact ⟨mb, ns e, r⟩
  · obtain ⟨mg, bm, ob, e, r1, r2, r3, r4⟩ := S.main
    exact ⟨mg, bm, ob, ns e, r1, hidT_get r2 (off r2 (fun _ _ _ => trivial) (.inl (by rw [r3]; decide))), r3, r4⟩
/-- the law is called in a heap whose script may be hidden -/
theorem start_at {P : Program} {w : World} {K : PySem.W.Frag} {mg mb : Str → Option Value} {CX : CXT} {n : Nat} {f a : Addr} {fd : FuncData} {x : Str} {sp : Sp} {st : Shared} {vs : List Value} {T : Hp}
    (inK : K.In st.heap) (gl : st.heap.Ns mainGlobals mg) (bl : st.heap.Ns builtinsNs mb) (bb : ∀ y : Str, y ≠ "__name__" → mb y = bootBuiltins y) (lim : st.heap.NoLimit) (seer : st.heap.NoSeer) (gens : st.gens = #[])
    (ha : st.heap.get? a = some { cls := .type "list", data := .seq vs.toArray }) (room : Room n callerA)
    (F : ∀ base : Heap, K.In base → base.Ns mainGlobals mg → base.NoSeer → FnOk P w K mg base CX n f fd [x] sp) (bind : ∀ (s : Shared) (u : Value), BindsTo s fd ⟨[u], []⟩ [(x, u)])
    (none_raised : ∀ T' e s', CX [] T' st (fun _ _ _ => False) e s' → False)
    (only : Only T) (sps : sp [.ref a] T (fun v _ => v = .bl true) fun _ _ _ => False) (ok : HOk P w T st.heap) (one : ∀ b, T b ≠ none → b = a) (off : T a ≠ none → K.lookup a = none) :
    codeAny (model P w) callerA (.call (.ref f) ⟨[.ref a], []⟩) (fun r t => r = .ok (.ret (.bool true)) ∧ OldK st.heap t.heap ∧ t.os = st.os ∧ AllBare t.gens) st := by
  have dic : ∀ {b : Addr} {m : Str → Option Value}, st.heap.Ns b m → (hidT st.heap T).Ns b m := fun {b m} q => by
    obtain ⟨o, es, ep, e, d, r⟩ := q
    refine ⟨o, es, ep, hidT_get e (Classical.byContradiction fun z => ?_), d, r⟩
    have := one b z
    subst this
    rw [ha] at e; cases e; cases d
  have kin : K.In (hidT st.heap T) := fun b o e => hidT_get (inK b o e) (Classical.byContradiction fun z => by
    have q := one b z
    subst q
    rw [off z] at e; cases e)
  have hseer := hid_seer seer one ha
  obtain ⟨mc, l1, l2⟩ := lim
  have modul : L2.Mod K mg (hidT st.heap T) := ⟨kin, dic gl, ⟨mb, dic bl, bb⟩, ⟨mc, dic l1, l2⟩⟩
  have env : Env0 P w K mg (hidT st.heap T) callerA [] st T := by
    refine ⟨rfl, modul, fun b o e => of_hidT e, ?_, trivial, ?_, ok, .of_eq gens⟩
    · rw [hidT_size]; exact Nat.le_refl _
    · intro b hb; exact absurd (show b ∈ ([] : List Addr) from hb) (by simp)
  have run := (F (hidT st.heap T) kin (dic gl) hseer).run callerA [] st T ⟨[.ref a], []⟩ [.ref a] [.ref a] (fun v _ => v = .bl true) (fun _ _ _ => False) room env (bind st (.ref a)) (.cons rfl .nil) sps
  refine codeAny_mono run fun r t z => ?_
  match r, z with
  | .error e, z => exact (none_raised T e t z).elim
  | .ok .next, z => exact False.elim z
  | .ok .brk, z => exact False.elim z
  | .ok .cont, z => exact False.elim z
  | .ok (.ret u), z =>
    obtain ⟨v, T2, os, bare, un, ok2, rel, hv⟩ := z
    have hv : v = .bl true := hv
    subst hv
    have hu : u = Value.bool true := rel
    subst hu
    refine ⟨rfl, OldK.of_keep fun b o e => ?_, os, bare⟩
    cases q : T b with
    | none => exact un.keep b o e q (fun z => absurd (show b ∈ ([] : List Addr) from z) (by simp)) (by simp)
    | some y =>
      rcases only b with z | ⟨ob, xs, z⟩
      · rw [q] at z; cases z
      · obtain ⟨e1, _⟩ := ok b _ z
        obtain ⟨e2, _⟩ := ok2 b _ (un.frzs b ob _ z)
        rw [e] at e1; cases e1
        exact e2
theorem start_any {P : Program} {w : World} {K : PySem.W.Frag} {mg mb : Str → Option Value} {CX : CXT} {n : Nat} {f a : Addr} {fd : FuncData} {x : Str} {sp : Sp} {st : Shared} {vs : List Value} {ns : List Int}
    (inK : K.In st.heap) (gl : st.heap.Ns mainGlobals mg) (bl : st.heap.Ns builtinsNs mb) (bb : ∀ y : Str, y ≠ "__name__" → mb y = bootBuiltins y) (lim : st.heap.NoLimit) (seer : st.heap.NoSeer) (gens : st.gens = #[])
    (ha : st.heap.get? a = some { cls := .type "list", data := .seq vs.toArray }) (ia : IntsAre vs ns) (len : ns.length ≤ sizeLine) (room : Room n callerA)
    (F : ∀ base : Heap, K.In base → base.Ns mainGlobals mg → base.NoSeer → FnOk P w K mg base CX n f fd [x] sp) (bind : ∀ (s : Shared) (u : Value), BindsTo s fd ⟨[u], []⟩ [(x, u)])
    (sps : ∀ T : Hp, Only T → SqL K T a (ns.map V.int) → sp [.ref a] T (fun v _ => v = .bl true) fun _ _ _ => False)
    (none_raised : ∀ T' e s', CX [] T' st (fun _ _ _ => False) e s' → False) :
    codeAny (model P w) callerA (.call (.ref f) ⟨[.ref a], []⟩) (fun r t => r = .ok (.ret (.bool true)) ∧ OldK st.heap t.heap ∧ t.os = st.os ∧ AllBare t.gens) st := by
  have rel := vals_ints ia
  have lv := ia.length
  by_cases hk : K.lookup a = none
  · have onlyT : Only (fun b => if b = a then some (.frz { cls := .type "list", data := .seq vs.toArray } (.lst (ns.map V.int))) else none) := fun b => by
      by_cases e : b = a
      · exact .inr ⟨_, _, if_pos e⟩
      · exact .inl (if_neg e)
    refine start_at inK gl bl bb lim seer gens ha room F bind none_raised onlyT (sps _ onlyT (.inl (.inr ⟨{ cls := .type "list", data := .seq vs.toArray }, if_pos rfl⟩))) (fun b u z => ?_) (fun b z => ?_) (fun _ => hk)
    · by_cases e : b = a
      · subst e
        rw [if_pos rfl] at z
        cases z
        refine ⟨ha, ?_, vs, _, rel, ha⟩
        rw [List.length_map]; exact len
      · rw [if_neg e] at z; cases z
    · exact Classical.byContradiction fun e => z (if_neg e)
  · obtain ⟨o, ho⟩ := Option.ne_none_iff_exists'.mp hk
    have e := inK a o ho
    rw [ha] at e
    cases e
    have onlyN : Only (fun _ => none) := fun _ => .inl rfl
    refine start_at inK gl bl bb lim seer gens ha room F bind none_raised onlyN (sps _ onlyN (.inr ⟨_, vs.toArray, _, ho, rfl, rfl, rfl, ?_, ?_⟩)) (fun b u z => nomatch z) (fun b z => absurd rfl z) (fun z => absurd rfl z)
    · rw [List.size_toArray, lv]; exact len
    · simpa using rel
theorem walk_py {l : PySem.W.OpenLaw} {m n : Nat} {q : Program} {loose : List Str} {XP : (Str → Option Value) → Heap → Prop} {YP : World → Heap → Prop} {d : DefRec} {K : Params → PySem.W.Frag} {CX : World → CXT} {sp : World → Sp} {x : Str}
    (most : l.most = some m) (fits : m ≤ sizeLine) (nodef : d.params.defaults = []) (room : Room n callerA) (imp : importsNone q = true) (inY : ∀ (w : World) (h : Heap), YP w h → (K w.params).In h)
    (F : ∀ (w : World) (mg : Str → Option Value) (fa : Addr) (h : Heap), (K w.params).In h → h.Ns mainGlobals mg → mg d.name = some (.ref fa) →
      ∃ fd : FuncData, (∀ (s : Shared) (u : Value), BindsTo s fd ⟨[u], []⟩ [(x, u)]) ∧ ∀ base : Heap, (K w.params).In base → base.Ns mainGlobals mg → base.NoSeer → FnOk l.prog w (K w.params) mg base (CX w) n fa fd [x] (sp w))
    (sps : ∀ (w : World) (T : Hp) (a : Addr) (ns : List Int), ns.length ≤ m → (∀ z ∈ ns, Builtin.Int.intBits z ≤ 1048576) → Only T → SqL (K w.params) T a (ns.map V.int) → sp w [.ref a] T (fun v _ => v = .bl true) fun _ _ _ => False)
    (noCX : ∀ (w : World) (T : Hp) (s : Shared) (e : Value) (s' : Shared), CX w [] T s (fun _ _ _ => False) e s' → False) : PySem.W.WalkO q loose XP YP l.row.toRowW d [] (fun f vs => PySem.call f vs) := by
  refine Att.attach_callB most nodef fun w s₀ st mg mb fa o pm cd doc a vs ns G Y ho hd hcd hmg hobj hints hlen hbits hg => ?_
  have inK := inY w _ Y
  obtain ⟨fd, hb, hF⟩ := F w mg fa _ inK G.T.g hmg
  exact start_any inK G.T.g G.T.b G.T.builtins G.T.nolimit (G.T.seer imp) hg hobj hints (Nat.le_trans hlen fits) room hF hb (fun T only sq => sps w T a ns hlen hbits only sq) (fun T e s' => noCX w T st e s')
end
end L2.Pd

namespace L2.Pd
open PySem PySem.Spec PyProof.Rows
/-! ## keys as data, as values -/
def keyD : D → Option Key
  | .int i => some (.inl i)
  | .str x => some (.inr x)
  | _ => none
theorem keyD_eq {d : D} {k : Key} (h : keyD d = some k) : d = kD k := by
  cases d <;> first | (cases h; rfl) | cases h
def keyV : Value → Key
  | .int i _ => .inl i
  | .str x _ => .inr x
  | _ => .inl 0
theorem keyV_is {k : Key} {v : Value} (h : keyIs k v = true) : keyV v = k := by
  rcases keyIs_shape h with ⟨i, t, rfl, rfl⟩ | ⟨x, t, rfl, rfl⟩ <;> rfl
theorem scan_is {k : Key} {v : Value} (h : keyIs k v = true) : v.scannable = true := by
  rcases keyIs_shape h with ⟨i, t, rfl, rfl⟩ | ⟨x, t, rfl, rfl⟩ <;> rfl
theorem paired_at {α β : Type} {R : α → β → Prop} : ∀ {xs : List α} {ys : List β} {i : Nat} {x : α} {y : β}, Paired R xs ys → xs[i]? = some x → ys[i]? = some y → R x y
  | _, _, _, _, _, .nil, e, _ => by simp at e
  | _, _, 0, _, _, .cons r _, e, e' => by
    simp at e e'
    subst e; subst e'
    exact r
  | _, _, i + 1, _, _, .cons _ t, e, e' => paired_at (i := i) t (by simpa using e) (by simpa using e')
def keysD : List D → Option (List Key)
  | [] => some []
  | d :: r => (keyD d).bind fun k => (keysD r).map fun ks => k :: ks
def valD : Value → D
  | .int i _ => .int i
  | .str x _ => .str x
  | _ => .none
theorem keysD_all : ∀ {ds : List D} {ks : List Key}, keysD ds = some ks → ds = ks.map kD
  | [], _, h => by cases h; rfl
  | d :: r, _, h => by
    obtain ⟨k, h1, h⟩ := Option.bind_eq_some_iff.mp h
    obtain ⟨ks, h2, h⟩ := Option.map_eq_some_iff.mp h
    cases h
    rw [List.map_cons, ← keysD_all h2]
    cases d <;> cases h1 <;> rfl
theorem toks_inj {a b : Key} (h : PySem.W.keyToks (kD a) = PySem.W.keyToks (kD b)) : a = b := by
  cases a with
  | inl i =>
    cases b with
    | inl j =>
      have h : [Sum.inl i] = [(Sum.inl j : Int ⊕ List Nat)] := h
      injection h with h _
      injection h with h
      rw [h]
    | inr y =>
      have h : [Sum.inl i] = [(Sum.inr y.cps.toList : Int ⊕ List Nat)] := h
      injection h with h _
      cases h
  | inr x =>
    cases b with
    | inl j =>
      have h : [Sum.inr x.cps.toList] = [(Sum.inl j : Int ⊕ List Nat)] := h
      injection h with h _
      cases h
    | inr y =>
      have h : [Sum.inr x.cps.toList] = [(Sum.inr y.cps.toList : Int ⊕ List Nat)] := h
      injection h with h _
      injection h with h
      obtain ⟨x⟩ := x
      obtain ⟨y⟩ := y
      have : x = y := by
        cases x; cases y
        exact congrArg Array.mk h
      rw [this]
theorem dataLe_tt (a b : D) : PySem.W.dataLe false id a b = !(lexLt itemOrd (PySem.W.keyToks b) (PySem.W.keyToks a)) := rfl
theorem sortD_pw (l : List D) : (sortD l).Pairwise (fun a b => PySem.W.dataLe false id a b = true) := by
  refine List.pairwise_mergeSort (le := PySem.W.dataLe false id) (fun a b c => ?_) (fun a b => ?_) l
  · exact (PySem.W.sortLe_total (listOrd itemOrd) false fun b => PySem.W.keyToks (id b)).trans a b c
  · rw [Bool.or_eq_true]
    exact (PySem.W.sortLe_total (listOrd itemOrd) false fun b => PySem.W.keyToks (id b)).total a b
theorem sortD_perm {l m : List Key} (p : l.Perm m) : sortD (l.map kD) = sortD (m.map kD) := by
  refine List.Perm.eq_of_pairwise (fun a b ha hb h1 h2 => ?_) (sortD_pw _) (sortD_pw _) (((List.mergeSort_perm _ _).trans (p.map kD)).trans (List.mergeSort_perm _ _).symm)
  obtain ⟨x, _, rfl⟩ := List.mem_map.mp ((List.mergeSort_perm _ _).mem_iff.mp ha)
  obtain ⟨y, _, rfl⟩ := List.mem_map.mp ((List.mergeSort_perm _ _).mem_iff.mp hb)
  rw [dataLe_tt, Bool.not_eq_true'] at h1 h2
  rw [toks_inj ((listOrd itemOrd).total _ _ h1 h2)]
theorem valD_is {k : Key} {v : Value} (h : keyIs k v = true) : valD v = kD k := by
  rcases keyIs_shape h with ⟨i, t, rfl, rfl⟩ | ⟨x, t, rfl, rfl⟩ <;> rfl
theorem each_self {R : Value → D → Prop} : ∀ {vs : List Value}, (∀ v ∈ vs, R v (valD v)) → PySem.W.EachIs R vs (vs.map valD)
  | [], _ => .nil
  | v :: vs, h => .cons (h v List.mem_cons_self) (each_self fun u hu => h u (List.mem_cons_of_mem _ hu))
theorem vals_keys {K : PySem.W.Frag} {F : Hp} : ∀ {ks : List Key} {vs : List V} {us : List Value}, Vals vs us → DpAll K F vs (ks.map kD) → Paired (fun (k : Key) v => keyIs k v = true) ks us
  | [], _, _, r, h => by cases h; cases r; exact .nil
  | k :: ks, _, _, r, h => by
    cases h with
    | cons q t =>
      cases r with
      | cons r1 r2 =>
        refine .cons ?_ (vals_keys r2 t)
        cases k with
        | inl i =>
          cases q
          obtain ⟨tk, rfl⟩ := r1
          exact keyIs_int i tk
        | inr x =>
          cases q
          obtain ⟨tk, rfl⟩ := r1
          exact keyIs_str x tk
theorem out_vals {l : List Key} : ∀ {out : List Value} {ds : List D}, PySem.W.EachIs (fun v d => ∃ k, keyIs k v = true ∧ d = kD k) out ds → ∃ ws, Vals ws out ∧ ∀ K F, DpAll K F ws ds
  | [], _, h => by cases h; exact ⟨[], .nil, fun _ _ => .nil⟩
  | v :: out, _, h => by
    cases h with
    | cons q t =>
      obtain ⟨k, hk, rfl⟩ := q
      obtain ⟨ws, h1, h2⟩ := out_vals (l := l) t
      rcases keyIs_shape hk with ⟨i, tk, rfl, rfl⟩ | ⟨x, tk, rfl, rfl⟩
      · exact ⟨.int i :: ws, .cons ⟨tk, rfl⟩ h1, fun K F => .cons (.int i) (h2 K F)⟩
      · exact ⟨.str x :: ws, .cons ⟨tk, rfl⟩ h1, fun K F => .cons (.str x) (h2 K F)⟩
theorem sortD_len (l : List D) : (sortD l).length = l.length := (List.mergeSort_perm l _).length_eq
end L2.Pd

namespace L2.Pd
open PySem PySem.Spec PyProof.Rows
/-! ## Dicts of the def's own, keys ints and texts -/
def lookD (kvs : List (D × D)) (k : D) : Option D := (kvs.find? fun p => beqD p.1 k).map (·.2)
def putD (kvs : List (D × D)) (k v : D) : List (D × D) := if (kvs.any fun p => beqD p.1 k) = true then kvs.map (fun p => if beqD p.1 k = true then (p.1, v) else p) else kvs ++ [(k, v)]
theorem beqD_kD (a b : Key) : beqD (kD a) (kD b) = decide (a = b) := by
  cases a with
  | inl i =>
    cases b with
    | inl j =>
      show (i == j) = _
      by_cases h : i = j
      · subst h; rw [beq_self_eq_true, decide_eq_true rfl]
      · rw [beq_eq_false_iff_ne.mpr h, decide_eq_false fun z => h (Sum.inl.inj z)]
    | inr y => rw [decide_eq_false fun z => nomatch z]; rfl
  | inr x =>
    cases b with
    | inl j => rw [decide_eq_false fun z => nomatch z]; rfl
    | inr y =>
      show decide (x = y) = _
      by_cases h : x = y
      · subst h; rw [decide_eq_true rfl, decide_eq_true rfl]
      · rw [decide_eq_false h, decide_eq_false fun z => h (Sum.inr.inj z)]
section
variable {K : PySem.W.Frag} {F : Hp}
theorem kvK_look (k : Key) : ∀ {kvs : List (D × D)} {ws : List (Key × V)}, KvK K F kvs ws → (lookD kvs (kD k) = none ∧ valV ws k = none) ∨ ∃ d v, lookD kvs (kD k) = some d ∧ valV ws k = some v ∧ Dp K F v d
  | _, _, .nil => .inl ⟨rfl, rfl⟩
  | p :: kvs, q :: ws, .cons r t => by
    by_cases h : q.1 = k
    · refine .inr ⟨p.2, q.2, ?_, valV_pos h, r.2⟩
      unfold lookD
      rw [List.find?_cons_of_pos (by rw [r.1, beqD_kD, decide_eq_true h])]
      rfl
    · rw [valV_neg h]
      have e : lookD (p :: kvs) (kD k) = lookD kvs (kD k) := by
        unfold lookD
        rw [List.find?_cons_of_neg (by rw [r.1, beqD_kD, decide_eq_false h]; exact Bool.false_ne_true)]
      rw [e]
      exact kvK_look k t
theorem kvK_any (k : Key) : ∀ {kvs : List (D × D)} {ws : List (Key × V)}, KvK K F kvs ws → (kvs.any fun p => beqD p.1 (kD k)) = ws.any fun q => decide (q.1 = k)
  | _, _, .nil => rfl
  | p :: kvs, q :: ws, .cons r t => by rw [List.any_cons, List.any_cons, kvK_any k t, r.1, beqD_kD]
theorem kvK_map {k : Key} {d : D} {v : V} (h : Dp K F v d) : ∀ {kvs : List (D × D)} {ws : List (Key × V)}, KvK K F kvs ws → KvK K F (kvs.map fun p => if beqD p.1 (kD k) = true then (p.1, d) else p) (ws.map fun q => if q.1 = k then (q.1, v) else q)
  | _, _, .nil => .nil
  | p :: kvs, q :: ws, .cons r t => by
    rw [List.map_cons, List.map_cons]
    refine .cons ?_ (kvK_map h t)
    rw [r.1, beqD_kD]
    by_cases e : q.1 = k
    · rw [decide_eq_true e, if_pos rfl, if_pos e]
      exact ⟨rfl, h⟩
    · rw [decide_eq_false e, if_neg Bool.false_ne_true, if_neg e]
      exact r
theorem kvK_snoc {p : D × D} {q : Key × V} (h : p.1 = kD q.1 ∧ Dp K F q.2 p.2) : ∀ {kvs : List (D × D)} {ws : List (Key × V)}, KvK K F kvs ws → KvK K F (kvs ++ [p]) (ws ++ [q])
  | _, _, .nil => .cons h .nil
  | _ :: _, _ :: _, .cons r t => .cons r (kvK_snoc h t)
theorem kvK_put {k : Key} {d : D} {v : V} (h : Dp K F v d) {kvs : List (D × D)} {ws : List (Key × V)} (r : KvK K F kvs ws) : KvK K F (putD kvs (kD k) d) (putK ws k v) := by
  unfold putD putK
  rw [kvK_any k r]
  split
  · exact kvK_map h r
  · exact kvK_snoc ⟨rfl, h⟩ r
theorem kvK_len {kvs : List (D × D)} {ws : List (Key × V)} (r : KvK K F kvs ws) : kvs.length = ws.length := Paired.length r
theorem dp_key {v : V} {d : D} {k : Key} (h : Dp K F v d) (e : keyD d = some k) : v = kV k := by
  cases d with
  | int i => cases e; cases h; rfl
  | str x => cases e; cases h; rfl
  | _ => cases e
end
/-- the slot holds a dict: own, or walked just now -/
def dAt (j : Nat) (ρ : En) : Option (List (D × D)) := match ρ[j]? with
  | some (.od false kvs) => some kvs
  | some (.fd false kvs) => some kvs
  | _ => none
def dOwn (j : Nat) (ρ : En) : Option (List (D × D)) := match ρ[j]? with
  | some (.od false kvs) => some kvs
  | _ => none
theorem dOwn_eq {j : Nat} {ρ : En} {kvs : List (D × D)} (h : dOwn j ρ = some kvs) : ρ[j]? = some (.od false kvs) := by
  unfold dOwn at h
  split at h
  · cases h; assumption
  · cases h
theorem own_dict {K : PySem.W.Frag} {B F H : Hp} {io : List (Nat × Addr)} {σ : St} {ρ : En} {j : Nat} {kvs : List (D × D)} (c : Con K B F io σ H ρ) (h : dOwn j ρ = some kvs) : ∃ a ws, σ[j]? = some (some (.ref a)) ∧ H a = some (.dK ws) ∧ KvK K F kvs ws := by
  obtain ⟨a, o, h1, h2, h3, _⟩ := c.own (dOwn_eq h) rfl
  cases o with
  | dK ws => exact ⟨a, ws, h1, h2, h3⟩
  | _ => exact False.elim h3
theorem dict_at {K : PySem.W.Frag} {B F H : Hp} {io : List (Nat × Addr)} {σ : St} {ρ : En} {j : Nat} {kvs : List (D × D)} (c : Con K B F io σ H ρ) (h : dAt j ρ = some kvs) : ∃ a ws, σ[j]? = some (some (.ref a)) ∧ Rd H a (.dK ws) ∧ KvK K F kvs ws := by
  unfold dAt at h
  split at h
  · next e =>
    cases h
    obtain ⟨a, ws, h1, h2, h3⟩ := own_dict c (show dOwn j ρ = some kvs by unfold dOwn; rw [e])
    exact ⟨a, ws, h1, .inl h2, h3⟩
  · next e =>
    cases h
    obtain ⟨x, hx, a, ob, u, h1, h2, h3⟩ := c.cell j _ e
    subst h1
    cases u with
    | dK ws => exact ⟨a, ws, hx, .inr ⟨ob, c.frz _ _ h2⟩, h3⟩
    | _ => exact False.elim h3
  · cases h
section
variable {X : Cx} {L : List Nat} {i e f : Expr} {ti te tf : TE} {fi fe ff : FE} {x y : Str} {p p1 p2 p3 pos apos cpos : Pos} {j : Nat}
/-- d[k] -/
def eDGet (j : Nat) (fi : FE) : FE := fun ρ => (dAt j ρ).bind fun _ => (fi ρ).bind fun q => (dAt j q.2).bind fun kvs => (keyD q.1).bind fun _ => (lookD kvs q.1).map fun d => (d, q.2)
theorem de_dget (j : Nat) (hu : X.A.units + 100 < cLine) (hi : DE X i ti fi) (hN : X.N[j]? = some x := by rfl) (hv : Vis X.env.scope x := by first | exact Or.inl rfl | exact Or.inr (Or.inl rfl) | exact Or.inr (Or.inr rfl)) (hd : (x == ("__debug__" : Str)) = false := by decide)
    (hcd : (x == ("__classdict__" : Str)) = false := by decide) (hs : NoSl i := by exact fun _ _ => rfl) : DE X (.Subscript (.Name x p1) i pos) (tDGet (tVar j) ti) (eDGet j fi) := by
  refine ⟨pe_dget (by omega) (pe_var hN hv hd hcd) hi.pe hs, ?_⟩
  intro B F io σ H ρ d ρ' Q c e k
  obtain ⟨kv0, z0, e⟩ := Option.bind_eq_some_iff.mp e
  obtain ⟨q, e1, e⟩ := Option.bind_eq_some_iff.mp e
  obtain ⟨kvs, z1, e⟩ := Option.bind_eq_some_iff.mp e
  obtain ⟨ky, z2, e⟩ := Option.bind_eq_some_iff.mp e
  obtain ⟨d', z3, e4⟩ := Option.map_eq_some_iff.mp e
  cases e4
  obtain ⟨a, _, s1, _, _⟩ := dict_at c z0
  refine ⟨.ref a, s1, hi.se B F io σ H ρ q.1 q.2 _ c e1 fun F1 H1 v g1 c1 d1 => ?_⟩
  obtain ⟨a', ws, s2, h2, d2⟩ := dict_at c1 z1
  have ea : a' = a := by rw [s1] at s2; cases s2; rfl
  subst ea
  rw [keyD_eq z2] at z3
  rcases kvK_look ky d2 with ⟨n, _⟩ | ⟨d0, w, l1, l2, dw⟩
  · rw [n] at z3; cases z3
  · rw [l1] at z3; cases z3
    exact ⟨a', w, rfl, .inl ⟨ws, ky, h2, dp_key d1 z2, l2.symm⟩, k F1 H1 w g1 c1 dw⟩
/-- k in d, k not in d -/
def eDIn (j : Nat) (ng : Bool) (fi : FE) : FE := fun ρ => (fi ρ).bind fun q => (dAt j q.2).bind fun kvs => (keyD q.1).map fun _ => (.bool (xor ng (lookD kvs q.1).isSome), q.2)
theorem se_din {K : PySem.W.Frag} (hi : SE K ti fi) : SE K (tDIn ti (tVar j)) (eDIn j false fi) := by
  intro B F io σ H ρ d ρ' Q c e k
  obtain ⟨q, e1, e⟩ := Option.bind_eq_some_iff.mp e
  obtain ⟨kvs, z1, e⟩ := Option.bind_eq_some_iff.mp e
  obtain ⟨ky, z2, e4⟩ := Option.map_eq_some_iff.mp e
  cases e4
  refine hi B F io σ H ρ q.1 q.2 _ c e1 fun F1 H1 v g1 c1 d1 => ?_
  obtain ⟨a, ws, s2, h2, d2⟩ := dict_at c1 z1
  refine ⟨.ref a, s2, a, valV ws ky, rfl, .inl ⟨ws, ky, h2, dp_key d1 z2, rfl⟩, k F1 H1 _ g1 c1 ?_⟩
  rw [keyD_eq z2, Bool.false_xor]
  rcases kvK_look ky d2 with ⟨n1, n2⟩ | ⟨d0, w, l1, l2, dw⟩
  · rw [n1, n2]; exact .bl _
  · rw [l1, l2]; exact .bl _
theorem se_dnotin {K : PySem.W.Frag} (hi : SE K ti fi) : SE K (tDNotIn ti (tVar j)) (eDIn j true fi) := by
  intro B F io σ H ρ d ρ' Q c e k
  obtain ⟨q, e1, e⟩ := Option.bind_eq_some_iff.mp e
  obtain ⟨kvs, z1, e⟩ := Option.bind_eq_some_iff.mp e
  obtain ⟨ky, z2, e4⟩ := Option.map_eq_some_iff.mp e
  cases e4
  refine hi B F io σ H ρ q.1 q.2 _ c e1 fun F1 H1 v g1 c1 d1 => ?_
  obtain ⟨a, ws, s2, h2, d2⟩ := dict_at c1 z1
  refine ⟨.ref a, s2, a, valV ws ky, rfl, .inl ⟨ws, ky, h2, dp_key d1 z2, rfl⟩, k F1 H1 _ g1 c1 ?_⟩
  rw [keyD_eq z2, Bool.true_xor]
  rcases kvK_look ky d2 with ⟨n1, n2⟩ | ⟨d0, w, l1, l2, dw⟩
  · rw [n1, n2]; exact .bl _
  · rw [l1, l2]; exact .bl _
theorem st_tB {K : PySem.W.Frag} {t : TE} {g : FE} (h : SE K t g) : ST K (tB t) (eTst g) := by
  intro B F io σ H ρ b ρ' Q c e k
  obtain ⟨q, e1, e⟩ := Option.bind_eq_some_iff.mp e
  obtain ⟨z, e2, e3⟩ := Option.map_eq_some_iff.mp e
  cases e3
  refine h B F io σ H ρ q.1 q.2 _ c e1 fun F1 H1 v g1 c1 d1 => ?_
  obtain ⟨d, r⟩ := q
  cases d <;> first | (cases e2; cases d1; exact ⟨_, rfl, k F1 H1 g1 c1⟩) | cases e2
theorem de_din (j : Nat) (hu : X.A.units + 100 < cLine) (hi : DE X i ti fi) (hN : X.N[j]? = some x := by rfl) (hv : Vis X.env.scope x := by first | exact Or.inl rfl | exact Or.inr (Or.inl rfl) | exact Or.inr (Or.inr rfl)) (hd : (x == ("__debug__" : Str)) = false := by decide)
    (hcd : (x == ("__classdict__" : Str)) = false := by decide) : DE X (.Compare i [.In] [.Name x p1] pos) (tDIn ti (tVar j)) (eDIn j false fi) :=
  ⟨pe_cmp (pc_din (by omega) hi.pe (pe_var hN hv hd hcd)) rfl, se_din hi.se⟩
theorem de_dnotin (j : Nat) (hu : X.A.units + 100 < cLine) (hi : DE X i ti fi) (hN : X.N[j]? = some x := by rfl) (hv : Vis X.env.scope x := by first | exact Or.inl rfl | exact Or.inr (Or.inl rfl) | exact Or.inr (Or.inr rfl)) (hd : (x == ("__debug__" : Str)) = false := by decide)
    (hcd : (x == ("__classdict__" : Str)) = false := by decide) : DE X (.Compare i [.NotIn] [.Name x p1] pos) (tDNotIn ti (tVar j)) (eDIn j true fi) :=
  ⟨pe_cmp (pc_dnotin (by omega) hi.pe (pe_var hN hv hd hcd)) rfl, se_dnotin hi.se⟩
theorem dt_din (j : Nat) (hu : X.A.units + 100 < cLine) (hi : DE X i ti fi) (hN : X.N[j]? = some x := by rfl) (hv : Vis X.env.scope x := by first | exact Or.inl rfl | exact Or.inr (Or.inl rfl) | exact Or.inr (Or.inr rfl)) (hd : (x == ("__debug__" : Str)) = false := by decide)
    (hcd : (x == ("__classdict__" : Str)) = false := by decide) : DT X (.Compare i [.In] [.Name x p1] pos) (tB (tDIn ti (tVar j))) (eTst (eDIn j false fi)) :=
  ⟨pt_cmp (pc_din (by omega) hi.pe (pe_var hN hv hd hcd)) rfl, st_tB (se_din hi.se)⟩
theorem dt_dnotin (j : Nat) (hu : X.A.units + 100 < cLine) (hi : DE X i ti fi) (hN : X.N[j]? = some x := by rfl) (hv : Vis X.env.scope x := by first | exact Or.inl rfl | exact Or.inr (Or.inl rfl) | exact Or.inr (Or.inr rfl)) (hd : (x == ("__debug__" : Str)) = false := by decide)
    (hcd : (x == ("__classdict__" : Str)) = false := by decide) : DT X (.Compare i [.NotIn] [.Name x p1] pos) (tB (tDNotIn ti (tVar j))) (eTst (eDIn j true fi)) :=
  ⟨pt_cmp (pc_dnotin (by omega) hi.pe (pe_var hN hv hd hcd)) rfl, st_tB (se_dnotin hi.se)⟩
/-- d[k] = v -/
def sDPutK (j : Nat) (fi fe : FE) : FS := fun ρ => (fe ρ).bind fun p => (dOwn j p.2).bind fun _ => (fi p.2).bind fun q => (dOwn j q.2).bind fun kvs => (keyD q.1).bind fun _ => if kvs.length < sizeLine then some (.nx (q.2.set j (.od false (putD kvs q.1 p.1)))) else none
theorem ds_dput (j : Nat) (hu : X.A.units + 100 < cLine) (he : DE X e te fe) (hi : DE X i ti fi) (hN : X.N[j]? = some x := by rfl) (hv : Vis X.env.scope x := by first | exact Or.inl rfl | exact Or.inr (Or.inl rfl) | exact Or.inr (Or.inr rfl)) (hd : (x == ("__debug__" : Str)) = false := by decide)
    (hcd : (x == ("__classdict__" : Str)) = false := by decide) (hs : swapsWith e (some (.Subscript (.Name x p1) i p2)) pos.line X.env = pure false := by rfl) :
    DS X L (.Assign [.Subscript (.Name x p1) i p2] e pos) (sDPut (tVar j) ti te) (sDPutK j fi fe) := ⟨ps_dput (by omega) (pe_var hN hv hd hcd) hi.pe he.pe hs, fun B F io σ H ρ o Dn hL c h p => by
  obtain ⟨q, e1, h⟩ := Option.bind_eq_some_iff.mp h
  obtain ⟨kv0, z1, h⟩ := Option.bind_eq_some_iff.mp h
  obtain ⟨r, e2, h⟩ := Option.bind_eq_some_iff.mp h
  obtain ⟨kvs, z2, h⟩ := Option.bind_eq_some_iff.mp h
  obtain ⟨ky, z3, h⟩ := Option.bind_eq_some_iff.mp h
  split at h
  · next lt =>
    cases h
    refine he.se B F io σ H ρ q.1 q.2 _ c e1 fun F1 H1 v g1 c1 d1 => ?_
    obtain ⟨a, _, s1, _, _⟩ := own_dict c1 z1
    refine ⟨.ref a, s1, hi.se B F1 io σ H1 q.2 r.1 r.2 _ c1 e2 fun F2 H2 y g2 c2 d2 => ?_⟩
    obtain ⟨a', ws, s2, h2, d3⟩ := own_dict c2 z2
    have ea : a' = a := by rw [s1] at s2; cases s2; rfl
    subst ea
    have hk := dp_key d2 z3
    subst hk
    refine ⟨a', _, rfl, DPut.k h2 (by rw [← kvK_len d3]; exact lt), p F2 σ _ (g1.trans g2) (c2.write (dOwn_eq z2) rfl s1 ?_)⟩
    rw [keyD_eq z3]
    exact kvK_put (dp_mono g2.sub d1) d3
  · cases h⟩
/-- d.get(k, v) -/
def eDGet2 (j : Nat) (fi fe : FE) : FE := fun ρ => (dAt j ρ).bind fun _ => (fi ρ).bind fun p => (fe p.2).bind fun q => (dAt j q.2).bind fun kvs => (keyD p.1).map fun _ => ((lookD kvs p.1).getD q.1, q.2)
theorem de_dget2 (j : Nat) (hu : X.A.units + 100 < cLine) (hi : DE X i ti fi) (he : DE X e te fe) (hN : X.N[j]? = some x := by rfl) (hv : Vis X.env.scope x := by first | exact Or.inl rfl | exact Or.inr (Or.inl rfl) | exact Or.inr (Or.inr rfl)) (hd : (x == ("__debug__" : Str)) = false := by decide)
    (hcd : (x == ("__classdict__" : Str)) = false := by decide) (m1 : attributeBase (.Name x p1) "get" X.env (eval (.Name x p1) X.env) = eval (.Name x p1) X.env := by rfl)
    (m2 : ((backTo cpos (starEach [i, e] X.env)).all (fun x => !x.1) && (backToKw cpos (keywordEach [] X.env)).all (fun x => x.1.isSome)
      && decide (([i, e] : List Expr).length + ([] : List Keyword).length + (if ([] : List Keyword).isEmpty then 0 else 1) < 30)) = true := by rfl)
    (m3 : (apos.endLine == cpos.line) = true := by rfl) (m4 : backTo cpos (starEach [i, e] X.env) = [(false, eval i X.env), (false, eval e X.env)] := by rfl) :
    DE X (.Call (.Attribute (.Name x p1) "get" apos) [i, e] [] cpos) (tDGet2 (tVar j) ti te) (eDGet2 j fi fe) := by
  refine ⟨pe_dget2 (by omega) (pe_var hN hv hd hcd) hi.pe he.pe ⟨m1, m2, m3, m4⟩, ?_⟩
  intro B F io σ H ρ d ρ' Q c h k
  obtain ⟨kv0, z0, h⟩ := Option.bind_eq_some_iff.mp h
  obtain ⟨p, e1, h⟩ := Option.bind_eq_some_iff.mp h
  obtain ⟨q, e2, h⟩ := Option.bind_eq_some_iff.mp h
  obtain ⟨kvs, z1, h⟩ := Option.bind_eq_some_iff.mp h
  obtain ⟨ky, z2, h⟩ := Option.map_eq_some_iff.mp h
  cases h
  obtain ⟨a, w0, s1, h1, _⟩ := dict_at c z0
  refine ⟨.ref a, s1, a, rfl, .inl ⟨w0, h1⟩, hi.se B F io σ H ρ p.1 p.2 _ c e1 fun F1 H1 v g1 c1 d1 => he.se B F1 io σ H1 p.2 q.1 q.2 _ c1 e2 fun F2 H2 y g2 c2 d2 => ?_⟩
  obtain ⟨a', ws, s2, h2, d3⟩ := dict_at c2 z1
  have ea : a' = a := by rw [s1] at s2; cases s2; rfl
  subst ea
  refine ⟨valV ws ky, .inl ⟨ws, ky, h2, dp_key d1 z2, rfl⟩, k F2 H2 _ (g1.trans g2) c2 ?_⟩
  rw [keyD_eq z2]
  rcases kvK_look ky d3 with ⟨n1, n2⟩ | ⟨d0, w, l1, l2, dw⟩
  · rw [n1, n2]; exact d2
  · rw [l1, l2]; exact dw
/-- {} -/
def eDict0 : FN := fun ρ => some (.od false [], ρ)
theorem dn_dict0 : DN X (.Dict [] [] pos) tDNewK eDict0 := ⟨pe_dnewK, fun B F io σ H ρ c0 ρ' Q c e k => by
  cases e
  intro a na
  have al : Al F H F (upd H a (.dK [])) := Al.laidH c.frz na
  exact k F _ a _ (Gr.refl _ _) (c.al al) upd_same (show KvK X.K F [] [] from .nil) (c.frz.free na) (c.base.free na) (c.fresh_notOwned na)⟩
/-- {k: v} -/
def eDict1 (fi fe : FE) : FN := fun ρ => (fi ρ).bind fun p => (fe p.2).bind fun q => (keyD p.1).map fun _ => (.od false [(p.1, q.1)], q.2)
theorem dn_dict1 (hi : DE X i ti fi) (he : DE X e te fe) : DN X (.Dict [some i] [e] pos) (tDisp [(ti, te)]) (eDict1 fi fe) := by
  refine ⟨pe_disp (pps_cons hi.pe he.pe pps_nil) rfl rfl (by simp) (by simp), ?_⟩
  intro B F io σ H ρ c0 ρ' Q c h k
  obtain ⟨p, e1, h⟩ := Option.bind_eq_some_iff.mp h
  obtain ⟨q, e2, h⟩ := Option.bind_eq_some_iff.mp h
  obtain ⟨ky, z2, h⟩ := Option.map_eq_some_iff.mp h
  cases h
  intro a na
  have bD : B a = none := c.base.free na
  have fD : F a = none := c.frz.free na
  have cb := c.toBase (o := .dK []) na
  refine hi.se _ F io σ _ ρ p.1 p.2 _ cb e1 fun F1 H1 v g1 c1 d1 => he.se _ F1 io σ H1 p.2 q.1 q.2 _ c1 e2 fun F2 H2 y g2 c2 d2 => ?_
  have hd := c2.base a _ upd_same
  have gg := g1.trans g2
  have hk := dp_key d1 z2
  subst hk
  have fa : F2 a = none := by
    cases q3 : F2 a with
    | none => rfl
    | some o =>
      rcases gg.new a o q3 with z | z
      · rw [fD] at z; cases z
      · rw [upd_same] at z; cases z
  refine ⟨hd, [(ky, y)], rfl, by simp, ?_⟩
  have hm : mergeK [] [(ky, y)] = [(ky, y)] := by simp [mergeK, putK]
  rw [hm]
  have c3 := c2.reBase (o' := .dK [(ky, y)]) fa
  refine k F2 _ a _ (gg.unBase bD) (c3.unBase bD) upd_same ?_ fa bD c3.notOwned_base
  show KvK X.K F2 [(p.1, q.1)] [(ky, y)]
  exact .cons ⟨keyD_eq z2, d2⟩ .nil
/-- x = y, the dict of y goes over to x -/
def sMoveD (i j : Nat) : FS := fun ρ => (dOwn j ρ).map fun kvs => .nx ((ρ.set j .dead).set i (.od false kvs))
theorem ds_moveD {i j : Nat} (hN : X.N.Nodup) (hi : X.N[i]? = some x := by rfl) (hl : i ∉ L := by decide) (hx : Loc X.env.scope x := by first | exact Or.inl rfl | exact Or.inr rfl) (hs : swapsWith (.Name y p2) (some (.Name x p1)) pos.line X.env = pure false := by rfl)
    (hf : X.fn x = true ∨ X.env.scope.names.lookup x = some .local := by first | exact .inl rfl | exact .inr rfl | assumption) (hN2 : X.N[j]? = some y := by rfl) (hv : Vis X.env.scope y := by first | exact Or.inl rfl | exact Or.inr (Or.inl rfl) | exact Or.inr (Or.inr rfl)) (hd : (y == ("__debug__" : Str)) = false := by decide)
    (hcd : (y == ("__classdict__" : Str)) = false := by decide) : DS X L (.Assign [.Name x p1] (.Name y p2) pos) (tAsg (tVar j) (gName i)) (sMoveD i j) := ⟨ps_set hN hi hx (pe_var hN2 hv hd hcd) hs hf, fun B F io σ H ρ o Dn hL c h p => by
  obtain ⟨kvs, z1, h⟩ := Option.map_eq_some_iff.mp h
  subst h
  obtain ⟨a, u, s1, h1, h2, h3, h4⟩ := c.own (dOwn_eq z1) rfl
  refine ⟨.ref a, s1, p F _ H (Gr.refl _ _) ((c.kill j).set_own (by rw [hL]; exact hl) h1 h2 h3 h4 fun m e he ho hs => ?_)⟩
  rcases get_set_cases he with ⟨rfl, rfl, _⟩ | ⟨ne, he⟩
  · cases ho
  · exact ne (c.sep m j e _ a he (dOwn_eq z1) ho rfl hs s1)⟩
/-- len(d) -/
def eLenD (j : Nat) : FE := fun ρ => (dOwn j ρ).map fun kvs => (.int kvs.length, ρ)
theorem de_lenD (j : Nat) (hm : X.mg "len" = none) (hN : X.N[j]? = some x := by rfl) (hv : Vis X.env.scope x := by first | exact Or.inl rfl | exact Or.inr (Or.inl rfl) | exact Or.inr (Or.inr rfl)) (hd : (x == ("__debug__" : Str)) = false := by decide)
    (hcd : (x == ("__classdict__" : Str)) = false := by decide) (hg : Gl X "len" := by rfl) (he : starEach [.Name x p1] X.env = (false, eval (.Name x p1) X.env) :: starEach [] X.env := by rfl) (hpl : (backTo pos (starEach [] X.env)).any (·.1) = false := by rfl) :
    DE X (.Call (.Name "len" p) [.Name x p1] [] pos) (tCB (fun xs H Q => ∃ a kvs, xs = [V.ref a] ∧ H a = some (.dK kvs) ∧ Q (.int kvs.length) H) (tCons (tVar j) tNil)) (eLenD j) := by
  refine ⟨pe_callB call_lenD hg hm (by decide +kernel) (pa_cons (pe_var hN hv hd hcd) pa_nil he) (by decide) (by decide) he hpl, ?_⟩
  intro B F io σ H ρ d ρ' Q c e k
  obtain ⟨kvs, z0, e4⟩ := Option.map_eq_some_iff.mp e
  cases e4
  obtain ⟨a, ws, s1, h1, d1⟩ := own_dict c z0
  exact ⟨.ref a, s1, a, ws, rfl, h1, k F H _ (Gr.refl _ _) c (by rw [kvK_len d1]; exact .int _)⟩
end
end L2.Pd

namespace L2.Pd
open PySem PySem.Spec PyProof.Rows
/-! ## A dict that is walked: locked for the while of an expression, of a statement -/
def noFd : En → Bool := fun ρ => ρ.all fun c => match c with | .fd _ _ => false | _ => true
theorem noFd_get {ρ : En} {i : Nat} {c : Cell} (h : noFd ρ = true) (e : ρ[i]? = some c) : ∀ tk kvs, c ≠ .fd tk kvs := fun tk kvs z => by
  subst z
  have := List.all_eq_true.mp h _ (List.mem_of_getElem? e)
  cases this
section
variable {K : PySem.W.Frag} {B F F' H H' : Hp} {io : List (Nat × Addr)} {σ σ' : St} {ρ ρ' : En} {j : Nat} {tk : Bool} {kvs : List (D × D)} {a : Addr} {u : HO} {ob : Obj}
theorem dictOb_is (h : DictOb K F kvs tk u) : (∀ xs, u ≠ .lst xs) ∧ (∀ xs, u ≠ .tup xs) ∧ Mut (some u) := by
  cases tk <;> cases u <;> first
    | exact h.elim
    | exact ⟨fun _ z => (nomatch z), fun _ z => (nomatch z), trivial⟩
theorem rd_off {w : HO} (h : F a = some (.frz ob u)) (hn : w ≠ u) (nz : ∀ o v, w ≠ .frz o v) {b : Addr} (q : Rd F b w) : Rd (without F a) b w := by
  rcases q with q | ⟨o, q⟩
  · exact .inl (by rw [without_ne (fun z => by subst z; rw [h] at q; cases q; exact nz _ _ rfl)]; exact q)
  · exact .inr ⟨o, by rw [without_ne (fun z => by subst z; rw [h] at q; cases q; exact hn rfl)]; exact q⟩
mutual
theorem dp_off (h : F a = some (.frz ob u)) (h1 : ∀ xs, u ≠ .lst xs) (h2 : ∀ xs, u ≠ .tup xs) : ∀ {d : D} {v : V}, Dp K F v d → Dp K (without F a) v d
  | .none, _, q => by cases q; exact .non
  | .bool _, _, q => by cases q; exact .bl _
  | .int _, _, q => by cases q; exact .int _
  | .str _, _, q => by cases q; exact .str _
  | .list ds, _, q => by
    cases q with
    | lst q r =>
      refine .lst ?_ (dpAll_off h h1 h2 r)
      rcases q with q | q
      · exact .inl (rd_off h (fun z => h1 _ z.symm) (fun _ _ z => nomatch z) q)
      · exact .inr q
  | .tuple ds, _, q => by
    cases q with
    | tup q r =>
      refine .tup ?_ (dpAll_off h h1 h2 r)
      rcases q with q | q
      · exact .inl (rd_off h (fun z => h2 _ z.symm) (fun _ _ z => nomatch z) q)
      · exact .inr q
  | .dict _, _, q => by cases q
theorem dpAll_off (h : F a = some (.frz ob u)) (h1 : ∀ xs, u ≠ .lst xs) (h2 : ∀ xs, u ≠ .tup xs) : ∀ {ds : List D} {vs : List V}, DpAll K F vs ds → DpAll K (without F a) vs ds
  | [], _, q => by cases q; exact .nil
  | d :: ds, _, q => by
    cases q with
    | cons q r => exact .cons (dp_off h h1 h2 q) (dpAll_off h h1 h2 r)
end
theorem dictOb_off (h : F a = some (.frz ob u)) (h1 : ∀ xs, u ≠ .lst xs) (h2 : ∀ xs, u ≠ .tup xs) {kv : List (D × D)} {t : Bool} {w : HO} (q : DictOb K F kv t w) : DictOb K (without F a) kv t w := by
  cases t with
  | false =>
    cases w with
    | dK ws =>
      have q : KvK K F kv ws := q
      show KvK K (without F a) kv ws
      induction q with
      | nil => exact .nil
      | cons r t ih => exact .cons ⟨r.1, dp_off h h1 h2 r.2⟩ (ih t)
    | _ => exact q.elim
  | true =>
    cases w with
    | dT ws =>
      have q : KvT K F kv ws := q
      show KvT K (without F a) kv ws
      induction q with
      | nil => exact .nil
      | cons r t ih => exact .cons ⟨r.1, dp_off h h1 h2 r.2⟩ (ih t)
    | _ => exact q.elim
theorem ob_off (h : F a = some (.frz ob u)) (h1 : ∀ xs, u ≠ .lst xs) (h2 : ∀ xs, u ≠ .tup xs) {c : Cell} {w : HO} (q : Ob K F c w) : Ob K (without F a) c w := by
  cases c with
  | od t kv => exact dictOb_off h h1 h2 q
  | ol ds =>
    cases w with
    | lst vs => exact dpAll_off h h1 h2 q
    | _ => exact q
  | _ => exact q
/-- what the lock wants of the cell j -/
structure Lk (K : PySem.W.Frag) (B F H : Hp) (σ : St) (j : Nat) (tk : Bool) (kvs : List (D × D)) (a : Addr) (u : HO) : Prop where
  s : σ[j]? = some (some (.ref a))
  h : H a = some u
  o : DictOb K F kvs tk u
  f : F a = none
  b : B a = none
theorem Con.lk (c : Con K B F io σ H ρ) (h : ρ[j]? = some (.od tk kvs)) : ∃ a u, Lk K B F H σ j tk kvs a u := by
  obtain ⟨a, u, h1, h2, h3, h4, h5⟩ := c.own h rfl
  exact ⟨a, u, h1, h2, h3, h4, h5⟩
theorem Con.lock (c : Con K B F io σ H ρ) (h : ρ[j]? = some (.od tk kvs)) (l : Lk K B F H σ j tk kvs a u) (ob : Obj) : Con K B (upd F a (.frz ob u)) io σ (upd H a (.frz ob u)) (ρ.set j (.fd tk kvs)) := by
  have sF : Same F (upd F a (.frz ob u)) := same_upd l.f
  refine ⟨by rw [List.length_set, c.len], fun b x e => ?_, same_upd2 c.frz, fun i w hw => ?_, fun i k w1 w2 b h1 h2 o1 o2 s1 s2 => ?_, c.io⟩
  · rw [upd_ne (ne_of_none e l.b)]; exact c.base b x e
  · rcases get_set_cases hw with ⟨rfl, rfl, hl⟩ | ⟨ne, hw⟩
    · exact ⟨_, l.s, a, ob, u, rfl, upd_same, dictOb_mono sF l.o⟩
    · obtain ⟨x, hx, ok⟩ := c.cell i w hw
      refine ⟨x, hx, ?_⟩
      by_cases ho : isOwn w = true
      · rw [cellOk_own ho] at ok ⊢
        obtain ⟨p, z, g1, g2, g3, g4, g5⟩ := ok
        subst g1
        have np : p ≠ a := fun z => ne (c.sep i j w _ a hw h ho rfl (by rw [hx, z]) l.s)
        exact ⟨p, z, rfl, by rw [upd_ne np]; exact g2, ob_mono sF g3, by rw [upd_ne np]; exact g4, g5⟩
      · cases w with
        | dead => trivial
        | sh d => obtain ⟨v, z1, z2⟩ := ok; exact ⟨v, z1, dp_mono sF z2⟩
        | fd t kv => obtain ⟨p, o2, u2, z1, z2, z3⟩ := ok; exact ⟨p, o2, u2, z1, sF _ _ z2, dictOb_mono sF z3⟩
        | _ => exact absurd rfl ho
  · rcases get_set_cases h1 with ⟨rfl, rfl, _⟩ | ⟨n1, h1⟩
    · cases o1
    · rcases get_set_cases h2 with ⟨rfl, rfl, _⟩ | ⟨n2, h2⟩
      · cases o2
      · exact c.sep i k w1 w2 b h1 h2 o1 o2 s1 s2
theorem gr_unlock (l : Lk K B F H σ j tk kvs a u) (g : Gr B (upd F a (.frz ob u)) F') : Gr B F (without F' a) := ⟨fun b x e => by
    have nb : b ≠ a := fun z => by subst z; rw [l.f] at e; cases e
    rw [without_ne nb]
    exact g.sub b x (by rw [upd_ne nb]; exact e), fun b x e => by
    by_cases z : b = a
    · subst z; rw [without_at] at e; cases e
    · rw [without_ne z] at e
      rcases g.new b x e with q | q
      · rw [upd_ne z] at q; exact .inl q
      · exact .inr q⟩
theorem Con.unlock {io' : List (Nat × Addr)} (l : Lk K B F H σ j tk kvs a u) (g : Gr B (upd F a (.frz ob u)) F') (c' : Con K B F' io' σ' H' ρ') (hs : σ'[j]? = some (some (.ref a))) (nf : noFd (ρ'.set j .dead) = true) :
    Con K B (without F' a) io' σ' (upd H' a u) (ρ'.set j (.od tk kvs)) := by
  obtain ⟨i1, i2, _⟩ := dictOb_is l.o
  have fa : F' a = some (.frz ob u) := g.sub _ _ upd_same
  have gr := gr_unlock l g
  refine ⟨by rw [List.length_set, c'.len], fun b x e => ?_, fun b x e => ?_, fun i w hw => ?_, fun i k w1 w2 b h1 h2 o1 o2 s1 s2 => ?_, c'.io⟩
  · rw [upd_ne (ne_of_none e l.b)]; exact c'.base b x e
  · by_cases z : b = a
    · subst z; rw [without_at] at e; cases e
    · rw [without_ne z] at e
      rw [upd_ne z]
      exact c'.frz b x e
  · rcases get_set_cases hw with ⟨rfl, rfl, hl⟩ | ⟨ne, hw⟩
    · exact ⟨_, hs, (cellOk_own rfl).mpr ⟨a, u, rfl, upd_same, dictOb_mono gr.sub l.o, without_at, l.b⟩⟩
    · obtain ⟨x, hx, ok⟩ := c'.cell i w hw
      refine ⟨x, hx, ?_⟩
      by_cases ho : isOwn w = true
      · rw [cellOk_own ho] at ok ⊢
        obtain ⟨p, z, g1, g2, g3, g4, g5⟩ := ok
        have np : p ≠ a := fun z => by subst z; rw [fa] at g4; cases g4
        exact ⟨p, z, g1, by rw [upd_ne np]; exact g2, ob_off fa i1 i2 g3, by rw [without_ne np]; exact g4, g5⟩
      · cases w with
        | dead => trivial
        | sh d => obtain ⟨v, z1, z2⟩ := ok; exact ⟨v, z1, dp_off fa i1 i2 z2⟩
        | fd t kv => exact absurd rfl (noFd_get nf (by rw [List.getElem?_set_ne (Ne.symm ne)]; exact hw) t kv)
        | _ => exact absurd rfl ho
  · have key : ∀ (i : Nat) (w : Cell), ρ'[i]? = some w → isOwn w = true → σ'[i]? ≠ some (some (.ref a)) := fun i w hw ho q => by
      obtain ⟨p, z, g1, _, _, g4, _⟩ := c'.own hw ho
      rw [q] at g1
      cases g1
      rw [fa] at g4
      cases g4
    rcases get_set_cases h1 with ⟨rfl, rfl, _⟩ | ⟨n1, g1⟩
    · rcases get_set_cases h2 with ⟨rfl, rfl, _⟩ | ⟨n2, g2⟩
      · rfl
      · rw [hs] at s1; cases s1; exact absurd s2 (key k w2 g2 o2)
    · rcases get_set_cases h2 with ⟨rfl, rfl, _⟩ | ⟨n2, g2⟩
      · rw [hs] at s2; cases s2; exact absurd s1 (key i w1 g1 o1)
      · exact c'.sep i k w1 w2 b g1 g2 o1 o2 s1 s2
/-! ### for the while of an expression -/
def eLok (j : Nat) (f : FE) : FE := fun ρ => match ρ[j]? with
  | some (.od tk kvs) => (f (ρ.set j (.fd tk kvs))).bind fun p => if noFd (p.2.set j .dead) = true then some (p.1, p.2.set j (.od tk kvs)) else none
  | _ => none
def eLokN (j : Nat) (f : FN) : FN := fun ρ => match ρ[j]? with
  | some (.od tk kvs) => (f (ρ.set j (.fd tk kvs))).bind fun p => if noFd (p.2.set j .dead) = true then some (p.1, p.2.set j (.od tk kvs)) else none
  | _ => none
theorem se_lok {t : TE} {f : FE} (j : Nat) (h : SE K t f) : SE K (tLockE t) (eLok j f) := by
  intro B F io σ H ρ d ρ' Q c e k
  unfold eLok at e
  split at e
  · next tk kvs hj =>
    obtain ⟨p, e1, e⟩ := Option.bind_eq_some_iff.mp e
    split at e
    · next nf =>
      cases e
      obtain ⟨a, u, l⟩ := c.lk hj
      obtain ⟨i1, i2, i3⟩ := dictOb_is l.o
      refine ⟨a, u, l.h, i3, fun ob => h B _ io σ _ _ p.1 p.2 _ (c.lock hj l ob) e1 fun F' H' v g c' dv => ⟨c'.frz _ _ (g.sub _ _ upd_same), ?_⟩⟩
      exact k _ _ v (gr_unlock l g) (Con.unlock l g c' l.s nf) (dp_off (g.sub _ _ upd_same) i1 i2 dv)
    · cases e
  · cases e
theorem sn_lok {t : TE} {f : FN} (j : Nat) (h : SN K t f) : SN K (tLockE t) (eLokN j f) := by
  intro B F io σ H ρ d ρ' Q c e k
  unfold eLokN at e
  split at e
  · next tk kvs hj =>
    obtain ⟨p, e1, e⟩ := Option.bind_eq_some_iff.mp e
    split at e
    · next nf =>
      cases e
      obtain ⟨a, u, l⟩ := c.lk hj
      obtain ⟨i1, i2, i3⟩ := dictOb_is l.o
      refine ⟨a, u, l.h, i3, fun ob => h B _ io σ _ _ p.1 p.2 _ (c.lock hj l ob) e1 fun F' H' b o g c' hb ob2 fb bb no => ⟨c'.frz _ _ (g.sub _ _ upd_same), ?_⟩⟩
      have fa := g.sub _ _ upd_same
      have nb : b ≠ a := fun z => by subst z; rw [fa] at fb; cases fb
      refine k _ _ b o (gr_unlock l g) (Con.unlock l g c' l.s nf) (by rw [upd_ne nb]; exact hb) (ob_off fa i1 i2 ob2) (by rw [without_ne nb]; exact fb) bb fun i w hw how q => ?_
      rcases get_set_cases hw with ⟨rfl, rfl, _⟩ | ⟨ne, hw⟩
      · rw [l.s] at q; cases q; exact nb rfl
      · exact no i w hw how q
    · cases e
  · cases e
/-! ### for the while of a statement -/
def unO (j : Nat) (tk : Bool) (kvs : List (D × D)) : Out → Option Out
  | .nx ρ' => if noFd (ρ'.set j .dead) = true then some (.nx (ρ'.set j (.od tk kvs))) else none
  | .bk ρ' => if noFd (ρ'.set j .dead) = true then some (.bk (ρ'.set j (.od tk kvs))) else none
  | .ct ρ' => if noFd (ρ'.set j .dead) = true then some (.ct (ρ'.set j (.od tk kvs))) else none
  | .rt c ρ' => if noFd (ρ'.set j .dead) = true then some (.rt c (ρ'.set j (.od tk kvs))) else none
def sLok (j : Nat) (f : FS) : FS := fun ρ => match ρ[j]? with
  | some (.od tk kvs) => (f (ρ.set j (.fd tk kvs))).bind (unO j tk kvs)
  | _ => none
theorem ss_lok {L : List Nat} {t : TS} {f : FS} (j : Nat) (h : SS K (j :: L) t f) : SS K L (tLock t) (sLok j f) := by
  intro B F io σ H ρ o Dn hL c e p
  unfold sLok at e
  split at e
  · next tk kvs hj =>
    obtain ⟨o1, e1, e⟩ := Option.bind_eq_some_iff.mp e
    obtain ⟨a, u, l⟩ := c.lk hj
    obtain ⟨i1, i2, i3⟩ := dictOb_is l.o
    refine ⟨a, u, l.h, i3, fun ob => h B _ ((j, a) :: io) σ _ _ o1 _ (by rw [List.map_cons, hL]) ((c.lock hj l ob).addio l.s) e1 ?_⟩
    have io1 : ∀ {F' : Hp} {σ' : St} {H' : Hp} {ρ' : En}, Con K B F' ((j, a) :: io) σ' H' ρ' → σ'[j]? = some (some (.ref a)) := fun {F' σ' H' ρ'} c' => c'.io (j, a) List.mem_cons_self
    cases o1 with
    | nx ρ1 =>
      simp only [unO] at e
      split at e
      · next nf =>
        cases e
        exact fun F' σ' H' g c' => ⟨c'.frz _ _ (g.sub _ _ upd_same), p _ σ' _ (gr_unlock l g) ((Con.unlock l g c' (io1 c') nf).subio fun q hq => List.mem_cons_of_mem _ hq)⟩
      · cases e
    | bk ρ1 =>
      simp only [unO] at e
      split at e
      · next nf =>
        cases e
        exact fun F' σ' H' g c' => ⟨c'.frz _ _ (g.sub _ _ upd_same), p _ σ' _ (gr_unlock l g) ((Con.unlock l g c' (io1 c') nf).subio fun q hq => List.mem_cons_of_mem _ hq)⟩
      · cases e
    | ct ρ1 =>
      simp only [unO] at e
      split at e
      · next nf =>
        cases e
        exact fun F' σ' H' g c' => ⟨c'.frz _ _ (g.sub _ _ upd_same), p _ σ' _ (gr_unlock l g) ((Con.unlock l g c' (io1 c') nf).subio fun q hq => List.mem_cons_of_mem _ hq)⟩
      · cases e
    | rt r ρ1 =>
      simp only [unO] at e
      split at e
      · next nf =>
        cases e
        intro F' σ' H' v g c' ret
        have fa := g.sub _ _ upd_same
        refine ⟨c'.frz _ _ fa, p _ σ' _ v (gr_unlock l g) ((Con.unlock l g c' (io1 c') nf).subio fun q hq => List.mem_cons_of_mem _ hq) ?_⟩
        by_cases ho : isOwn r = true
        · rw [retOk_own ho] at ret ⊢
          obtain ⟨b, o, y1, y2, y3, y4, y5, y6⟩ := ret
          have nb : b ≠ a := fun z => by subst z; rw [fa] at y4; cases y4
          refine ⟨b, o, y1, by rw [upd_ne nb]; exact y2, ob_off fa i1 i2 y3, by rw [without_ne nb]; exact y4, y5, fun i w hw how q => ?_⟩
          rcases get_set_cases hw with ⟨rfl, rfl, _⟩ | ⟨ne, hw⟩
          · rw [io1 c'] at q; cases q; exact nb rfl
          · exact y6 i w hw how q
        · cases r with
          | dead => exact ret
          | sh d => exact dp_off fa i1 i2 ret
          | fd t kv =>
            obtain ⟨_, _, _, _, h, _⟩ := ret
            exact h.elim
          | _ => exact absurd rfl ho
      · cases e
  · cases e
end
section
variable {X : Cx} {L : List Nat} {e tg : Expr} {t : TE} {f : FE} {g : FN} {x : Str} {p : Pos}
theorem de_lok (j : Nat) (h : DE X e t f) : DE X e (tLockE t) (eLok j f) := ⟨pe_lock h.pe, se_lok j h.se⟩
theorem dn_lok (j : Nat) (h : DN X e t g) : DN X e (tLockE t) (eLokN j g) := ⟨pe_lock h.pe, sn_lok j h.se⟩
theorem ds_lok {st : Stmt} {t : TS} {f : FS} (j : Nat) (h : DS X (j :: L) st t f) : DS X L st (tLock t) (sLok j f) := ⟨ps_lock h.pe, ss_lok j h.se⟩
/-- the keys of a locked dict -/
def iFd (j : Nat) : FA := fun ρ => match ρ[j]? with
  | some (.fd false kvs) => some (kvs.map (·.1), ρ)
  | _ => none
theorem di_fd (j : Nat) (hN : X.N[j]? = some x := by rfl) (hv : Vis X.env.scope x := by first | exact Or.inl rfl | exact Or.inr (Or.inl rfl) | exact Or.inr (Or.inr rfl)) (hd : (x == ("__debug__" : Str)) = false := by decide) (hcd : (x == ("__classdict__" : Str)) = false := by decide) :
    DI X none tg (.Name x p) (iKeys (tVar j)) (iFd j) := by
  refine ⟨pi_keys (pe_var hN hv hd hcd), ?_⟩
  intro B F io σ H ρ xs ρ' R c e k
  unfold iFd at e
  split at e
  · next kvs hj =>
    cases e
    obtain ⟨v, hv, a, ob, u, h1, h2, h3⟩ := c.cell j _ hj
    subst h1
    cases u with
    | dK ws =>
      have h3 : KvK X.K F kvs ws := h3
      have hl := kvK_len h3
      refine ⟨.ref a, hv, a, ob, rfl, .inl ⟨ws, c.frz _ _ h2, k F H _ (fun F2 H2 => F2 a = some (.frz ob (.dK ws)) ∧ Same F2 H2) (Gr.refl _ _) c ⟨fun i F2 H2 q hi => ⟨q.2 _ _ q.1, by rw [List.length_map] at hi; omega⟩, fun i F2 H2 y H3 q hi yl => ?_, fun i F2 H2 q hi => ⟨q.2 _ _ q.1, by rw [List.length_map] at hi; omega⟩⟩
        (fun B2 F2 io2 σ2 H2 ρ2 s2 c2 _ _ => ⟨s2 _ _ h2, c2.frz⟩) (fun _ h => nomatch h)⟩⟩
      obtain ⟨rfl, ky, v, e1, rfl⟩ := yl
      rw [List.length_map] at hi
      refine ⟨rfl, kD ky, ?_, ?_⟩
      · have e2 : kvs[i]? = some kvs[i] := List.getElem?_eq_getElem hi
        have := paired_at (R := fun (p : D × D) (q : Key × V) => p.1 = kD q.1 ∧ Dp X.K F q.2 p.2) h3 e2 e1
        rw [List.getElem?_map, e2, Option.map_some, this.1]
      · cases ky with
        | inl i => exact .int _
        | inr z => exact .str _
    | _ => exact False.elim h3
  · cases e
end
/-! ### sorted(d) -/
section
variable {P : Program} {w : World} {A : Around} {E : Value → Shared → Prop} {s : Shared}
def rSortD : List V → Hp → VK → Prop := fun xs H Q => ∃ a kvs, xs = [.ref a] ∧ Rd H a (.dK kvs) ∧ sortB ((kvs.map (·.1)).map kD) = true ∧ ∀ p ws, H p = none → (∀ K F, DpAll K F ws (sortD ((kvs.map (·.1)).map kD))) → Q (.ref p) (upd H p (.lst ws))
theorem cr_sortD {X : Cx} (hc : X.calm = true) (hu : X.A.units + 100 < cLine) : CallR X (.builtin "sorted") rSortD := by
  intro pins s σ H xs us Q I r q
  obtain ⟨a, kvs, rfl, hd, sb, q⟩ := q
  obtain ⟨u, rfl, rx⟩ := vals1 r
  cases rx
  obtain ⟨z, lo, vs, rel, dd⟩ := dk_rd I.hok hd
  obtain ⟨ep, hat⟩ := dd.dictAt
  have hl : kvs.length = vs.length := rel.length
  have h16 : vs.length ≤ sizeLine := by omega
  refine Calls.call_function_entry PyProof.Rows.kind_sorted PyProof.Rows.plain_sorted PyProof.Rows.entry_sorted (PyProof.Rows.args_sorted1 _) (by
    unfold Builtin.«sorted»
    refine wpAny_bind (m := checkCount "sorted" 1 1 _) (wpAny_pure ?_)
    refine wpAny_bind (PySem.W.kdu_collect (A := X.A.in1) (PySem.W.kdl_dict (knd := mixKind X.prog X.w) (kvs := vs) (ep := ep) lo) (I.ok.hd hc) hat h16 fun h' tk acc hk hacc => ?_)
    have lacc : acc.toList.length = vs.length := by rw [Array.length_toList, hacc.1]
    have kv : ∀ (i : Nat) (v : Value), acc.toList[i]? = some v → ∃ k, (kvs.map (·.1))[i]? = some k ∧ keyIs k v = true := fun i v e => by
      obtain ⟨k, x, e1, e2⟩ := hacc.2 i v (by rw [← Array.getElem?_toList]; exact e)
      refine ⟨k, ?_, e2⟩
      rw [rel.keys, List.getElem?_map, e1]
      rfl
    have ev : acc.toList.map valD = (kvs.map (·.1)).map kD := by
      apply List.ext_getElem?
      intro i
      rw [List.getElem?_map, List.getElem?_map]
      cases e : acc.toList[i]? with
      | none =>
        have : (kvs.map (·.1))[i]? = none := by
          have := List.getElem?_eq_none_iff.mp e
          exact List.getElem?_eq_none_iff.mpr (by rw [List.length_map]; omega)
        rw [this]; rfl
      | some v =>
        obtain ⟨k, e1, e2⟩ := kv i v e
        rw [e1, Option.map_some, Option.map_some, valD_is e2]
    have mem : ∀ v ∈ acc.toList, ∃ k, keyIs k v = true ∧ valD v = kD k := fun v hv => by
      obtain ⟨i, e⟩ := List.mem_iff_getElem?.mp hv
      obtain ⟨k, _, e2⟩ := kv i v e
      exact ⟨k, e2, valD_is e2⟩
    obtain ⟨al, so, ok⟩ := sortB_all sb
    rw [← ev] at al so ok
    have I1 : Inv X pins σ H { s with heap := h', toks := tk } := I.kept hk
    refine wpAny_bind (wpAny_newList ?_ (by omega))
    have gL : (h'.push (seqObj "list" acc.toList.toArray 0)).get? h'.objs.size = some (seqObj "list" acc.toList.toArray 0) := Heap.get?_push_size _ rfl
    show wpAny _ _ _ _ _ { s with heap := h'.push (seqObj "list" acc.toList.toArray 0), toks := tk }
    refine wpAny_bind (wpAny_holding (PySem.W.list_sort_data (s := { s with heap := h'.push (seqObj "list" acc.toList.toArray 0), toks := tk }) (enc := id) (R := fun v d => ∃ k, keyIs k v = true ∧ d = kD k) gL (each_self fun v hv => mem v hv) (each_self fun v hv => ?_)
      (by rw [List.map_id]; exact al) (by rw [List.map_id]; exact so) (by rw [List.length_map]; omega) (fun b hb => ?_) fun out lo2 eo => ?_))
    · obtain ⟨k, hk2, hv2⟩ := mem v hv
      rcases keyIs_shape hk2 with ⟨i, tk, rfl, rfl⟩ | ⟨x, tk, rfl, rfl⟩
      · exact ⟨[], .int i tk, List.not_mem_nil⟩
      · exact ⟨[], .str x tk, List.not_mem_nil⟩
    · have := SeqAt.depth_of_shaped (ok _ hb)
      show X.A.units + 1 + 1 + b.depth < cLine
      omega
    · obtain ⟨c, hcc⟩ := PyProof.Rows.sortedHeap_at (vs := acc.toList) (out := out.toArray) gL
      have eo2 : PySem.W.EachIs (fun v d => ∃ k, keyIs k v = true ∧ d = kD k) out (sortD (acc.toList.map valD)) := eo
      rw [ev] at eo2
      obtain ⟨ws, hv, hdp⟩ := out_vals (l := []) eo2
      have ln : ws.length ≤ sizeLine := by
        rw [(hdp X.K H).length, sortD_len, List.length_map, List.length_map]
        omega
      refine wpAny_pure ⟨_, rfl, .ref h'.objs.size, upd H h'.objs.size (.lst ws), I1.laid (t' := tk) (fun b u e => ?_) (Nat.le_refl _) ⟨ln, out, c, hv, hcc⟩, rfl, q _ ws (I1.hok.fresh (Nat.le_refl _)) hdp⟩
      have lt := Heap.lt_size e
      show (PyProof.Rows.sortedHeap (h'.push (seqObj "list" acc.toList.toArray 0)) h'.objs.size acc.toList out.toArray).get? b = some u
      rw [PyProof.Rows.sortedHeap_old (Nat.ne_of_lt lt) (by rw [size_push']; exact Nat.lt_succ_of_lt lt)]
      exact Heap.get?_push_of_some _ e)
def eSrtD (j : Nat) : FN := fun ρ => (dAt j ρ).bind fun kvs => if sortB (kvs.map (·.1)) = true then some (.ol (sortD (kvs.map (·.1))), ρ) else none
theorem kvK_keys {K : PySem.W.Frag} {F : Hp} : ∀ {kvs : List (D × D)} {ws : List (Key × V)}, KvK K F kvs ws → kvs.map (·.1) = (ws.map (·.1)).map kD
  | _, _, .nil => rfl
  | p :: kvs, q :: ws, .cons r t => by rw [List.map_cons, List.map_cons, List.map_cons, kvK_keys t, r.1]
theorem dn_sortD {X : Cx} {x : Str} {p p1 pos : Pos} (j : Nat) (hc : X.calm = true) (hu : X.A.units + 100 < cLine) (hm : X.mg "sorted" = none) (hN : X.N[j]? = some x := by rfl) (hv : Vis X.env.scope x := by first | exact Or.inl rfl | exact Or.inr (Or.inl rfl) | exact Or.inr (Or.inr rfl)) (hd : (x == ("__debug__" : Str)) = false := by decide)
    (hcd : (x == ("__classdict__" : Str)) = false := by decide) (hg : Gl X "sorted" := by rfl) (he : starEach [.Name x p1] X.env = (false, eval (.Name x p1) X.env) :: starEach [] X.env := by rfl) (hpl : (backTo pos (starEach [] X.env)).any (·.1) = false := by rfl) :
    DN X (.Call (.Name "sorted" p) [.Name x p1] [] pos) (tCB rSortD (tCons (tVar j) tNil)) (eSrtD j) := by
  refine ⟨pe_callB (cr_sortD hc hu) hg hm (by decide +kernel) (pa_cons (pe_var hN hv hd hcd) pa_nil he) (by decide) (by decide) he hpl, ?_⟩
  intro B F io σ H ρ c0 ρ' Q c e k
  obtain ⟨kvs, z0, e⟩ := Option.bind_eq_some_iff.mp e
  split at e
  · next sb =>
    cases e
    obtain ⟨a, ws, s1, h1, d1⟩ := dict_at c z0
    rw [kvK_keys d1] at sb k
    refine ⟨.ref a, s1, a, ws, rfl, h1, sb, fun p2 vs np hd => ?_⟩
    have al := Al.laidH (o := .lst vs) c.frz np
    exact k F _ p2 _ (Gr.refl _ _) (c.al al) upd_same (hd X.K F) (c.frz.free np) (c.base.free np) (c.fresh_notOwned np)
  · cases e
end
end L2.Pd

namespace L2.Pd
open PySem PySem.Spec PyProof.Rows L2
/-! ## Defs that may raise: one class, nothing handed back -/
/-- true: it raises; false: it hands back None -/
abbrev FnX := List D → Option Bool
abbrev FX := En → Option Bool
def spX (K : PySem.W.Frag) (C : Addr) (m : FnX) : Sp := fun vs H Q E => ∃ (F : Hp) (ds : List D) (b : Bool), Same F H ∧ DpAll K F vs ds ∧ m ds = some b ∧
  (b = false → ∀ F' H', Al F H F' H' → Q .non H') ∧ (b = true → ∀ F' H', Al F H F' H' → E (.ref C) none H')
def SX (K : PySem.W.Frag) (C : Addr) (E : XK) (t : TS) (f : FX) : Prop := ∀ (B F : Hp) (σ : St) (H : Hp) (ρ : En) (b : Bool) (Dn : Ends), Con K B F [] σ H ρ → f ρ = some b →
  (b = false → ∀ F' σ' H' ρ', Gr B F F' → Con K B F' [] σ' H' ρ' → Dn.nx σ' H') → (b = true → ∀ F' σ' H' ρ', Gr B F F' → Con K B F' [] σ' H' ρ' → E (.ref C) none H') → t Dn σ H
structure DX (X : Cx) (C : Addr) (E : XK) (st : List Stmt) (f : FX) : Prop where
  ex : ∃ t, PSs X st t ∧ SX X.K C E t f
def xEnd : FX := fun _ => some false
def xSeq (f : FS) (g : FX) : FX := fun ρ => (f ρ).bind fun o => match o with
  | .nx ρ' => g ρ'
  | _ => none
def xRz (c : FT) (g : FX) : FX := fun ρ => (c ρ).bind fun p => if p.1 = true then some true else g p.2
section
variable {X : Cx} {C : Addr} {E : XK} {st : Stmt} {rest : List Stmt} {f : FS} {g : FX} {t : TS} {tc : TT} {fc : FT} {test : Expr} {pos : Pos} {rz : Stmt}
theorem dx_end : DX X C E [] xEnd := ⟨tNext, pss_nil, fun B F σ H ρ b Dn c h k0 _ => by
  cases h
  exact k0 rfl F σ H ρ (Gr.refl _ _) c⟩
theorem ps_nox {t : TS} (h : PS X.nox st t) : PS X st t := ⟨fun pins s σ H D I q => wpAny_mono (h.run pins s σ H D (I.wish _) q) (fun _ _ z => z.unwish) fun _ _ z => z.elim⟩
theorem dx_seq (h1 : DS X.nox [] st t f) (h2 : DX X C E rest g) : DX X C E (st :: rest) (xSeq f g) := by
  obtain ⟨u, p2, s2⟩ := h2.ex
  have hp : PS X st t := ps_nox h1.pe
  refine ⟨⟨tSeq t u, pss_cons hp p2, ?_⟩⟩
  intro B F σ H ρ b Dn c h k0 k1
  obtain ⟨o, e1, e⟩ := Option.bind_eq_some_iff.mp h
  refine h1.se B F [] σ H ρ o { Dn with nx := u Dn } rfl c e1 ?_
  cases o with
  | nx ρ1 => exact fun F' σ' H' g' c' => s2 B F' σ' H' ρ1 b Dn c' e (fun z F2 σ2 H2 ρ2 g2 c2 => k0 z F2 σ2 H2 ρ2 (g'.trans g2) c2) (fun z F2 σ2 H2 ρ2 g2 c2 => k1 z F2 σ2 H2 ρ2 (g'.trans g2) c2)
  | bk ρ1 => cases e
  | ct ρ1 => cases e
  | rt c1 ρ1 => cases e
theorem dx_rz (hc : DT X.nox test tc fc) (hr : PS X rz (fun _ _ H => E (.ref C) none H)) (h2 : DX X C E rest g) : DX X C E (.If test [rz] [] pos :: rest) (xRz fc g) := by
  obtain ⟨u, p2, s2⟩ := h2.ex
  refine ⟨⟨tSeq (tIfS tc (fun _ _ H => E (.ref C) none H) tNext) u, pss_cons (ps_if hc.pe.nox (pss_one hr) pss_nil) p2, ?_⟩⟩
  intro B F σ H ρ b Dn c h k0 k1
  obtain ⟨q, e1, e⟩ := Option.bind_eq_some_iff.mp h
  refine hc.se B F [] σ H ρ q.1 q.2 _ c e1 fun F' H' g' c' => ?_
  by_cases hq : q.1 = true
  · rw [if_pos hq] at e ⊢
    cases e
    exact k1 rfl F' σ H' q.2 g' c'
  · rw [if_neg hq] at e ⊢
    exact s2 B F' σ H' q.2 b Dn c' e (fun z F2 σ2 H2 ρ2 g2 c2 => k0 z F2 σ2 H2 ρ2 (g'.trans g2) c2) (fun z F2 σ2 H2 ρ2 g2 c2 => k1 z F2 σ2 H2 ρ2 (g'.trans g2) c2)
end
/-- what a class must say, so that it can be raised and asked for -/
structure ExF (K : PySem.W.Frag) (mg : Str → Option Value) (x : Str) (C : Addr) : Prop where
  g : mg x = some (.ref C)
  x : PySem.W.excIn K C [.type "ValueError", .type "Exception", .type "BaseException", .type "object"] "ValueError.__new__" = true
  k : PySem.W.keepIn K (.ref C) = true
  b : PySem.W.subIn K (.ref C) (.type "BaseException") = some true
  t : PySem.W.typeIn K (.ref C) = some (.type "type")
def fnX (n : Nat) (body : FX) : FnX := fun ds => body (ds.map Cell.sh ++ List.replicate (n - ds.length) Cell.dead)
section
variable {P : Program} {w : World} {K : PySem.W.Frag} {mg : Str → Option Value} {base : Heap}
theorem con_start {N : List Str} {F H : Hp} {vs : List V} {ds : List D} (hl : ds.length ≤ N.length) (sm : Same F H) (h : DpAll K F vs ds) : Con K H F [] (L2.start N vs) H (ds.map Cell.sh ++ List.replicate (N.length - ds.length) Cell.dead) := by
  have hv : vs.length = ds.length := h.length
  refine ⟨?_, Same.refl H, sm, fun i c hc => ?_, fun i j c e a h1 _ o1 => ?_, fun p hp => absurd hp List.not_mem_nil⟩
  · unfold L2.start
    rw [List.length_append, List.length_append, List.length_map, List.length_map, List.length_replicate, List.length_replicate, hv]
  · by_cases hi : i < ds.length
    · rw [List.getElem?_append_left (by rw [List.length_map]; exact hi)] at hc
      obtain ⟨v, d, e1, e2, q⟩ := shs_get h hc
      refine ⟨some v, ?_, ?_⟩
      · unfold L2.start
        rw [List.getElem?_append_left (by rw [List.length_map]; omega), List.getElem?_map, e1]
        rfl
      · rw [e2]
        exact ⟨v, rfl, q⟩
    · rw [List.getElem?_append_right (by rw [List.length_map]; omega)] at hc
      have e := List.eq_of_mem_replicate (List.mem_of_getElem? hc)
      have hlt := (List.getElem?_eq_some_iff.mp hc).1
      rw [List.length_map, List.length_replicate] at hlt
      have hs : i < (L2.start N vs).length := by
        unfold L2.start
        rw [List.length_append, List.length_map, List.length_replicate]
        omega
      exact ⟨_, List.getElem?_eq_getElem hs, by rw [e]; trivial⟩
  · exfalso
    by_cases hi : i < ds.length
    · rw [List.getElem?_append_left (by rw [List.length_map]; exact hi)] at h1
      obtain ⟨_, _, _, e2, _⟩ := shs_get h h1
      rw [e2] at o1
      cases o1
    · rw [List.getElem?_append_right (by rw [List.length_map]; omega)] at h1
      rw [List.eq_of_mem_replicate (List.mem_of_getElem? h1)] at o1
      cases o1
/-- the def x raises C or hands back None, as m tells -/
structure CalX (P : Program) (w : World) (K : PySem.W.Frag) (mg : Str → Option Value) (base : Heap) (k : Nat) (x : Str) (ps : List Str) (C : Addr) (m : FnX) : Prop where
  ex : ∃ (f : Addr) (fd : FuncData), FnOk P w K mg base (L2N.CX P w) k f fd ps (fun vs H Q E => vs.length = ps.length ∧ spX K C m vs H Q E) ∧ mg x = some (.ref f) ∧ PySem.W.keepIn K (.ref f) = true ∧ Binds K fd ps []
theorem pdx_cal {x : Str} {st : Stmt} {N ps : List Str} {k : Nat} {C : Addr} {n : Nat} {body : FX} (S : Src K mg x st ps) (Sc : FnScope N ps (defScope st)) (hn : N.length = n := by rfl)
    (hbody : ∀ (f : Addr) (cdv : Value) (A : Around) (outer : List Env) (s : Shared) (H : Hp) (E : XK), Room k (A.deeper (envOfC x (defScope st) s.heap.objs.size f cdv)) →
      DX (cxOf (L2N.CX P w) P w K mg base N x (defScope st) f cdv A outer s H E) C E (defBody st) body) : CalX P w K mg base (k + 1) x ps C (fnX n body) := by
  subst hn
  obtain ⟨f, fd, Fn, hm, hb⟩ := S.ex
  refine ⟨f, fd, ?_, hm, Fn.kp, hb⟩
  obtain ⟨oc, od, kV, doc, pm, an, cdv, ct, osl, rfl, lk, hcd⟩ := Fn.ex
  refine fn_of lk hcd Sc (fun vs H Q E h => h.1) fun A outer s H vs Q E hr hsp => ?_
  obtain ⟨hvl, F, ds, b, sm, hd, hm, k0, k1⟩ := hsp
  obtain ⟨t, pe, se⟩ := (hbody f cdv A outer s H E hr).ex
  refine ⟨t, pe, ?_⟩
  have hdl : ds.length = ps.length := by rw [← hvl]; exact hd.length.symm
  have hN : ds.length ≤ N.length := by
    rw [hdl, ← Sc.pre, List.length_take]
    exact Nat.min_le_right _ _
  have al : ∀ {F' σ' H' ρ'}, Gr H F F' → Con K H F' [] σ' H' ρ' → Al F H F' H' := fun g c => ⟨g.sub, c.base, c.frz, g.new⟩
  exact se H F _ H _ b _ (con_start hN sm hd) hm (fun z F' σ' H' ρ' g c => k0 z F' H' (al g c)) (fun z F' σ' H' ρ' g c => k1 z F' H' (al g c))
end
section
variable {P : Program} {w : World} {K : PySem.W.Frag} {mg : Str → Option Value} {base : Heap} {N : List Str} {q x m : Str} {sc : Scope} {f C : Addr} {cdv : Value} {A : Around} {outer : List Env} {s : Shared} {H : Hp} {E : XK} {j : Nat} {p p2 pos pos' : Pos}
theorem psx_raise (hA : (cxOf (L2N.CX P w) P w K mg base N q sc f cdv A outer s H E).calm = true) (F : ExF K mg x C) (hg : Gl (cxOf (L2N.CX P w) P w K mg base N q sc f cdv A outer s H E) x := by rfl) (hdb : (x == ("__debug__" : Str)) = false := by decide) :
    PS (cxOf (L2N.CX P w) P w K mg base N q sc f cdv A outer s H E) (.Raise (some (.Call (.Name x p) [.Constant (.str m) j p2] [] pos)) none pos') (fun _ _ H => E (.ref C) none H) :=
  L2N.ps_raise hA (L2N.takes_of rfl rfl rfl rfl) (L2N.pmk_own PySem.F.excBase_ValueError F.x F.g F.k (raises_own F.b F.t) hg hdb)
end
end L2.Pd

namespace L2.Pd
open PySem PySem.Spec PyProof.Rows L2
/-! ## Suites that hold an exception: slot i is the exception a, nothing is told of its cell -/
def HasE (i : Nat) (a : Addr) (σ : St) : Prop := σ[i]? = some (some (.ref a))
def SEe (K : PySem.W.Frag) (i : Nat) (a : Addr) (t : TE) (f : FE) : Prop := ∀ (B F : Hp) (io : List (Nat × Addr)) (σ : St) (H : Hp) (ρ : En) (d : D) (ρ' : En) (Q : VK), HasE i a σ → Con K B F io σ H ρ → f ρ = some (d, ρ') →
  (∀ F' H' v, Gr B F F' → Con K B F' io σ H' ρ' → Dp K F' v d → Q v H') → t σ H Q
def STe (K : PySem.W.Frag) (i : Nat) (a : Addr) (t : TT) (f : FT) : Prop := ∀ (B F : Hp) (io : List (Nat × Addr)) (σ : St) (H : Hp) (ρ : En) (b : Bool) (ρ' : En) (Q : Bool → Hp → Prop), HasE i a σ → Con K B F io σ H ρ → f ρ = some (b, ρ') →
  (∀ F' H', Gr B F F' → Con K B F' io σ H' ρ' → Q b H') → t σ H Q
def SSe (K : PySem.W.Frag) (L : List Nat) (i : Nat) (a : Addr) (t : TS) (f : FS) : Prop := ∀ (B F : Hp) (io : List (Nat × Addr)) (σ : St) (H : Hp) (ρ : En) (o : Out) (Dn : Ends), HasE i a σ → io.map (·.1) = L → Con K B F io σ H ρ → f ρ = some o → Post K B F io Dn o → t Dn σ H
structure DEe (X : Cx) (i : Nat) (a : Addr) (e : Expr) (t : TE) (f : FE) : Prop where
  pe : PE X e t
  se : SEe X.K i a t f
structure DTe (X : Cx) (i : Nat) (a : Addr) (e : Expr) (t : TT) (f : FT) : Prop where
  pe : PT X e t
  se : STe X.K i a t f
structure DWe (X : Cx) (i : Nat) (a : Addr) (e : Expr) (t : TT) (f : FT) : Prop where
  pe : PW X e t
  se : STe X.K i a t f
structure DSe (X : Cx) (L : List Nat) (i : Nat) (a : Addr) (st : List Stmt) (t : TS) (f : FS) : Prop where
  pe : PSs X st t
  se : SSe X.K L i a t f
section
variable {X : Cx} {i : Nat} {a : Addr} {e x y : Expr} {ta tb te : TE} {fa fb fe : FE} {tA tB : TT} {fA fB : FT} {pos : Pos} {rest : List Expr} {L : List Nat} {sts : List Stmt} {u : TS} {g : FS}
theorem DE.ee (h : DE X e te fe) : DEe X i a e te fe := ⟨h.pe, fun B F io σ H ρ d ρ' Q _ c e k => h.se B F io σ H ρ d ρ' Q c e k⟩
theorem DT.ee (h : DT X e tA fA) : DTe X i a e tA fA := ⟨h.pe, fun B F io σ H ρ d ρ' Q _ c e k => h.se B F io σ H ρ d ρ' Q c e k⟩
theorem DWe.dt (h : DWe X i a e tA fA) : DTe X i a e tA fA := ⟨h.pe.pt, h.se⟩
theorem dee_one {op} (h : DEe X i a x ta fa) : DEe X i a (.BoolOp op [x] pos) ta fa := ⟨pe_one h.pe, h.se⟩
theorem dee_and (ha : DEe X i a x ta fa) (hb : DEe X i a (.BoolOp .And (y :: rest) pos) tb fb) : DEe X i a (.BoolOp .And (x :: y :: rest) pos) (tAndT X.K ta tb) (eAndV fa fb) := ⟨pe_andT ha.pe hb.pe, by
  intro B F io σ H ρ d ρ' Q hσ c e k
  obtain ⟨p, e1, e⟩ := Option.bind_eq_some_iff.mp e
  obtain ⟨z, e2, e⟩ := Option.bind_eq_some_iff.mp e
  refine ha.se B F io σ H ρ p.1 p.2 _ hσ c e1 fun F1 H1 x g1 c1 d1 => ⟨z, tru_dp c1.frz d1 e2, ?_⟩
  by_cases hp : z = true
  · rw [if_pos hp] at e ⊢
    exact hb.se B F1 io σ H1 p.2 d ρ' Q hσ c1 e fun F2 H2 v g2 c2 d2 => k F2 H2 v (g1.trans g2) c2 d2
  · rw [if_neg hp] at e ⊢
    cases e
    exact k F1 H1 x g1 c1 d1⟩
theorem dee_or (ha : DEe X i a x ta fa) (hb : DEe X i a (.BoolOp .Or (y :: rest) pos) tb fb) : DEe X i a (.BoolOp .Or (x :: y :: rest) pos) (tOrT X.K ta tb) (eOrV fa fb) := ⟨pe_orT ha.pe hb.pe, by
  intro B F io σ H ρ d ρ' Q hσ c e k
  obtain ⟨p, e1, e⟩ := Option.bind_eq_some_iff.mp e
  obtain ⟨z, e2, e⟩ := Option.bind_eq_some_iff.mp e
  refine ha.se B F io σ H ρ p.1 p.2 _ hσ c e1 fun F1 H1 x g1 c1 d1 => ⟨z, tru_dp c1.frz d1 e2, ?_⟩
  by_cases hp : z = true
  · rw [if_pos hp] at e ⊢
    cases e
    exact k F1 H1 x g1 c1 d1
  · rw [if_neg hp] at e ⊢
    exact hb.se B F1 io σ H1 p.2 d ρ' Q hσ c1 e fun F2 H2 v g2 c2 d2 => k F2 H2 v (g1.trans g2) c2 d2⟩
theorem dee_not (ha : DEe X i a x ta fa) : DEe X i a (.UnaryOp .Not x pos) (tNotT X.K ta) (eNotV fa) := ⟨pe_notT ha.pe, by
  intro B F io σ H ρ d ρ' Q hσ c e k
  obtain ⟨p, e1, e⟩ := Option.bind_eq_some_iff.mp e
  obtain ⟨z, e2, e3⟩ := Option.map_eq_some_iff.mp e
  cases e3
  exact ha.se B F io σ H ρ p.1 p.2 _ hσ c e1 fun F1 H1 x g1 c1 d1 => ⟨z, tru_dp c1.frz d1 e2, k F1 H1 _ g1 c1 (.bl _)⟩⟩
theorem dte_not (ha : DTe X i a x tA fA) : DTe X i a (.UnaryOp .Not x pos) (tNot tA) (eNot fA) := ⟨pt_not ha.pe, by
  intro B F io σ H ρ b ρ' Q hσ c e k
  obtain ⟨p, e1, e2⟩ := Option.map_eq_some_iff.mp e
  cases e2
  exact ha.se B F io σ H ρ p.1 p.2 _ hσ c e1 fun F1 H1 g1 c1 => k F1 H1 g1 c1⟩
theorem dte_tru (ha : DEe X i a x ta fa) (he : ∀ whole, isTrue x X.env whole = (do let v ← whole; standAt x.pos; holding [v] (truthy v)) := by intro _; rfl) :
    DTe X i a x (fun σ H Q => ta σ H fun x H' => ∃ k, TruV X.K x H' k ∧ Q k H') (eTru fa) := ⟨pt_truth ha.pe he, by
  intro B F io σ H ρ b ρ' Q hσ c e k
  obtain ⟨p, e1, e⟩ := Option.bind_eq_some_iff.mp e
  obtain ⟨z, e2, e3⟩ := Option.map_eq_some_iff.mp e
  cases e3
  exact ha.se B F io σ H ρ p.1 p.2 _ hσ c e1 fun F1 H1 x g1 c1 d1 => ⟨_, tru_dp c1.frz d1 e2, k F1 H1 g1 c1⟩⟩
theorem dwe_or1 (ha : DTe X i a x tA fA) : DWe X i a (.BoolOp .Or [x] pos) tA fA := ⟨pw_or1 ha.pe, ha.se⟩
theorem dwe_and1 (ha : DTe X i a x tA fA) : DWe X i a (.BoolOp .And [x] pos) tA fA := ⟨pw_and1 ha.pe, ha.se⟩
theorem dwe_or (ha : DTe X i a x tA fA) (hb : DWe X i a (.BoolOp .Or (y :: rest) pos) tB fB) : DWe X i a (.BoolOp .Or (x :: y :: rest) pos) (tOr tA tB) (eOr fA fB) := ⟨pw_or ha.pe hb.pe, by
  intro B F io σ H ρ b ρ' Q hσ c e k
  obtain ⟨p, e1, e⟩ := Option.bind_eq_some_iff.mp e
  refine ha.se B F io σ H ρ p.1 p.2 _ hσ c e1 fun F1 H1 g1 c1 => ?_
  by_cases hp : p.1 = true
  · rw [if_pos hp] at e ⊢
    cases e
    exact k F1 H1 g1 c1
  · rw [if_neg hp] at e ⊢
    exact hb.se B F1 io σ H1 p.2 b ρ' Q hσ c1 e fun F2 H2 g2 c2 => k F2 H2 (g1.trans g2) c2⟩
theorem dwe_and (ha : DTe X i a x tA fA) (hb : DWe X i a (.BoolOp .And (y :: rest) pos) tB fB) : DWe X i a (.BoolOp .And (x :: y :: rest) pos) (tAnd tA tB) (eAnd fA fB) := ⟨pw_and ha.pe hb.pe, by
  intro B F io σ H ρ b ρ' Q hσ c e k
  obtain ⟨p, e1, e⟩ := Option.bind_eq_some_iff.mp e
  refine ha.se B F io σ H ρ p.1 p.2 _ hσ c e1 fun F1 H1 g1 c1 => ?_
  by_cases hp : p.1 = true
  · rw [if_pos hp] at e ⊢
    exact hb.se B F1 io σ H1 p.2 b ρ' Q hσ c1 e fun F2 H2 g2 c2 => k F2 H2 (g1.trans g2) c2
  · rw [if_neg hp] at e ⊢
    cases e
    exact k F1 H1 g1 c1⟩
theorem dse_ret {pos : Pos} (he : DEe X i a e te fe) : DSe X L i a [.Return (some e) pos] (tRet te) (sRet fe) := ⟨pss_one (ps_ret he.pe), fun B F io σ H ρ o Dn hσ hL c h p => by
  obtain ⟨q, e1, e2⟩ := Option.map_eq_some_iff.mp h
  subst e2
  exact he.se B F io σ H ρ q.1 q.2 _ hσ c e1 fun F' H' v g c' d => p F' σ H' v g c' d⟩
/-- if t: return e -/
def sIfRet (fc : FT) (fe : FE) (g : FS) : FS := fun ρ => (fc ρ).bind fun p => if p.1 = true then sRet fe p.2 else g p.2
theorem dse_ifret {pos pos' : Pos} (hc : DTe X i a x tA fA) (he : DEe X i a e te fe) (hr : DSe X L i a sts u g) : DSe X L i a (.If x [.Return (some e) pos'] [] pos :: sts) (tSeq (tIfS tA (tRet te) tNext) u) (sIfRet fA fe g) :=
  ⟨pss_cons (ps_if hc.pe (pss_one (ps_ret he.pe)) pss_nil) hr.pe, fun B F io σ H ρ o Dn hσ hL c h p => by
  obtain ⟨q, e1, h⟩ := Option.bind_eq_some_iff.mp h
  refine hc.se B F io σ H ρ q.1 q.2 _ hσ c e1 fun F' H' g' c' => ?_
  by_cases hq : q.1 = true
  · rw [if_pos hq] at h ⊢
    obtain ⟨r, e2, e3⟩ := Option.map_eq_some_iff.mp h
    subst e3
    exact he.se B F' io σ H' q.2 r.1 r.2 _ hσ c' e2 fun F2 H2 v g2 c2 d => p F2 σ H2 v (g'.trans g2) c2 d
  · rw [if_neg hq] at h ⊢
    exact hr.se B F' io σ H' q.2 o Dn hσ hL c' h (p.mono g')⟩
end
/-! ### isinstance of the exception -/
/-- a known answer -/
def eKn (b : Bool) : FE := fun ρ => some (.bool b, ρ)
section
variable {X : Cx} {a Cl : Addr} {oe : Obj}
theorem caught_at {pins : List (Addr × Obj)} {σ : St} {H : Hp} {s : Shared} (I : Inv X pins σ H s) (hp : (a, oe) ∈ X.pn) (hz : Zc (.ref Cl) none oe) (hf : ∃ vs, oe.data = .fields vs) : PySem.W.InstAt s.heap a oe Cl none := by
  have h1 := (I.pin (a, oe) (List.mem_append_left _ hp)).1
  obtain ⟨vs, hv⟩ := hf
  obtain ⟨k1, k2⟩ := hz
  revert h1
  cases oe
  intro h1
  simp only at k1 k2 hv
  subst k1 k2 hv
  exact ⟨h1, rfl, rfl, trivial⟩
/-- one class -/
def rXi (K : PySem.W.Frag) (Cl a : Addr) : List V → Hp → VK → Prop := fun xs H Q => ∃ (c : V) (u : Value) (b : Bool), xs = [.ref a, c] ∧ ClsV c u ∧ PySem.W.kitOne K (.ref Cl) u = some b ∧ Q (.bl b) H
/-- a tuple of classes -/
def rXt (K : PySem.W.Frag) (Cl a : Addr) : List V → Hp → VK → Prop := fun xs H Q => ∃ (tp : Addr) (cs : List V) (us : List Value) (b : Bool), xs = [.ref a, .ref tp] ∧ H tp = some (.tup cs) ∧ Paired ClsV cs us ∧ PySem.W.kitAny K (.ref Cl) us = some b ∧ Q (.bl b) H
theorem two_vals {v w : V} {us : List Value} (r : Vals [v, w] us) : ∃ p q, us = [p, q] ∧ RelV v p ∧ RelV w q := by
  cases r with
  | cons h1 r =>
    cases r with
    | cons h2 r => cases r; exact ⟨_, _, rfl, h1, h2⟩
theorem kx (C : ExcC X.K Cl) : PySem.W.KitX X.K (.ref a) (.ref Cl) (fun h => PySem.W.InstAt h a oe Cl none) := PySem.W.handS_kitx_exc C.hg C.hk C.hs C.hd C.ha C.hn C.ht C.hm
theorem call_xi (C : ExcC X.K Cl) (hz : Zc (.ref Cl) none oe) (hf : ∃ vs, oe.data = .fields vs) (hp : (a, oe) ∈ X.pn) : CallR X (.builtin "isinstance") (rXi X.K Cl a) := fun pins s σ H xs us Q I r h => by
  obtain ⟨c, v, b, rfl, k, e, q⟩ := h
  obtain ⟨u1, u2, rfl, r1, r2⟩ := two_vals r
  have e1 : u1 = .ref a := r1
  have e2 := k.eq r2
  subst e1 e2
  exact PySem.W.kia_one (kx C) I.kIn (caught_at I hp hz hf) e (fun z => by cases z) fun tk => ⟨.bl b, H, I.tok tk, rfl, q⟩
theorem call_xt (C : ExcC X.K Cl) (hz : Zc (.ref Cl) none oe) (hf : ∃ vs, oe.data = .fields vs) (hp : (a, oe) ∈ X.pn) : CallR X (.builtin "isinstance") (rXt X.K Cl a) := fun pins s σ H xs us Q I r h => by
  obtain ⟨tp, cs, ws, b, rfl, hT, k, e, q⟩ := h
  obtain ⟨u1, u2, rfl, r1, r2⟩ := two_vals r
  have e1 : u1 = .ref a := r1
  have e2 : u2 = .ref tp := r2
  subst e1 e2
  obtain ⟨_, its, rv, ob, g1, g2, n, g3⟩ := (show ObjOk X.prog X.w H s.heap tp (.tup cs) from I.hok tp _ hT)
  have e3 := ClsV.all k rv
  subst e3
  revert g1
  cases ob
  intro g1
  simp only at g2 g3
  subst g2 g3
  exact PySem.W.kia_tup (kx C) I.kIn (caught_at I hp hz hf) g1 e (fun z => by cases z) fun tk => ⟨.bl b, H, I.tok tk, rfl, q⟩
end
section
variable {X : Cx} {i : Nat} {a Cl : Addr} {oe : Obj} {n x y : Str} {p p1 p2 pos tpos : Pos} {c : V} {u : Value} {b : Bool}
theorem dee_isi (C : ExcC X.K Cl) (hz : Zc (.ref Cl) none oe) (hf : ∃ vs, oe.data = .fields vs) (hp : (a, oe) ∈ X.pn) (hy : PE X (.Name y p2) (tC c)) (kc : ClsV c u) (hk : PySem.W.kitOne X.K (.ref Cl) u = some b) (hm : X.mg x = none) (hi : X.N[i]? = some n := by rfl)
    (hv : bootBuiltins x = some (.builtin "isinstance") := by decide +kernel) (hg : Gl X x := by rfl) (hx : x ≠ "__name__" := by decide) (hdb : (x == ("__debug__" : Str)) = false := by decide)
    (hvi : Vis X.env.scope n := by first | exact Or.inl rfl | exact Or.inr (Or.inl rfl) | exact Or.inr (Or.inr rfl)) (hd : (n == ("__debug__" : Str)) = false := by decide) (hcd : (n == ("__classdict__" : Str)) = false := by decide)
    (s1 : starEach [.Name n p1, .Name y p2] X.env = (false, eval (.Name n p1) X.env) :: starEach [.Name y p2] X.env := by rfl) (s2 : starEach [.Name y p2] X.env = (false, eval (.Name y p2) X.env) :: starEach [] X.env := by rfl) (hpl : (backTo pos (starEach [.Name y p2] X.env)).any (·.1) = false := by rfl) :
    DEe X i a (.Call (.Name x p) [.Name n p1, .Name y p2] [] pos) (tCB (rXi X.K Cl a) (tCons (tVar i) (tCons (tC c) tNil))) (eKn b) :=
  ⟨pe_callB (call_xi C hz hf hp) hg hm hv (pa_cons (pe_var hi hvi hd hcd) (pa_cons hy pa_nil s2) s1) hx hdb s1 hpl, fun B F io σ H ρ d ρ' Q hσ c0 e k => by
    cases e
    exact ⟨.ref a, hσ, c, u, b, rfl, kc, hk, k F H _ (Gr.refl _ _) c0 (.bl b)⟩⟩
theorem dee_isit {tt : TE} {cs : List V} {us : List Value} {te : Expr} (C : ExcC X.K Cl) (hz : Zc (.ref Cl) none oe) (hf : ∃ vs, oe.data = .fields vs) (hp : (a, oe) ∈ X.pn) (ht : PE X te tt) (hT : ∀ (σ : St) (H : Hp) (Q : VK), (∀ q, H q = none → Q (.ref q) (upd H q (.tup cs))) → tt σ H Q) (kc : Paired ClsV cs us) (hk : PySem.W.kitAny X.K (.ref Cl) us = some b) (hm : X.mg x = none) (hi : X.N[i]? = some n := by rfl)
    (hv : bootBuiltins x = some (.builtin "isinstance") := by decide +kernel) (hg : Gl X x := by rfl) (hx : x ≠ "__name__" := by decide) (hdb : (x == ("__debug__" : Str)) = false := by decide)
    (hvi : Vis X.env.scope n := by first | exact Or.inl rfl | exact Or.inr (Or.inl rfl) | exact Or.inr (Or.inr rfl)) (hd : (n == ("__debug__" : Str)) = false := by decide) (hcd : (n == ("__classdict__" : Str)) = false := by decide)
    (s1 : starEach [.Name n p1, te] X.env = (false, eval (.Name n p1) X.env) :: starEach [te] X.env := by rfl) (s2 : starEach [te] X.env = (false, eval te X.env) :: starEach [] X.env := by rfl) (hpl : (backTo pos (starEach [te] X.env)).any (·.1) = false := by rfl) :
    DEe X i a (.Call (.Name x p) [.Name n p1, te] [] pos) (tCB (rXt X.K Cl a) (tCons (tVar i) (tCons tt tNil))) (eKn b) :=
  ⟨pe_callB (call_xt C hz hf hp) hg hm hv (pa_cons (pe_var hi hvi hd hcd) (pa_cons ht pa_nil s2) s1) hx hdb s1 hpl, fun B F io σ H ρ d ρ' Q hσ c0 e k => by
    cases e
    refine ⟨.ref a, hσ, hT σ H _ fun q nn => ?_⟩
    have al := Al.laid (o := .tup cs) c0.frz nn
    exact ⟨q, cs, us, b, rfl, upd_same, kc, hk, k _ _ _ (al.gr c0.base) (c0.al al) (.bl b)⟩⟩
end
/-! ### try: y = f(..) / except X as n: .. return .. -/
theorem con_dead {K : PySem.W.Frag} {B F : Hp} {io : List (Nat × Addr)} {σ : St} {H : Hp} {ρ : En} (c : Con K B F io σ H ρ) {i : Nat} (v : Option V) (hi : i ∉ io.map (·.1)) : Con K B F io (σ.set i v) H (ρ.set i .dead) := by
  have own_ne : ∀ {j : Nat} {e : Cell}, (ρ.set i .dead)[j]? = some e → isOwn e = true → i ≠ j ∧ ρ[j]? = some e := fun {j e} h o => by
    by_cases q : i = j
    · subst q
      rw [List.getElem?_set] at h
      rw [if_pos rfl] at h
      split at h
      · cases h; cases o
      · cases h
    · rw [List.getElem?_set_ne q] at h
      exact ⟨q, h⟩
  refine ⟨by rw [List.length_set, List.length_set]; exact c.len, c.base, c.frz, fun j e h => ?_, fun j k e f b h1 h2 o1 o2 s1 s2 => ?_, fun p hp => ?_⟩
  · by_cases q : i = j
    · subst q
      have hlt := (List.getElem?_eq_some_iff.mp h).1
      rw [List.length_set] at hlt
      rw [List.getElem?_set_self hlt] at h
      cases h
      exact ⟨v, List.getElem?_set_self (by rw [c.len]; exact hlt), trivial⟩
    · rw [List.getElem?_set_ne q] at h ⊢
      exact c.cell j e h
  · obtain ⟨q1, g1⟩ := own_ne h1 o1
    obtain ⟨q2, g2⟩ := own_ne h2 o2
    rw [List.getElem?_set_ne q1] at s1
    rw [List.getElem?_set_ne q2] at s2
    exact c.sep j k e f b g1 g2 o1 o2 s1 s2
  · have hne : i ≠ p.1 := fun z => hi (List.mem_map.mpr ⟨p, hp, z.symm⟩)
    rw [List.getElem?_set_ne hne]
    exact c.io p hp
def sTry (j i : Nat) (m : FnX) (fa : FA) (fs : FS) : FS := fun ρ => (fa ρ).bind fun p => (m p.1).bind fun b => if b = true then (if i < p.2.length then (fs (p.2.set i .dead)).bind fun o => match o with
  | .rt c ρ' => some (.rt c ρ')
  | _ => none else none) else some (.nx (p.2.set j (.sh .none)))
theorem takes_no {X : Cx} : L2N.Takes X (fun _ _ _ _ => False) := fun u s' h => by
  obtain ⟨_, _, _, _, _, _, _, _, _, _, _, _, _, _, _, _, w⟩ := h
  exact w.elim
section
variable {X : Cx} {L : List Nat} {j i k : Nat} {g y n cl : Str} {ps : List Str} {Cl Bc : Addr} {m : FnX} {e : Expr} {es : List Expr} {ta : List (Addr × Obj) → (Value → Shared → Prop) → TA} {fa : FA} {b₀ : Stmt} {suite : List Stmt} {fs : FS} {ts : Addr → Obj → List (Addr × Obj) → TS} {p pc py np pos pos' pos2 : Pos}
open Classical in
theorem ds_try (hs : X.stack = X.env :: X.outer) (hf : X.env.frame = some X.env.locals) (hN : X.N.Nodup) (hr : Room k X.A) (F : CalX X.prog X.w X.K X.mg X.base k g ps Cl m) (hn : aLen fa ps.length) (hcl : Names X cl (.ref Bc)) (hex : PySem.W.exmOne X.K (.ref Cl) (.ref Bc) = some true)
    (ha : ∀ (pn : List (Addr × Obj)) (xe : Value → Shared → Prop), DA (X.tr pn xe) (e :: es) (ta pn xe) fa)
    (hsu : ∀ (a : Addr) (oe : Obj) (pn : List (Addr × Obj)), L2N.Zn (.ref Cl) none oe → (∃ vs, oe.data = .fields vs) → DSe (X.suite a ((a, oe) :: pn)) L i a (b₀ :: suite) (ts a oe pn) fs)
    (hta : ∀ pn xe, ta pn xe = ta [] X.xe := by exact fun _ _ => rfl) (hts : ∀ a oe pn, ts a oe pn = ts a { cls := .ref Cl, data := .fields #[.none, .none, .none] } [] := by exact fun _ _ _ => rfl)
    (hi : X.N[i]? = some n := by rfl) (hln : X.env.kindOf n = some .local := by rfl) (hj : X.N[j]? = some y := by rfl) (hjl : j ∉ L := by decide) (hil : i ∉ L := by decide) (hy : Loc X.env.scope y := by first | exact Or.inl rfl | exact Or.inr rfl)
    (hsw : swapsWith (.Call (.Name g p) (e :: es) [] pc) (some (.Name y py)) pos.line X.env = pure false := by rfl) (hfy : X.fn y = true ∨ X.env.scope.names.lookup y = some .local := by first | exact .inl rfl | exact .inr rfl)
    (hg : Gl X g := by rfl) (hdb : (g == ("__debug__" : Str)) = false := by decide) (he : starEach (e :: es) X.env = (false, eval e X.env) :: starEach es X.env := by rfl) (hpl : (backTo pc (starEach es X.env)).any (·.1) = false := by rfl) :
    ∃ t, DS X L (.Try [.Assign [.Name y py] (.Call (.Name g p) (e :: es) [] pc) pos] [.ExceptHandler (some (.Name cl np)) (some n) (b₀ :: suite) pos'] [] [] pos2) t (sTry j i m fa fs) := by
  obtain ⟨f, fd, Fn, hm, hk, hb⟩ := F.ex
  refine ⟨_, L2N.ps_try_as (i := i) (c := .ref Bc) (ts := fun a cls d => if cls = .ref Cl ∧ d = none then ts a { cls := .ref Cl, data := .fields #[.none, .none, .none] } [] else fun _ _ _ => False) (Wout := fun _ _ _ _ => False)
    (tb := fun W => tAsg (tCallS (fun vs H Q E => vs.length = ps.length ∧ spX X.K Cl m vs H Q E) (WE W) (ta [] X.xe)) (gName j)) hs hf hN hi hln hcl takes_no (fun W pn xe tk _ => pss_one (ps_set (X := X.tr pn xe) hN hj hy (pe_callS (X := X.tr pn xe) Fn hr hg hm hk hb (fun σ => L2N.passAt tk σ) (hta pn xe ▸ (ha pn xe).pe) hdb he hpl) hsw hfy)) (fun a oe cls d pn hz hfl => ?_), ?_⟩
  · by_cases hc : cls = .ref Cl ∧ d = none
    · rw [if_pos hc]
      obtain ⟨rfl, rfl⟩ := hc
      rw [← hts a oe pn]
      exact (hsu a oe pn hz hfl).pe
    · rw [if_neg hc]
      exact ⟨fun _ _ _ _ _ _ z => z.elim⟩
  · intro B F0 io σ H ρ o Dn hL c h post
    obtain ⟨⟨ds, ρ1⟩, e1, h⟩ := Option.bind_eq_some_iff.mp h
    obtain ⟨b, e2, h⟩ := Option.bind_eq_some_iff.mp h
    refine (ha [] X.xe).se B F0 io σ H ρ ds ρ1 _ c e1 fun F1 H1 vs g1 c1 d1 => ?_
    refine ⟨by rw [d1.length]; exact hn _ _ _ e1, F1, ds, b, c1.frz, d1, e2, fun hb F' H' al => ?_, fun hb F' H' al => ?_⟩
    · rw [hb, if_neg Bool.false_ne_true] at h
      cases h
      exact post F' _ H' (g1.trans (al.gr c1.base)) ((c1.al al).set_sh (by rw [hL]; exact hjl) .non)
    · rw [hb, if_pos rfl] at h
      by_cases hlt : i < ρ1.length
      · have h : (if i < ρ1.length then (fs (ρ1.set i .dead)).bind fun o => match o with | .rt c ρ' => some (.rt c ρ') | _ => none else none) = some o := h
        rw [if_pos hlt] at h
        obtain ⟨o1, e3, h⟩ := Option.bind_eq_some_iff.mp h
        refine ⟨true, hex, fun _ a na => ?_, fun z => by cases z⟩
        show (if Value.ref Cl = .ref Cl ∧ (none : Option Addr) = none then ts a { cls := .ref Cl, data := .fields #[.none, .none, .none] } [] else fun _ _ _ => False) _ _ _
        rw [if_pos ⟨rfl, rfl⟩]
        have c2 := con_dead (c1.al al) (some (.ref a)) (by rw [hL]; exact hil)
        have hσ : HasE i a (σ.set i (some (.ref a))) := List.getElem?_set_self (by rw [c1.len]; exact hlt)
        have hz : L2N.Zn (.ref Cl) none ({ cls := .ref Cl, data := .fields #[.none, .none, .none] } : Obj) := ⟨rfl, rfl, fun vs h => by cases h; rfl⟩
        have se := (hsu a _ [] hz ⟨_, rfl⟩).se
        have gg := g1.trans (al.gr c1.base)
        cases o1 with
        | rt c' ρ' =>
          cases h
          exact se B F' io _ H' _ _ _ hσ hL c2 e3 fun F2 σ2 H2 v g2 c3 r => post F2 σ2 H2 v (gg.trans g2) c3 r
        | nx ρ' => cases h
        | bk ρ' => cases h
        | ct ρ' => cases h
      · have h : (if i < ρ1.length then (fs (ρ1.set i .dead)).bind fun o => match o with | .rt c ρ' => some (.rt c ρ') | _ => none else none) = some o := h
        rw [if_neg hlt] at h
        cases h
end
end L2.Pd

namespace L2.Pd
open PySem PySem.Spec PyProof.Rows L2 L2H HotX
/-! ## a def that is asked of the exception within the suite -/
/-- x(e) hands back b, e the exception of the class Cl that is handled -/
def RunE (P : Program) (w : World) (K : PySem.W.Frag) (mg : Str → Option Value) (base : Heap) (k : Nat) (f : Addr) (fd : FuncData) (v : Str) (Cl : Addr) (b : Bool) : Prop :=
  ∀ (A : Around) (stk : List Env) (s : Shared) (F H : Hp) (args : Args) (u : Value) (Q : VK) (E : XK) (ex : Addr × Obj), RoomH k A → Hot1 A ex → PinOk stk H s ex → L2N.Zn (.ref Cl) none ex.2 → Env0 P w K mg base A stk s H → BindsTo s fd args [(v, u)] → u = .ref ex.1 → Same F H →
    (∀ F' H', Al F H F' H' → Q (.bl b) H') → codeAny (model P w) A (.call (.ref f) args) (CR CX0 stk P w H s Q E) s
structure CalE (P : Program) (w : World) (K : PySem.W.Frag) (mg : Str → Option Value) (base : Heap) (k : Nat) (x v : Str) (Cl : Addr) (b : Bool) : Prop where
  ex : ∃ (f : Addr) (fd : FuncData), RunE P w K mg base k f fd v Cl b ∧ mg x = some (.ref f) ∧ PySem.W.keepIn K (.ref f) = true ∧ Binds K fd [v] []
section
variable {P : Program} {w : World} {K : PySem.W.Frag} {mg : Str → Option Value} {base : Heap}
theorem con_dead0 {F H : Hp} {a : Addr} {N : List Str} (hN : 1 ≤ N.length) (sm : Same F H) : Con K H F [] (L2.start N [.ref a]) H (List.replicate N.length Cell.dead) := by
  have hl : (L2.start N [V.ref a]).length = N.length := by
    unfold L2.start
    simp
    omega
  refine ⟨by rw [hl, List.length_replicate], Same.refl H, sm, fun i c hc => ?_, fun i j c e z h1 _ o1 => ?_, fun p hp => absurd hp List.not_mem_nil⟩
  · have hlt := (List.getElem?_eq_some_iff.mp hc).1
    rw [List.length_replicate] at hlt
    have e := List.eq_of_mem_replicate (List.mem_of_getElem? hc)
    exact ⟨_, List.getElem?_eq_getElem (by rw [hl]; exact hlt), by rw [e]; trivial⟩
  · rw [List.eq_of_mem_replicate (List.mem_of_getElem? h1)] at o1
    cases o1
theorem pde_cal {x v : Str} {st : Stmt} {N : List Str} {k : Nat} {Cl : Addr} {b : Bool} {body : FS} {ρe : En} (S : Src K mg x st [v]) (Sc : FnScope N [v] (defScope st)) (hN : 1 ≤ N.length)
    (hrun : body (List.replicate N.length Cell.dead) = some (.rt (.sh (.bool b)) ρe))
    (hbody : ∀ (f : Addr) (cdv : Value) (A : Around) (stk : List Env) (s : Shared) (H : Hp) (E : XK) (ex : Addr × Obj), Hot1 A ex → L2N.Zn (.ref Cl) none ex.2 → (∃ vs, ex.2.data = .fields vs) →
      ∃ t, DSe (cxH CX0 P w K mg base N x (defScope st) f cdv A stk s H E ex) [] 0 ex.1 (defBody st) t body) : CalE P w K mg base (k + 1) x v Cl b := by
  obtain ⟨f, fd, Fn, hm, hb⟩ := S.ex
  refine ⟨f, fd, ?_, hm, Fn.kp, hb⟩
  obtain ⟨oc, od, kV, doc, pm, an, cdv, ct, osl, rfl, look, code⟩ := Fn.ex
  intro A stk s F H args u Q E ex room hot pin zn en bd hu sm hq
  have stay : ∀ z o, base.get? z = some o → s.heap.get? z = some o := fun z o q => (en.bs z o q).1
  have inK := en.mod.kin.keeps stay
  have nolim := en.mod.nolimit.keeps stay
  have kinds : ∀ y ∈ [(v, u)], (defScope st).names.lookup y.1 = some .local ∨ ((defScope st).names.lookup y.1 = some .cell ∧ ((cellsFrom (s.heap.objs.size + 1) (defScope st).names []).lookup y.1).isSome = true) := fun y hy => by
    rw [List.mem_singleton] at hy
    subst hy
    exact (Sc.par v List.mem_cons_self).imp id fun q => ⟨q, PySem.W.cellsFrom_some _ _ _ (.inl q)⟩
  refine codeAny_call_function room.depth (inK _ _ look) rfl Sc.co Sc.gen rfl (PySem.W.codeRec_of inK code) (bd _ _ _ _ ?_)
  refine wpAny_newFunctionEnv_cells Sc.kind kinds fun env q s1 ic => ?_
  subst q
  refine ⟨nolim.keeps ic.toInCall.keep, codeAny_func ?_⟩
  obtain ⟨t, pe, se⟩ := hbody f cdv A stk s H E ex hot zn (by obtain ⟨vs, q, _⟩ := hot.2; exact ⟨vs, q⟩)
  have I : Inv (cxH CX0 P w K mg base N x (defScope st) f cdv A stk s H E ex) [] (L2.start N [.ref ex.1]) H s1 := inv_startH Sc pin en rfl (.cons hu .nil) ic
  have hσ : HasE 0 ex.1 (L2.start N [.ref ex.1]) := by
    unfold HasE L2.start
    rfl
  have rd := se H F [] _ H _ _ { nx := fun _ H' => Q .non H', rt := Q } hσ rfl (con_dead0 hN sm) hrun fun F' σ' H' z gr cn r => by
    cases r
    exact hq F' H' ⟨gr.sub, cn.base, cn.frz, gr.new⟩
  refine wpAny_mono (pe.run [] s1 _ H _ I rd) (fun fl s' hs => ?_) fun _ _ z => z
  cases fl with
  | ret y =>
    obtain ⟨z, σ2, H2, J, rv, q⟩ := hs
    exact ⟨z, H2, J.os, J.bare, J.base, J.hok, rv, q⟩
  | next =>
    obtain ⟨σ2, H2, J, q⟩ := hs
    exact ⟨V.non, H2, J.os, J.bare, J.base, J.hok, rfl, q⟩
  | brk => obtain ⟨_, _, _, q⟩ := hs; exact q.elim
  | cont => obtain ⟨_, _, _, q⟩ := hs; exact q.elim
end
section
variable {X : Cx} {i k : Nat} {a Cl : Addr} {oe : Obj} {n x v : Str} {b : Bool} {p p1 pos : Pos}
theorem hot_suite {pn : List (Addr × Obj)} (hz : L2N.Zn (.ref Cl) none oe) (hf : ∃ vs, oe.data = .fields vs) : Hot1 (X.suite a ((a, oe) :: pn)).A (a, oe) := by
  obtain ⟨vs, h⟩ := hf
  exact ⟨rfl, vs, h, hz.2.2 vs h⟩
theorem roomH_suite {pn : List (Addr × Obj)} (r : Room k X.A) : RoomH k (X.suite a ((a, oe) :: pn)).A := ⟨r.dp, r.un⟩
def tHotE (i : Nat) (a : Addr) (b : Bool) : TE := fun σ H Q => tCons (tVar i) tNil σ H fun vs H1 => vs = [V.ref a] ∧ ∃ F, Same F H1 ∧ ∀ F' H', Al F H1 F' H' → Q (.bl b) H'
theorem dee_call (F : CalE X.prog X.w X.K X.mg X.base k x v Cl b) (hr : RoomH k X.A) (hz : L2N.Zn (.ref Cl) none oe) (hot : Hot1 X.A (a, oe)) (hp : (a, oe) ∈ X.pn) (hi : X.N[i]? = some n := by rfl) (hg : Gl X x := by rfl) (hdb : (x == ("__debug__" : Str)) = false := by decide)
    (hvi : Vis X.env.scope n := by first | exact Or.inl rfl | exact Or.inr (Or.inl rfl) | exact Or.inr (Or.inr rfl)) (hd : (n == ("__debug__" : Str)) = false := by decide) (hcd : (n == ("__classdict__" : Str)) = false := by decide)
    (s1 : starEach [.Name n p1] X.env = (false, eval (.Name n p1) X.env) :: starEach [] X.env := by rfl) (hpl : (backTo pos (starEach [] X.env)).any (·.1) = false := by rfl) :
    DEe X i a (.Call (.Name x p) [.Name n p1] [] pos) (tHotE i a b) (eKn b) := by
  obtain ⟨f, fd, run, hm, hk, hb⟩ := F.ex
  have arg : PA X [.Name n p1] (tCons (tVar i) tNil) := pa_cons (pe_var hi hvi hd hcd) pa_nil s1
  refine ⟨⟨fun pins s σ H Q I h => ?_⟩, fun B F0 io σ H ρ d ρ' Q hσ c e q => ?_⟩
  · refine wpAny_Call_Name_kw (ld_glob I hg hm ?_ hdb)
    refine PySem.W.callWith_K (h₀ := X.base) I.ok.mod.kin hk (thn (arg.run pos pins s σ H _ I h) fun us s2 ⟨vs, H1, J, r, z, F0, sm, q⟩ => ⟨J.kIn, ?_⟩) s1 hpl
    subst z
    obtain ⟨u0, e0, r0⟩ : ∃ u0, us = [u0] ∧ RelV (V.ref a) u0 := by
      cases r with
      | cons r0 r1 => cases r1; exact ⟨_, rfl, r0⟩
    subst e0
    have at0 := J.pin (a, oe) (List.mem_append_left _ hp)
    have pin : PinOk X.stack H1 s2 (a, oe) := ⟨at0.1, at0.2.1, fun z => (List.mem_cons.mp (J.stkSub a z)).elim at0.2.2.1 at0.2.2.2.1, at0.2.2.2.2⟩
    have bd := hb s2 [u0] J.kIn rfl
    refine wpAny_call (codeAny_mono (run X.A X.stack s2 F0 H1 ⟨[u0], []⟩ u0 Q (fun _ _ _ => False) (a, oe) hr hot pin hz J.env0 bd r0 sm q) fun w3 s3 z => ?_)
    cases w3 with
    | error y => exact (show False from z).elim
    | ok fl =>
      cases fl with
      | ret y => exact J.after z
      | next => exact z.elim
      | brk => exact z.elim
      | cont => exact z.elim
  · cases e
    exact ⟨.ref a, hσ, rfl, F0, c.frz, fun F' H' al => q F' H' _ (al.gr c.base) (c.al al) (.bl b)⟩
end
/-! ## what the written classes tell -/
section
variable {K : PySem.W.Frag} {t : Value} {C : Addr} {T : String} {b : Bool}
theorem kit_self : PySem.W.kitOne K t t = some true := by
  unfold PySem.W.kitOne
  rw [if_pos (beq_self_eq_true t)]
theorem cls_some (h : PySem.W.hasDictIn K C = true) : (PySem.W.clsIn K C).isSome = true := by
  unfold PySem.W.hasDictIn at h
  cases e : PySem.W.clsIn K C with
  | none => rw [e] at h; cases h
  | some _ => rfl
theorem kit_own (h : PySem.W.hasDictIn K C = true) (ht : PySem.W.typeIn K (.ref C) = some (.type "type")) (hs : PySem.W.subIn K t (.ref C) = some b) (hn : (t == .ref C) = false) : PySem.W.kitOne K t (.ref C) = some b := by
  unfold PySem.W.kitOne
  rw [if_neg (by rw [hn]; exact Bool.false_ne_true)]
  show (if ((PySem.W.clsIn K C).isSome && PySem.W.typeIn K (.ref C) == some (.type "type")) = true then PySem.W.subIn K t (.ref C) else none) = _
  rw [cls_some h, ht, if_pos (by simp)]
  exact hs
theorem kit_bt (hs : PySem.W.subIn K (.ref C) (.type T) = some b) (hm : PySem.W.kitMeta T = true := by decide +kernel) : PySem.W.kitOne K (.ref C) (.type T) = some b := by
  unfold PySem.W.kitOne
  rw [if_neg (by exact Bool.false_ne_true)]
  show (if PySem.W.kitMeta T = true then PySem.W.subIn K (.ref C) (.type T) else none) = _
  rw [if_pos hm]
  exact hs
end
end L2.Pd

namespace L2.Pd
open PySem PySem.Spec PyProof.Rows
/-! ## Reckoning: the combinators at a state -/
section
variable {i j n : Nat} {ρ : En} {d : D} {f fa fb fc : FE} {fn gn : FN} {g : D → D → Option D} {g1 : D → Option D} {gN : D → D → Option Cell} {c c2 : FT} {s s2 : FS} {a a2 : FA} {ds : List D} {h : FGs} {tg : FG} {ks : List Nat} {lk : Option Nat} {m : FnS}
@[simp] theorem ev_var : eVar i ρ = (match ρ[i]? with
  | some (.sh d) => some (d, ρ)
  | some (.ol ds) => some (.list ds, ρ.set i (.sh (.list ds)))
  | _ => none) := rfl
@[simp] theorem ev_c : eC d ρ = some (d, ρ) := rfl
@[simp] theorem ev_bin : eBin g fa fb ρ = (fa ρ).bind fun p => (fb p.2).bind fun q => (g p.1 q.1).map fun d => (d, q.2) := rfl
@[simp] theorem ev_binN : eBinN gN fa fb ρ = (fa ρ).bind fun p => (fb p.2).bind fun q => (gN p.1 q.1).map fun d => (d, q.2) := rfl
@[simp] theorem ev_un : eUn g1 fa ρ = (fa ρ).bind fun p => (g1 p.1).map fun d => (d, p.2) := rfl
@[simp] theorem ev_tst : eTst f ρ = (f ρ).bind fun p => (tstD p.1).map fun b => (b, p.2) := rfl
@[simp] theorem ev_tstD {b : Bool} : tstD (.bool b) = some b := rfl
@[simp] theorem ev_tru : eTru f ρ = (f ρ).bind fun p => (truD p.1).map fun b => (b, p.2) := rfl
@[simp] theorem ev_chain {g' : D → D → Option D} : eChain g g' fa fb fc ρ = (fa ρ).bind fun p => (fb p.2).bind fun q => ((g p.1 q.1).bind tstD).bind fun k =>
  if k = true then (fc q.2).bind fun s => (g' q.1 s.1).map fun d => (d, s.2) else some (.bool false, q.2) := rfl
@[simp] theorem ev_and : eAnd c c2 ρ = (c ρ).bind fun p => if p.1 = true then c2 p.2 else some (false, p.2) := rfl
@[simp] theorem ev_or : eOr c c2 ρ = (c ρ).bind fun p => if p.1 = true then some (true, p.2) else c2 p.2 := rfl
@[simp] theorem ev_not : eNot c ρ = (c ρ).map fun p => (!p.1, p.2) := rfl
@[simp] theorem ev_andV : eAndV fa fb ρ = (fa ρ).bind fun p => (truD p.1).bind fun k => if k = true then fb p.2 else some p := rfl
@[simp] theorem ev_orV : eOrV fa fb ρ = (fa ρ).bind fun p => (truD p.1).bind fun k => if k = true then some p else fb p.2 := rfl
@[simp] theorem ev_notV : eNotV fa ρ = (fa ρ).bind fun p => (truD p.1).map fun k => (.bool (!k), p.2) := rfl
@[simp] theorem ev_if : eIf c fa fb ρ = (c ρ).bind fun p => if p.1 = true then fa p.2 else fb p.2 := rfl
@[simp] theorem ev_ifN : eIfN c fn gn ρ = (c ρ).bind fun p => if p.1 = true then fn p.2 else gn p.2 := rfl
@[simp] theorem ev_anil : aNil ρ = some ([], ρ) := rfl
@[simp] theorem ev_acons : aCons f a ρ = (f ρ).bind fun p => (a p.2).map fun q => (p.1 :: q.1, q.2) := rfl
@[simp] theorem ev_tup : eTup a ρ = (a ρ).bind fun p => if p.1.length ≤ sizeLine then some (.tuple p.1, p.2) else none := rfl
@[simp] theorem ev_lst : eLst a ρ = (a ρ).bind fun p => if p.1.length ≤ sizeLine then some (.ol p.1, p.2) else none := rfl
@[simp] theorem ev_frz : eFrz fn ρ = (fn ρ).bind fun p => (frzC p.1).map fun d => (d, p.2) := rfl
@[simp] theorem ev_frzC : frzC (.ol ds) = some (.list ds) := rfl
@[simp] theorem ev_cb {r : List D → Option D} : eCB r a ρ = (a ρ).bind fun p => (r p.1).map fun d => (d, p.2) := rfl
@[simp] theorem ev_cbn {r : List D → Option Cell} : eCBN r a ρ = (a ρ).bind fun p => (r p.1).map fun d => (d, p.2) := rfl
@[simp] theorem ev_call0 : eCall0 m a ρ = (a ρ).bind fun p => (m (p.1.map .sh)).map fun r => (r.1, p.2) := rfl
@[simp] theorem ev_call1 {fr : FR} {i0 : Nat} : eCall1 i0 j m fr ρ = (fr ρ).bind fun p => (p.2[j]?).bind fun c => if isOwn c = true then (m (p.1.map (argC c))).bind fun r => (r.2[i0]?).map fun c' => (r.1, p.2.set j c') else none := rfl
@[simp] theorem ev_rnil : rNil ρ = some ([], ρ) := rfl
@[simp] theorem ev_rcons {r : FR} : rCons f r ρ = (f ρ).bind fun p => (r p.2).map fun q => (some p.1 :: q.1, q.2) := rfl
@[simp] theorem ev_rio {r : FR} : rIo j r ρ = if ownAt ρ j = true then (r ρ).map fun q => (none :: q.1, q.2) else none := rfl
@[simp] theorem ev_argCs {u : Cell} : argC u (some d) = .sh d := rfl
@[simp] theorem ev_argCn {u : Cell} : argC u none = u := rfl
@[simp] theorem ev_retD {k : FC} : eRetD k ρ = (k ρ).bind fun p => (cellD p.1).map fun d => (d, p.2) := rfl
@[simp] theorem ev_retN {k : FC} : eRetN k ρ = (k ρ).bind fun p => (ownC p.1).map fun c => (c, p.2) := rfl
@[simp] theorem ev_cellD : cellD (.sh d) = some d := rfl
@[simp] theorem ev_cellDl : cellD (.ol ds) = some (.list ds) := rfl
@[simp] theorem ev_ownC : ownC (.ol ds) = some (.ol ds) := rfl
@[simp] theorem ev_isOwn1 : isOwn (.ol ds) = true := rfl
@[simp] theorem ev_isOwn2 : isOwn (.sh d) = false := rfl
@[simp] theorem ev_isOwn3 : isOwn .dead = false := rfl
@[simp] theorem ev_ownAt : ownAt ρ i = (match ρ[i]? with | some c => isOwn c | none => false) := rfl
@[simp] theorem ev_seq : sSeq s s2 ρ = (s ρ).bind fun o => match o with
  | .nx ρ' => s2 ρ'
  | o => some o := rfl
@[simp] theorem ev_nx : sNx ρ = some (.nx ρ) := rfl
@[simp] theorem ev_brk : sBrk ρ = some (.bk ρ) := rfl
@[simp] theorem ev_cnt : sCnt ρ = some (.ct ρ) := rfl
@[simp] theorem ev_ret : sRet f ρ = (f ρ).map fun p => .rt (.sh p.1) p.2 := rfl
@[simp] theorem ev_retNw : sRetNew fn ρ = (fn ρ).map fun p => .rt p.1 p.2 := rfl
@[simp] theorem ev_ret0 : sRetN ρ = some (.rt (.sh .none) ρ) := rfl
@[simp] theorem ev_expr : sExpr f ρ = (f ρ).map fun p => .nx p.2 := rfl
@[simp] theorem ev_ifS : sIf c s s2 ρ = (c ρ).bind fun p => if p.1 = true then s p.2 else s2 p.2 := rfl
@[simp] theorem ev_set : sSet i f ρ = (f ρ).map fun p => .nx (p.2.set i (.sh p.1)) := rfl
@[simp] theorem ev_setN : sSetN i fn ρ = (fn ρ).map fun p => .nx (p.2.set i p.1) := rfl
@[simp] theorem ev_gnm : gNm i d ρ = some (ρ.set i (.sh d)) := rfl
@[simp] theorem ev_gnl : gNl [] ρ = some ρ := rfl
@[simp] theorem ev_gcn : gCn tg h (d :: ds) ρ = (tg d ρ).bind (h ds) := rfl
@[simp] theorem ev_gtp : gTp n h (.tuple ds) ρ = if ds.length = n then h ds ρ else none := rfl
@[simp] theorem ev_gtpl : gTp n h (.list ds) ρ = if ds.length = n then h ds ρ else none := rfl
@[simp] theorem ev_sl {fl fh : FO} : eSl f fl fh ρ = (f ρ).bind fun p => (fl p.2).bind fun l => (fh l.2).bind fun h => (dSl p.1 l.1 h.1).map fun d => (d, h.2) := rfl
@[simp] theorem ev_slN {fl fh : FO} : eSlN f fl fh ρ = (f ρ).bind fun p => (fl p.2).bind fun l => (fh l.2).bind fun h => match p.1 with
  | .list ds => some (.ol (cutD ds l.1 h.1), h.2)
  | _ => none := rfl
@[simp] theorem ev_oNone : oNone ρ = some (none, ρ) := rfl
@[simp] theorem ev_oSome : oSome f ρ = (f ρ).bind fun p => (intD p.1).map fun i => (some i, p.2) := rfl
@[simp] theorem dSl_t {lo hi : Option Int} : dSl (.tuple ds) lo hi = some (.tuple (cutD ds lo hi)) := rfl
@[simp] theorem dSl_l {lo hi : Option Int} : dSl (.list ds) lo hi = some (.list (cutD ds lo hi)) := rfl
@[simp] theorem dSl_s {lo hi : Option Int} : dSl (.str x) lo hi = if x.length ≤ sizeLine then some (.str (cutS x lo hi)) else none := rfl
@[simp] theorem dRev_l : dRev (.list ds) = some (.list ds.reverse) := rfl
@[simp] theorem dRev_t : dRev (.tuple ds) = some (.tuple ds.reverse) := rfl
@[simp] theorem dRev_s : dRev (.str x) = if x.length ≤ sizeLine then some (.str (revS x)) else none := rfl
@[simp] theorem ev_revN : eRevN f ρ = (f ρ).bind fun p => match p.1 with
  | .list ds => some (.ol ds.reverse, p.2)
  | _ => none := rfl
@[simp] theorem ev_sm {r : Str → List D → Option D} : eSM r f a ρ = (f ρ).bind fun p => (strD p.1).bind fun z => (a p.2).bind fun q => (r z q.1).map fun d => (d, q.2) := rfl
@[simp] theorem ev_sm0 {r : Str → List D → Option D} : eSM0 r f ρ = (f ρ).bind fun p => (strD p.1).bind fun z => (r z []).map fun d => (d, p.2) := rfl
@[simp] theorem ev_strD : strD (.str x) = some x := rfl
@[simp] theorem ev_lrg {r : FR2} : eLRg r ρ = (r ρ).bind fun p => if rgOk p.1.1 p.1.2 = true then some (.ol (rngD p.1.1 (p.1.2 - p.1.1).toNat), p.2) else none := rfl
@[simp] theorem ev_trg {r : FR2} : eTRg r ρ = (r ρ).bind fun p => if rgOk p.1.1 p.1.2 = true then some (.tuple (rngD p.1.1 (p.1.2 - p.1.1).toNat), p.2) else none := rfl
@[simp] theorem ev_rg3 {fa : FA} : eRg3 fa ρ = (fa ρ).bind fun p => match p.1 with
  | [.int i, .int j, .int c] => if rg3Ok i j c = true then some (.tuple (rngC i c (rg3N i j c)), p.2) else none
  | _ => none := rfl
@[simp] theorem ev_gr1 : gR1 f ρ = (f ρ).bind fun p => (intD p.1).map fun n => ((0, n), p.2) := rfl
@[simp] theorem ev_gr2 : gR2 fa fb ρ = (fa ρ).bind fun p => (fb p.2).bind fun q => (intD p.1).bind fun m => (intD q.1).map fun n => ((m, n), q.2) := rfl
@[simp] theorem ev_tupL : cTuple [.list ds] = some (.tuple ds) := rfl
@[simp] theorem ev_tupT : cTuple [.tuple ds] = some (.tuple ds) := rfl
@[simp] theorem ev_iaddS : dIadd (.str x) (.str y) = if x.length + y.length ≤ sizeLine then some (.str (x ++ y)) else none := rfl
@[simp] theorem ev_get2 {k1 v1 k2 v2 : Str} {fe ff : FE} : eGet2 k1 v1 k2 v2 fe ff ρ = (fe ρ).bind fun p => (ff p.2).bind fun q => (strD p.1).map fun z => (if z = k1 then .str v1 else if z = k2 then .str v2 else q.1, q.2) := rfl
@[simp] theorem ev_mulA {a b : Int} : dMulA (.int a) (.int b) = if mulOk a b = true then some (.int (a * b)) else none := rfl
@[simp] theorem ev_mulAS {b : Int} : dMulA (.str x) (.int b) = if repOk x.length b = true then some (.str (Txt.mul x b)) else none := rfl
@[simp] theorem ev_mulAT {b : Int} : dMulA (.tuple ds) (.int b) = if repOk ds.length b = true then some (.tuple (List.replicate b.toNat ds).flatten) else none := rfl
@[simp] theorem ev_asg : sAsg f tg ρ = (f ρ).bind fun p => (tg p.1 p.2).map .nx := rfl
@[simp] theorem ev_par : sPar i j a ρ = (a ρ).bind fun p => match p.1 with
  | [d, e] => some (.nx ((p.2.set i (.sh d)).set j (.sh e)))
  | _ => none := rfl
@[simp] theorem ev_aug : sAug i g f ρ = (match ρ[i]? with
  | some (.sh d) => (f ρ).bind fun p => (g d p.1).map fun z => .nx (p.2.set i (.sh z))
  | _ => none) := rfl
@[simp] theorem ev_ownL : ownL j ρ = (match ρ[j]? with
  | some (.ol ds) => some ds
  | _ => none) := rfl
@[simp] theorem ev_item {fi fe : FE} : sItem j fi fe ρ = (fe ρ).bind fun p => (ownL j p.2).bind fun _ => (fi p.2).bind fun q => (ownL j q.2).bind fun ds => (intD q.1).bind fun k => (ixN ds.length k).map fun n => .nx (q.2.set j (.ol (ds.set n p.1))) := rfl
@[simp] theorem ev_meth {r : List D → List D → Option (D × List D)} : eMeth j r a ρ = (ownL j ρ).bind fun _ => (a ρ).bind fun p => (ownL j p.2).bind fun ds => (r ds p.1).map fun z => (z.1, p.2.set j (.ol z.2)) := rfl
@[simp] theorem ev_idx {fo : FE} {fa : FA} : eIdx fo fa ρ = (fo ρ).bind fun p => match p.1 with
  | .list ds => (fa p.2).bind fun q => (lIndex ds q.1).map fun z => (z.1, q.2)
  | _ => none := rfl
@[simp] theorem ev_meth0 {r : List D → List D → Option (D × List D)} : eMeth0 j r ρ = (ownL j ρ).bind fun ds => (r ds []).map fun z => (z.1, ρ.set j (.ol z.2)) := rfl
@[simp] theorem ev_for {it : FA} : sFor lk ks it tg s ρ = (it ρ).bind fun p => loopF lk p.1 ks (fun x ρ => (tg x ρ).bind s) p.1 p.2 := rfl
@[simp] theorem ev_isq : iSq f ρ = (f ρ).bind fun p => match p.1 with
  | .list ds => some (ds, p.2)
  | .tuple ds => some (ds, p.2)
  | .str x => some (signsD x, p.2)
  | _ => none := rfl
@[simp] theorem ev_iown : iOwn j ρ = (ownL j ρ).map fun ds => (ds, ρ) := rfl
@[simp] theorem ev_ixOwn {fi : FE} : eIxOwn j fi ρ = (ownL j ρ).bind fun _ => (fi ρ).bind fun q => (ownL j q.2).bind fun ds => (intD q.1).bind fun k => (atI ds k).map fun d => (d, q.2) := rfl
@[simp] theorem ev_lenOwn : eLenOwn j ρ = (ownL j ρ).map fun ds => (.int ds.length, ρ) := rfl
@[simp] theorem ev_intD {z : Int} : intD (.int z) = some z := rfl
@[simp] theorem ev_isi {T : String} : eIsi T f ρ = (f ρ).bind fun p => (kitB (tyN p.1) T).map fun b => (.bool b, p.2) := rfl
@[simp] theorem ev_killn : killL [] ρ = ρ := rfl
@[simp] theorem ev_killc : killL (i :: ks) ρ = killL ks (ρ.set i .dead) := rfl
@[simp] theorem ev_lockn : lockOk none ds ρ = true := rfl
@[simp] theorem ev_cyes : cYes ρ = some (true, ρ) := rfl
end
section
variable {a b : Int} {x y : Str} {ds es : List D}
@[simp] theorem ev_addI : dAddA (.int a) (.int b) = some (.int (a + b)) := rfl
@[simp] theorem ev_addT : dAddA (.tuple ds) (.tuple es) = if ds.length + es.length ≤ sizeLine then some (.tuple (ds ++ es)) else none := rfl
@[simp] theorem ev_addS : dAddA (.str x) (.str y) = if x.length + y.length ≤ sizeLine then some (.str (x ++ y)) else none := rfl
@[simp] theorem ev_addL : dAddA (.list ds) (.list es) = if ds.length + es.length ≤ sizeLine then some (.list (ds ++ es)) else none := rfl
@[simp] theorem ev_iaddI : dIadd (.int a) (.int b) = some (.int (a + b)) := rfl
@[simp] theorem ev_sub : dSub (.int a) (.int b) = some (.int (a - b)) := rfl
@[simp] theorem ev_mul : dMul (.int a) (.int b) = if mulOk a b = true then some (.int (a * b)) else none := rfl
@[simp] theorem ev_fdiv : dFdiv (.int a) (.int b) = if b ≠ 0 ∧ Builtin.divisionGoesByPylong a b = false then some (.int (a.fdiv b)) else none := rfl
@[simp] theorem ev_mod : dMod (.int a) (.int b) = if b ≠ 0 then some (.int (a.fmod b)) else none := rfl
@[simp] theorem ev_neg : dNeg (.int a) = some (.int (-a)) := rfl
@[simp] theorem ev_gtI : bGt (.int a) (.int b) = some (decide (a > b)) := rfl
@[simp] theorem ev_ltI : bLt (.int a) (.int b) = some (decide (a < b)) := rfl
@[simp] theorem ev_geI : bGe (.int a) (.int b) = some (decide (a ≥ b)) := rfl
@[simp] theorem ev_leI : bLe (.int a) (.int b) = some (decide (a ≤ b)) := rfl
theorem ev_eq {d e : D} (h : okD d = true) (h2 : okD e = true) : bEq d e = some (PyData.eqv d e) := by unfold bEq; rw [h, h2]; rfl
@[simp] theorem ev_abs : cAbs [.int a] = some (.int (if a < 0 then -a else a)) := rfl
@[simp] theorem ev_int : cInt [.int a] = some (.int a) := rfl
@[simp] theorem ev_intB {k : Bool} : cInt [.bool k] = some (.int (if k then 1 else 0)) := rfl
@[simp] theorem ev_max2 : cMax2 [.int a, .int b] = some (.int (if b > a then b else a)) := rfl
@[simp] theorem ev_min2 : cMin2 [.int a, .int b] = some (.int (if b < a then b else a)) := rfl
@[simp] theorem ev_ixT : dIx (.tuple ds) (.int a) = atI ds a := rfl
@[simp] theorem ev_ixL : dIx (.list ds) (.int a) = atI ds a := rfl
@[simp] theorem ev_truB {k : Bool} : truD (.bool k) = some k := rfl
end
/-! ### equality of data -/
section
variable {a b : Int} {p q : Bool} {x y : Str} {d e : D} {ds es : List D}
theorem ev_okD : okD d = (d.canLay0 && decide (d.depth ≤ 64)) := rfl
@[simp] theorem ev_eqI : bEq (.int a) (.int b) = some (a == b) := rfl
@[simp] theorem ev_neI : bNe (.int a) (.int b) = some (!(a == b)) := rfl
@[simp] theorem ev_eqB : bEq (.bool p) (.bool q) = some (p == q) := rfl
@[simp] theorem ev_eqNN : bEq .none .none = some true := rfl
@[simp] theorem cl_int : (PyData.int a).canLay0 = true := rfl
@[simp] theorem cl_bool : (PyData.bool p).canLay0 = true := rfl
@[simp] theorem cl_none : PyData.none.canLay0 = true := rfl
@[simp] theorem cl_str : (PyData.str x).canLay0 = PyData.strOk x := rfl
@[simp] theorem cl_tup : (PyData.tuple ds).canLay0 = PyData.canLayAll0 ds := rfl
@[simp] theorem cl_lst : (PyData.list ds).canLay0 = PyData.canLayAll0 ds := rfl
@[simp] theorem cl_nil : PyData.canLayAll0 [] = true := rfl
@[simp] theorem cl_cons : PyData.canLayAll0 (d :: ds) = (d.canLay0 && PyData.canLayAll0 ds) := rfl
@[simp] theorem dp_int' : (PyData.int a).depth = 0 := rfl
@[simp] theorem dp_bool' : (PyData.bool p).depth = 0 := rfl
@[simp] theorem dp_none' : PyData.none.depth = 0 := rfl
@[simp] theorem dp_str' : (PyData.str x).depth = 0 := rfl
@[simp] theorem dp_tup' : (PyData.tuple ds).depth = PyData.depthAll ds + 1 := rfl
@[simp] theorem dp_lst' : (PyData.list ds).depth = PyData.depthAll ds + 1 := rfl
@[simp] theorem dp_nil' : PyData.depthAll [] = 0 := rfl
@[simp] theorem dp_cons' : PyData.depthAll (d :: ds) = max d.depth (PyData.depthAll ds) := rfl
@[simp] theorem eqv_II : PyData.eqv (.int a) (.int b) = (a == b) := rfl
@[simp] theorem eqv_TT : PyData.eqv (.tuple ds) (.tuple es) = PyData.eqvAll ds es := rfl
@[simp] theorem eqv_LL : PyData.eqv (.list ds) (.list es) = PyData.eqvAll ds es := rfl
@[simp] theorem eqv_SS : PyData.eqv (.str x) (.str y) = (x == y) := rfl
@[simp] theorem eqv_NN : PyData.eqv .none .none = true := rfl
@[simp] theorem eqv_BB : PyData.eqv (.bool p) (.bool q) = (p == q) := rfl
@[simp] theorem eqv_nn : PyData.eqvAll [] [] = true := rfl
@[simp] theorem eqv_cc : PyData.eqvAll (d :: ds) (e :: es) = (PyData.eqv d e && PyData.eqvAll ds es) := rfl
@[simp] theorem eqv_nc : PyData.eqvAll [] (e :: es) = false := rfl
@[simp] theorem eqv_cn : PyData.eqvAll (d :: ds) [] = false := rfl
theorem ev_eqR (h : okD d = true) : bEq d d = some true := by
  rw [ev_eq h h, SeqAt.eqv_refl d (by rw [ev_okD, Bool.and_eq_true] at h; exact h.1)]
theorem ev_neR (h : okD d = true) : bNe d d = some false := by
  unfold bNe
  rw [h, SeqAt.eqv_refl d (by rw [ev_okD, Bool.and_eq_true] at h; exact h.1)]
  rfl
@[simp] theorem ev_isn : bIsN d .none = some (isNone d) := rfl
@[simp] theorem ev_nisn : bNotN d .none = some (!isNone d) := rfl
@[simp] theorem nn_i : isNone (.int a) = false := rfl
@[simp] theorem nn_t : isNone (.tuple ds) = false := rfl
@[simp] theorem nn_s : isNone (.str x) = false := rfl
@[simp] theorem nn_n : isNone .none = true := rfl
@[simp] theorem nn_b : isNone (.bool p) = false := rfl
@[simp] theorem nn_l : isNone (.list ds) = false := rfl
@[simp] theorem atI0 {α : Type} {u : α} {r : List α} : atI (u :: r) 0 = some u := atI_nat (j := 0) rfl
@[simp] theorem atI1 {α : Type} {u v : α} {r : List α} : atI (u :: v :: r) 1 = some v := atI_nat (j := 1) rfl
@[simp] theorem atI2 {α : Type} {u v w : α} {r : List α} : atI (u :: v :: w :: r) 2 = some w := atI_nat (j := 2) rfl
@[simp] theorem atI3 {α : Type} {u v w z : α} {r : List α} : atI (u :: v :: w :: z :: r) 3 = some z := atI_nat (j := 3) rfl
@[simp] theorem cLen_l : cLen [.list ds] = some (.int ds.length) := rfl
@[simp] theorem cLen_s : cLen [.str x] = if x.length ≤ sizeLine then some (.int x.length) else none := rfl
@[simp] theorem cLen_t : cLen [.tuple ds] = some (.int ds.length) := rfl
end
/-! ### isinstance -/
@[simp] theorem kit_int_bool {a : Int} : kitB (tyN (.int a)) "bool" = some false := by show kitB "int" "bool" = _; decide +kernel
@[simp] theorem kit_int_int {a : Int} : kitB (tyN (.int a)) "int" = some true := by show kitB "int" "int" = _; decide +kernel
@[simp] theorem kit_int_str {a : Int} : kitB (tyN (.int a)) "str" = some false := by show kitB "int" "str" = _; decide +kernel
@[simp] theorem kit_int_tuple {a : Int} : kitB (tyN (.int a)) "tuple" = some false := by show kitB "int" "tuple" = _; decide +kernel
@[simp] theorem kit_int_list {a : Int} : kitB (tyN (.int a)) "list" = some false := by show kitB "int" "list" = _; decide +kernel
@[simp] theorem kit_bool_bool {a : Bool} : kitB (tyN (.bool a)) "bool" = some true := by show kitB "bool" "bool" = _; decide +kernel
@[simp] theorem kit_bool_int {a : Bool} : kitB (tyN (.bool a)) "int" = some true := by show kitB "bool" "int" = _; decide +kernel
@[simp] theorem kit_bool_str {a : Bool} : kitB (tyN (.bool a)) "str" = some false := by show kitB "bool" "str" = _; decide +kernel
@[simp] theorem kit_bool_tuple {a : Bool} : kitB (tyN (.bool a)) "tuple" = some false := by show kitB "bool" "tuple" = _; decide +kernel
@[simp] theorem kit_bool_list {a : Bool} : kitB (tyN (.bool a)) "list" = some false := by show kitB "bool" "list" = _; decide +kernel
@[simp] theorem kit_str_bool {a : Str} : kitB (tyN (.str a)) "bool" = some false := by show kitB "str" "bool" = _; decide +kernel
@[simp] theorem kit_str_int {a : Str} : kitB (tyN (.str a)) "int" = some false := by show kitB "str" "int" = _; decide +kernel
@[simp] theorem kit_str_str {a : Str} : kitB (tyN (.str a)) "str" = some true := by show kitB "str" "str" = _; decide +kernel
@[simp] theorem kit_str_tuple {a : Str} : kitB (tyN (.str a)) "tuple" = some false := by show kitB "str" "tuple" = _; decide +kernel
@[simp] theorem kit_str_list {a : Str} : kitB (tyN (.str a)) "list" = some false := by show kitB "str" "list" = _; decide +kernel
@[simp] theorem kit_tup_bool {a : List D} : kitB (tyN (.tuple a)) "bool" = some false := by show kitB "tuple" "bool" = _; decide +kernel
@[simp] theorem kit_tup_int {a : List D} : kitB (tyN (.tuple a)) "int" = some false := by show kitB "tuple" "int" = _; decide +kernel
@[simp] theorem kit_tup_str {a : List D} : kitB (tyN (.tuple a)) "str" = some false := by show kitB "tuple" "str" = _; decide +kernel
@[simp] theorem kit_tup_tuple {a : List D} : kitB (tyN (.tuple a)) "tuple" = some true := by show kitB "tuple" "tuple" = _; decide +kernel
@[simp] theorem kit_tup_list {a : List D} : kitB (tyN (.tuple a)) "list" = some false := by show kitB "tuple" "list" = _; decide +kernel
@[simp] theorem kit_non_bool  : kitB (tyN .none) "bool" = some false := by show kitB "NoneType" "bool" = _; decide +kernel
@[simp] theorem kit_non_int  : kitB (tyN .none) "int" = some false := by show kitB "NoneType" "int" = _; decide +kernel
@[simp] theorem kit_non_str  : kitB (tyN .none) "str" = some false := by show kitB "NoneType" "str" = _; decide +kernel
@[simp] theorem kit_non_tuple  : kitB (tyN .none) "tuple" = some false := by show kitB "NoneType" "tuple" = _; decide +kernel
@[simp] theorem kit_non_list  : kitB (tyN .none) "list" = some false := by show kitB "NoneType" "list" = _; decide +kernel
@[simp] theorem kit_lst_bool {a : List D} : kitB (tyN (.list a)) "bool" = some false := by show kitB "list" "bool" = _; decide +kernel
@[simp] theorem kit_lst_int {a : List D} : kitB (tyN (.list a)) "int" = some false := by show kitB "list" "int" = _; decide +kernel
@[simp] theorem kit_lst_str {a : List D} : kitB (tyN (.list a)) "str" = some false := by show kitB "list" "str" = _; decide +kernel
@[simp] theorem kit_lst_tuple {a : List D} : kitB (tyN (.list a)) "tuple" = some false := by show kitB "list" "tuple" = _; decide +kernel
@[simp] theorem kit_lst_list {a : List D} : kitB (tyN (.list a)) "list" = some true := by show kitB "list" "list" = _; decide +kernel
/-! ### a def's call -/
theorem fn_ret0 {n : Nat} {s : FS} {cs : List Cell} {c : Cell} {ρ' : En} (h : s (cs ++ List.replicate (n - cs.length) .dead) = some (.rt c ρ')) : fnSem n [] s cs = some (c, []) := by
  unfold fnSem
  rw [h]
  rfl
theorem fn_nx0 {n : Nat} {s : FS} {cs : List Cell} {ρ' : En} (h : s (cs ++ List.replicate (n - cs.length) .dead) = some (.nx ρ')) : fnSem n [] s cs = some (.sh .none, []) := by
  unfold fnSem
  rw [h]
  rfl
theorem fn_io0 {n : Nat} {ios : List Nat} {s : FS} {cs : List Cell} {c : Cell} {ρ' : En} (h : s (cs ++ List.replicate (n - cs.length) .dead) = some (.rt c ρ')) (hall : ios.all (ownAt ρ') = true) : fnSem n ios s cs = some (c, ρ'.take (keepN ios cs.length)) := by
  unfold fnSem
  rw [h]
  show (if ios.all (ownAt ρ') = true then _ else _) = _
  rw [if_pos hall]
/-! ### ints as data -/
theorem fn_ret {m : FnS} {n : Nat} {s : FS} [i : FnIs m n [] s] {cs : List Cell} {c : Cell} {ρ' : En} (h : s (cs ++ List.replicate (n - cs.length) .dead) = some (.rt c ρ')) : m cs = some (c, []) := by
  rw [i.eq]; exact fn_ret0 h
theorem fn_nx {m : FnS} {n : Nat} {s : FS} [i : FnIs m n [] s] {cs : List Cell} {ρ' : En} (h : s (cs ++ List.replicate (n - cs.length) .dead) = some (.nx ρ')) : m cs = some (.sh .none, []) := by
  rw [i.eq]; exact fn_nx0 h
theorem fn_io {m : FnS} {n : Nat} {ios : List Nat} {s : FS} [i : FnIs m n ios s] {cs out : List Cell} {c : Cell} {ρ' : En} (h : s (cs ++ List.replicate (n - cs.length) .dead) = some (.rt c ρ')) (hall : ios.all (ownAt ρ') = true) (ho : ρ'.take (keepN ios cs.length) = out) : m cs = some (c, out) := by
  rw [i.eq]; exact (fn_io0 h hall).trans (by rw [ho])
def is (ns : List Int) : List D := ns.map .int
@[simp] theorem is_nil : is [] = [] := rfl
@[simp] theorem is_cons {n : Int} {ns : List Int} : is (n :: ns) = .int n :: is ns := rfl
@[simp] theorem is_len {ns : List Int} : (is ns).length = ns.length := List.length_map _
@[simp] theorem is_app {ns ms : List Int} : is (ns ++ ms) = is ns ++ is ms := List.map_append
theorem is_snoc {ns : List Int} {z : Int} : is ns ++ [.int z] = is (ns ++ [z]) := by simp
theorem is_get {ns : List Int} {i : Nat} : (is ns)[i]? = (ns[i]?).map .int := List.getElem?_map
theorem is_set {ns : List Int} {i : Nat} {n : Int} : (is ns).set i (.int n) = is (ns.set i n) := by unfold is; rw [List.map_set]
theorem is_dl {ns : List Int} : (is ns).dropLast = is ns.dropLast := by unfold is; rw [List.map_dropLast]
theorem is_rev {ns : List Int} : (is ns).reverse = is ns.reverse := by unfold is; rw [List.map_reverse]
theorem atI_in {α : Type} {xs : List α} {i : Int} {x : α} (h0 : 0 ≤ i) (h : xs[i.toNat]? = some x) : atI xs i = some x := by
  obtain ⟨n, rfl⟩ := Int.eq_ofNat_of_zero_le h0
  exact atI_nat h
theorem ixN_in {n : Nat} {i : Int} (h0 : 0 ≤ i) (h : i < n) : ixN n i = some i.toNat := by
  unfold ixN
  rw [if_pos h0, if_pos h]
theorem seq_nx {s s2 : FS} {ρ ρ1 : En} (h : s ρ = some (.nx ρ1)) : sSeq s s2 ρ = s2 ρ1 := by rw [ev_seq, h]; rfl
theorem seq_rt {s s2 : FS} {ρ ρ1 : En} {c : Cell} (h : s ρ = some (.rt c ρ1)) : sSeq s s2 ρ = some (.rt c ρ1) := by rw [ev_seq, h]; rfl
theorem seq_bk {s s2 : FS} {ρ ρ1 : En} (h : s ρ = some (.bk ρ1)) : sSeq s s2 ρ = some (.bk ρ1) := by rw [ev_seq, h]; rfl
theorem seq_ct {s s2 : FS} {ρ ρ1 : En} (h : s ρ = some (.ct ρ1)) : sSeq s s2 ρ = some (.ct ρ1) := by rw [ev_seq, h]; rfl
theorem set_nx {i : Nat} {f : FE} {ρ ρ1 : En} {d : D} (h : f ρ = some (d, ρ1)) : sSet i f ρ = some (.nx (ρ1.set i (.sh d))) := by rw [ev_set, h]; rfl
theorem setN_nx {i : Nat} {f : FN} {ρ ρ1 : En} {c : Cell} (h : f ρ = some (c, ρ1)) : sSetN i f ρ = some (.nx (ρ1.set i c)) := by rw [ev_setN, h]; rfl
theorem if_t {c : FT} {s s2 : FS} {ρ ρ1 : En} (h : c ρ = some (true, ρ1)) : sIf c s s2 ρ = s ρ1 := by rw [ev_ifS, h]; rfl
theorem if_f {c : FT} {s s2 : FS} {ρ ρ1 : En} (h : c ρ = some (false, ρ1)) : sIf c s s2 ρ = s2 ρ1 := by rw [ev_ifS, h]; rfl
theorem ret_nx {f : FE} {ρ ρ1 : En} {d : D} (h : f ρ = some (d, ρ1)) : sRet f ρ = some (.rt (.sh d) ρ1) := by rw [ev_ret, h]; rfl
theorem ev_r1 {a : FA} {ρ ρ1 : En} {n : Int} (h : a ρ = some ([.int n], ρ1)) (h0 : 0 ≤ n) (h1 : n < 4611686018427387904) : iR1 a ρ = some ((List.range n.toNat).map (fun k : Nat => PyData.int (k : Int)), ρ1) := by
  unfold iR1
  rw [h]
  show (if -(2 ^ 62) ≤ n ∧ n < 2 ^ 62 then _ else none) = _
  rw [if_pos ⟨by omega, by omega⟩]
  unfold rngD
  simp
theorem ev_r2 {a : FA} {ρ ρ1 : En} {m n : Int} (h : a ρ = some ([.int m, .int n], ρ1)) (h0 : 0 ≤ m) (h1 : n < 4611686018427387904) (h2 : m < 4611686018427387904) (h3 : 0 ≤ n) : iR2 a ρ = some ((List.range (n - m).toNat).map (fun k : Nat => PyData.int (m + (k : Int))), ρ1) := by
  unfold iR2
  rw [h]
  show (if -(2 ^ 62) ≤ m ∧ m < 2 ^ 62 ∧ -(2 ^ 62) ≤ n ∧ n < 2 ^ 62 then _ else none) = _
  rw [if_pos ⟨by omega, by omega, by omega, by omega⟩]
  rfl
theorem for_nx {it : FA} {tg : FG} {s : FS} {ks : List Nat} {lk : Option Nat} {ρ ρ1 : En} {xs : List D} {o : Option Out} (h : it ρ = some (xs, ρ1)) (h2 : loopF lk xs ks (fun x ρ => (tg x ρ).bind s) xs ρ1 = o) : sFor lk ks it tg s ρ = o := by rw [ev_for, h]; exact h2
theorem mulOk_l {a b : Int} (h : a.natAbs < 18446744073709551616) : mulOk a b = true := by simp [mulOk]; exact .inl (.inl (by omega))
theorem mulOk_r {a b : Int} (h : b.natAbs < 18446744073709551616) : mulOk a b = true := by simp [mulOk]; exact .inl (.inr (by omega))
theorem fmod_abs {a b : Int} (h : 0 < b) : (a.fmod b).natAbs < b.natAbs := by
  have := Int.fmod_nonneg_of_pos a h
  have := Int.fmod_lt_of_pos a h
  omega
/-! ### lending -/
section
variable {i j : Nat} {ρ ρ' : En} {f : FE} {c : Cell} {d e : D} {ds : List D} {ns : List Int}
@[simp] theorem ev_bor : eBor j f ρ = (ownL j ρ).bind fun ds => (f (ρ.set j (.sh (.list ds)))).bind fun p => if noL p.1 = true then (lendB j ds ρ p.2).map fun ρ' => (p.1, ρ') else none := rfl
@[simp] theorem ev_borT {f : FT} : eBorT j f ρ = (ownL j ρ).bind fun ds => (f (ρ.set j (.sh (.list ds)))).bind fun p => (lendB j ds ρ p.2).map fun ρ' => (p.1, ρ') := rfl
@[simp] theorem ev_borN {f : FN} : eBorN j f ρ = (ownL j ρ).bind fun ds => (f (ρ.set j (.sh (.list ds)))).bind fun p => if noLC p.1 = true then (lendB j ds ρ p.2).map fun ρ' => (p.1, ρ') else none := rfl
@[simp] theorem ev_lendB : lendB j ds ρ ρ' = if lentOk (ρ'.set j .dead) ρ = true then some (ρ'.set j (.ol ds)) else none := rfl
@[simp] theorem lent_nil : lentOk [] ρ = true := rfl
@[simp] theorem lent_cons {s : Cell} : lentOk (c :: ρ') (s :: ρ) = ((noLC c || (match c, s :: ρ with | .sh d, .sh e :: _ => beqD d e | _, _ => false)) && lentOk ρ' ρ) := rfl
@[simp] theorem noLC_dead : noLC .dead = true := rfl
@[simp] theorem noLC_sh : noLC (.sh d) = noL d := rfl
@[simp] theorem noLC_ol : noLC (.ol ds) = noLs ds := rfl
@[simp] theorem noL_int {z : Int} : noL (.int z) = true := rfl
@[simp] theorem noL_bool {z : Bool} : noL (.bool z) = true := rfl
@[simp] theorem noL_str {z : Str} : noL (.str z) = true := rfl
@[simp] theorem noL_none : noL .none = true := rfl
@[simp] theorem noL_tup : noL (.tuple ds) = noLs ds := rfl
@[simp] theorem noL_lst : noL (.list ds) = false := rfl
@[simp] theorem noLs_nil : noLs [] = true := rfl
@[simp] theorem noLs_cons : noLs (d :: ds) = (noL d && noLs ds) := rfl
@[simp] theorem noLs_is : noLs (is ns) = true := by
  induction ns with
  | nil => rfl
  | cons n r ih => simp [ih]
@[simp] theorem beqDs_is : beqDs (is ns) (is ns) = true := by
  induction ns with
  | nil => rfl
  | cons n r ih => simp [beqDs, beqD, ih]
@[simp] theorem beqD_lst {es : List D} : beqD (.list ds) (.list es) = beqDs ds es := rfl
end
/-! ### loops -/
theorem loop_cons {lk : Option Nat} {xs0 : List D} {ks : List Nat} {b : D → En → Option Out} {x : D} {r : List D} {ρ ρ' : En} (hl : lockOk lk xs0 (killL ks ρ) = true) (h : b x (killL ks ρ) = some (.nx ρ')) : loopF lk xs0 ks b (x :: r) ρ = loopF lk xs0 ks b r ρ' := by
  conv => lhs; unfold loopF
  rw [if_pos hl, h]
  rfl
theorem loop_cont {lk : Option Nat} {xs0 : List D} {ks : List Nat} {b : D → En → Option Out} {x : D} {r : List D} {ρ ρ' : En} (hl : lockOk lk xs0 (killL ks ρ) = true) (h : b x (killL ks ρ) = some (.ct ρ')) : loopF lk xs0 ks b (x :: r) ρ = loopF lk xs0 ks b r ρ' := by
  conv => lhs; unfold loopF
  rw [if_pos hl, h]
  rfl
theorem loop_brk {lk : Option Nat} {xs0 : List D} {ks : List Nat} {b : D → En → Option Out} {x : D} {r : List D} {ρ ρ' : En} (hl : lockOk lk xs0 (killL ks ρ) = true) (h : b x (killL ks ρ) = some (.bk ρ')) : loopF lk xs0 ks b (x :: r) ρ = some (.nx (killL ks ρ')) := by
  conv => lhs; unfold loopF
  rw [if_pos hl, h]
  rfl
theorem loop_rt {lk : Option Nat} {xs0 : List D} {ks : List Nat} {b : D → En → Option Out} {x : D} {r : List D} {ρ ρ' : En} {c : Cell} (hl : lockOk lk xs0 (killL ks ρ) = true) (h : b x (killL ks ρ) = some (.rt c ρ')) : loopF lk xs0 ks b (x :: r) ρ = some (.rt c ρ') := by
  conv => lhs; unfold loopF
  rw [if_pos hl, h]
  rfl
theorem loop_nil {lk : Option Nat} {xs0 : List D} {ks : List Nat} {b : D → En → Option Out} {ρ : En} (hl : lockOk lk xs0 (killL ks ρ) = true) : loopF lk xs0 ks b [] ρ = some (.nx (killL ks ρ)) := by
  unfold loopF
  rw [if_pos hl]
/-- a loop without a lock by an invariant of the states at its head -/
theorem loop_inv {xs0 : List D} {ks : List Nat} {b : D → En → Option Out} (P : List D → En → Prop) (hstep : ∀ x r ρ, P (x :: r) (killL ks ρ) → ∃ ρ', (b x (killL ks ρ) = some (.nx ρ') ∨ b x (killL ks ρ) = some (.ct ρ')) ∧ P r (killL ks ρ')) :
    ∀ (xs : List D) (ρ : En), P xs (killL ks ρ) → ∃ ρ', loopF none xs0 ks b xs ρ = some (.nx ρ') ∧ P [] ρ' := by
  intro xs
  induction xs with
  | nil => exact fun ρ h => ⟨_, loop_nil rfl, h⟩
  | cons x r ih =>
    intro ρ h
    obtain ⟨ρ', h1, h2⟩ := hstep x r ρ h
    obtain ⟨ρ2, h3, h4⟩ := ih ρ' h2
    refine ⟨ρ2, ?_, h4⟩
    rcases h1 with h1 | h1
    · rw [loop_cons rfl h1, h3]
    · rw [loop_cont rfl h1, h3]
/-- the piece goes on, and then .. -/
def nxt (o : Option Out) (Q : En → Prop) : Prop := match o with
  | some (.nx ρ) => Q ρ
  | some (.ct ρ) => Q ρ
  | _ => False
@[simp] theorem nxt_nx {ρ : En} {Q : En → Prop} : nxt (some (.nx ρ)) Q = Q ρ := rfl
@[simp] theorem nxt_ct {ρ : En} {Q : En → Prop} : nxt (some (.ct ρ)) Q = Q ρ := rfl
theorem nxt_elim {o : Option Out} {Q : En → Prop} (h : nxt o Q) : ∃ ρ, (o = some (.nx ρ) ∨ o = some (.ct ρ)) ∧ Q ρ := by
  unfold nxt at h
  split at h
  · exact ⟨_, .inl rfl, h⟩
  · exact ⟨_, .inr rfl, h⟩
  · exact h.elim
/-- the same over typed items -/
theorem loop_invA {α : Type} (inj : α → D) {xs0 : List D} {ks : List Nat} {b : D → En → Option Out} (P : List α → En → Prop) (hstep : ∀ y r ρ, P (y :: r) (killL ks ρ) → ∃ ρ', (b (inj y) (killL ks ρ) = some (.nx ρ') ∨ b (inj y) (killL ks ρ) = some (.ct ρ')) ∧ P r (killL ks ρ')) :
    ∀ (ys : List α) (ρ : En), P ys (killL ks ρ) → ∃ ρ', loopF none xs0 ks b (ys.map inj) ρ = some (.nx ρ') ∧ P [] ρ' := by
  intro ys
  induction ys with
  | nil => exact fun ρ h => ⟨_, loop_nil rfl, h⟩
  | cons y r ih =>
    intro ρ h
    obtain ⟨ρ', h1, h2⟩ := hstep y r ρ h
    obtain ⟨ρ2, h3, h4⟩ := ih ρ' h2
    refine ⟨ρ2, ?_, h4⟩
    rw [List.map_cons]
    rcases h1 with h1 | h1
    · rw [loop_cons rfl h1, h3]
    · rw [loop_cont rfl h1, h3]
theorem loop_invN {α : Type} (inj : α → D) {xs0 : List D} {ks : List Nat} {b : D → En → Option Out} (P : List α → En → Prop) (hstep : ∀ y r ρ, P (y :: r) ρ → nxt (b (inj y) ρ) (fun ρ' => P r (killL ks ρ')))
    (ys : List α) (ρ : En) (h : P ys (killL ks ρ)) : ∃ ρ', loopF none xs0 ks b (ys.map inj) ρ = some (.nx ρ') ∧ P [] ρ' :=
  loop_invA inj P (fun y r ρ h => nxt_elim (hstep y r _ h)) ys ρ h
/-- a loop whose every turn leaves the state at the head as it was: a row of checks -/
theorem loop_same {α : Type} (inj : α → D) {xs0 : List D} {ks : List Nat} {b : D → En → Option Out} {ρ0 : En} (ys : List α) (h : ∀ y ∈ ys, ∃ ρ', (b (inj y) ρ0 = some (.nx ρ') ∨ b (inj y) ρ0 = some (.ct ρ')) ∧ killL ks ρ' = ρ0) :
    ∀ {ρ : En}, killL ks ρ = ρ0 → loopF none xs0 ks b (ys.map inj) ρ = some (.nx ρ0) := by
  induction ys with
  | nil => intro ρ e; rw [List.map_nil, loop_nil rfl, e]
  | cons y r ih =>
    intro ρ e
    obtain ⟨ρ', h1, h2⟩ := h y (List.mem_cons_self ..)
    rw [List.map_cons]
    rcases h1 with h1 | h1
    · rw [loop_cons rfl (by rw [e]; exact h1), ih (fun z hz => h z (List.mem_cons_of_mem _ hz)) h2]
    · rw [loop_cont rfl (by rw [e]; exact h1), ih (fun z hz => h z (List.mem_cons_of_mem _ hz)) h2]
/-! ### comprehensions -/
theorem comp_mapF {α : Type} (inj : α → D) (p : α → Bool) (F : α → D) {xs0 : List D} {vs : List Nat} {g : FG} {c : FT} {e : FE} {ρ0 : En} : ∀ (ys : List α) (acc : List D) (ρ : En), killL vs ρ = ρ0 → acc.length + ys.length ≤ sizeLine →
    (∀ y ∈ ys, ∃ ρ1 ρ2, g (inj y) ρ0 = some ρ1 ∧ c ρ1 = some (p y, ρ2) ∧ (p y = false → killL vs ρ2 = ρ0) ∧ (p y = true → ∃ ρ3, e ρ2 = some (F y, ρ3) ∧ killL vs ρ3 = ρ0)) →
    compG none xs0 vs g (stp c e) (ys.map inj) acc ρ = some (acc ++ (ys.filter p).map F, ρ0) := by
  intro ys
  induction ys with
  | nil =>
    intro acc ρ e0 _ _
    rw [List.map_nil]
    unfold compG
    rw [if_pos ev_lockn, e0]
    simp
  | cons y r ih =>
    intro acc ρ e0 hl h
    rw [List.length_cons] at hl
    obtain ⟨ρ1, ρ2, h1, h2, h3, h4⟩ := h y (List.mem_cons_self ..)
    have hr := fun z hz => h z (List.mem_cons_of_mem _ hz)
    rw [List.map_cons]
    unfold compG
    rw [if_pos ev_lockn, e0, h1]
    show (stp c e acc ρ1).bind _ = _
    unfold stp
    rw [h2]
    show ((if p y = true then _ else _) : Option (List D × En)).bind _ = _
    cases hp : p y with
    | false =>
      rw [if_neg Bool.false_ne_true]
      show compG none xs0 vs g (stp c e) (r.map inj) acc ρ2 = _
      rw [ih acc ρ2 (h3 hp) (by omega) hr, List.filter_cons_of_neg (by rw [hp]; exact Bool.false_ne_true)]
    | true =>
      obtain ⟨ρ3, h5, h6⟩ := h4 hp
      rw [if_pos rfl, h5]
      show ((if acc.length < sizeLine then _ else _) : Option (List D × En)).bind _ = _
      rw [if_pos (by omega)]
      show compG none xs0 vs g (stp c e) (r.map inj) (acc ++ [F y]) ρ3 = _
      rw [ih _ ρ3 h6 (by rw [List.length_append, List.length_singleton]; omega) hr, List.filter_cons_of_pos hp, List.map_cons, List.append_assoc]
      rfl
theorem ev_comp {α : Type} (inj : α → D) (p : α → Bool) (F : α → D) (ys : List α) {vs : List Nat} {it : FA} {g : FG} {c : FT} {e : FE} {ρ ρi ρ0 : En} (hi : it ρ = some (ys.map inj, ρi)) (h0 : killL vs ρi = ρ0) (hl : ys.length ≤ sizeLine)
    (h : ∀ y ∈ ys, ∃ ρ1 ρ2, g (inj y) ρ0 = some ρ1 ∧ c ρ1 = some (p y, ρ2) ∧ (p y = false → killL vs ρ2 = ρ0) ∧ (p y = true → ∃ ρ3, e ρ2 = some (F y, ρ3) ∧ killL vs ρ3 = ρ0)) (hk : killL vs ρ0 = ρ0 := by rfl) :
    eComp none vs it g c e ρ = some (.ol ((ys.filter p).map F), putB vs ρi ρ0) := by
  unfold eComp
  rw [hi]
  show ((compG none (ys.map inj) vs g (stp c e) (ys.map inj) [] ρi).map _) = _
  rw [comp_mapF inj p F ys [] ρi h0 (by rw [List.length_nil]; omega) h]
  show some (_, putB vs ρi (killL vs ρ0)) = _
  rw [hk]
  rfl
theorem ev_compA {α : Type} (inj : α → D) (F : α → D) (ys : List α) {vs : List Nat} {it : FA} {g : FG} {e : FE} {ρ ρi ρ0 : En} (hi : it ρ = some (ys.map inj, ρi)) (h0 : killL vs ρi = ρ0) (hl : ys.length ≤ sizeLine)
    (h : ∀ y ∈ ys, ∃ ρ1 ρ3, g (inj y) ρ0 = some ρ1 ∧ e ρ1 = some (F y, ρ3) ∧ killL vs ρ3 = ρ0) (hk : killL vs ρ0 = ρ0 := by rfl) :
    eComp none vs it g cYes e ρ = some (.ol (ys.map F), putB vs ρi ρ0) := by
  have := ev_comp inj (fun _ => true) F ys (c := cYes) (e := e) (g := g) hi h0 hl (fun y hy => by
    obtain ⟨ρ1, ρ3, h1, h2, h3⟩ := h y hy
    exact ⟨ρ1, ρ1, h1, rfl, fun z => Bool.noConfusion z, fun _ => ⟨ρ3, h2, h3⟩⟩) hk
  rw [this]
  have : ys.filter (fun _ => true) = ys := List.filter_eq_self.mpr fun _ _ => rfl
  rw [this]
theorem while_step {ks : List Nat} {c : FT} {b : FS} {ρ ρ1 : En} {p : Bool × En} {o : Out} (h1 : c (killL ks ρ) = some p) (h2 : p.1 = true) (h3 : b p.2 = some (.nx ρ1)) (h4 : sWhile ks c b ρ1 = some o) : sWhile ks c b ρ = some o := sWhile_step h1 h2 h3 h4
end L2.Pd

namespace L2.Pd
open PySem PySem.Spec PyProof.Rows
/-! ## Sizes of ints; fractions as pairs -/
def Bd (n : Nat) (z : Int) : Prop := z.natAbs < 2 ^ n
theorem two_le {n m : Nat} (h : n ≤ m) : 2 ^ n ≤ 2 ^ m := Nat.pow_le_pow_right (by decide) h
theorem Bd.mono {n m : Nat} {z : Int} (h : Bd n z) (k : n ≤ m) : Bd m z := Nat.lt_of_lt_of_le h (two_le k)
theorem Bd.mul {n m : Nat} {a b : Int} (h : Bd n a) (k : Bd m b) : Bd (n + m) (a * b) := by
  unfold Bd at *
  rw [Int.natAbs_mul, Nat.pow_add]
  exact Nat.mul_lt_mul_of_lt_of_lt h k
theorem Bd.add {n m : Nat} {a b : Int} (h : Bd n a) (k : Bd m b) : Bd (max n m + 1) (a + b) := by
  unfold Bd at *
  have h1 := two_le (Nat.le_max_left n m)
  have h2 := two_le (Nat.le_max_right n m)
  rw [Nat.pow_succ]
  have := Int.natAbs_add_le a b
  omega
theorem Bd.neg {n : Nat} {a : Int} (h : Bd n a) : Bd n (-a) := by unfold Bd at *; rw [Int.natAbs_neg]; exact h
theorem Bd.sub {n m : Nat} {a b : Int} (h : Bd n a) (k : Bd m b) : Bd (max n m + 1) (a - b) := by rw [Int.sub_eq_add_neg]; exact h.add k.neg
theorem Bd.le {n : Nat} {a b : Int} (h : Bd n a) (k : b.natAbs ≤ a.natAbs) : Bd n b := Nat.lt_of_le_of_lt k h
theorem log2_le {x n : Nat} (h : x < 2 ^ n) : x.log2 ≤ n := by
  by_cases h0 : x = 0
  · subst h0; simp
  · exact Nat.le_of_lt ((Nat.log2_lt h0).mpr h)
theorem Bd.mulOk {n m : Nat} {a b : Int} (h : Bd n a) (k : Bd m b) (e : n + m ≤ 100000000) : mulOk a b = true := by
  have h1 := log2_le h
  have h2 := log2_le k
  unfold Pd.mulOk
  rw [Bool.or_eq_true, decide_eq_true_eq]
  right
  omega
theorem noPy {a b : Int} {n : Nat} (h : Bd n b) (e : n ≤ 8999) : Builtin.divisionGoesByPylong a b = false := by
  have h1 := log2_le h
  unfold Builtin.divisionGoesByPylong
  have : ¬ (if (b == 0) = true then 0 else b.natAbs.log2 / 30 + 1) > 300 := by
    split
    · omega
    · omega
  simp [this]
  intro h2
  exfalso
  apply this
  simp
  exact h2
theorem gcd_le_right' {a b : Int} (h : b ≠ 0) : ((Int.gcd a b : Nat) : Int).natAbs ≤ b.natAbs := by
  rw [Int.natAbs_natCast]
  exact Nat.gcd_le_right _ (by omega)
/-- a fraction in lowest terms -/
def Frq (q : Rat) : D := .tuple [.int q.num, .int q.den]
structure BdQ (n : Nat) (q : Rat) : Prop where
  num : Bd n q.num
  den : Bd n q.den
theorem BdQ.mono {n m : Nat} {q : Rat} (h : BdQ n q) (k : n ≤ m) : BdQ m q := ⟨h.num.mono k, h.den.mono k⟩
theorem fr_pos {a b : Int} (hb : 0 < b) : a.fdiv (Int.gcd a b) = (Rat.divInt a b).num ∧ b.fdiv (Int.gcd a b) = (Rat.divInt a b).den := by
  have hg : (0 : Int) ≤ (Int.gcd a b : Nat) := Int.natCast_nonneg _
  rw [Int.fdiv_eq_ediv_of_nonneg _ hg, Int.fdiv_eq_ediv_of_nonneg _ hg, Rat.num_divInt, Rat.den_divInt, if_neg (by omega), Int.sign_eq_one_of_pos hb, Int.one_mul, Int.gcd_comm b a]
  refine ⟨rfl, ?_⟩
  obtain ⟨n, rfl⟩ := Int.eq_ofNat_of_zero_le (Int.le_of_lt hb)
  simp
theorem fr_neg {a b : Int} (hb : b < 0) : a.fdiv (-(Int.gcd a b : Nat)) = (Rat.divInt a b).num ∧ b.fdiv (-(Int.gcd a b : Nat)) = (Rat.divInt a b).den := by
  have := fr_pos (a := -a) (b := -b) (by omega)
  rw [Rat.neg_divInt_neg, Int.gcd_neg, Int.neg_gcd] at this
  rw [← this.1, ← this.2]
  exact ⟨by rw [← Int.neg_fdiv_neg a, Int.neg_neg], by rw [← Int.neg_fdiv_neg b, Int.neg_neg]⟩
theorem bdq_divInt {n : Nat} {a b : Int} (ha : Bd n a) (hb : Bd n b) (h0 : b ≠ 0) : BdQ n (Rat.divInt a b) := by
  constructor
  · refine ha.le ?_
    rw [Rat.num_divInt]
    refine Nat.le_trans (Int.natAbs_ediv_le_natAbs _ _) ?_
    rw [Int.natAbs_mul]
    have : b.sign.natAbs ≤ 1 := by rw [Int.natAbs_sign_of_ne_zero h0]; omega
    calc b.sign.natAbs * a.natAbs ≤ 1 * a.natAbs := Nat.mul_le_mul_right _ this
      _ = a.natAbs := Nat.one_mul _
  · refine hb.le ?_
    rw [Rat.den_divInt, if_neg h0]
    rw [Int.natAbs_natCast]
    exact Nat.div_le_self _ _
theorem Rat.eqd (q : Rat) : q = Rat.divInt q.num q.den := (Rat.num_divInt_den q).symm
theorem den_pos' (q : Rat) : (0 : Int) < q.den := by have := q.den_pos; omega
theorem bdq_mul {n m : Nat} {x y : Rat} (hx : BdQ n x) (hy : BdQ m y) : BdQ (n + m) (x * y) := by
  rw [Rat.eqd x, Rat.eqd y, Rat.divInt_mul_divInt]
  exact bdq_divInt (hx.num.mul hy.num) (hx.den.mul hy.den) (Int.ne_of_gt (Int.mul_pos (den_pos' x) (den_pos' y)))
theorem bdq_add {n m : Nat} {x y : Rat} (hx : BdQ n x) (hy : BdQ m y) : BdQ (n + m + 1) (x + y) := by
  rw [Rat.eqd x, Rat.eqd y, Rat.divInt_add_divInt _ _ (Int.ne_of_gt (den_pos' x)) (Int.ne_of_gt (den_pos' y))]
  exact bdq_divInt (((hx.num.mul hy.den).add (hy.num.mul hx.den)).mono (by omega)) ((hx.den.mul hy.den).mono (by omega)) (Int.ne_of_gt (Int.mul_pos (den_pos' x) (den_pos' y)))
theorem bdq_sub {n m : Nat} {x y : Rat} (hx : BdQ n x) (hy : BdQ m y) : BdQ (n + m + 1) (x - y) := by
  rw [Rat.eqd x, Rat.eqd y, Rat.divInt_sub_divInt _ _ (Int.ne_of_gt (den_pos' x)) (Int.ne_of_gt (den_pos' y))]
  exact bdq_divInt (((hx.num.mul hy.den).sub (hy.num.mul hx.den)).mono (by omega)) ((hx.den.mul hy.den).mono (by omega)) (Int.ne_of_gt (Int.mul_pos (den_pos' x) (den_pos' y)))
theorem bdq_div {n m : Nat} {x y : Rat} (hx : BdQ n x) (hy : BdQ m y) (h0 : y ≠ 0) : BdQ (n + m) (x / y) := by
  have hn : y.num ≠ 0 := fun e => h0 (Rat.num_eq_zero.mp e)
  rw [Rat.div_def, Rat.eqd x, Rat.eqd y, Rat.inv_divInt, Rat.divInt_mul_divInt]
  exact bdq_divInt (hx.num.mul hy.den) (hx.den.mul hy.num) (Int.mul_ne_zero (Int.ne_of_gt (den_pos' x)) hn)
theorem mul_di (x y : Rat) : x * y = Rat.divInt (x.num * y.num) (x.den * y.den) := by
  conv => lhs; rw [Rat.eqd x, Rat.eqd y, Rat.divInt_mul_divInt]
theorem add_di (x y : Rat) : x + y = Rat.divInt (x.num * y.den + y.num * x.den) (x.den * y.den) := by
  conv => lhs; rw [Rat.eqd x, Rat.eqd y, Rat.divInt_add_divInt _ _ (Int.ne_of_gt (den_pos' x)) (Int.ne_of_gt (den_pos' y))]
theorem sub_di (x y : Rat) : x - y = Rat.divInt (x.num * y.den - y.num * x.den) (x.den * y.den) := by
  conv => lhs; rw [Rat.eqd x, Rat.eqd y, Rat.divInt_sub_divInt _ _ (Int.ne_of_gt (den_pos' x)) (Int.ne_of_gt (den_pos' y))]
theorem div_di (x y : Rat) : x / y = Rat.divInt (x.num * y.den) (x.den * y.num) := by
  conv => lhs; rw [Rat.div_def, Rat.eqd x, Rat.eqd y, Rat.inv_divInt, Rat.divInt_mul_divInt]
/-! two bounds: of the number above, of the number below -/
structure BdR (n d : Nat) (q : Rat) : Prop where
  num : Bd n q.num
  den : Bd d q.den
theorem BdR.mono {n m d e : Nat} {q : Rat} (h : BdR n d q) (k : n ≤ m) (l : d ≤ e) : BdR m e q := ⟨h.num.mono k, h.den.mono l⟩
theorem bdr_divInt {n m : Nat} {a b : Int} (ha : Bd n a) (hb : Bd m b) (h0 : b ≠ 0) : BdR n m (Rat.divInt a b) := by
  constructor
  · refine ha.le ?_
    rw [Rat.num_divInt]
    refine Nat.le_trans (Int.natAbs_ediv_le_natAbs _ _) ?_
    rw [Int.natAbs_mul]
    have : b.sign.natAbs ≤ 1 := by rw [Int.natAbs_sign_of_ne_zero h0]; omega
    calc b.sign.natAbs * a.natAbs ≤ 1 * a.natAbs := Nat.mul_le_mul_right _ this
      _ = a.natAbs := Nat.one_mul _
  · refine hb.le ?_
    rw [Rat.den_divInt, if_neg h0]
    rw [Int.natAbs_natCast]
    exact Nat.div_le_self _ _
section
variable {n d m e : Nat} {x y : Rat}
theorem bdr_mul (hx : BdR n d x) (hy : BdR m e y) : BdR (n + m) (d + e) (x * y) := by
  rw [mul_di]
  exact bdr_divInt (hx.num.mul hy.num) (hx.den.mul hy.den) (Int.ne_of_gt (Int.mul_pos (den_pos' x) (den_pos' y)))
theorem bdr_add (hx : BdR n d x) (hy : BdR m e y) : BdR (max (n + e) (m + d) + 1) (d + e) (x + y) := by
  rw [add_di]
  exact bdr_divInt ((hx.num.mul hy.den).add (hy.num.mul hx.den)) (hx.den.mul hy.den) (Int.ne_of_gt (Int.mul_pos (den_pos' x) (den_pos' y)))
theorem bdr_sub (hx : BdR n d x) (hy : BdR m e y) : BdR (max (n + e) (m + d) + 1) (d + e) (x - y) := by
  rw [sub_di]
  exact bdr_divInt ((hx.num.mul hy.den).sub (hy.num.mul hx.den)) (hx.den.mul hy.den) (Int.ne_of_gt (Int.mul_pos (den_pos' x) (den_pos' y)))
theorem bdr_div (hx : BdR n d x) (hy : BdR m e y) (h0 : y ≠ 0) : BdR (n + e) (d + m) (x / y) := by
  have hn : y.num ≠ 0 := fun e => h0 (Rat.num_eq_zero.mp e)
  rw [div_di]
  exact bdr_divInt (hx.num.mul hy.den) (hx.den.mul hy.num) (Int.mul_ne_zero (Int.ne_of_gt (den_pos' x)) hn)
end
end L2.Pd

namespace L2.Pd
open PySem PySem.Spec PyProof.Rows
/-! ## Slices -/
def cutL {α : Type} (xs : List α) (lo hi : Option Int) : List α := (xs.drop (HT.sIx xs.length 0 lo)).take (HT.sIx xs.length xs.length hi - HT.sIx xs.length 0 lo)
theorem sIx_ge {n d : Nat} {v : Int} (h : 0 ≤ v) : HT.sIx n d (some v) = min v.toNat n := by
  show (if v < 0 then (v + (n : Int)).toNat else min v.toNat n) = _
  rw [if_neg (by omega)]
theorem sIx_lt {n d : Nat} {v : Int} (h : v < 0) : HT.sIx n d (some v) = (v + (n : Int)).toNat := by
  show (if v < 0 then (v + (n : Int)).toNat else min v.toNat n) = _
  rw [if_pos h]
section
variable {α β : Type} {xs : List α}
theorem cutL_to {n : Int} (h : 0 ≤ n) : cutL xs none (some n) = xs.take n.toNat := by
  unfold cutL
  rw [HT.sIx_none, sIx_ge h, List.drop_zero, Nat.sub_zero]
  by_cases k : n.toNat ≤ xs.length
  · rw [Nat.min_eq_left k]
  · rw [Nat.min_eq_right (by omega), List.take_length, List.take_of_length_le (by omega)]
theorem cutL_from {n : Int} (h : 0 ≤ n) : cutL xs (some n) none = xs.drop n.toNat := by
  unfold cutL
  rw [HT.sIx_none, sIx_ge h, List.take_of_length_le (by rw [List.length_drop]; omega)]
  by_cases k : n.toNat ≤ xs.length
  · rw [Nat.min_eq_left k]
  · rw [Nat.min_eq_right (by omega), List.drop_length, List.drop_eq_nil_of_le (by omega)]
theorem cutL_mid {m n : Int} (h : 0 ≤ m) (k : 0 ≤ n) : cutL xs (some m) (some n) = (xs.drop m.toNat).take (n.toNat - m.toNat) := by
  unfold cutL
  rw [sIx_ge h, sIx_ge k]
  by_cases q : m.toNat ≤ xs.length
  · rw [Nat.min_eq_left q]
    by_cases z : n.toNat ≤ xs.length
    · rw [Nat.min_eq_left z]
    · rw [Nat.min_eq_right (by omega), List.take_of_length_le (by rw [List.length_drop]; omega), List.take_of_length_le (by rw [List.length_drop]; omega)]
  · rw [Nat.min_eq_right (a := m.toNat) (by omega), List.drop_length, List.drop_eq_nil_of_le (i := m.toNat) (by omega), List.take_nil, List.take_nil]
theorem cutL_all : cutL xs none none = xs := by
  unfold cutL
  rw [HT.sIx_none, HT.sIx_none, List.drop_zero, Nat.sub_zero, List.take_length]
theorem cutL_dl : cutL xs none (some (-1)) = xs.dropLast := by
  unfold cutL
  rw [HT.sIx_none, sIx_lt (by decide), List.drop_zero, Nat.sub_zero, List.dropLast_eq_take]
  congr 1
  omega
theorem cutL_map (f : α → β) (lo hi : Option Int) : cutL (xs.map f) lo hi = (cutL xs lo hi).map f := by
  unfold cutL
  rw [List.length_map, List.map_take, List.map_drop]
end
theorem cutD_eq (ds : List D) (lo hi : Option Int) : cutD ds lo hi = cutL ds lo hi := rfl
theorem cutD_is (ns : List Int) (lo hi : Option Int) : cutD (is ns) lo hi = is (cutL ns lo hi) := by rw [cutD_eq]; exact cutL_map _ _ _
/-! ## Texts as lists of signs -/
def SL (l : List Nat) : Str := ⟨l.toArray⟩
section
variable {l m : List Nat}
@[simp] theorem SL_len : (SL l).length = l.length := by show l.toArray.size = _; rw [List.size_toArray]
@[simp] theorem SL_app : SL l ++ SL m = SL (l ++ m) := by
  show (⟨l.toArray ++ m.toArray⟩ : Str) = ⟨(l ++ m).toArray⟩
  simp
theorem SL_cut (lo hi : Option Int) : cutS (SL l) lo hi = SL (cutL l lo hi) := by
  unfold cutS cutL SL
  have : (⟨l.toArray⟩ : Str).length = l.length := SL_len
  rw [this]
theorem signsD_SL : signsD (SL l) = l.map (fun c => .str (SL [c])) := rfl
theorem SL_inj : SL l = SL m ↔ l = m := by
  constructor
  · intro h
    have : (SL l).cps.toList = (SL m).cps.toList := by rw [h]
    exact this
  · intro h; rw [h]
theorem SL_beq : (SL l == SL m) = decide (l = m) := by
  by_cases h : l = m
  · subst h; rw [decide_eq_true rfl]; exact beq_self_eq_true _
  · rw [decide_eq_false h, beq_eq_false_iff_ne]; exact fun z => h (SL_inj.mp z)
theorem strOk_SL (h : ∀ c ∈ l, c < 0x110000) : PyData.strOk (SL l) = true := by
  unfold PyData.strOk SL
  rw [List.all_toArray, List.all_eq_true]
  intro c hc
  exact decide_eq_true (h c hc)
theorem dIx_SL (h : l.length ≤ 16777216) (i : Int) : dIx (.str (SL l)) (.int i) = (atI l i).map fun c => .str (SL [c]) := by
  show (if (SL l).length ≤ sizeLine then (atI (SL l).cps.toList i).map fun c => PyData.str ⟨#[c]⟩ else none) = _
  rw [SL_len, if_pos (show l.length ≤ sizeLine from h)]
  rfl
@[simp] theorem revS_SL : revS (SL l) = SL l.reverse := by
  unfold revS SL
  simp
theorem bEq_SL (h : PyData.strOk (SL l) = true) (k : PyData.strOk (SL m) = true) : bEq (.str (SL l)) (.str (SL m)) = some (decide (l = m)) := by
  rw [ev_eq (by rw [ev_okD]; simp [h]) (by rw [ev_okD]; simp [k]), eqv_SS, SL_beq]
theorem bNe_SL (h : PyData.strOk (SL l) = true) (k : PyData.strOk (SL m) = true) : bNe (.str (SL l)) (.str (SL m)) = some (!decide (l = m)) := by
  unfold bNe
  rw [ev_okD, ev_okD]
  simp [h, k, SL_beq]
theorem ofString_SL (s : String) : (Str.ofString s) = SL (Str.ofString s).cps.toList := rfl
end
open TL in
theorem joinL_nil : ∀ ls : List (List Nat), joinL [] ls = ls.flatten
  | [] => rfl
  | [p] => by show p = _; simp
  | p :: q :: r => by
    show p ++ ([] ++ joinL [] (q :: r)) = _
    rw [joinL_nil (q :: r), List.nil_append, ← List.flatten_cons]
open TL in
theorem join_SL (ls : List (List Nat)) : Txt.join "" (ls.map SL) = SL ls.flatten := by
  refine ext_tl ?_
  rw [show Txt.join "" (ls.map SL) = Str.join "" (ls.map SL) from StrLaws.glued_eq_join ..]
  rw [tl_join, List.map_map]
  show joinL [] (ls.map fun l => tl (SL l)) = _
  rw [joinL_nil]
  have : ls.map (fun l => tl (SL l)) = ls := by
    conv => rhs; rw [← List.map_id' ls]
    rfl
  rw [this]
  rfl
theorem strsOf_map {α : Type} (f : α → Str) : ∀ l : List α, strsOf (l.map fun a => .str (f a)) = some (l.map f)
  | [] => rfl
  | a :: r => by rw [List.map_cons, strsOf, strsOf_map f r]; rfl
theorem sum_lens (ls : List (List Nat)) : ((ls.map SL).map (·.length)).sum = ls.flatten.length := by
  rw [List.map_map, List.length_flatten]
  refine congrArg List.sum (List.map_congr_left fun l _ => ?_)
  exact SL_len
/-- ''.join of texts -/
theorem sJoin_SL (ls : List (List Nat)) (h : ls.flatten.length ≤ 16777216) : sJoin "" [.list (ls.map fun l => .str (SL l))] = some (.str (SL ls.flatten)) := by
  show (strsOf (ls.map fun l => .str (SL l))).bind (joinS "") = _
  rw [strsOf_map]
  show joinS "" (ls.map SL) = _
  unfold joinS
  have e0 : (Str.ofString "").length = 0 := rfl
  rw [sum_lens, e0, Nat.mul_zero, Nat.add_zero, if_pos h, join_SL]
theorem atI_map {α β : Type} (f : α → β) (xs : List α) (i : Int) : atI (xs.map f) i = (atI xs i).map f := by
  unfold atI
  rw [List.length_map]
  cases h : ixN xs.length i with
  | none => rfl
  | some j => show (xs.map f)[j]? = (xs[j]?).map f; exact List.getElem?_map
theorem atI_lt {α : Type} {xs : List α} {j : Nat} (h : j < xs.length) : atI xs (j : Int) = some xs[j] := atI_nat (List.getElem?_eq_getElem h)
/-! ## range(n, -1, -1) -/
theorem small_dn (n : Nat) (h1 : (n : Int) < 2 ^ 62) : Builtin.Range.small (n : Int) (-1) (-1) = true := PySem.W.small_down (by omega) h1 (by omega) (by omega)
theorem size_dn (n : Nat) : Builtin.Range.rangeSize (n : Int) (-1) (-1) = (n : Int) + 1 := by
  rw [PySem.W.rangeSize_down, if_pos (by omega)]
  omega
theorem rngC_dn (n : Nat) : rngC (n : Int) (-1) (n + 1) = (List.range (n + 1)).map (fun k : Nat => PyData.int ((n : Int) - (k : Int))) := by
  unfold rngC
  refine List.map_congr_left fun k _ => congrArg PyData.int ?_
  rw [Int.mul_neg_one, Int.sub_eq_add_neg]
theorem iR3_some {a : FA} {ρ ρ1 : En} {i j c : Int} (h : a ρ = some ([.int i, .int j, .int c], ρ1)) (h0 : c ≠ 0) (h1 : c.natAbs < 1073741824) (h2 : Builtin.Range.small i j c = true) : iR3 a ρ = some (rngC i c (Builtin.Range.rangeSize i j c).toNat, ρ1) := by
  unfold iR3
  rw [h]
  exact if_pos ⟨h0, h1, h2⟩
theorem ev_r3down {a : FA} {ρ ρ1 : En} {n : Nat} (h : a ρ = some ([.int (n : Int), .int (-1), .int (-1)], ρ1)) (h1 : (n : Int) < 2 ^ 62) : iR3 a ρ = some ((List.range (n + 1)).map (fun k : Nat => PyData.int ((n : Int) - (k : Int))), ρ1) := by
  rw [iR3_some h (by omega) (by omega) (small_dn n h1), size_dn, ← rngC_dn]
  congr 2
theorem range_down (n : Nat) {β : Type} (f : Int → β) : (List.range (n + 1)).map (fun k : Nat => f ((n : Int) - (k : Int))) = f n :: (List.range n).map (fun k : Nat => f ((n : Int) - 1 - (k : Int))) := by
  rw [List.range_succ_eq_map, List.map_cons, List.map_map]
  have h0 : f ((n : Int) - ((0 : Nat) : Int)) = f n := by congr 1
  rw [h0]
  refine congrArg _ (List.map_congr_left fun k _ => ?_)
  show f ((n : Int) - ((k + 1 : Nat) : Int)) = _
  congr 1
  omega
end L2.Pd

namespace L2.Pd
open PySem PySem.Spec PyProof.Rows
/-! ## sorted(ints) -/
def isort (ns : List Int) : List Int := ns.mergeSort (fun a b => decide (a ≤ b))
theorem dataLe_int (a b : Int) : PySem.W.dataLe false id (PyData.int a) (.int b) = decide (a ≤ b) := by
  show (!lexLt itemOrd [.inl b] [.inl a]) = _
  rw [lex_cons]
  show (!(decide (b < a) || (!decide (a < b) && false))) = _
  rw [Bool.and_false, Bool.or_false]
  by_cases h : a ≤ b
  · rw [decide_eq_true h, decide_eq_false (by omega)]; rfl
  · rw [decide_eq_false h, decide_eq_true (by omega)]; rfl
theorem sortD_is (ns : List Int) : sortD (is ns) = is (isort ns) := by
  unfold sortD is isort
  rw [List.map_mergeSort (s := PySem.W.dataLe false id)]
  intro a _ b _
  exact (dataLe_int a b).symm
theorem sortB_is (ns : List Int) : sortB (is ns) = true := by
  have h1 : ∀ d ∈ is ns, ∃ z : Int, d = .int z := fun d hd => by
    obtain ⟨z, _, rfl⟩ := List.mem_map.mp hd
    exact ⟨z, rfl⟩
  unfold sortB alikeB
  rw [Bool.and_eq_true, Bool.and_eq_true, Bool.and_eq_true, Bool.or_eq_true]
  refine ⟨⟨⟨List.all_eq_true.mpr fun d hd => List.all_eq_true.mpr fun e he => ?_, List.all_eq_true.mpr fun d hd => ?_⟩, List.all_eq_true.mpr fun d hd => ?_⟩, .inr (List.all_eq_true.mpr fun d hd => ?_)⟩
  · obtain ⟨z, rfl⟩ := h1 d hd
    obtain ⟨y, rfl⟩ := h1 e he
    rfl
  all_goals (obtain ⟨z, rfl⟩ := h1 d hd; rfl)
@[simp] theorem cSorted_is (ns : List Int) : cSorted [.list (is ns)] = some (.ol (is (isort ns))) := by
  show (if sortB (is ns) = true then some (Cell.ol (sortD (is ns))) else none) = _
  rw [if_pos (sortB_is ns), sortD_is]
theorem isort_perm (ns : List Int) : (isort ns).Perm ns := List.mergeSort_perm ns _
theorem isort_pw (ns : List Int) : (isort ns).Pairwise (· ≤ ·) := by
  have := List.pairwise_mergeSort (le := fun a b : Int => decide (a ≤ b)) (fun a b c h1 h2 => by simp at *; omega) (fun a b => by simp; omega) ns
  refine this.imp fun {a b} h => ?_
  simpa using h
theorem isort_len (ns : List Int) : (isort ns).length = ns.length := (isort_perm ns).length_eq
/-! ## comprehensions that draw -/
theorem compG_cons {xs0 : List D} {vs : List Nat} {g : FG} {st : List D → En → Option (List D × En)} {x : D} {r acc acc' : List D} {ρ ρ1 ρ2 : En} (h1 : g x (killL vs ρ) = some ρ1) (h2 : st acc ρ1 = some (acc', ρ2)) :
    compG none xs0 vs g st (x :: r) acc ρ = compG none xs0 vs g st r acc' ρ2 := by
  rw [compG, if_pos (show lockOk none xs0 (killL vs ρ) = true from rfl), h1]
  show (st acc ρ1).bind _ = _
  rw [h2]
  rfl
theorem stp_yes {c : FT} {e : FE} {acc : List D} {ρ ρ1 ρ2 : En} {d : D} (h1 : c ρ = some (true, ρ1)) (h2 : e ρ1 = some (d, ρ2)) (h3 : acc.length < sizeLine) : stp c e acc ρ = some (acc ++ [d], ρ2) := by
  unfold stp
  rw [h1, Option.bind_some, if_pos (show (true, ρ1).1 = true from rfl), h2, Option.bind_some, if_pos h3]
theorem ev_compS {vs : List Nat} {it : FA} {g : FG} {c : FT} {e : FE} {ρ ρi ρz : En} {xs out : List D} (hi : it ρ = some (xs, ρi)) (h : compG none xs vs g (stp c e) xs [] ρi = some (out, ρz)) : eComp none vs it g c e ρ = some (.ol out, putB vs ρi (killL vs ρz)) := by
  unfold eComp
  rw [hi]
  show ((compG none xs vs g (stp c e) xs [] ρi).map _) = _
  rw [h]
  rfl
theorem ev_compD {α β σ : Type} (inj : α → D) (enc : β → D) (P : β → Prop) (S : σ → En) {vs : List Nat} {it : FA} {g : FG} {e : FE} {ρ ρi : En} {ks : List α} {ds : σ} (hi : it ρ = some (ks.map inj, ρi)) (h0 : killL vs ρi = S ds) (hk : ∀ ds, killL vs (S ds) = S ds)
    (hstep : ∀ (k : α) (ds : σ), k ∈ ks → ∃ (y : β) (ds' : σ) (ρ1 ρ2 : En), P y ∧ g (inj k) (S ds) = some ρ1 ∧ e ρ1 = some (enc y, ρ2) ∧ killL vs ρ2 = S ds') (hl : ks.length ≤ sizeLine) :
    ∃ (ys : List β) (ds' : σ), ys.length = ks.length ∧ (∀ y ∈ ys, P y) ∧ eComp none vs it g cYes e ρ = some (.ol (ys.map enc), putB vs ρi (S ds')) := by
  have lp : ∀ (r : List α) (acc : List D) (ρ : En) (ds : σ), (∀ k ∈ r, k ∈ ks) → acc.length + r.length ≤ sizeLine → killL vs ρ = S ds → ∃ (ys : List β) (ds' : σ) (ρz : En), ys.length = r.length ∧ (∀ y ∈ ys, P y) ∧ killL vs ρz = S ds' ∧
      compG none (ks.map inj) vs g (stp cYes e) (r.map inj) acc ρ = some (acc ++ ys.map enc, ρz) := by
    intro r
    induction r with
    | nil =>
      intro acc ρ ds _ _ h
      refine ⟨[], ds, killL vs ρ, rfl, fun y hy => absurd hy List.not_mem_nil, by rw [h, hk], ?_⟩
      rw [List.map_nil, compG, if_pos (show lockOk none (ks.map inj) (killL vs ρ) = true from rfl), List.map_nil, List.append_nil]
    | cons k r ih =>
      intro acc ρ ds hm hlen h
      rw [List.length_cons] at hlen
      obtain ⟨y, ds1, ρ1, ρ2, hp, hg, he, hkl⟩ := hstep k ds (hm k List.mem_cons_self)
      obtain ⟨ys, ds2, ρz, h1, h2, h3, h4⟩ := ih (acc ++ [enc y]) ρ2 ds1 (fun z hz => hm z (List.mem_cons_of_mem _ hz)) (by rw [List.length_append, List.length_singleton]; omega) hkl
      refine ⟨y :: ys, ds2, ρz, by rw [List.length_cons, h1, List.length_cons], fun z hz => ?_, h3, ?_⟩
      · rcases List.mem_cons.mp hz with rfl | hz
        · exact hp
        · exact h2 z hz
      · rw [List.map_cons, compG_cons (by rw [h]; exact hg) (stp_yes rfl he (by omega)), h4, List.map_cons, List.append_assoc]
        rfl
  obtain ⟨ys, ds', ρz, h1, h2, h3, h4⟩ := lp ks [] ρi ds (fun _ h => h) (by rw [List.length_nil]; omega) h0
  exact ⟨ys, ds', h1, h2, by rw [ev_compS hi h4, h3]; rfl⟩
/-! ## hidden loops -/
theorem for_hx {l : FS} {it : FA} {tg : FG} {s : FS} {ks : List Nat} {lk : Option Nat} {ρ ρ1 : En} {xs : List D} {o : Option Out} (hl : l = sFor lk ks it tg s) (h : it ρ = some (xs, ρ1)) (h2 : loopF lk xs ks (fun x ρ => (tg x ρ).bind s) xs ρ1 = o) : l ρ = o := by rw [hl]; exact for_nx h h2
theorem bind_gnm {i : Nat} {d : D} {ρ : En} {b : FS} : (gNm i d ρ).bind b = b (ρ.set i (.sh d)) := rfl
/-! ## numbers -/
theorem pow2_pos (n : Nat) : (0 : Int) < 2 ^ n := Int.pow_pos (by decide)
theorem bd_pow (n : Nat) : Bd (n + 1) (2 ^ n) := by
  unfold Bd
  rw [Int.natAbs_pow]
  exact Nat.pow_lt_pow_right (by decide) (by omega)
theorem bd_bits {z : Int} {n : Nat} (h : Builtin.Int.intBits z ≤ n) : Bd n z := by
  unfold Builtin.Int.intBits at h
  unfold Bd
  by_cases h0 : z = 0
  · subst h0; exact Nat.two_pow_pos n
  · rw [if_neg (by simpa using h0)] at h
    exact (Nat.log2_lt (by omega)).mp (by omega)
theorem least_of {P : Nat → Prop} : ∀ n, P n → ∃ m, m ≤ n ∧ P m ∧ ∀ k, k < m → ¬ P k := by
  intro n
  induction n using Nat.strongRecOn with
  | _ n ih =>
    intro h
    by_cases q : ∃ k, k < n ∧ P k
    · obtain ⟨k, hk, hp⟩ := q
      obtain ⟨m, h1, h2, h3⟩ := ih k hk hp
      exact ⟨m, by omega, h2, h3⟩
    · exact ⟨n, Nat.le_refl _, h, fun k hk hp => q ⟨k, hk, hp⟩⟩
theorem loop_same' {xs0 : List D} {ks : List Nat} {b : D → En → Option Out} {ρ0 ρ : En} (ys : List D) (h : ∀ y ∈ ys, ∃ ρ', (b y ρ0 = some (.nx ρ') ∨ b y ρ0 = some (.ct ρ')) ∧ killL ks ρ' = ρ0) (e : killL ks ρ = ρ0) : loopF none xs0 ks b ys ρ = some (.nx ρ0) := by
  have := loop_same (fun d : D => d) (xs0 := xs0) ys h e
  rwa [List.map_id'] at this
theorem pick {zs : List Int} {r : Int} (h0 : 0 ≤ r) (h1 : r < zs.length) : ∃ z ∈ zs, atI (is zs) r = some (.int z) := ⟨_, List.getElem_mem _, by
  refine atI_in h0 ?_
  rw [is_get, List.getElem?_eq_getElem (by omega : r.toNat < zs.length)]
  rfl⟩
theorem repOk_ok {n : Nat} {k : Int} (h0 : -(2 ^ 62) ≤ k) (h1 : k < 2 ^ 62) (h : n * k.toNat ≤ 16777216) : repOk n k = true := by
  unfold repOk
  rw [decide_eq_true_eq]
  exact ⟨h0, h1, h⟩
theorem mul_SL (l : List Nat) {n : Int} (h : 0 ≤ n) : Txt.mul (SL l) n = SL (List.replicate n.toNat l).flatten := by
  unfold Txt.mul
  by_cases h1 : n < 1
  · rw [if_pos h1, show n.toNat = 0 by omega]
    rfl
  · rw [if_neg h1]
    have e : ∀ (m : Nat) (acc : List Nat), (List.replicate m (SL l).cps).foldl (· ++ ·) acc.toArray = (acc ++ (List.replicate m l).flatten).toArray := by
      intro m
      induction m with
      | zero => intro acc; simp
      | succ m ih =>
        intro acc
        rw [List.replicate_succ, List.foldl_cons]
        have : acc.toArray ++ (SL l).cps = (acc ++ l).toArray := by unfold SL; simp
        rw [this, ih, List.replicate_succ, List.flatten_cons, List.append_assoc]
    have e0 := e n.toNat []
    by_cases h2 : (n == 1 || (SL l).length == 0) = true
    · rw [if_pos h2]
      rw [Bool.or_eq_true] at h2
      rcases h2 with h2 | h2
      · have : n = 1 := eq_of_beq h2
        subst this
        show SL l = SL (List.replicate 1 l).flatten
        simp
      · have : l = [] := by
          have := eq_of_beq h2
          rw [SL_len] at this
          exact List.eq_nil_of_length_eq_zero this
        subst this
        congr 1
        generalize n.toNat = m
        induction m with
        | zero => rfl
        | succ m ih => rw [List.replicate_succ, List.flatten_cons, ← ih]; rfl
    · rw [if_neg h2]
      unfold SL
      congr 1
/-- a loop that may hand back one thing on the way: a fold that may stop -/
theorem loop_opt {α σ : Type} (inj : α → D) (S : σ → En) (step : α → σ → Option σ) (c : Cell) {xs0 : List D} {ks : List Nat} {b : D → En → Option Out} (P : σ → Prop) (Q : α → Prop)
    (hk : ∀ s, killL ks (S s) = S s)
    (hn : ∀ y s s', P s → Q y → step y s = some s' → P s' ∧ ∃ ρ', (b (inj y) (S s) = some (.nx ρ') ∨ b (inj y) (S s) = some (.ct ρ')) ∧ killL ks ρ' = S s')
    (hr : ∀ y s, P s → Q y → step y s = none → ∃ ρ', b (inj y) (S s) = some (.rt c ρ')) :
    ∀ (ys : List α) (ρ : En) (s : σ), (∀ y ∈ ys, Q y) → P s → killL ks ρ = S s →
      (∀ s', ys.foldlM (fun s y => step y s) s = some s' → P s' ∧ loopF none xs0 ks b (ys.map inj) ρ = some (.nx (S s'))) ∧
      (ys.foldlM (fun s y => step y s) s = none → ∃ ρ', loopF none xs0 ks b (ys.map inj) ρ = some (.rt c ρ')) := by
  intro ys
  induction ys with
  | nil =>
    intro ρ s _ hP e
    refine ⟨fun s' h => ?_, fun h => by cases h⟩
    cases h
    exact ⟨hP, by rw [List.map_nil, loop_nil rfl, e]⟩
  | cons y r ih =>
    intro ρ s hq hP e
    rw [List.foldlM_cons]
    cases hs : step y s with
    | none =>
      obtain ⟨ρ', h⟩ := hr y s hP (hq y List.mem_cons_self) hs
      refine ⟨fun s' h => (by cases h), fun _ => ⟨ρ', ?_⟩⟩
      rw [List.map_cons]
      exact loop_rt rfl (by rw [e]; exact h)
    | some s1 =>
      obtain ⟨hP1, ρ', h, h2⟩ := hn y s s1 hP (hq y List.mem_cons_self) hs
      have hh : loopF none xs0 ks b ((y :: r).map inj) ρ = loopF none xs0 ks b (r.map inj) ρ' := by
        rw [List.map_cons]
        rcases h with h | h
        · exact loop_cons rfl (by rw [e]; exact h)
        · exact loop_cont rfl (by rw [e]; exact h)
      rw [hh]
      exact ih ρ' s1 (fun z hz => hq z (List.mem_cons_of_mem _ hz)) hP1 h2
end L2.Pd

namespace L2.Pd
open PySem PySem.Spec PyProof.Rows
@[simp] theorem ev_par3 {i j l : Nat} {a : FA} {ρ : En} : sPar3 i j l a ρ = (a ρ).bind fun p => match p.1 with
  | [d, e, g] => some (.nx (((p.2.set i (.sh d)).set j (.sh e)).set l (.sh g)))
  | _ => none := rfl
/-! ### comprehensions of two clauses -/
theorem comp2_mapF {α β : Type} (inj : α → D) (inj1 : β → D) (p : α → Bool) (Z : α → List β) (p1 : α → β → Bool) (F : α → β → D) {xs0 : List D} {vs vs1 : List Nat} {it1 : FA} {g g1 : FG} {c c1 : FT} {e : FE} {ρ0 : En} : ∀ (ys : List α) (acc : List D) (ρ : En), killL vs ρ = ρ0 → acc.length + ((ys.filter p).flatMap Z).length ≤ sizeLine →
    (∀ y ∈ ys, ∃ ρ1 ρ2, g (inj y) ρ0 = some ρ1 ∧ c ρ1 = some (p y, ρ2) ∧ (p y = false → killL vs ρ2 = ρ0) ∧ (p y = true → ∃ ρ3 ρh, it1 ρ2 = some ((Z y).map inj1, ρ3) ∧ killL vs1 ρ3 = ρh ∧ killL vs ρh = ρ0 ∧
      ∀ z ∈ Z y, ∃ ρ4 ρ5, g1 (inj1 z) ρh = some ρ4 ∧ c1 ρ4 = some (p1 y z, ρ5) ∧ (p1 y z = false → killL vs1 ρ5 = ρh) ∧ (p1 y z = true → ∃ ρ6, e ρ5 = some (F y z, ρ6) ∧ killL vs1 ρ6 = ρh))) →
    compG none xs0 vs g (stp2 c none vs1 it1 g1 c1 e) (ys.map inj) acc ρ = some (acc ++ (ys.filter p).flatMap (fun y => ((Z y).filter (p1 y)).map (F y)), ρ0) := by
  intro ys
  induction ys with
  | nil =>
    intro acc ρ e0 _ _
    rw [List.map_nil]
    unfold compG
    rw [if_pos ev_lockn, e0]
    simp
  | cons y r ih =>
    intro acc ρ e0 hl h
    obtain ⟨ρ1, ρ2, h1, h2, h3, h4⟩ := h y (List.mem_cons_self ..)
    have hr := fun z hz => h z (List.mem_cons_of_mem _ hz)
    rw [List.map_cons]
    unfold compG
    rw [if_pos ev_lockn, e0, h1]
    show (stp2 c none vs1 it1 g1 c1 e acc ρ1).bind _ = _
    unfold stp2
    rw [h2]
    show ((if p y = true then _ else _) : Option (List D × En)).bind _ = _
    cases hp : p y with
    | false =>
      rw [List.filter_cons_of_neg (by rw [hp]; exact Bool.false_ne_true)] at hl ⊢
      rw [if_neg Bool.false_ne_true]
      show compG none xs0 vs g (stp2 c none vs1 it1 g1 c1 e) (r.map inj) acc ρ2 = _
      rw [ih acc ρ2 (h3 hp) hl hr]
    | true =>
      rw [List.filter_cons_of_pos hp, List.flatMap_cons] at hl
      rw [List.filter_cons_of_pos hp, List.flatMap_cons]
      rw [List.length_append] at hl
      obtain ⟨ρ3, ρh, h5, h6, h7, h8⟩ := h4 hp
      rw [if_pos rfl, h5]
      show ((compG none ((Z y).map inj1) vs1 g1 (stp c1 e) ((Z y).map inj1) acc ρ3)).bind _ = _
      rw [comp_mapF inj1 (p1 y) (F y) (Z y) acc ρ3 h6 (by omega) h8]
      show compG none xs0 vs g (stp2 c none vs1 it1 g1 c1 e) (r.map inj) (acc ++ ((Z y).filter (p1 y)).map (F y)) ρh = _
      have hfl : ((Z y).filter (p1 y)).length ≤ (Z y).length := List.length_filter_le _ _
      rw [ih _ ρh h7 (by rw [List.length_append, List.length_map]; omega) hr, List.append_assoc]
theorem ev_comp2 {α β : Type} (inj : α → D) (inj1 : β → D) (p : α → Bool) (Z : α → List β) (p1 : α → β → Bool) (F : α → β → D) (ys : List α) {vs vs1 : List Nat} {it it1 : FA} {g g1 : FG} {c c1 : FT} {e : FE} {ρ ρi ρ0 : En} (hi : it ρ = some (ys.map inj, ρi)) (h0 : killL vs ρi = ρ0) (hl : ((ys.filter p).flatMap Z).length ≤ sizeLine)
    (h : ∀ y ∈ ys, ∃ ρ1 ρ2, g (inj y) ρ0 = some ρ1 ∧ c ρ1 = some (p y, ρ2) ∧ (p y = false → killL vs ρ2 = ρ0) ∧ (p y = true → ∃ ρ3 ρh, it1 ρ2 = some ((Z y).map inj1, ρ3) ∧ killL vs1 ρ3 = ρh ∧ killL vs ρh = ρ0 ∧
      ∀ z ∈ Z y, ∃ ρ4 ρ5, g1 (inj1 z) ρh = some ρ4 ∧ c1 ρ4 = some (p1 y z, ρ5) ∧ (p1 y z = false → killL vs1 ρ5 = ρh) ∧ (p1 y z = true → ∃ ρ6, e ρ5 = some (F y z, ρ6) ∧ killL vs1 ρ6 = ρh))) (hk : killL vs ρ0 = ρ0 := by rfl) :
    eComp2 none vs it g c none vs1 it1 g1 c1 e ρ = some (.ol ((ys.filter p).flatMap (fun y => ((Z y).filter (p1 y)).map (F y))), putB vs ρi ρ0) := by
  unfold eComp2
  rw [hi]
  show ((compG none (ys.map inj) vs g (stp2 c none vs1 it1 g1 c1 e) (ys.map inj) [] ρi).map _) = _
  rw [comp2_mapF inj inj1 p Z p1 F ys [] ρi h0 (by rw [List.length_nil]; omega) h]
  show some (_, putB vs ρi (killL vs ρ0)) = _
  rw [hk]
  rfl
theorem fil_t {α : Type} (l : List α) : l.filter (fun _ => true) = l := List.filter_eq_self.mpr fun _ _ => rfl
/-- both clauses without tests -/
theorem ev_comp2A {α β : Type} (inj : α → D) (inj1 : β → D) (Z : α → List β) (F : α → β → D) (ys : List α) {vs vs1 : List Nat} {it it1 : FA} {g g1 : FG} {e : FE} {ρ ρi ρ0 : En} (hi : it ρ = some (ys.map inj, ρi)) (h0 : killL vs ρi = ρ0) (hl : (ys.flatMap Z).length ≤ sizeLine)
    (h : ∀ y ∈ ys, ∃ ρ1 ρ3 ρh, g (inj y) ρ0 = some ρ1 ∧ it1 ρ1 = some ((Z y).map inj1, ρ3) ∧ killL vs1 ρ3 = ρh ∧ killL vs ρh = ρ0 ∧
      ∀ z ∈ Z y, ∃ ρ4 ρ6, g1 (inj1 z) ρh = some ρ4 ∧ e ρ4 = some (F y z, ρ6) ∧ killL vs1 ρ6 = ρh) (hk : killL vs ρ0 = ρ0 := by rfl) :
    eComp2 none vs it g cYes none vs1 it1 g1 cYes e ρ = some (.ol (ys.flatMap (fun y => (Z y).map (F y))), putB vs ρi ρ0) := by
  have := ev_comp2 inj inj1 (fun _ => true) Z (fun _ _ => true) F ys (c := cYes) (c1 := cYes) (e := e) (g := g) (g1 := g1) (vs1 := vs1) (it1 := it1) hi h0 (by rw [fil_t]; exact hl) (fun y hy => by
    obtain ⟨ρ1, ρ3, ρh, h1, h2, h3, h4, h5⟩ := h y hy
    exact ⟨ρ1, ρ1, h1, rfl, fun z => Bool.noConfusion z, fun _ => ⟨ρ3, ρh, h2, h3, h4, fun z hz => by
      obtain ⟨ρ4, ρ6, k1, k2, k3⟩ := h5 z hz
      exact ⟨ρ4, ρ4, k1, rfl, fun z => Bool.noConfusion z, fun _ => ⟨ρ6, k2, k3⟩⟩⟩⟩) hk
  rw [this, fil_t]
  congr 3
  refine congrArg (fun f => List.flatMap f ys) (funext fun y => ?_)
  rw [fil_t]
theorem loop_find {α : Type} (inj : α → D) (test : α → Bool) (out : α → Cell) {xs0 : List D} {ks : List Nat} {b : D → En → Option Out} {ρ0 : En} (Q : α → Prop)
    (hy : ∀ y, Q y → test y = true → ∃ ρ', b (inj y) ρ0 = some (.rt (out y) ρ'))
    (hn : ∀ y, Q y → test y = false → ∃ ρ', (b (inj y) ρ0 = some (.nx ρ') ∨ b (inj y) ρ0 = some (.ct ρ')) ∧ killL ks ρ' = ρ0) :
    ∀ (ys : List α) (ρ : En), (∀ y ∈ ys, Q y) → killL ks ρ = ρ0 →
      (∀ y, ys.find? test = some y → ∃ ρ', loopF none xs0 ks b (ys.map inj) ρ = some (.rt (out y) ρ')) ∧
      (ys.find? test = none → loopF none xs0 ks b (ys.map inj) ρ = some (.nx ρ0)) := by
  intro ys
  induction ys with
  | nil => intro ρ _ e; exact ⟨fun y h => (by cases h), fun _ => by rw [List.map_nil, loop_nil rfl, e]⟩
  | cons y r ih =>
    intro ρ hq e
    rw [List.find?_cons, List.map_cons]
    cases ht : test y with
    | true =>
      obtain ⟨ρ', h⟩ := hy y (hq y List.mem_cons_self) ht
      refine ⟨fun z hz => ?_, fun h => (by cases h)⟩
      cases hz
      exact ⟨ρ', loop_rt rfl (by rw [e]; exact h)⟩
    | false =>
      obtain ⟨ρ', h, h2⟩ := hn y (hq y List.mem_cons_self) ht
      have hh : loopF none xs0 ks b (inj y :: r.map inj) ρ = loopF none xs0 ks b (r.map inj) ρ' := by
        rcases h with h | h
        · exact loop_cons rfl (by rw [e]; exact h)
        · exact loop_cont rfl (by rw [e]; exact h)
      rw [hh]
      exact ih ρ' (fun z hz => hq z (List.mem_cons_of_mem _ hz)) h2
theorem loop_findB {α : Type} (inj : α → D) (test : α → Bool) (out : α → En) {xs0 : List D} {ks : List Nat} {b : D → En → Option Out} {ρ0 : En} (Q : α → Prop)
    (hy : ∀ y, Q y → test y = true → ∃ ρ', b (inj y) ρ0 = some (.bk ρ') ∧ killL ks ρ' = out y)
    (hn : ∀ y, Q y → test y = false → ∃ ρ', (b (inj y) ρ0 = some (.nx ρ') ∨ b (inj y) ρ0 = some (.ct ρ')) ∧ killL ks ρ' = ρ0) :
    ∀ (ys : List α) (ρ : En), (∀ y ∈ ys, Q y) → killL ks ρ = ρ0 →
      (∀ y, ys.find? test = some y → loopF none xs0 ks b (ys.map inj) ρ = some (.nx (out y))) ∧
      (ys.find? test = none → loopF none xs0 ks b (ys.map inj) ρ = some (.nx ρ0)) := by
  intro ys
  induction ys with
  | nil => intro ρ _ e; exact ⟨fun y h => (by cases h), fun _ => by rw [List.map_nil, loop_nil rfl, e]⟩
  | cons y r ih =>
    intro ρ hq e
    rw [List.find?_cons, List.map_cons]
    cases ht : test y with
    | true =>
      obtain ⟨ρ', h, h2⟩ := hy y (hq y List.mem_cons_self) ht
      refine ⟨fun z hz => ?_, fun h => (by cases h)⟩
      cases hz
      exact (loop_brk rfl (by rw [e]; exact h)).trans (by rw [h2])
    | false =>
      obtain ⟨ρ', h, h2⟩ := hn y (hq y List.mem_cons_self) ht
      have hh : loopF none xs0 ks b (inj y :: r.map inj) ρ = loopF none xs0 ks b (r.map inj) ρ' := by
        rcases h with h | h
        · exact loop_cons rfl (by rw [e]; exact h)
        · exact loop_cont rfl (by rw [e]; exact h)
      rw [hh]
      exact ih ρ' (fun z hz => hq z (List.mem_cons_of_mem _ hz)) h2
/-- a loop that folds -/
theorem loop_fold {α σ : Type} (inj : α → D) (S : σ → En) (step : σ → α → σ) {xs0 : List D} {ks : List Nat} {b : D → En → Option Out} (P : σ → Prop) (Q : α → Prop)
    (h : ∀ y s, Q y → P s → P (step s y) ∧ ∃ ρ', (b (inj y) (S s) = some (.nx ρ') ∨ b (inj y) (S s) = some (.ct ρ')) ∧ killL ks ρ' = S (step s y)) :
    ∀ (ys : List α) (ρ : En) (s : σ), (∀ y ∈ ys, Q y) → P s → killL ks ρ = S s → P (ys.foldl step s) ∧ loopF none xs0 ks b (ys.map inj) ρ = some (.nx (S (ys.foldl step s))) := by
  intro ys
  induction ys with
  | nil => exact fun ρ s _ hP e => ⟨hP, by rw [List.map_nil, loop_nil rfl, e]; rfl⟩
  | cons y r ih =>
    intro ρ s hq hP e
    obtain ⟨hP1, ρ', h1, h2⟩ := h y s (hq y List.mem_cons_self) hP
    obtain ⟨h3, h4⟩ := ih ρ' _ (fun z hz => hq z (List.mem_cons_of_mem _ hz)) hP1 h2
    refine ⟨h3, ?_⟩
    rw [List.map_cons]
    rcases h1 with h1 | h1
    · rw [loop_cons rfl (by rw [e]; exact h1), h4]; rfl
    · rw [loop_cont rfl (by rw [e]; exact h1), h4]; rfl
/-- a loop that gathers -/
theorem loop_acc {α : Type} (inj : α → D) (S : List D → En) (p : α → Bool) (F : α → D) {xs0 : List D} {ks : List Nat} {b : D → En → Option Out} (N : Nat) (Q : α → Prop)
    (h : ∀ y acc, Q y → acc.length < N → ∃ ρ', (b (inj y) (S acc) = some (.nx ρ') ∨ b (inj y) (S acc) = some (.ct ρ')) ∧ killL ks ρ' = S (if p y = true then acc ++ [F y] else acc)) :
    ∀ (ys : List α) (acc : List D) (ρ : En), (∀ y ∈ ys, Q y) → acc.length + ys.length ≤ N → killL ks ρ = S acc → loopF none xs0 ks b (ys.map inj) ρ = some (.nx (S (acc ++ (ys.filter p).map F))) := by
  intro ys
  induction ys with
  | nil => exact fun acc ρ _ _ e => by rw [List.map_nil, loop_nil rfl, e, List.filter_nil, List.map_nil, List.append_nil]
  | cons y r ih =>
    intro acc ρ hq hl e
    rw [List.length_cons] at hl
    obtain ⟨ρ', h1, h2⟩ := h y acc (hq y List.mem_cons_self) (by omega)
    have h4 := ih _ ρ' (fun z hz => hq z (List.mem_cons_of_mem _ hz)) (by
      split
      · rw [List.length_append, List.length_singleton]; omega
      · omega) h2
    have e2 : (if p y = true then acc ++ [F y] else acc) ++ (r.filter p).map F = acc ++ ((y :: r).filter p).map F := by
      by_cases hp : p y = true
      · rw [if_pos hp, List.filter_cons_of_pos hp, List.map_cons, List.append_assoc]; rfl
      · rw [if_neg hp, List.filter_cons_of_neg hp]
    rw [e2] at h4
    rw [List.map_cons]
    rcases h1 with h1 | h1
    · rw [loop_cons rfl (by rw [e]; exact h1), h4]
    · rw [loop_cont rfl (by rw [e]; exact h1), h4]
end L2.Pd

namespace L2.Pd
open PySem PySem.Spec PyProof.Rows
/-! ## dicts: what simp is told -/
section
variable {ρ : En} {i j : Nat} {f fi fe : FE} {g : FN} {s : FS} {tk : Bool} {kvs : List (D × D)} {c : Cell} {a : Int} {x : Str}
@[simp] theorem ev_dAt : dAt j ρ = (match ρ[j]? with
  | some (.od false kvs) => some kvs
  | some (.fd false kvs) => some kvs
  | _ => none) := rfl
@[simp] theorem ev_dOwn : dOwn j ρ = (match ρ[j]? with
  | some (.od false kvs) => some kvs
  | _ => none) := rfl
@[simp] theorem ev_keyI : keyD (.int a) = some (.inl a) := rfl
@[simp] theorem ev_keyS : keyD (.str x) = some (.inr x) := rfl
@[simp] theorem ev_dget : eDGet j fi ρ = (dAt j ρ).bind fun _ => (fi ρ).bind fun q => (dAt j q.2).bind fun kvs => (keyD q.1).bind fun _ => (lookD kvs q.1).map fun d => (d, q.2) := rfl
@[simp] theorem ev_din {ng : Bool} : eDIn j ng fi ρ = (fi ρ).bind fun q => (dAt j q.2).bind fun kvs => (keyD q.1).map fun _ => (.bool (xor ng (lookD kvs q.1).isSome), q.2) := rfl
@[simp] theorem ev_dput : sDPutK j fi fe ρ = (fe ρ).bind fun p => (dOwn j p.2).bind fun _ => (fi p.2).bind fun q => (dOwn j q.2).bind fun kvs => (keyD q.1).bind fun _ => if kvs.length < sizeLine then some (.nx (q.2.set j (.od false (putD kvs q.1 p.1)))) else none := rfl
@[simp] theorem ev_dget2 : eDGet2 j fi fe ρ = (dAt j ρ).bind fun _ => (fi ρ).bind fun p => (fe p.2).bind fun q => (dAt j q.2).bind fun kvs => (keyD p.1).map fun _ => ((lookD kvs p.1).getD q.1, q.2) := rfl
@[simp] theorem ev_dict0 : eDict0 ρ = some (.od false [], ρ) := rfl
@[simp] theorem ev_dict1 : eDict1 fi fe ρ = (fi ρ).bind fun p => (fe p.2).bind fun q => (keyD p.1).map fun _ => (.od false [(p.1, q.1)], q.2) := rfl
@[simp] theorem ev_moveD : sMoveD i j ρ = (dOwn j ρ).map fun kvs => .nx ((ρ.set j .dead).set i (.od false kvs)) := rfl
@[simp] theorem ev_lenD : eLenD j ρ = (dOwn j ρ).map fun kvs => (.int kvs.length, ρ) := rfl
@[simp] theorem ev_lok : eLok j f ρ = (match ρ[j]? with
  | some (.od tk kvs) => (f (ρ.set j (.fd tk kvs))).bind fun p => if noFd (p.2.set j .dead) = true then some (p.1, p.2.set j (.od tk kvs)) else none
  | _ => none) := rfl
@[simp] theorem ev_lokN : eLokN j g ρ = (match ρ[j]? with
  | some (.od tk kvs) => (g (ρ.set j (.fd tk kvs))).bind fun p => if noFd (p.2.set j .dead) = true then some (p.1, p.2.set j (.od tk kvs)) else none
  | _ => none) := rfl
@[simp] theorem ev_slok : sLok j s ρ = (match ρ[j]? with
  | some (.od tk kvs) => (s (ρ.set j (.fd tk kvs))).bind (unO j tk kvs)
  | _ => none) := rfl
@[simp] theorem ev_unn : unO j tk kvs (.nx ρ) = if noFd (ρ.set j .dead) = true then some (.nx (ρ.set j (.od tk kvs))) else none := rfl
@[simp] theorem ev_unr : unO j tk kvs (.rt c ρ) = if noFd (ρ.set j .dead) = true then some (.rt c (ρ.set j (.od tk kvs))) else none := rfl
@[simp] theorem ev_nofn : noFd [] = true := rfl
@[simp] theorem ev_nofd : noFd (.dead :: ρ) = noFd ρ := rfl
@[simp] theorem ev_nofs {d : D} : noFd (.sh d :: ρ) = noFd ρ := rfl
@[simp] theorem ev_nofl {ds : List D} : noFd (.ol ds :: ρ) = noFd ρ := rfl
@[simp] theorem ev_nofo : noFd (.od tk kvs :: ρ) = noFd ρ := rfl
@[simp] theorem ev_ifd : iFd j ρ = (match ρ[j]? with
  | some (.fd false kvs) => some (kvs.map (·.1), ρ)
  | _ => none) := rfl
@[simp] theorem ev_srtD : eSrtD j ρ = (dAt j ρ).bind fun kvs => if sortB (kvs.map (·.1)) = true then some (.ol (sortD (kvs.map (·.1))), ρ) else none := rfl
end
/-! ### ints as keys -/
def ik {α : Type} (enc : α → D) (l : List (Int × α)) : List (D × D) := l.map fun p => (.int p.1, enc p.2)
def lookI {α : Type} (l : List (Int × α)) (k : Int) : Option α := (l.find? fun p => p.1 == k).map (·.2)
def putI {α : Type} (l : List (Int × α)) (k : Int) (v : α) : List (Int × α) := if (l.any fun p => p.1 == k) = true then l.map (fun p => if (p.1 == k) = true then (p.1, v) else p) else l ++ [(k, v)]
theorem beqD_int (a b : Int) : beqD (.int a) (.int b) = (a == b) := rfl
theorem lookD_ik {α : Type} (enc : α → D) (k : Int) : ∀ l : List (Int × α), lookD (ik enc l) (.int k) = (lookI l k).map enc
  | [] => rfl
  | p :: l => by
    have ih := lookD_ik enc k l
    unfold lookD lookI ik at ih ⊢
    rw [List.map_cons]
    by_cases h : (p.1 == k) = true
    · rw [List.find?_cons_of_pos (by exact h), List.find?_cons_of_pos (by exact h)]; rfl
    · rw [List.find?_cons_of_neg (by exact h), List.find?_cons_of_neg (by exact h)]; exact ih
theorem putD_ik {α : Type} (enc : α → D) (k : Int) (v : α) (l : List (Int × α)) : putD (ik enc l) (.int k) (enc v) = ik enc (putI l k v) := by
  have ea : (ik enc l).any (fun p => beqD p.1 (.int k)) = l.any fun p => p.1 == k := by unfold ik; rw [List.any_map]; rfl
  unfold putD putI
  rw [ea]
  split
  · unfold ik
    rw [List.map_map, List.map_map]
    refine List.map_congr_left fun p _ => ?_
    show (if beqD (.int p.1) (.int k) = true then (PyData.int p.1, enc v) else (.int p.1, enc p.2)) = _
    rw [beqD_int]
    show _ = (fun q : Int × α => (PyData.int q.1, enc q.2)) (if (p.1 == k) = true then (p.1, v) else p)
    split <;> rfl
  · unfold ik; rw [List.map_append]; rfl
theorem lookI_cons {α : Type} (p : Int × α) (l : List (Int × α)) (k : Int) : lookI (p :: l) k = if p.1 = k then some p.2 else lookI l k := by
  unfold lookI
  by_cases h : p.1 = k
  · rw [if_pos h, List.find?_cons_of_pos (by simpa using h)]; rfl
  · rw [if_neg h, List.find?_cons_of_neg (by simpa using h)]
theorem any_lookI {α : Type} (k : Int) : ∀ l : List (Int × α), (l.any fun p => p.1 == k) = (lookI l k).isSome
  | [] => rfl
  | p :: l => by
    rw [List.any_cons, lookI_cons, any_lookI k l]
    by_cases h : p.1 = k
    · rw [if_pos h]; simp [h]
    · rw [if_neg h, beq_eq_false_iff_ne.mpr h]; rfl
theorem lookI_map {α : Type} (k j : Int) (v : α) : ∀ l : List (Int × α), lookI (l.map fun p => if (p.1 == k) = true then (p.1, v) else p) j = (lookI l j).map fun w => if j = k then v else w
  | [] => rfl
  | p :: l => by
    have ih := lookI_map k j v l
    rw [List.map_cons, lookI_cons, ih, lookI_cons]
    by_cases h : p.1 = k
    · have e1 : (if (p.1 == k) = true then (p.1, v) else p) = (p.1, v) := if_pos (by simpa using h)
      rw [e1]
      by_cases e : p.1 = j
      · rw [if_pos e, if_pos e, Option.map_some, if_pos (by rw [← e, h])]
      · rw [if_neg e, if_neg e]
    · have e1 : (if (p.1 == k) = true then (p.1, v) else p) = p := if_neg (by simpa using h)
      rw [e1]
      by_cases e : p.1 = j
      · rw [if_pos e, if_pos e, Option.map_some, if_neg (fun z => h (by rw [e, z]))]
      · rw [if_neg e, if_neg e]
theorem lookI_snoc {α : Type} (k j : Int) (v : α) : ∀ l : List (Int × α), lookI l k = none → lookI (l ++ [(k, v)]) j = if j = k then some v else lookI l j
  | [], _ => by
    rw [List.nil_append, lookI_cons]
    by_cases e : k = j
    · rw [if_pos e, if_pos e.symm]
    · rw [if_neg e, if_neg (fun z => e z.symm)]
  | p :: l, h => by
    rw [lookI_cons] at h
    split at h
    · cases h
    · next ne =>
      rw [List.cons_append, lookI_cons, lookI_cons, lookI_snoc k j v l h]
      by_cases e : p.1 = j
      · rw [if_pos e, if_pos e, if_neg (fun z => ne (by rw [e, z]))]
      · rw [if_neg e, if_neg e]
theorem lookI_put {α : Type} (l : List (Int × α)) (k j : Int) (v : α) : lookI (putI l k v) j = if j = k then some v else lookI l j := by
  unfold putI
  rw [any_lookI]
  cases h : lookI l k with
  | none =>
    rw [if_neg (by simp)]
    exact lookI_snoc k j v l h
  | some w =>
    rw [if_pos (show (some w).isSome = true from rfl), lookI_map]
    by_cases e : j = k
    · subst e; rw [h, if_pos rfl]; simp
    · rw [if_neg e]; cases lookI l j <;> simp [e]
theorem putI_len {α : Type} (l : List (Int × α)) (k : Int) (v : α) : (putI l k v).length ≤ l.length + 1 := by
  unfold putI
  split
  · rw [List.length_map]; omega
  · rw [List.length_append]; simp
theorem putI_keys {α : Type} (l : List (Int × α)) (k : Int) (v : α) : (putI l k v).map (·.1) = if (lookI l k).isSome = true then l.map (·.1) else l.map (·.1) ++ [k] := by
  unfold putI
  rw [any_lookI]
  split
  · rw [List.map_map]
    refine List.map_congr_left fun p _ => ?_
    show (if (p.1 == k) = true then (p.1, v) else p).1 = p.1
    split <;> rfl
  · rw [List.map_append]; rfl
end L2.Pd

namespace L2.G
open PySem PySem.Spec PyProof.Rows L2 L2.Pd

noncomputable section
def topS (i : Nat) : Stmt := PySem.Challenge.pw_paperkeep_k49_boxes_and_pleats.main.body.getD i (.Pass ⟨0, 0, 0, 0⟩)
section
variable {P : Program} {w : World} {K : PySem.W.Frag} {mg : Str → Option Value} {base : Heap}
/-! ### _law_draws -/
abbrev t__law_draws : Stmt := topS 19
theorem sc__law_draws : FnScope ["script", "many", "cells", "rest", "drawn", "k", "at", "once", "cell"] ["script", "many"] (defScope t__law_draws) := ⟨rfl, rfl, rfl, by decide +kernel, rfl, by decide +kernel, by decide +kernel⟩
def kb__law_draws_1 : FN := eComp none [8] (iSq (eVar 0)) (gNm 8) (cYes) (eCB cInt (aCons (eVar 8) (aNil)))
def k__law_draws_1 : FN := hid (kb__law_draws_1)
theorem kk__law_draws_1 : k__law_draws_1 = eComp none [8] (iSq (eVar 0)) (gNm 8) (cYes) (eCB cInt (aCons (eVar 8) (aNil))) := hid_eq _
def b__law_draws_1 : FS := sSeq (sSet 6 (eBin dMod (eVar 5) (eCB cLen (aCons (eVar 2) (aNil)))))
  (sIf (eAnd (eTst (eBin (fun x y => (bGe x y).map .bool) (eBin dIx (eVar 2) (eVar 6)) (eBin dPow (eC (.int 10)) (eC (.int 18))))) (eTst (eBin (fun x y => (bGt x y).map .bool) (eIxOwn 3 (eVar 6)) (eC (.int 0))))) (sSeq (sExpr (eMeth 4 lAppend (aCons (eBin dMod (eCB cInt (aCons (eIxOwn 3 (eVar 6)) (aNil))) (eC (.int 1000))) (aNil))))
  (sItem 3 (eVar 6) (eBin dFdiv (eIxOwn 3 (eVar 6)) (eC (.int 1000))))) (sSeq (sSet 7 (eBin dMod (eCB cInt (aCons (eBin dAddA (eBin dAddA (eBin dMulA (eBin dIx (eVar 2) (eVar 6)) (eC (.int 48271))) (eBin dMulA (eVar 5) (eC (.int 69621)))) (eC (.int 11))) (aNil))) (eC (.int 2147483647))))
  (sExpr (eMeth 4 lAppend (aCons (eBin dMod (eCB cInt (aCons (eBin dAddA (eBin dAddA (eBin dMulA (eVar 7) (eVar 7)) (eBin dMulA (eC (.int 3)) (eVar 7))) (eVar 5)) (aNil))) (eC (.int 1000003))) (aNil))))))
def lb__law_draws_1 : FS := sFor none [5, 6, 7] (iR1 (aCons (eVar 1) (aNil))) (gNm 5) b__law_draws_1
def l__law_draws_1 : FS := hid (lb__law_draws_1)
theorem ll__law_draws_1 : l__law_draws_1 = sFor none [5, 6, 7] (iR1 (aCons (eVar 1) (aNil))) (gNm 5) b__law_draws_1 := hid_eq _
def s__law_draws : FS := sSeq (sSetN 2 (k__law_draws_1))
  (sSeq (sIf (eTst (eBin (fun x y => (bEq x y).map .bool) (eLenOwn 2) (eC (.int 0)))) (sExpr (eMeth 2 lAppend (aCons (eC (.int 0)) (aNil)))) (sNx))
  (sSeq (sSetN 3 (eCBN cList (aCons (eVar 2) (aNil))))
  (sSeq (sSetN 4 (eLst (aNil)))
  (sSeq (l__law_draws_1)
  (sSeq (sExpr (eMeth0 4 lReverse))
  (sRetOwn 4))))))
def mb__law_draws : FnS := fnSem 9 [] s__law_draws
def m__law_draws : FnS := hid mb__law_draws
theorem mm__law_draws : m__law_draws = fnSem 9 [] s__law_draws := hid_eq _
instance : FnIs m__law_draws 9 [] s__law_draws := ⟨mm__law_draws⟩
theorem ok__law_draws (S : Src K mg "_law_draws" t__law_draws ["script", "many"]) (z_int : mg "int" = none) (z_len : mg "len" = none) (z_list : mg "list" = none) (z_range : mg "range" = none) : Cal P w K mg base 1 "_law_draws" ["script", "many"] [] m__law_draws := by
  rw [mm__law_draws]
  exact pd_cal (k := 0) [] S sc__law_draws rfl (body := s__law_draws) (fun f cdv A outer s H E hr => ⟨_, dss_cons (ds_hidN (kk__law_draws_1) (ds_setCompNX rfl sc__law_draws.nd (di_sq (de_var 0)) (own := [("cell", 8)]) (blkOk_by (N := ["script", "many", "cells", "rest", "drawn", "k", "at", "once", "cell"]) (sc := defScope t__law_draws) (by decide +kernel)) (fun s H C cl fp => dg_name 8 sc__law_draws.nd) (fun s H C cl fp => dts_nil) (fun s H C cl fp => de_callTy call_intD a_int z_int (da_cons (de_var 8) (da_nil)))))
  (dss_cons (ds_if (dt_cmp (op_eqB (hu_of' hr)) v_dat (de_lenOwn 2 z_len) (de_int)) (dss_one (ds_expr (de_lm (j := 2) PySem.F.slot_list_append PySem.F.type_list_append mt_append l_append (da_cons (de_int) (da_nil))))) (dss_nil))
  (dss_cons (ds_setN sc__law_draws.nd (dn_callTy call_list_of a_list z_list (da_cons (de_var 2) (da_nil))) (i := 3))
  (dss_cons (ds_setN sc__law_draws.nd (dn_lst (da_nil)) (i := 4))
  (dss_cons (ds_hid (ll__law_draws_1) (ds_for [5, 6, 7] PassesOwn.never rfl (di_range1 (da_cons (de_var 1) (da_nil)) z_range) (dg_name 5 sc__law_draws.nd) (dss_cons (ds_set sc__law_draws.nd (de_bin op_modN v_mod (de_var 5) (de_callB call_len a_len z_len (da_cons (de_var 2) (da_nil)))) (i := 6))
  (dss_one (ds_if ((dw_and (dt_cmp (op_geB (hu_of' hr)) v_dat (de_ix (de_var 2) (de_var 6)) (de_bin op_powD v_pow (de_int) (de_int))) (dw_and1 (dt_cmp (op_gtB (hu_of' hr)) v_dat (de_ixOwn 3 (de_var 6)) (de_int)))).dt) (dss_cons (ds_expr (de_lm (j := 4) PySem.F.slot_list_append PySem.F.type_list_append mt_append l_append (da_cons (de_bin op_modN v_mod (de_callTy call_intD a_int z_int (da_cons (de_ixOwn 3 (de_var 6)) (da_nil))) (de_int)) (da_nil))))
  (dss_one (ds_item (j := 3) (de_bin op_fdivD v_fdiv (de_ixOwn 3 (de_var 6)) (de_int)) (de_var 6)))) (dss_cons (ds_set sc__law_draws.nd (de_bin op_modN v_mod (de_callTy call_intD a_int z_int (da_cons (de_bin op_addA v_addA (de_bin op_addA v_addA (de_bin op_mulA v_mulA (de_ix (de_var 2) (de_var 6)) (de_int)) (de_bin op_mulA v_mulA (de_var 5) (de_int))) (de_int)) (da_nil))) (de_int)) (i := 7))
  (dss_one (ds_expr (de_lm (j := 4) PySem.F.slot_list_append PySem.F.type_list_append mt_append l_append (da_cons (de_bin op_modN v_mod (de_callTy call_intD a_int z_int (da_cons (de_bin op_addA v_addA (de_bin op_addA v_addA (de_bin op_mulA v_mulA (de_var 7) (de_var 7)) (de_bin op_mulA v_mulA (de_int) (de_var 7))) (de_var 5)) (da_nil))) (de_int)) (da_nil)))))))))))
  (dss_cons (ds_expr (de_lm0 (j := 4) PySem.F.slot_list_reverse PySem.F.type_list_reverse mt_reverse l_reverse))
  (dss_one (ds_retOwn 4)))))))⟩)
/-! ### _law_take -/
abbrev t__law_take : Stmt := topS 20
theorem sc__law_take : FnScope ["draws", "many"] ["draws", "many"] (defScope t__law_take) := ⟨rfl, rfl, rfl, by decide +kernel, rfl, by decide +kernel, by decide +kernel⟩
def s__law_take : FS := sSeq (sIf (eTst (eBin (fun x y => (bEq x y).map .bool) (eLenOwn 0) (eC (.int 0)))) (sRet (eC (.int 0))) (sNx))
  (sRet (eBin dMod (eCB cInt (aCons (eMeth0 0 lPop) (aNil))) (eVar 1)))
def mb__law_take : FnS := fnSem 2 [0] s__law_take
def m__law_take : FnS := hid mb__law_take
theorem mm__law_take : m__law_take = fnSem 2 [0] s__law_take := hid_eq _
instance : FnIs m__law_take 2 [0] s__law_take := ⟨mm__law_take⟩
theorem ok__law_take (S : Src K mg "_law_take" t__law_take ["draws", "many"]) (z_int : mg "int" = none) (z_len : mg "len" = none) : Cal P w K mg base 1 "_law_take" ["draws", "many"] [0] m__law_take := by
  rw [mm__law_take]
  exact pd_cal (k := 0) [0] S sc__law_take rfl (body := s__law_take) (fun f cdv A outer s H E hr => ⟨_, dss_cons (ds_if (dt_cmp (op_eqB (hu_of' hr)) v_dat (de_lenOwn 0 z_len) (de_int)) (dss_one (ds_ret (de_int))) (dss_nil))
  (dss_one (ds_ret (de_bin op_modN v_mod (de_callTy call_intD a_int z_int (da_cons (de_lm0 (j := 0) PySem.F.slot_list_pop PySem.F.type_list_pop mt_pop l_pop) (da_nil))) (de_var 1))))⟩)
/-! ### _law_drawn -/
abbrev t__law_drawn : Stmt := topS 28
theorem sc__law_drawn : FnScope ["draws", "many", "scale", "here", "found", "k", "at", "depth"] ["draws", "many", "scale"] (defScope t__law_drawn) := ⟨rfl, rfl, rfl, by decide +kernel, rfl, by decide +kernel, by decide +kernel⟩
def b__law_drawn_1 : FS := sSeq (sSet 6 (eBin dAddA (eVar 3) (eRetD (eCall1 0 0 m__law_take (rIo 0 (rCons (eC (.int 4)) (rNil)))))))
  (sSeq (sSet 7 (eBin dAddA (eC (.int 1)) (eRetD (eCall1 0 0 m__law_take (rIo 0 (rCons (eC (.int 4)) (rNil)))))))
  (sSeq (sExpr (eMeth 4 lAppend (aCons (eTup (aCons (eBin dMulA (eVar 6) (eVar 2)) (aCons (eBin dMulA (eVar 7) (eVar 2)) (aNil)))) (aNil))))
  (sSet 3 (eBin dAddA (eVar 6) (eBin dMulA (eC (.int 2)) (eVar 7))))))
def lb__law_drawn_1 : FS := sFor none [5, 6, 7] (iR1 (aCons (eRetD (eCall1 0 0 m__law_take (rIo 0 (rCons (eBin dAddA (eVar 1) (eC (.int 1))) (rNil))))) (aNil))) (gNm 5) b__law_drawn_1
def l__law_drawn_1 : FS := hid (lb__law_drawn_1)
theorem ll__law_drawn_1 : l__law_drawn_1 = sFor none [5, 6, 7] (iR1 (aCons (eRetD (eCall1 0 0 m__law_take (rIo 0 (rCons (eBin dAddA (eVar 1) (eC (.int 1))) (rNil))))) (aNil))) (gNm 5) b__law_drawn_1 := hid_eq _
def s__law_drawn : FS := sSeq (sSet 3 (eC (.int 0)))
  (sSeq (sSetN 4 (eLst (aNil)))
  (sSeq (l__law_drawn_1)
  (sRet (eTup (aCons (eBin dMulA (eBin dAddA (eVar 3) (eRetD (eCall1 0 0 m__law_take (rIo 0 (rCons (eC (.int 4)) (rNil)))))) (eVar 2)) (aCons (eCB cTuple (aCons (eVar 4) (aNil))) (aNil)))))))
def mb__law_drawn : FnS := fnSem 8 [0] s__law_drawn
def m__law_drawn : FnS := hid mb__law_drawn
theorem mm__law_drawn : m__law_drawn = fnSem 8 [0] s__law_drawn := hid_eq _
instance : FnIs m__law_drawn 8 [0] s__law_drawn := ⟨mm__law_drawn⟩
theorem ok__law_drawn (S : Src K mg "_law_drawn" t__law_drawn ["draws", "many", "scale"]) (h__law_take : Cal P w K mg base 1 "_law_take" ["draws", "many"] [0] m__law_take) (z_range : mg "range" = none) (z_tuple : mg "tuple" = none) : Cal P w K mg base 2 "_law_drawn" ["draws", "many", "scale"] [0] m__law_drawn := by
  rw [mm__law_drawn]
  exact pd_cal (k := 1) [0] S sc__law_drawn rfl (body := s__law_drawn) (fun f cdv A outer s H E hr => ⟨_, dss_cons (ds_set sc__law_drawn.nd (de_int) (i := 3))
  (dss_cons (ds_setN sc__law_drawn.nd (dn_lst (da_nil)) (i := 4))
  (dss_cons (ds_hid (ll__law_drawn_1) (ds_for [5, 6, 7] PassesOwn.never rfl (di_range1 (da_cons ((dc_cal1 h__law_take (hr.mono (by first | exact Nat.le_refl _ | decide | omega)) (j := 0) (dr_io (dr_cons (de_bin op_addA v_addA (de_var 1) (de_int)) (dr_nil)))).de) (da_nil)) z_range) (dg_name 5 sc__law_drawn.nd) (dss_cons (ds_set sc__law_drawn.nd (de_bin op_addA v_addA (de_var 3) ((dc_cal1 h__law_take (hr.mono (by first | exact Nat.le_refl _ | decide | omega)) (j := 0) (dr_io (dr_cons (de_int) (dr_nil)))).de)) (i := 6))
  (dss_cons (ds_set sc__law_drawn.nd (de_bin op_addA v_addA (de_int) ((dc_cal1 h__law_take (hr.mono (by first | exact Nat.le_refl _ | decide | omega)) (j := 0) (dr_io (dr_cons (de_int) (dr_nil)))).de)) (i := 7))
  (dss_cons (ds_expr (de_lm (j := 4) PySem.F.slot_list_append PySem.F.type_list_append mt_append l_append (da_cons (de_tup (da_cons (de_bin op_mulA v_mulA (de_var 6) (de_var 2)) (da_cons (de_bin op_mulA v_mulA (de_var 7) (de_var 2)) (da_nil)))) (da_nil))))
  (dss_one (ds_set sc__law_drawn.nd (de_bin op_addA v_addA (de_var 6) (de_bin op_mulA v_mulA (de_int) (de_var 7))) (i := 3))))))))
  (dss_one (ds_ret (de_tup (da_cons (de_bin op_mulA v_mulA (de_bin op_addA v_addA (de_var 3) ((dc_cal1 h__law_take (hr.mono (by first | exact Nat.le_refl _ | decide | omega)) (j := 0) (dr_io (dr_cons (de_int) (dr_nil)))).de)) (de_var 2)) (da_cons (de_callTy call_tuple_of a_tuple z_tuple (da_cons (de_var 4) (da_nil))) (da_nil))))))))⟩)
/-! ### room -/
abbrev t_room : Stmt := topS 11
theorem sc_room : FnScope ["a", "b", "x"] ["a", "b", "x"] (defScope t_room) := ⟨rfl, rfl, rfl, by decide +kernel, rfl, by decide +kernel, by decide +kernel⟩
def s_room : FS := sRet (eBin dMulA (eBin dMulA (eVar 2) (eBin dSub (eVar 0) (eBin dMulA (eC (.int 2)) (eVar 2)))) (eBin dSub (eVar 1) (eBin dMulA (eC (.int 2)) (eVar 2))))
def mb_room : FnS := fnSem 3 [] s_room
def m_room : FnS := hid mb_room
theorem mm_room : m_room = fnSem 3 [] s_room := hid_eq _
instance : FnIs m_room 3 [] s_room := ⟨mm_room⟩
theorem ok_room (S : Src K mg "room" t_room ["a", "b", "x"]) : Cal P w K mg base 1 "room" ["a", "b", "x"] [] m_room := by
  rw [mm_room]
  exact pd_cal (k := 0) [] S sc_room rfl (body := s_room) (fun f cdv A outer s H E hr => ⟨_, dss_one (ds_ret (de_bin op_mulA v_mulA (de_bin op_mulA v_mulA (de_var 2) (de_bin op_sub v_sub (de_var 0) (de_bin op_mulA v_mulA (de_int) (de_var 2)))) (de_bin op_sub v_sub (de_var 1) (de_bin op_mulA v_mulA (de_int) (de_var 2)))))⟩)
/-! ### best_height -/
abbrev t_best_height : Stmt := topS 12
theorem sc_best_height : FnScope ["a", "b", "low", "high", "middle"] ["a", "b"] (defScope t_best_height) := ⟨rfl, rfl, rfl, by decide +kernel, rfl, by decide +kernel, by decide +kernel⟩
def b_best_height_1 : FS := sSeq (sSet 4 (eBin dFdiv (eBin dAddA (eVar 2) (eVar 3)) (eC (.int 2))))
  (sIf (eTst (eBin (fun x y => (bGt x y).map .bool) (eRetD (eCall0 m_room (aCons (eVar 0) (aCons (eVar 1) (aCons (eBin dAddA (eVar 4) (eC (.int 1))) (aNil)))))) (eRetD (eCall0 m_room (aCons (eVar 0) (aCons (eVar 1) (aCons (eVar 4) (aNil)))))))) (sSet 2 (eBin dAddA (eVar 4) (eC (.int 1)))) (sSet 3 (eVar 4)))
def lb_best_height_1 : FS := sWhile [4] (eTst (eBin (fun x y => (bLt x y).map .bool) (eVar 2) (eVar 3))) b_best_height_1
def l_best_height_1 : FS := hid (lb_best_height_1)
theorem ll_best_height_1 : l_best_height_1 = sWhile [4] (eTst (eBin (fun x y => (bLt x y).map .bool) (eVar 2) (eVar 3))) b_best_height_1 := hid_eq _
def s_best_height : FS := sSeq (sPar 2 3 (aCons (eC (.int 0)) (aCons (eBin dFdiv (eCB cMin2 (aCons (eVar 0) (aCons (eVar 1) (aNil)))) (eC (.int 2))) (aNil))))
  (sSeq (l_best_height_1)
  (sRet (eVar 2)))
def mb_best_height : FnS := fnSem 5 [] s_best_height
def m_best_height : FnS := hid mb_best_height
theorem mm_best_height : m_best_height = fnSem 5 [] s_best_height := hid_eq _
instance : FnIs m_best_height 5 [] s_best_height := ⟨mm_best_height⟩
theorem ok_best_height (S : Src K mg "best_height" t_best_height ["a", "b"]) (h_room : Cal P w K mg base 1 "room" ["a", "b", "x"] [] m_room) (z_min : mg "min" = none) : Cal P w K mg base 2 "best_height" ["a", "b"] [] m_best_height := by
  rw [mm_best_height]
  exact pd_cal (k := 1) [] S sc_best_height rfl (body := s_best_height) (fun f cdv A outer s H E hr => ⟨_, dss_cons (ds_par rfl sc_best_height.nd (da_cons (de_int) (da_cons (de_bin op_fdivD v_fdiv (de_callB (call_min2 rfl) a_min2 z_min (da_cons (de_var 0) (da_cons (de_var 1) (da_nil)))) (de_int)) (da_nil))) (i := 2) (j := 3))
  (dss_cons (ds_hid (ll_best_height_1) (ds_while [4] PassesOwn.never (dt_cmp (op_ltB (hu_of' hr)) v_dat (de_var 2) (de_var 3)) (dss_cons (ds_set sc_best_height.nd (de_bin op_fdivD v_fdiv (de_bin op_addA v_addA (de_var 2) (de_var 3)) (de_int)) (i := 4))
  (dss_one (ds_if (dt_cmp (op_gtB (hu_of' hr)) v_dat ((dc_cal0 h_room (hr.mono (by first | exact Nat.le_refl _ | decide | omega)) (da_cons (de_var 0) (da_cons (de_var 1) (da_cons (de_bin op_addA v_addA (de_var 4) (de_int)) (da_nil)))) (aLen_cons (aLen_cons (aLen_cons (aLen_nil))))).de) ((dc_cal0 h_room (hr.mono (by first | exact Nat.le_refl _ | decide | omega)) (da_cons (de_var 0) (da_cons (de_var 1) (da_cons (de_var 4) (da_nil)))) (aLen_cons (aLen_cons (aLen_cons (aLen_nil))))).de)) (dss_one (ds_set sc_best_height.nd (de_bin op_addA v_addA (de_var 4) (de_int)) (i := 2))) (dss_one (ds_set sc_best_height.nd (de_var 4) (i := 3))))))))
  (dss_one (ds_ret (de_var 2))))⟩)
/-! ### _law_room -/
abbrev t__law_room : Stmt := topS 24
theorem sc__law_room : FnScope ["a", "b", "x"] ["a", "b", "x"] (defScope t__law_room) := ⟨rfl, rfl, rfl, by decide +kernel, rfl, by decide +kernel, by decide +kernel⟩
def s__law_room : FS := sRet (eBin dMulA (eBin dAddA (eBin dSub (eBin dSub (eBin dMulA (eVar 0) (eVar 1)) (eBin dMulA (eBin dMulA (eC (.int 2)) (eVar 2)) (eVar 0))) (eBin dMulA (eBin dMulA (eC (.int 2)) (eVar 2)) (eVar 1))) (eBin dMulA (eBin dMulA (eC (.int 4)) (eVar 2)) (eVar 2))) (eVar 2))
def mb__law_room : FnS := fnSem 3 [] s__law_room
def m__law_room : FnS := hid mb__law_room
theorem mm__law_room : m__law_room = fnSem 3 [] s__law_room := hid_eq _
instance : FnIs m__law_room 3 [] s__law_room := ⟨mm__law_room⟩
theorem ok__law_room (S : Src K mg "_law_room" t__law_room ["a", "b", "x"]) : Cal P w K mg base 1 "_law_room" ["a", "b", "x"] [] m__law_room := by
  rw [mm__law_room]
  exact pd_cal (k := 0) [] S sc__law_room rfl (body := s__law_room) (fun f cdv A outer s H E hr => ⟨_, dss_one (ds_ret (de_bin op_mulA v_mulA (de_bin op_addA v_addA (de_bin op_sub v_sub (de_bin op_sub v_sub (de_bin op_mulA v_mulA (de_var 0) (de_var 1)) (de_bin op_mulA v_mulA (de_bin op_mulA v_mulA (de_int) (de_var 2)) (de_var 0))) (de_bin op_mulA v_mulA (de_bin op_mulA v_mulA (de_int) (de_var 2)) (de_var 1))) (de_bin op_mulA v_mulA (de_bin op_mulA v_mulA (de_int) (de_var 2)) (de_var 2))) (de_var 2)))⟩)
/-! ### _law_cell -/
abbrev t__law_cell : Stmt := topS 21
theorem sc__law_cell : FnScope ["script", "draws"] ["script", "draws"] (defScope t__law_cell) := ⟨rfl, rfl, rfl, by decide +kernel, rfl, by decide +kernel, by decide +kernel⟩
def s__law_cell : FS := sSeq (sIf (eTst (eBin (fun x y => (bEq x y).map .bool) (eCB cLen (aCons (eVar 0) (aNil))) (eC (.int 0)))) (sRet (eC (.int 0))) (sNx))
  (sRet (eCB cInt (aCons (eBin dIx (eVar 0) (eRetD (eCall1 0 1 m__law_take (rIo 1 (rCons (eCB cLen (aCons (eVar 0) (aNil))) (rNil)))))) (aNil))))
def mb__law_cell : FnS := fnSem 2 [1] s__law_cell
def m__law_cell : FnS := hid mb__law_cell
theorem mm__law_cell : m__law_cell = fnSem 2 [1] s__law_cell := hid_eq _
instance : FnIs m__law_cell 2 [1] s__law_cell := ⟨mm__law_cell⟩
theorem ok__law_cell (S : Src K mg "_law_cell" t__law_cell ["script", "draws"]) (h__law_take : Cal P w K mg base 1 "_law_take" ["draws", "many"] [0] m__law_take) (z_int : mg "int" = none) (z_len : mg "len" = none) : Cal P w K mg base 2 "_law_cell" ["script", "draws"] [1] m__law_cell := by
  rw [mm__law_cell]
  exact pd_cal (k := 1) [1] S sc__law_cell rfl (body := s__law_cell) (fun f cdv A outer s H E hr => ⟨_, dss_cons (ds_if (dt_cmp (op_eqB (hu_of' hr)) v_dat (de_callB call_len a_len z_len (da_cons (de_var 0) (da_nil))) (de_int)) (dss_one (ds_ret (de_int))) (dss_nil))
  (dss_one (ds_ret (de_callTy call_intD a_int z_int (da_cons (de_ix (de_var 0) ((dc_cal1 h__law_take (hr.mono (by first | exact Nat.le_refl _ | decide | omega)) (j := 1) (dr_io (dr_cons (de_callB call_len a_len z_len (da_cons (de_var 0) (da_nil))) (dr_nil)))).de)) (da_nil)))))⟩)
/-! ### _law_same -/
abbrev t__law_same : Stmt := topS 22
theorem sc__law_same : FnScope ["actual", "due", "k"] ["actual", "due"] (defScope t__law_same) := ⟨rfl, rfl, rfl, by decide +kernel, rfl, by decide +kernel, by decide +kernel⟩
def b__law_same_1 (mf : FnS) : FS := sIf (eNot (eTru (eRetD (eCall0 mf (aCons (eBin dIx (eVar 0) (eVar 2)) (aCons (eBin dIx (eVar 1) (eVar 2)) (aNil))))))) (sRet (eC (.bool false))) (sNx)
def lb__law_same_1 (mf : FnS) : FS := sFor none [2] (iR1 (aCons (eCB cLen (aCons (eVar 1) (aNil))) (aNil))) (gNm 2) (b__law_same_1 mf)
def l__law_same_1 (mf : FnS) : FS := hid (lb__law_same_1 mf)
theorem ll__law_same_1 (mf : FnS) : l__law_same_1 mf = sFor none [2] (iR1 (aCons (eCB cLen (aCons (eVar 1) (aNil))) (aNil))) (gNm 2) (b__law_same_1 mf) := hid_eq _
def s__law_same (mf : FnS) : FS := sSeq (sIf (eTst (eBin (fun x y => (bIsN x y).map .bool) (eVar 1) (eC .none))) (sRet (eBin (fun x y => (bIsN x y).map .bool) (eVar 0) (eC .none))) (sNx))
  (sSeq (sIf (eTru (eIsi "bool" (eVar 1))) (sRet (eAndV (eIsi "bool" (eVar 0)) (eBin (fun x y => (bEq x y).map .bool) (eVar 0) (eVar 1)))) (sNx))
  (sSeq (sIf (eTru (eIsi "int" (eVar 1))) (sRet (eAndV (eIsi "int" (eVar 0)) (eAndV (eNotV (eIsi "bool" (eVar 0))) (eBin (fun x y => (bEq x y).map .bool) (eVar 0) (eVar 1))))) (sNx))
  (sSeq (sIf (eOr (eNot (eTru (eIsi "tuple" (eVar 0)))) (eTst (eBin (fun x y => (bNe x y).map .bool) (eCB cLen (aCons (eVar 0) (aNil))) (eCB cLen (aCons (eVar 1) (aNil)))))) (sRet (eC (.bool false))) (sNx))
  (sSeq (l__law_same_1 mf)
  (sRet (eC (.bool true)))))))
def m__law_same : Nat → FnS
  | 0 => fun _ => none
  | n + 1 => fnSem 3 [] (s__law_same (m__law_same n))
instance (n : Nat) : FnIs (m__law_same (n + 1)) 3 [] (s__law_same (m__law_same n)) := ⟨rfl⟩
theorem ok__law_same (S : Src K mg "_law_same" t__law_same ["actual", "due"]) (z_bool : mg "bool" = none) (z_int : mg "int" = none) (z_isinstance : mg "isinstance" = none) (z_len : mg "len" = none) (z_range : mg "range" = none) (z_tuple : mg "tuple" = none) : ∀ n : Nat, Cal P w K mg base (n + 0) "_law_same" ["actual", "due"] [] (m__law_same n)
  | 0 => cal_none (S := S)
  | n + 1 => by
    have h__law_same := ok__law_same S z_bool z_int z_isinstance z_len z_range z_tuple n
    exact Cal.cast (pd_cal (k := n + 0) [] S sc__law_same rfl (body := s__law_same (m__law_same n)) (fun f cdv A outer s H E hr => ⟨_, dss_cons (ds_if (dt_cmp (op_isNB) v_dat (de_var 1) (de_non)) (dss_one (ds_ret (de_cmp (op_isNB) v_dat (de_var 0) (de_non)))) (dss_nil))
  (dss_cons (ds_if (dt_tru (de_isi (de_var 1) z_isinstance z_bool)) (dss_one (ds_ret (de_and (de_isi (de_var 0) z_isinstance z_bool) (de_one (de_cmp (op_eqB (hu_of' hr)) v_dat (de_var 0) (de_var 1)))))) (dss_nil))
  (dss_cons (ds_if (dt_tru (de_isi (de_var 1) z_isinstance z_int)) (dss_one (ds_ret (de_and (de_isi (de_var 0) z_isinstance z_int) (de_and (de_not (de_isi (de_var 0) z_isinstance z_bool)) (de_one (de_cmp (op_eqB (hu_of' hr)) v_dat (de_var 0) (de_var 1))))))) (dss_nil))
  (dss_cons (ds_if ((dw_or (dt_not (dt_tru (de_isi (de_var 0) z_isinstance z_tuple))) (dw_or1 (dt_cmp (op_neB (hu_of' hr)) v_dat (de_callB call_len a_len z_len (da_cons (de_var 0) (da_nil))) (de_callB call_len a_len z_len (da_cons (de_var 1) (da_nil)))))).dt) (dss_one (ds_ret (de_bl))) (dss_nil))
  (dss_cons (ds_hid (ll__law_same_1 (m__law_same n)) (ds_for [2] PassesOwn.never rfl (di_range1 (da_cons (de_callB call_len a_len z_len (da_cons (de_var 1) (da_nil))) (da_nil)) z_range) (dg_name 2 sc__law_same.nd) (dss_one (ds_if (dt_not (dt_tru ((dc_cal0 h__law_same (hr.mono (by first | exact Nat.le_refl _ | decide | omega)) (da_cons (de_ix (de_var 0) (de_var 2)) (da_cons (de_ix (de_var 1) (de_var 2)) (da_nil))) (aLen_cons (aLen_cons (aLen_nil)))).de))) (dss_one (ds_ret (de_bl))) (dss_nil)))))
  (dss_one (ds_ret (de_bl)))))))⟩)) (by omega)
/-! ### _law_is_box_right -/
abbrev t__law_is_box_right : Stmt := topS 25
theorem sc__law_is_box_right : FnScope ["script", "draws", "turn", "a", "b", "most", "told", "own", "x"] ["script", "draws"] (defScope t__law_is_box_right) := ⟨rfl, rfl, rfl, by decide +kernel, rfl, by decide +kernel, by decide +kernel⟩
def kb__law_is_box_right_1 : FN := eComp none [8] (iR1 (aCons (eBin dAddA (eVar 5) (eC (.int 1))) (aNil))) (gNm 8) (cYes) (eRetD (eCall0 m__law_room (aCons (eVar 3) (aCons (eVar 4) (aCons (eVar 8) (aNil))))))
def k__law_is_box_right_1 : FN := hid (kb__law_is_box_right_1)
theorem kk__law_is_box_right_1 : k__law_is_box_right_1 = eComp none [8] (iR1 (aCons (eBin dAddA (eVar 5) (eC (.int 1))) (aNil))) (gNm 8) (cYes) (eRetD (eCall0 m__law_room (aCons (eVar 3) (aCons (eVar 4) (aCons (eVar 8) (aNil)))))) := hid_eq _
def b__law_is_box_right_1 : FS := sIf (eOr (eNot (eTru (eRetD (eCall0 (m__law_same 12) (aCons (eRetD (eCall0 m_room (aCons (eVar 3) (aCons (eVar 4) (aCons (eVar 8) (aNil)))))) (aCons (eRetD (eCall0 m__law_room (aCons (eVar 3) (aCons (eVar 4) (aCons (eVar 8) (aNil)))))) (aNil))))))) (eNot (eTru (eRetD (eCall0 (m__law_same 12) (aCons (eRetD (eCall0 m_room (aCons (eBin dSub (eC (.int 0)) (eVar 3)) (aCons (eVar 4) (aCons (eVar 8) (aNil)))))) (aCons (eRetD (eCall0 m__law_room (aCons (eBin dSub (eC (.int 0)) (eVar 3)) (aCons (eVar 4) (aCons (eVar 8) (aNil)))))) (aNil)))))))) (sRet (eC (.bool false))) (sNx)
def lb__law_is_box_right_1 : FS := sFor none [] (iSq (eFrz (eLst (aCons (eVar 6) (aCons (eBin dSub (eRetD (eCall1 0 1 m__law_take (rIo 1 (rCons (eC (.int 40)) (rNil))))) (eC (.int 5))) (aCons (eRetD (eCall1 1 1 m__law_cell (rCons (eVar 0) (rIo 1 (rNil))))) (aNil))))))) (gNm 8) b__law_is_box_right_1
def l__law_is_box_right_1 : FS := hid (lb__law_is_box_right_1)
theorem ll__law_is_box_right_1 : l__law_is_box_right_1 = sFor none [] (iSq (eFrz (eLst (aCons (eVar 6) (aCons (eBin dSub (eRetD (eCall1 0 1 m__law_take (rIo 1 (rCons (eC (.int 40)) (rNil))))) (eC (.int 5))) (aCons (eRetD (eCall1 1 1 m__law_cell (rCons (eVar 0) (rIo 1 (rNil))))) (aNil))))))) (gNm 8) b__law_is_box_right_1 := hid_eq _
def b__law_is_box_right_2 : FS := sSeq (sSet 3 (eBin dAddA (eBin dAddA (eC (.int 1)) (eBin dMulA (eRetD (eCall1 0 1 m__law_take (rIo 1 (rCons (eC (.int 60)) (rNil))))) (eBin dSub (eC (.int 1)) (eVar 2)))) (eBin dMulA (eCB cAbs (aCons (eRetD (eCall1 1 1 m__law_cell (rCons (eVar 0) (rIo 1 (rNil))))) (aNil))) (eVar 2))))
  (sSeq (sSet 4 (eBin dAddA (eBin dAddA (eC (.int 1)) (eBin dMulA (eRetD (eCall1 0 1 m__law_take (rIo 1 (rCons (eC (.int 60)) (rNil))))) (eBin dSub (eC (.int 1)) (eVar 2)))) (eBin dMulA (eBin dAddA (eCB cAbs (aCons (eRetD (eCall1 1 1 m__law_cell (rCons (eVar 0) (rIo 1 (rNil))))) (aNil))) (eRetD (eCall1 0 1 m__law_take (rIo 1 (rCons (eC (.int 9)) (rNil)))))) (eVar 2))))
  (sSeq (sSet 5 (eBin dFdiv (eCB cMin2 (aCons (eVar 3) (aCons (eVar 4) (aNil)))) (eC (.int 2))))
  (sSeq (sSet 6 (eRetD (eCall0 m_best_height (aCons (eVar 3) (aCons (eVar 4) (aNil))))))
  (sSeq (sIf (eOr (eTru (eIsi "bool" (eVar 6))) (eOr (eNot (eTru (eIsi "int" (eVar 6)))) (eOr (eTst (eBin (fun x y => (bLt x y).map .bool) (eVar 6) (eC (.int 0)))) (eTst (eBin (fun x y => (bGt x y).map .bool) (eVar 6) (eVar 5)))))) (sRet (eC (.bool false))) (sNx))
  (sSeq (sSet 7 (eRetD (eCall0 m__law_room (aCons (eVar 3) (aCons (eVar 4) (aCons (eVar 6) (aNil)))))))
  (sSeq (sIf (eOr (eAnd (eTst (eBin (fun x y => (bGt x y).map .bool) (eVar 6) (eC (.int 0)))) (eTst (eBin (fun x y => (bGe x y).map .bool) (eRetD (eCall0 m__law_room (aCons (eVar 3) (aCons (eVar 4) (aCons (eBin dSub (eVar 6) (eC (.int 1))) (aNil)))))) (eVar 7)))) (eAnd (eTst (eBin (fun x y => (bLt x y).map .bool) (eVar 6) (eVar 5))) (eTst (eBin (fun x y => (bGt x y).map .bool) (eRetD (eCall0 m__law_room (aCons (eVar 3) (aCons (eVar 4) (aCons (eBin dAddA (eVar 6) (eC (.int 1))) (aNil)))))) (eVar 7))))) (sRet (eC (.bool false))) (sNx))
  (sSeq (sIf (eAnd (eTst (eBin (fun x y => (bEq x y).map .bool) (eVar 2) (eC (.int 0)))) (eTst (eBin (fun x y => (bNe x y).map .bool) (eCB cMaxL (aCons (eFrz (k__law_is_box_right_1)) (aNil))) (eVar 7)))) (sRet (eC (.bool false))) (sNx))
  (sSeq (l__law_is_box_right_1)
  (sIf (eNot (eTru (eRetD (eCall0 (m__law_same 12) (aCons (eRetD (eCall0 m_best_height (aCons (eVar 4) (aCons (eVar 3) (aNil))))) (aCons (eVar 6) (aNil))))))) (sRet (eC (.bool false))) (sNx))))))))))
def lb__law_is_box_right_2 : FS := sFor none [2, 3, 4, 5, 6, 7] (iR1 (aCons (eC (.int 2)) (aNil))) (gNm 2) b__law_is_box_right_2
def l__law_is_box_right_2 : FS := hid (lb__law_is_box_right_2)
theorem ll__law_is_box_right_2 : l__law_is_box_right_2 = sFor none [2, 3, 4, 5, 6, 7] (iR1 (aCons (eC (.int 2)) (aNil))) (gNm 2) b__law_is_box_right_2 := hid_eq _
def s__law_is_box_right : FS := sSeq (l__law_is_box_right_2)
  (sRet (eC (.bool true)))
def mb__law_is_box_right : FnS := fnSem 9 [1] s__law_is_box_right
def m__law_is_box_right : FnS := hid mb__law_is_box_right
theorem mm__law_is_box_right : m__law_is_box_right = fnSem 9 [1] s__law_is_box_right := hid_eq _
instance : FnIs m__law_is_box_right 9 [1] s__law_is_box_right := ⟨mm__law_is_box_right⟩
theorem ok__law_is_box_right (S : Src K mg "_law_is_box_right" t__law_is_box_right ["script", "draws"]) (h__law_cell : Cal P w K mg base 2 "_law_cell" ["script", "draws"] [1] m__law_cell) (h__law_room : Cal P w K mg base 1 "_law_room" ["a", "b", "x"] [] m__law_room) (h__law_same : Cal P w K mg base 12 "_law_same" ["actual", "due"] [] (m__law_same 12)) (h__law_take : Cal P w K mg base 1 "_law_take" ["draws", "many"] [0] m__law_take) (h_best_height : Cal P w K mg base 2 "best_height" ["a", "b"] [] m_best_height) (h_room : Cal P w K mg base 1 "room" ["a", "b", "x"] [] m_room) (z_abs : mg "abs" = none) (z_bool : mg "bool" = none) (z_int : mg "int" = none) (z_isinstance : mg "isinstance" = none) (z_max : mg "max" = none) (z_min : mg "min" = none) (z_range : mg "range" = none) : Cal P w K mg base 13 "_law_is_box_right" ["script", "draws"] [1] m__law_is_box_right := by
  rw [mm__law_is_box_right]
  exact pd_cal (k := 12) [1] S sc__law_is_box_right rfl (body := s__law_is_box_right) (fun f cdv A outer s H E hr => ⟨_, dss_cons (ds_hid (ll__law_is_box_right_2) (ds_for [2, 3, 4, 5, 6, 7] PassesOwn.never rfl (di_range1 (da_cons (de_int) (da_nil)) z_range) (dg_name 2 sc__law_is_box_right.nd) (dss_cons (ds_set sc__law_is_box_right.nd (de_bin op_addA v_addA (de_bin op_addA v_addA (de_int) (de_bin op_mulA v_mulA ((dc_cal1 h__law_take (hr.mono (by first | exact Nat.le_refl _ | decide | omega)) (j := 1) (dr_io (dr_cons (de_int) (dr_nil)))).de) (de_bin op_sub v_sub (de_int) (de_var 2)))) (de_bin op_mulA v_mulA (de_callB call_abs a_abs z_abs (da_cons ((dc_cal1 h__law_cell (hr.mono (by first | exact Nat.le_refl _ | decide | omega)) (j := 1) (dr_cons (de_var 0) (dr_io (dr_nil)))).de) (da_nil))) (de_var 2))) (i := 3))
  (dss_cons (ds_set sc__law_is_box_right.nd (de_bin op_addA v_addA (de_bin op_addA v_addA (de_int) (de_bin op_mulA v_mulA ((dc_cal1 h__law_take (hr.mono (by first | exact Nat.le_refl _ | decide | omega)) (j := 1) (dr_io (dr_cons (de_int) (dr_nil)))).de) (de_bin op_sub v_sub (de_int) (de_var 2)))) (de_bin op_mulA v_mulA (de_bin op_addA v_addA (de_callB call_abs a_abs z_abs (da_cons ((dc_cal1 h__law_cell (hr.mono (by first | exact Nat.le_refl _ | decide | omega)) (j := 1) (dr_cons (de_var 0) (dr_io (dr_nil)))).de) (da_nil))) ((dc_cal1 h__law_take (hr.mono (by first | exact Nat.le_refl _ | decide | omega)) (j := 1) (dr_io (dr_cons (de_int) (dr_nil)))).de)) (de_var 2))) (i := 4))
  (dss_cons (ds_set sc__law_is_box_right.nd (de_bin op_fdivD v_fdiv (de_callB (call_min2 rfl) a_min2 z_min (da_cons (de_var 3) (da_cons (de_var 4) (da_nil)))) (de_int)) (i := 5))
  (dss_cons (ds_set sc__law_is_box_right.nd ((dc_cal0 h_best_height (hr.mono (by first | exact Nat.le_refl _ | decide | omega)) (da_cons (de_var 3) (da_cons (de_var 4) (da_nil))) (aLen_cons (aLen_cons (aLen_nil)))).de) (i := 6))
  (dss_cons (ds_if ((dw_or (dt_tru (de_isi (de_var 6) z_isinstance z_bool)) (dw_or (dt_not (dt_tru (de_isi (de_var 6) z_isinstance z_int))) (dw_or (dt_cmp (op_ltB (hu_of' hr)) v_dat (de_var 6) (de_int)) (dw_or1 (dt_cmp (op_gtB (hu_of' hr)) v_dat (de_var 6) (de_var 5)))))).dt) (dss_one (ds_ret (de_bl))) (dss_nil))
  (dss_cons (ds_set sc__law_is_box_right.nd ((dc_cal0 h__law_room (hr.mono (by first | exact Nat.le_refl _ | decide | omega)) (da_cons (de_var 3) (da_cons (de_var 4) (da_cons (de_var 6) (da_nil)))) (aLen_cons (aLen_cons (aLen_cons (aLen_nil))))).de) (i := 7))
  (dss_cons (ds_if ((dw_or ((dw_and (dt_cmp (op_gtB (hu_of' hr)) v_dat (de_var 6) (de_int)) (dw_and1 (dt_cmp (op_geB (hu_of' hr)) v_dat ((dc_cal0 h__law_room (hr.mono (by first | exact Nat.le_refl _ | decide | omega)) (da_cons (de_var 3) (da_cons (de_var 4) (da_cons (de_bin op_sub v_sub (de_var 6) (de_int)) (da_nil)))) (aLen_cons (aLen_cons (aLen_cons (aLen_nil))))).de) (de_var 7)))).dt) (dw_or1 ((dw_and (dt_cmp (op_ltB (hu_of' hr)) v_dat (de_var 6) (de_var 5)) (dw_and1 (dt_cmp (op_gtB (hu_of' hr)) v_dat ((dc_cal0 h__law_room (hr.mono (by first | exact Nat.le_refl _ | decide | omega)) (da_cons (de_var 3) (da_cons (de_var 4) (da_cons (de_bin op_addA v_addA (de_var 6) (de_int)) (da_nil)))) (aLen_cons (aLen_cons (aLen_cons (aLen_nil))))).de) (de_var 7)))).dt))).dt) (dss_one (ds_ret (de_bl))) (dss_nil))
  (dss_cons (ds_if ((dw_and (dt_cmp (op_eqB (hu_of' hr)) v_dat (de_var 2) (de_int)) (dw_and1 (dt_cmp (op_neB (hu_of' hr)) v_dat (de_callB (call_maxB rfl (hu_of' hr)) a_maxL z_max (da_cons ((DN.de (dn_hid (kk__law_is_box_right_1) (dn_compX rfl sc__law_is_box_right.nd (di_range1 (da_cons (de_bin op_addA v_addA (de_var 5) (de_int)) (da_nil)) z_range) (own := [("x", 8)]) (blkOk_by (N := ["script", "draws", "turn", "a", "b", "most", "told", "own", "x"]) (sc := defScope t__law_is_box_right) (by decide +kernel)) (fun s H C cl fp => dg_name 8 sc__law_is_box_right.nd) (fun s H C cl fp => dts_nil) (fun s H C cl fp => (dc_cal0 h__law_room (hr.mono (by first | exact Nat.le_refl _ | decide | omega)) (da_cons (de_var 3) (da_cons (de_var 4) (da_cons (de_var 8) (da_nil)))) (aLen_cons (aLen_cons (aLen_cons (aLen_nil))))).de))))) (da_nil))) (de_var 7)))).dt) (dss_one (ds_ret (de_bl))) (dss_nil))
  (dss_cons (ds_hid (ll__law_is_box_right_1) (ds_for [] PassesOwn.never rfl (di_sq ((DN.de (dn_lst (da_cons (de_var 6) (da_cons (de_bin op_sub v_sub ((dc_cal1 h__law_take (hr.mono (by first | exact Nat.le_refl _ | decide | omega)) (j := 1) (dr_io (dr_cons (de_int) (dr_nil)))).de) (de_int)) (da_cons ((dc_cal1 h__law_cell (hr.mono (by first | exact Nat.le_refl _ | decide | omega)) (j := 1) (dr_cons (de_var 0) (dr_io (dr_nil)))).de) (da_nil)))))))) (dg_name 8 sc__law_is_box_right.nd) (dss_one (ds_if ((dw_or (dt_not (dt_tru ((dc_cal0 h__law_same (hr.mono (by first | exact Nat.le_refl _ | decide | omega)) (da_cons ((dc_cal0 h_room (hr.mono (by first | exact Nat.le_refl _ | decide | omega)) (da_cons (de_var 3) (da_cons (de_var 4) (da_cons (de_var 8) (da_nil)))) (aLen_cons (aLen_cons (aLen_cons (aLen_nil))))).de) (da_cons ((dc_cal0 h__law_room (hr.mono (by first | exact Nat.le_refl _ | decide | omega)) (da_cons (de_var 3) (da_cons (de_var 4) (da_cons (de_var 8) (da_nil)))) (aLen_cons (aLen_cons (aLen_cons (aLen_nil))))).de) (da_nil))) (aLen_cons (aLen_cons (aLen_nil)))).de))) (dw_or1 (dt_not (dt_tru ((dc_cal0 h__law_same (hr.mono (by first | exact Nat.le_refl _ | decide | omega)) (da_cons ((dc_cal0 h_room (hr.mono (by first | exact Nat.le_refl _ | decide | omega)) (da_cons (de_bin op_sub v_sub (de_int) (de_var 3)) (da_cons (de_var 4) (da_cons (de_var 8) (da_nil)))) (aLen_cons (aLen_cons (aLen_cons (aLen_nil))))).de) (da_cons ((dc_cal0 h__law_room (hr.mono (by first | exact Nat.le_refl _ | decide | omega)) (da_cons (de_bin op_sub v_sub (de_int) (de_var 3)) (da_cons (de_var 4) (da_cons (de_var 8) (da_nil)))) (aLen_cons (aLen_cons (aLen_cons (aLen_nil))))).de) (da_nil))) (aLen_cons (aLen_cons (aLen_nil)))).de))))).dt) (dss_one (ds_ret (de_bl))) (dss_nil)))))
  (dss_one (ds_if (dt_not (dt_tru ((dc_cal0 h__law_same (hr.mono (by first | exact Nat.le_refl _ | decide | omega)) (da_cons ((dc_cal0 h_best_height (hr.mono (by first | exact Nat.le_refl _ | decide | omega)) (da_cons (de_var 4) (da_cons (de_var 3) (da_nil))) (aLen_cons (aLen_cons (aLen_nil)))).de) (da_cons (de_var 6) (da_nil))) (aLen_cons (aLen_cons (aLen_nil)))).de))) (dss_one (ds_ret (de_bl))) (dss_nil))))))))))))))
  (dss_one (ds_ret (de_bl)))⟩)
/-! ### _law_changed -/
abbrev t__law_changed : Stmt := topS 29
theorem sc__law_changed : FnScope ["script", "draws", "pleats", "at", "cell", "style", "place", "depth", "new"] ["script", "draws", "pleats"] (defScope t__law_changed) := ⟨rfl, rfl, rfl, by decide +kernel, rfl, by decide +kernel, by decide +kernel⟩
def s__law_changed : FS := sSeq (sSet 3 (eRetD (eCall1 0 1 m__law_take (rIo 1 (rCons (eBin dAddA (eCB cLen (aCons (eVar 2) (aNil))) (eC (.int 1))) (rNil))))))
  (sSeq (sSet 4 (eRetD (eCall1 1 1 m__law_cell (rCons (eVar 0) (rIo 1 (rNil))))))
  (sSeq (sSet 5 (eRetD (eCall1 0 1 m__law_take (rIo 1 (rCons (eC (.int 6)) (rNil))))))
  (sSeq (sIf (eOr (eTst (eBin (fun x y => (bEq x y).map .bool) (eVar 5) (eC (.int 0)))) (eOr (eTst (eBin (fun x y => (bEq x y).map .bool) (eCB cLen (aCons (eVar 2) (aNil))) (eC (.int 0)))) (eTst (eBin (fun x y => (bEq x y).map .bool) (eVar 3) (eCB cLen (aCons (eVar 2) (aNil))))))) (sRet (eBin dAddA (eVar 2) (eTup (aCons (eTup (aCons (eBin dSub (eRetD (eCall1 0 1 m__law_take (rIo 1 (rCons (eC (.int 30)) (rNil))))) (eC (.int 2))) (aCons (eRetD (eCall1 0 1 m__law_take (rIo 1 (rCons (eC (.int 4)) (rNil))))) (aNil)))) (aNil))))) (sNx))
  (sSeq (sAsg (eBin dIx (eVar 2) (eVar 3)) (gTp 2 (gCn (gNm 6) (gCn (gNm 7) (gNl)))))
  (sSeq (sIf (eTst (eBin (fun x y => (bEq x y).map .bool) (eVar 5) (eC (.int 1)))) (sRet (eBin dAddA (eSl (eVar 2) (oSome (eVar 3)) (oNone)) (eSl (eVar 2) (oNone) (oSome (eVar 3))))) (sNx))
  (sSeq (sIf (eTst (eBin (fun x y => (bEq x y).map .bool) (eVar 5) (eC (.int 2)))) (sRet (eBin dAddA (eSl (eVar 2) (oNone) (oSome (eBin dAddA (eVar 3) (eC (.int 1))))) (eSl (eVar 2) (oSome (eVar 3)) (oNone)))) (sNx))
  (sSeq (sSet 8 (eBin dIx (eFrz (eLst (aCons (eTup (aCons (eBin dAddA (eVar 6) (eBin dIx (eFrz (eLst (aCons (eC (.int 1)) (aCons (eUn dNeg (eC (.int 1))) (aCons (eVar 4) (aNil)))))) (eRetD (eCall1 0 1 m__law_take (rIo 1 (rCons (eC (.int 3)) (rNil))))))) (aCons (eVar 7) (aNil)))) (aCons (eTup (aCons (eVar 6) (aCons (eBin dAddA (eVar 7) (eBin dIx (eFrz (eLst (aCons (eC (.int 1)) (aCons (eUn dNeg (eC (.int 1))) (aCons (eBin dSub (eC (.int 0)) (eVar 7)) (aNil)))))) (eRetD (eCall1 0 1 m__law_take (rIo 1 (rCons (eC (.int 3)) (rNil))))))) (aNil)))) (aCons (eTup (aCons (eVar 6) (aCons (eVar 4) (aNil)))) (aNil)))))) (eBin dSub (eVar 5) (eC (.int 3)))))
  (sRet (eBin dAddA (eBin dAddA (eSl (eVar 2) (oNone) (oSome (eVar 3))) (eTup (aCons (eVar 8) (aNil)))) (eSl (eVar 2) (oSome (eBin dAddA (eVar 3) (eC (.int 1)))) (oNone)))))))))))
def mb__law_changed : FnS := fnSem 9 [1] s__law_changed
def m__law_changed : FnS := hid mb__law_changed
theorem mm__law_changed : m__law_changed = fnSem 9 [1] s__law_changed := hid_eq _
instance : FnIs m__law_changed 9 [1] s__law_changed := ⟨mm__law_changed⟩
theorem ok__law_changed (S : Src K mg "_law_changed" t__law_changed ["script", "draws", "pleats"]) (h__law_cell : Cal P w K mg base 2 "_law_cell" ["script", "draws"] [1] m__law_cell) (h__law_take : Cal P w K mg base 1 "_law_take" ["draws", "many"] [0] m__law_take) (z_len : mg "len" = none) : Cal P w K mg base 3 "_law_changed" ["script", "draws", "pleats"] [1] m__law_changed := by
  rw [mm__law_changed]
  exact pd_cal (k := 2) [1] S sc__law_changed rfl (body := s__law_changed) (fun f cdv A outer s H E hr => ⟨_, dss_cons (ds_set sc__law_changed.nd ((dc_cal1 h__law_take (hr.mono (by first | exact Nat.le_refl _ | decide | omega)) (j := 1) (dr_io (dr_cons (de_bin op_addA v_addA (de_callB call_len a_len z_len (da_cons (de_var 2) (da_nil))) (de_int)) (dr_nil)))).de) (i := 3))
  (dss_cons (ds_set sc__law_changed.nd ((dc_cal1 h__law_cell (hr.mono (by first | exact Nat.le_refl _ | decide | omega)) (j := 1) (dr_cons (de_var 0) (dr_io (dr_nil)))).de) (i := 4))
  (dss_cons (ds_set sc__law_changed.nd ((dc_cal1 h__law_take (hr.mono (by first | exact Nat.le_refl _ | decide | omega)) (j := 1) (dr_io (dr_cons (de_int) (dr_nil)))).de) (i := 5))
  (dss_cons (ds_if ((dw_or (dt_cmp (op_eqB (hu_of' hr)) v_dat (de_var 5) (de_int)) (dw_or (dt_cmp (op_eqB (hu_of' hr)) v_dat (de_callB call_len a_len z_len (da_cons (de_var 2) (da_nil))) (de_int)) (dw_or1 (dt_cmp (op_eqB (hu_of' hr)) v_dat (de_var 3) (de_callB call_len a_len z_len (da_cons (de_var 2) (da_nil))))))).dt) (dss_one (ds_ret (de_bin op_addA v_addA (de_var 2) (de_tup (da_cons (de_tup (da_cons (de_bin op_sub v_sub ((dc_cal1 h__law_take (hr.mono (by first | exact Nat.le_refl _ | decide | omega)) (j := 1) (dr_io (dr_cons (de_int) (dr_nil)))).de) (de_int)) (da_cons ((dc_cal1 h__law_take (hr.mono (by first | exact Nat.le_refl _ | decide | omega)) (j := 1) (dr_io (dr_cons (de_int) (dr_nil)))).de) (da_nil)))) (da_nil)))))) (dss_nil))
  (dss_cons (ds_asg (de_ix (de_var 2) (de_var 3)) (dg_tup rfl (dgs_cons (dg_name 6 sc__law_changed.nd) (dgs_cons (dg_name 7 sc__law_changed.nd) (dgs_nil)))))
  (dss_cons (ds_if (dt_cmp (op_eqB (hu_of' hr)) v_dat (de_var 5) (de_int)) (dss_one (ds_ret (de_bin op_addA v_addA (de_slice (de_var 2) (do_some (de_var 3)) (do_none)) (de_slice (de_var 2) (do_none) (do_some (de_var 3)))))) (dss_nil))
  (dss_cons (ds_if (dt_cmp (op_eqB (hu_of' hr)) v_dat (de_var 5) (de_int)) (dss_one (ds_ret (de_bin op_addA v_addA (de_slice (de_var 2) (do_none) (do_some (de_bin op_addA v_addA (de_var 3) (de_int)))) (de_slice (de_var 2) (do_some (de_var 3)) (do_none))))) (dss_nil))
  (dss_cons (ds_set sc__law_changed.nd (de_ix ((DN.de (dn_lst (da_cons (de_tup (da_cons (de_bin op_addA v_addA (de_var 6) (de_ix ((DN.de (dn_lst (da_cons (de_int) (da_cons (de_un un_neg v_neg (de_int)) (da_cons (de_var 4) (da_nil))))))) ((dc_cal1 h__law_take (hr.mono (by first | exact Nat.le_refl _ | decide | omega)) (j := 1) (dr_io (dr_cons (de_int) (dr_nil)))).de))) (da_cons (de_var 7) (da_nil)))) (da_cons (de_tup (da_cons (de_var 6) (da_cons (de_bin op_addA v_addA (de_var 7) (de_ix ((DN.de (dn_lst (da_cons (de_int) (da_cons (de_un un_neg v_neg (de_int)) (da_cons (de_bin op_sub v_sub (de_int) (de_var 7)) (da_nil))))))) ((dc_cal1 h__law_take (hr.mono (by first | exact Nat.le_refl _ | decide | omega)) (j := 1) (dr_io (dr_cons (de_int) (dr_nil)))).de))) (da_nil)))) (da_cons (de_tup (da_cons (de_var 6) (da_cons (de_var 4) (da_nil)))) (da_nil))))))) (de_bin op_sub v_sub (de_var 5) (de_int))) (i := 8))
  (dss_one (ds_ret (de_bin op_addA v_addA (de_bin op_addA v_addA (de_slice (de_var 2) (do_none) (do_some (de_var 3))) (de_tup (da_cons (de_var 8) (da_nil)))) (de_slice (de_var 2) (do_some (de_bin op_addA v_addA (de_var 3) (de_int))) (do_none))))))))))))⟩)
/-! ### _law_by_units -/
abbrev t__law_by_units : Stmt := topS 31
theorem sc__law_by_units : FnScope ["length", "pleats", "found", "here", "done", "at", "depth", "k"] ["length", "pleats"] (defScope t__law_by_units) := ⟨rfl, rfl, rfl, by decide +kernel, rfl, by decide +kernel, by decide +kernel⟩
def b__law_by_units_1 : FS := sSeq (sDPutK 2 (eVar 3) (eBin dAddA (eDGet2 2 (eVar 3) (eC (.int 0))) (eC (.int 1))))
  (sSet 3 (eBin dAddA (eVar 3) (eC (.int 1))))
def lb__law_by_units_1 : FS := sFor none [7] (iR1 (aCons (eBin dSub (eVar 5) (eVar 4)) (aNil))) (gNm 7) b__law_by_units_1
def l__law_by_units_1 : FS := hid (lb__law_by_units_1)
theorem ll__law_by_units_1 : l__law_by_units_1 = sFor none [7] (iR1 (aCons (eBin dSub (eVar 5) (eVar 4)) (aNil))) (gNm 7) b__law_by_units_1 := hid_eq _
def b__law_by_units_2 : FS := sSeq (sSet 3 (eBin dSub (eVar 3) (eC (.int 1))))
  (sDPutK 2 (eVar 3) (eBin dAddA (eDGet2 2 (eVar 3) (eC (.int 0))) (eC (.int 1))))
def lb__law_by_units_2 : FS := sFor none [7] (iR1 (aCons (eVar 6) (aNil))) (gNm 7) b__law_by_units_2
def l__law_by_units_2 : FS := hid (lb__law_by_units_2)
theorem ll__law_by_units_2 : l__law_by_units_2 = sFor none [7] (iR1 (aCons (eVar 6) (aNil))) (gNm 7) b__law_by_units_2 := hid_eq _
def b__law_by_units_3 : FS := sSeq (sDPutK 2 (eVar 3) (eBin dAddA (eDGet2 2 (eVar 3) (eC (.int 0))) (eC (.int 1))))
  (sSet 3 (eBin dAddA (eVar 3) (eC (.int 1))))
def lb__law_by_units_3 : FS := sFor none [7] (iR1 (aCons (eVar 6) (aNil))) (gNm 7) b__law_by_units_3
def l__law_by_units_3 : FS := hid (lb__law_by_units_3)
theorem ll__law_by_units_3 : l__law_by_units_3 = sFor none [7] (iR1 (aCons (eVar 6) (aNil))) (gNm 7) b__law_by_units_3 := hid_eq _
def b__law_by_units_4 : FS := sSeq (l__law_by_units_1)
  (sSeq (l__law_by_units_2)
  (sSeq (l__law_by_units_3)
  (sSet 4 (eBin dAddA (eVar 5) (eBin dMulA (eC (.int 2)) (eVar 6))))))
def lb__law_by_units_4 : FS := sFor none [5, 6, 7] (iSq (eBin dAddA (eVar 1) (eTup (aCons (eTup (aCons (eVar 0) (aCons (eC (.int 0)) (aNil)))) (aNil))))) (gTp 2 (gCn (gNm 5) (gCn (gNm 6) (gNl)))) b__law_by_units_4
def l__law_by_units_4 : FS := hid (lb__law_by_units_4)
theorem ll__law_by_units_4 : l__law_by_units_4 = sFor none [5, 6, 7] (iSq (eBin dAddA (eVar 1) (eTup (aCons (eTup (aCons (eVar 0) (aCons (eC (.int 0)) (aNil)))) (aNil))))) (gTp 2 (gCn (gNm 5) (gCn (gNm 6) (gNl)))) b__law_by_units_4 := hid_eq _
def s__law_by_units : FS := sSeq (sSetN 2 (eDict0))
  (sSeq (sSet 3 (eC (.int 0)))
  (sSeq (sSet 4 (eC (.int 0)))
  (sSeq (l__law_by_units_4)
  (sRetOwn 2))))
def mb__law_by_units : FnS := fnSem 8 [] s__law_by_units
def m__law_by_units : FnS := hid mb__law_by_units
theorem mm__law_by_units : m__law_by_units = fnSem 8 [] s__law_by_units := hid_eq _
instance : FnIs m__law_by_units 8 [] s__law_by_units := ⟨mm__law_by_units⟩
theorem ok__law_by_units (S : Src K mg "_law_by_units" t__law_by_units ["length", "pleats"]) (z_range : mg "range" = none) : Cal P w K mg base 1 "_law_by_units" ["length", "pleats"] [] m__law_by_units := by
  rw [mm__law_by_units]
  exact pd_cal (k := 0) [] S sc__law_by_units rfl (body := s__law_by_units) (fun f cdv A outer s H E hr => ⟨_, dss_cons (ds_setN sc__law_by_units.nd (dn_dict0) (i := 2))
  (dss_cons (ds_set sc__law_by_units.nd (de_int) (i := 3))
  (dss_cons (ds_set sc__law_by_units.nd (de_int) (i := 4))
  (dss_cons (ds_hid (ll__law_by_units_4) (ds_for [5, 6, 7] PassesOwn.never rfl (di_sq (de_bin op_addA v_addA (de_var 1) (de_tup (da_cons (de_tup (da_cons (de_var 0) (da_cons (de_int) (da_nil)))) (da_nil))))) (dg_tup rfl (dgs_cons (dg_name 5 sc__law_by_units.nd) (dgs_cons (dg_name 6 sc__law_by_units.nd) (dgs_nil)))) (dss_cons (ds_hid (ll__law_by_units_1) (ds_for [7] PassesOwn.never rfl (di_range1 (da_cons (de_bin op_sub v_sub (de_var 5) (de_var 4)) (da_nil)) z_range) (dg_name 7 sc__law_by_units.nd) (dss_cons (ds_dput 2 (hu_of' hr) (de_bin op_addA v_addA (de_dget2 2 (hu_of' hr) (de_var 3) (de_int)) (de_int)) (de_var 3))
  (dss_one (ds_set sc__law_by_units.nd (de_bin op_addA v_addA (de_var 3) (de_int)) (i := 3))))))
  (dss_cons (ds_hid (ll__law_by_units_2) (ds_for [7] PassesOwn.never rfl (di_range1 (da_cons (de_var 6) (da_nil)) z_range) (dg_name 7 sc__law_by_units.nd) (dss_cons (ds_set sc__law_by_units.nd (de_bin op_sub v_sub (de_var 3) (de_int)) (i := 3))
  (dss_one (ds_dput 2 (hu_of' hr) (de_bin op_addA v_addA (de_dget2 2 (hu_of' hr) (de_var 3) (de_int)) (de_int)) (de_var 3))))))
  (dss_cons (ds_hid (ll__law_by_units_3) (ds_for [7] PassesOwn.never rfl (di_range1 (da_cons (de_var 6) (da_nil)) z_range) (dg_name 7 sc__law_by_units.nd) (dss_cons (ds_dput 2 (hu_of' hr) (de_bin op_addA v_addA (de_dget2 2 (hu_of' hr) (de_var 3) (de_int)) (de_int)) (de_var 3))
  (dss_one (ds_set sc__law_by_units.nd (de_bin op_addA v_addA (de_var 3) (de_int)) (i := 3))))))
  (dss_one (ds_set sc__law_by_units.nd (de_bin op_addA v_addA (de_var 5) (de_bin op_mulA v_mulA (de_int) (de_var 6))) (i := 4))))))))
  (dss_one (ds_retOwn 2)))))⟩)
/-! ### _law_layers -/
abbrev t__law_layers : Stmt := topS 30
theorem sc__law_layers : FnScope ["length", "pleats", "place", "left_over", "found", "before", "at", "depth", "folded", "pleat"] ["length", "pleats", "place"] (defScope t__law_layers) := ⟨rfl, rfl, rfl, by decide +kernel, rfl, by decide +kernel, by decide +kernel⟩
def kb__law_layers_1 : FN := eComp none [9] (iSq (eVar 1)) (gNm 9) (cYes) (eBin dIx (eVar 9) (eC (.int 1)))
def k__law_layers_1 : FN := hid (kb__law_layers_1)
theorem kk__law_layers_1 : k__law_layers_1 = eComp none [9] (iSq (eVar 1)) (gNm 9) (cYes) (eBin dIx (eVar 9) (eC (.int 1))) := hid_eq _
def b__law_layers_1 : FS := sSeq (sSet 8 (eBin dSub (eVar 6) (eVar 5)))
  (sSeq (sIf (eTst (eChain (fun x y => (bLe x y).map .bool) (fun x y => (bLt x y).map .bool) (eBin dSub (eVar 8) (eVar 7)) (eVar 2) (eVar 8))) (sSet 4 (eBin dAddA (eVar 4) (eC (.int 2)))) (sNx))
  (sSet 5 (eBin dAddA (eVar 5) (eBin dMulA (eC (.int 2)) (eVar 7)))))
def lb__law_layers_1 : FS := sFor none [6, 7, 8] (iSq (eVar 1)) (gTp 2 (gCn (gNm 6) (gCn (gNm 7) (gNl)))) b__law_layers_1
def l__law_layers_1 : FS := hid (lb__law_layers_1)
theorem ll__law_layers_1 : l__law_layers_1 = sFor none [6, 7, 8] (iSq (eVar 1)) (gTp 2 (gCn (gNm 6) (gCn (gNm 7) (gNl)))) b__law_layers_1 := hid_eq _
def s__law_layers : FS := sSeq (sSet 3 (eBin dSub (eVar 0) (eBin dMulA (eC (.int 2)) (eCB cSumA (aCons (eFrz (k__law_layers_1)) (aNil))))))
  (sSeq (sSet 4 (eCB cInt (aCons (eChain (fun x y => (bLe x y).map .bool) (fun x y => (bLt x y).map .bool) (eC (.int 0)) (eVar 2) (eVar 3)) (aNil))))
  (sSeq (sSet 5 (eC (.int 0)))
  (sSeq (l__law_layers_1)
  (sRet (eVar 4)))))
def mb__law_layers : FnS := fnSem 10 [] s__law_layers
def m__law_layers : FnS := hid mb__law_layers
theorem mm__law_layers : m__law_layers = fnSem 10 [] s__law_layers := hid_eq _
instance : FnIs m__law_layers 10 [] s__law_layers := ⟨mm__law_layers⟩
theorem ok__law_layers (S : Src K mg "_law_layers" t__law_layers ["length", "pleats", "place"]) (z_int : mg "int" = none) (z_sum : mg "sum" = none) : Cal P w K mg base 1 "_law_layers" ["length", "pleats", "place"] [] m__law_layers := by
  rw [mm__law_layers]
  exact pd_cal (k := 0) [] S sc__law_layers rfl (body := s__law_layers) (fun f cdv A outer s H E hr => ⟨_, dss_cons (ds_set sc__law_layers.nd (de_bin op_sub v_sub (de_var 0) (de_bin op_mulA v_mulA (de_int) (de_callB (call_sumA rfl) a_sumA z_sum (da_cons ((DN.de (dn_hid (kk__law_layers_1) (dn_compX rfl sc__law_layers.nd (di_sq (de_var 1)) (own := [("pleat", 9)]) (blkOk_by (N := ["length", "pleats", "place", "left_over", "found", "before", "at", "depth", "folded", "pleat"]) (sc := defScope t__law_layers) (by decide +kernel)) (fun s H C cl fp => dg_name 9 sc__law_layers.nd) (fun s H C cl fp => dts_nil) (fun s H C cl fp => de_ix (de_var 9) (de_int)))))) (da_nil))))) (i := 3))
  (dss_cons (ds_set sc__law_layers.nd (de_callTy call_intD a_int z_int (da_cons (de_chain (op_leB (hu_of' hr)) v_dat (op_ltB (hu_of' hr)) v_dat (de_int) (de_var 2) (de_var 3)) (da_nil))) (i := 4))
  (dss_cons (ds_set sc__law_layers.nd (de_int) (i := 5))
  (dss_cons (ds_hid (ll__law_layers_1) (ds_for [6, 7, 8] PassesOwn.never rfl (di_sq (de_var 1)) (dg_tup rfl (dgs_cons (dg_name 6 sc__law_layers.nd) (dgs_cons (dg_name 7 sc__law_layers.nd) (dgs_nil)))) (dss_cons (ds_set sc__law_layers.nd (de_bin op_sub v_sub (de_var 6) (de_var 5)) (i := 8))
  (dss_cons (ds_if (dt_chain (op_leB (hu_of' hr)) v_dat (op_ltB (hu_of' hr)) v_dat (de_bin op_sub v_sub (de_var 8) (de_var 7)) (de_var 2) (de_var 8)) (dss_one (ds_set sc__law_layers.nd (de_bin op_addA v_addA (de_var 4) (de_int)) (i := 4))) (dss_nil))
  (dss_one (ds_set sc__law_layers.nd (de_bin op_addA v_addA (de_var 5) (de_bin op_mulA v_mulA (de_int) (de_var 7))) (i := 5)))))))
  (dss_one (ds_ret (de_var 4))))))⟩)
/-! ### pleated_length -/
abbrev t_pleated_length : Stmt := topS 14
theorem sc_pleated_length : FnScope ["length", "pleats", "at", "depth"] ["length", "pleats"] (defScope t_pleated_length) := ⟨rfl, rfl, rfl, by decide +kernel, rfl, by decide +kernel, by decide +kernel⟩
def kb_pleated_length_1 : FN := eComp none [2, 3] (iSq (eVar 1)) (gTp 2 (gCn (gNm 2) (gCn (gNm 3) (gNl)))) (cYes) (eVar 3)
def k_pleated_length_1 : FN := hid (kb_pleated_length_1)
theorem kk_pleated_length_1 : k_pleated_length_1 = eComp none [2, 3] (iSq (eVar 1)) (gTp 2 (gCn (gNm 2) (gCn (gNm 3) (gNl)))) (cYes) (eVar 3) := hid_eq _
def s_pleated_length : FS := sRet (eBin dSub (eVar 0) (eBin dMulA (eC (.int 2)) (eCB cSumA (aCons (eFrz (k_pleated_length_1)) (aNil)))))
def mb_pleated_length : FnS := fnSem 4 [] s_pleated_length
def m_pleated_length : FnS := hid mb_pleated_length
theorem mm_pleated_length : m_pleated_length = fnSem 4 [] s_pleated_length := hid_eq _
instance : FnIs m_pleated_length 4 [] s_pleated_length := ⟨mm_pleated_length⟩
theorem ok_pleated_length (S : Src K mg "pleated_length" t_pleated_length ["length", "pleats"]) (z_sum : mg "sum" = none) : Cal P w K mg base 1 "pleated_length" ["length", "pleats"] [] m_pleated_length := by
  rw [mm_pleated_length]
  exact pd_cal (k := 0) [] S sc_pleated_length rfl (body := s_pleated_length) (fun f cdv A outer s H E hr => ⟨_, dss_one (ds_ret (de_bin op_sub v_sub (de_var 0) (de_bin op_mulA v_mulA (de_int) (de_callB (call_sumA rfl) a_sumA z_sum (da_cons ((DN.de (dn_hid (kk_pleated_length_1) (dn_compX rfl sc_pleated_length.nd (di_sq (de_var 1)) (own := [("at", 2), ("depth", 3)]) (blkOk_by (N := ["length", "pleats", "at", "depth"]) (sc := defScope t_pleated_length) (by decide +kernel)) (fun s H C cl fp => dg_tup rfl (dgs_cons (dg_name 2 sc_pleated_length.nd) (dgs_cons (dg_name 3 sc_pleated_length.nd) (dgs_nil)))) (fun s H C cl fp => dts_nil) (fun s H C cl fp => de_var 3))))) (da_nil))))))⟩)
/-! ### ways_of -/
abbrev t_ways_of : Stmt := topS 15
theorem sc_ways_of : FnScope ["length", "pleats", "found", "place", "done", "at", "depth"] ["length", "pleats"] (defScope t_ways_of) := ⟨rfl, rfl, rfl, by decide +kernel, rfl, by decide +kernel, by decide +kernel⟩
def b_ways_of_1 : FS := sSeq (sExpr (eMeth 2 lAppend (aCons (eTup (aCons (eVar 3) (aCons (eBin dSub (eBin dAddA (eVar 3) (eVar 5)) (eVar 4)) (aNil)))) (aNil))))
  (sSeq (sAug 3 dIadd (eBin dSub (eVar 5) (eVar 4)))
  (sSeq (sExpr (eMeth 2 lAppend (aCons (eTup (aCons (eVar 3) (aCons (eBin dSub (eVar 3) (eVar 6)) (aNil)))) (aNil))))
  (sSeq (sExpr (eMeth 2 lAppend (aCons (eTup (aCons (eBin dSub (eVar 3) (eVar 6)) (aCons (eVar 3) (aNil)))) (aNil))))
  (sSet 4 (eBin dAddA (eVar 5) (eBin dMulA (eC (.int 2)) (eVar 6)))))))
def lb_ways_of_1 : FS := sFor none [5, 6] (iSq (eVar 1)) (gTp 2 (gCn (gNm 5) (gCn (gNm 6) (gNl)))) b_ways_of_1
def l_ways_of_1 : FS := hid (lb_ways_of_1)
theorem ll_ways_of_1 : l_ways_of_1 = sFor none [5, 6] (iSq (eVar 1)) (gTp 2 (gCn (gNm 5) (gCn (gNm 6) (gNl)))) b_ways_of_1 := hid_eq _
def s_ways_of : FS := sSeq (sSetN 2 (eLst (aNil)))
  (sSeq (sAsg (eTup (aCons (eC (.int 0)) (aCons (eC (.int 0)) (aNil)))) (gTp 2 (gCn (gNm 3) (gCn (gNm 4) (gNl)))))
  (sSeq (l_ways_of_1)
  (sSeq (sExpr (eMeth 2 lAppend (aCons (eTup (aCons (eVar 3) (aCons (eBin dSub (eBin dAddA (eVar 3) (eVar 0)) (eVar 4)) (aNil)))) (aNil))))
  (sRet (eVar 2)))))
def mb_ways_of : FnS := fnSem 7 [] s_ways_of
def m_ways_of : FnS := hid mb_ways_of
theorem mm_ways_of : m_ways_of = fnSem 7 [] s_ways_of := hid_eq _
instance : FnIs m_ways_of 7 [] s_ways_of := ⟨mm_ways_of⟩
theorem ok_ways_of (S : Src K mg "ways_of" t_ways_of ["length", "pleats"]) : Cal P w K mg base 1 "ways_of" ["length", "pleats"] [] m_ways_of := by
  rw [mm_ways_of]
  exact pd_cal (k := 0) [] S sc_ways_of rfl (body := s_ways_of) (fun f cdv A outer s H E hr => ⟨_, dss_cons (ds_setN sc_ways_of.nd (dn_lst (da_nil)) (i := 2))
  (dss_cons (ds_asg (de_tup (da_cons (de_int) (da_cons (de_int) (da_nil)))) (dg_tup rfl (dgs_cons (dg_name 3 sc_ways_of.nd) (dgs_cons (dg_name 4 sc_ways_of.nd) (dgs_nil)))))
  (dss_cons (ds_hid (ll_ways_of_1) (ds_for [5, 6] PassesOwn.never rfl (di_sq (de_var 1)) (dg_tup rfl (dgs_cons (dg_name 5 sc_ways_of.nd) (dgs_cons (dg_name 6 sc_ways_of.nd) (dgs_nil)))) (dss_cons (ds_expr (de_lm (j := 2) PySem.F.slot_list_append PySem.F.type_list_append mt_append l_append (da_cons (de_tup (da_cons (de_var 3) (da_cons (de_bin op_sub v_sub (de_bin op_addA v_addA (de_var 3) (de_var 5)) (de_var 4)) (da_nil)))) (da_nil))))
  (dss_cons (ds_aug sc_ways_of.nd ip_addD v_iadd (de_bin op_sub v_sub (de_var 5) (de_var 4)) (i := 3))
  (dss_cons (ds_expr (de_lm (j := 2) PySem.F.slot_list_append PySem.F.type_list_append mt_append l_append (da_cons (de_tup (da_cons (de_var 3) (da_cons (de_bin op_sub v_sub (de_var 3) (de_var 6)) (da_nil)))) (da_nil))))
  (dss_cons (ds_expr (de_lm (j := 2) PySem.F.slot_list_append PySem.F.type_list_append mt_append l_append (da_cons (de_tup (da_cons (de_bin op_sub v_sub (de_var 3) (de_var 6)) (da_cons (de_var 3) (da_nil)))) (da_nil))))
  (dss_one (ds_set sc_ways_of.nd (de_bin op_addA v_addA (de_var 5) (de_bin op_mulA v_mulA (de_int) (de_var 6))) (i := 4)))))))))
  (dss_cons (ds_expr (de_lm (j := 2) PySem.F.slot_list_append PySem.F.type_list_append mt_append l_append (da_cons (de_tup (da_cons (de_var 3) (da_cons (de_bin op_sub v_sub (de_bin op_addA v_addA (de_var 3) (de_var 0)) (de_var 4)) (da_nil)))) (da_nil))))
  (dss_one (ds_ret (de_var 2))))))⟩)
/-! ### layers_at_place -/
abbrev t_layers_at_place : Stmt := topS 16
theorem sc_layers_at_place : FnScope ["length", "pleats", "place", "one", "other"] ["length", "pleats", "place"] (defScope t_layers_at_place) := ⟨rfl, rfl, rfl, by decide +kernel, rfl, by decide +kernel, by decide +kernel⟩
def kb_layers_at_place_1 : FN := eComp none [3, 4] (iSq (eRetD (eCall0 m_ways_of (aCons (eVar 0) (aCons (eVar 1) (aNil)))))) (gTp 2 (gCn (gNm 3) (gCn (gNm 4) (gNl)))) (eTst (eChain (fun x y => (bLe x y).map .bool) (fun x y => (bLt x y).map .bool) (eCB cMin2 (aCons (eVar 3) (aCons (eVar 4) (aNil)))) (eVar 2) (eCB cMax2 (aCons (eVar 3) (aCons (eVar 4) (aNil)))))) (eC (.int 1))
def k_layers_at_place_1 : FN := hid (kb_layers_at_place_1)
theorem kk_layers_at_place_1 : k_layers_at_place_1 = eComp none [3, 4] (iSq (eRetD (eCall0 m_ways_of (aCons (eVar 0) (aCons (eVar 1) (aNil)))))) (gTp 2 (gCn (gNm 3) (gCn (gNm 4) (gNl)))) (eTst (eChain (fun x y => (bLe x y).map .bool) (fun x y => (bLt x y).map .bool) (eCB cMin2 (aCons (eVar 3) (aCons (eVar 4) (aNil)))) (eVar 2) (eCB cMax2 (aCons (eVar 3) (aCons (eVar 4) (aNil)))))) (eC (.int 1)) := hid_eq _
def s_layers_at_place : FS := sRet (eCB cLen (aCons (eFrz (k_layers_at_place_1)) (aNil)))
def mb_layers_at_place : FnS := fnSem 5 [] s_layers_at_place
def m_layers_at_place : FnS := hid mb_layers_at_place
theorem mm_layers_at_place : m_layers_at_place = fnSem 5 [] s_layers_at_place := hid_eq _
instance : FnIs m_layers_at_place 5 [] s_layers_at_place := ⟨mm_layers_at_place⟩
theorem ok_layers_at_place (S : Src K mg "layers_at_place" t_layers_at_place ["length", "pleats", "place"]) (h_ways_of : Cal P w K mg base 1 "ways_of" ["length", "pleats"] [] m_ways_of) (z_len : mg "len" = none) (z_max : mg "max" = none) (z_min : mg "min" = none) : Cal P w K mg base 2 "layers_at_place" ["length", "pleats", "place"] [] m_layers_at_place := by
  rw [mm_layers_at_place]
  exact pd_cal (k := 1) [] S sc_layers_at_place rfl (body := s_layers_at_place) (fun f cdv A outer s H E hr => ⟨_, dss_one (ds_ret (de_callB call_len a_len z_len (da_cons ((DN.de (dn_hid (kk_layers_at_place_1) (dn_compX rfl sc_layers_at_place.nd (di_sq ((dc_cal0 h_ways_of (hr.mono (by first | exact Nat.le_refl _ | decide | omega)) (da_cons (de_var 0) (da_cons (de_var 1) (da_nil))) (aLen_cons (aLen_cons (aLen_nil)))).de)) (own := [("one", 3), ("other", 4)]) (blkOk_by (N := ["length", "pleats", "place", "one", "other"]) (sc := defScope t_layers_at_place) (by decide +kernel)) (fun s H C cl fp => dg_tup rfl (dgs_cons (dg_name 3 sc_layers_at_place.nd) (dgs_cons (dg_name 4 sc_layers_at_place.nd) (dgs_nil)))) (fun s H C cl fp => dts_one (dt_chain (op_leB (hu_of' hr)) v_dat (op_ltB (hu_of' hr)) v_dat (de_callB (call_min2 rfl) a_min2 z_min (da_cons (de_var 3) (da_cons (de_var 4) (da_nil)))) (de_var 2) (de_callB (call_max2 rfl) a_max2 z_max (da_cons (de_var 3) (da_cons (de_var 4) (da_nil)))))) (fun s H C cl fp => de_int))))) (da_nil))))⟩)
/-! ### _law_are_layers_right -/
abbrev t__law_are_layers_right : Stmt := topS 32
theorem sc__law_are_layers_right : FnScope ["length", "pleats", "scale", "left_over", "units", "places", "at", "depth", "place", "due", "pleat"] ["length", "pleats", "scale"] (defScope t__law_are_layers_right) := ⟨rfl, rfl, rfl, by decide +kernel, rfl, by decide +kernel, by decide +kernel⟩
def kb__law_are_layers_right_1 : FN := eComp none [10] (iSq (eVar 1)) (gNm 10) (cYes) (eBin dIx (eVar 10) (eC (.int 1)))
def k__law_are_layers_right_1 : FN := hid (kb__law_are_layers_right_1)
theorem kk__law_are_layers_right_1 : k__law_are_layers_right_1 = eComp none [10] (iSq (eVar 1)) (gNm 10) (cYes) (eBin dIx (eVar 10) (eC (.int 1))) := hid_eq _
def b__law_are_layers_right_1 : FS := sSet 5 (eBin dAddA (eVar 5) (eFrz (eLst (aCons (eVar 6) (aCons (eBin dSub (eVar 6) (eC (.int 1))) (aCons (eBin dSub (eVar 6) (eVar 7)) (aCons (eBin dSub (eBin dSub (eVar 6) (eVar 7)) (eC (.int 1))) (aNil))))))))
def lb__law_are_layers_right_1 : FS := sFor none [6, 7] (iSq (eSl (eVar 1) (oNone) (oSome (eC (.int 3))))) (gTp 2 (gCn (gNm 6) (gCn (gNm 7) (gNl)))) b__law_are_layers_right_1
def l__law_are_layers_right_1 : FS := hid (lb__law_are_layers_right_1)
theorem ll__law_are_layers_right_1 : l__law_are_layers_right_1 = sFor none [6, 7] (iSq (eSl (eVar 1) (oNone) (oSome (eC (.int 3))))) (gTp 2 (gCn (gNm 6) (gCn (gNm 7) (gNl)))) b__law_are_layers_right_1 := hid_eq _
def b__law_are_layers_right_2 : FS := sSeq (sSet 9 (eRetD (eCall0 m__law_layers (aCons (eVar 0) (aCons (eVar 1) (aCons (eVar 8) (aNil)))))))
  (sIf (eOr (eAnd (eTst (eBin (fun x y => (bEq x y).map .bool) (eVar 2) (eC (.int 1)))) (eTst (eBin (fun x y => (bNe x y).map .bool) (eVar 9) (eDGet2 4 (eVar 8) (eC (.int 0)))))) (eNot (eTru (eRetD (eCall0 (m__law_same 12) (aCons (eRetD (eCall0 m_layers_at_place (aCons (eVar 0) (aCons (eVar 1) (aCons (eVar 8) (aNil)))))) (aCons (eVar 9) (aNil)))))))) (sRet (eC (.bool false))) (sNx))
def lb__law_are_layers_right_2 : FS := sFor none [8, 9] (iSq (eVar 5)) (gNm 8) b__law_are_layers_right_2
def l__law_are_layers_right_2 : FS := hid (lb__law_are_layers_right_2)
theorem ll__law_are_layers_right_2 : l__law_are_layers_right_2 = sFor none [8, 9] (iSq (eVar 5)) (gNm 8) b__law_are_layers_right_2 := hid_eq _
def s__law_are_layers_right : FS := sSeq (sSet 3 (eBin dSub (eVar 0) (eBin dMulA (eC (.int 2)) (eCB cSumA (aCons (eFrz (k__law_are_layers_right_1)) (aNil))))))
  (sSeq (sIf (eNot (eTru (eRetD (eCall0 (m__law_same 12) (aCons (eRetD (eCall0 m_pleated_length (aCons (eVar 0) (aCons (eVar 1) (aNil))))) (aCons (eVar 3) (aNil))))))) (sRet (eC (.bool false))) (sNx))
  (sSeq (sSetN 4 (eDict0))
  (sSeq (sIf (eTst (eBin (fun x y => (bEq x y).map .bool) (eVar 2) (eC (.int 1)))) (sSetN 4 (eRetN (eCall0 m__law_by_units (aCons (eVar 0) (aCons (eVar 1) (aNil)))))) (sNx))
  (sSeq (sSet 5 (eFrz (eLRg (gR2 (eUn dNeg (eC (.int 6))) (eC (.int 20))))))
  (sSeq (sIf (eTst (eBin (fun x y => (bGt x y).map .bool) (eVar 2) (eC (.int 1)))) (sSeq (sSet 5 (eFrz (eLst (aCons (eC (.int 0)) (aCons (eUn dNeg (eC (.int 1))) (aCons (eVar 3) (aCons (eBin dSub (eVar 3) (eC (.int 1))) (aCons (eBin dFdiv (eVar 3) (eC (.int 2))) (aNil)))))))))
  (l__law_are_layers_right_1)) (sNx))
  (sSeq (l__law_are_layers_right_2)
  (sRet (eC (.bool true)))))))))
def mb__law_are_layers_right : FnS := fnSem 11 [] s__law_are_layers_right
def m__law_are_layers_right : FnS := hid mb__law_are_layers_right
theorem mm__law_are_layers_right : m__law_are_layers_right = fnSem 11 [] s__law_are_layers_right := hid_eq _
instance : FnIs m__law_are_layers_right 11 [] s__law_are_layers_right := ⟨mm__law_are_layers_right⟩
theorem ok__law_are_layers_right (S : Src K mg "_law_are_layers_right" t__law_are_layers_right ["length", "pleats", "scale"]) (h__law_by_units : Cal P w K mg base 1 "_law_by_units" ["length", "pleats"] [] m__law_by_units) (h__law_layers : Cal P w K mg base 1 "_law_layers" ["length", "pleats", "place"] [] m__law_layers) (h__law_same : Cal P w K mg base 12 "_law_same" ["actual", "due"] [] (m__law_same 12)) (h_layers_at_place : Cal P w K mg base 2 "layers_at_place" ["length", "pleats", "place"] [] m_layers_at_place) (h_pleated_length : Cal P w K mg base 1 "pleated_length" ["length", "pleats"] [] m_pleated_length) (z_list : mg "list" = none) (z_range : mg "range" = none) (z_sum : mg "sum" = none) : Cal P w K mg base 13 "_law_are_layers_right" ["length", "pleats", "scale"] [] m__law_are_layers_right := by
  rw [mm__law_are_layers_right]
  exact pd_cal (k := 12) [] S sc__law_are_layers_right rfl (body := s__law_are_layers_right) (fun f cdv A outer s H E hr => ⟨_, dss_cons (ds_set sc__law_are_layers_right.nd (de_bin op_sub v_sub (de_var 0) (de_bin op_mulA v_mulA (de_int) (de_callB (call_sumA rfl) a_sumA z_sum (da_cons ((DN.de (dn_hid (kk__law_are_layers_right_1) (dn_compX rfl sc__law_are_layers_right.nd (di_sq (de_var 1)) (own := [("pleat", 10)]) (blkOk_by (N := ["length", "pleats", "scale", "left_over", "units", "places", "at", "depth", "place", "due", "pleat"]) (sc := defScope t__law_are_layers_right) (by decide +kernel)) (fun s H C cl fp => dg_name 10 sc__law_are_layers_right.nd) (fun s H C cl fp => dts_nil) (fun s H C cl fp => de_ix (de_var 10) (de_int)))))) (da_nil))))) (i := 3))
  (dss_cons (ds_if (dt_not (dt_tru ((dc_cal0 h__law_same (hr.mono (by first | exact Nat.le_refl _ | decide | omega)) (da_cons ((dc_cal0 h_pleated_length (hr.mono (by first | exact Nat.le_refl _ | decide | omega)) (da_cons (de_var 0) (da_cons (de_var 1) (da_nil))) (aLen_cons (aLen_cons (aLen_nil)))).de) (da_cons (de_var 3) (da_nil))) (aLen_cons (aLen_cons (aLen_nil)))).de))) (dss_one (ds_ret (de_bl))) (dss_nil))
  (dss_cons (ds_setN sc__law_are_layers_right.nd (dn_dict0) (i := 4))
  (dss_cons (ds_if (dt_cmp (op_eqB (hu_of' hr)) v_dat (de_var 2) (de_int)) (dss_one (ds_setN sc__law_are_layers_right.nd ((dc_cal0 h__law_by_units (hr.mono (by first | exact Nat.le_refl _ | decide | omega)) (da_cons (de_var 0) (da_cons (de_var 1) (da_nil))) (aLen_cons (aLen_cons (aLen_nil)))).dn) (i := 4))) (dss_nil))
  (dss_cons (ds_set sc__law_are_layers_right.nd ((DN.de (dn_listRg rfl (drg_2 (de_un un_neg v_neg (de_int)) (de_int) z_range) z_list))) (i := 5))
  (dss_cons (ds_if (dt_cmp (op_gtB (hu_of' hr)) v_dat (de_var 2) (de_int)) (dss_cons (ds_set sc__law_are_layers_right.nd ((DN.de (dn_lst (da_cons (de_int) (da_cons (de_un un_neg v_neg (de_int)) (da_cons (de_var 3) (da_cons (de_bin op_sub v_sub (de_var 3) (de_int)) (da_cons (de_bin op_fdivD v_fdiv (de_var 3) (de_int)) (da_nil))))))))) (i := 5))
  (dss_one (ds_hid (ll__law_are_layers_right_1) (ds_for [6, 7] PassesOwn.never rfl (di_sq (de_slice (de_var 1) (do_none) (do_some (de_int)))) (dg_tup rfl (dgs_cons (dg_name 6 sc__law_are_layers_right.nd) (dgs_cons (dg_name 7 sc__law_are_layers_right.nd) (dgs_nil)))) (dss_one (ds_set sc__law_are_layers_right.nd (de_bin op_addA v_addA (de_var 5) ((DN.de (dn_lst (da_cons (de_var 6) (da_cons (de_bin op_sub v_sub (de_var 6) (de_int)) (da_cons (de_bin op_sub v_sub (de_var 6) (de_var 7)) (da_cons (de_bin op_sub v_sub (de_bin op_sub v_sub (de_var 6) (de_var 7)) (de_int)) (da_nil))))))))) (i := 5))))))) (dss_nil))
  (dss_cons (ds_hid (ll__law_are_layers_right_2) (ds_for [8, 9] PassesOwn.never rfl (di_sq (de_var 5)) (dg_name 8 sc__law_are_layers_right.nd) (dss_cons (ds_set sc__law_are_layers_right.nd ((dc_cal0 h__law_layers (hr.mono (by first | exact Nat.le_refl _ | decide | omega)) (da_cons (de_var 0) (da_cons (de_var 1) (da_cons (de_var 8) (da_nil)))) (aLen_cons (aLen_cons (aLen_cons (aLen_nil))))).de) (i := 9))
  (dss_one (ds_if ((dw_or ((dw_and (dt_cmp (op_eqB (hu_of' hr)) v_dat (de_var 2) (de_int)) (dw_and1 (dt_cmp (op_neB (hu_of' hr)) v_dat (de_var 9) (de_dget2 4 (hu_of' hr) (de_var 8) (de_int))))).dt) (dw_or1 (dt_not (dt_tru ((dc_cal0 h__law_same (hr.mono (by first | exact Nat.le_refl _ | decide | omega)) (da_cons ((dc_cal0 h_layers_at_place (hr.mono (by first | exact Nat.le_refl _ | decide | omega)) (da_cons (de_var 0) (da_cons (de_var 1) (da_cons (de_var 8) (da_nil)))) (aLen_cons (aLen_cons (aLen_cons (aLen_nil))))).de) (da_cons (de_var 9) (da_nil))) (aLen_cons (aLen_cons (aLen_nil)))).de))))).dt) (dss_one (ds_ret (de_bl))) (dss_nil))))))
  (dss_one (ds_ret (de_bl)))))))))⟩)
/-! ### _law_are_pleats -/
abbrev t__law_are_pleats : Stmt := topS 26
theorem sc__law_are_pleats : FnScope ["length", "pleats", "here", "at", "depth"] ["length", "pleats"] (defScope t__law_are_pleats) := ⟨rfl, rfl, rfl, by decide +kernel, rfl, by decide +kernel, by decide +kernel⟩
def b__law_are_pleats_1 : FS := sSeq (sIf (eOr (eTst (eBin (fun x y => (bLt x y).map .bool) (eVar 3) (eVar 2))) (eTst (eBin (fun x y => (bLt x y).map .bool) (eVar 4) (eC (.int 1))))) (sRet (eC (.bool false))) (sNx))
  (sSet 2 (eBin dAddA (eVar 3) (eBin dMulA (eC (.int 2)) (eVar 4))))
def lb__law_are_pleats_1 : FS := sFor none [3, 4] (iSq (eVar 1)) (gTp 2 (gCn (gNm 3) (gCn (gNm 4) (gNl)))) b__law_are_pleats_1
def l__law_are_pleats_1 : FS := hid (lb__law_are_pleats_1)
theorem ll__law_are_pleats_1 : l__law_are_pleats_1 = sFor none [3, 4] (iSq (eVar 1)) (gTp 2 (gCn (gNm 3) (gCn (gNm 4) (gNl)))) b__law_are_pleats_1 := hid_eq _
def s__law_are_pleats : FS := sSeq (sSet 2 (eC (.int 0)))
  (sSeq (l__law_are_pleats_1)
  (sRet (eOrV (eBin (fun x y => (bEq x y).map .bool) (eCB cLen (aCons (eVar 1) (aNil))) (eC (.int 0))) (eBin (fun x y => (bLe x y).map .bool) (eVar 2) (eVar 0)))))
def mb__law_are_pleats : FnS := fnSem 5 [] s__law_are_pleats
def m__law_are_pleats : FnS := hid mb__law_are_pleats
theorem mm__law_are_pleats : m__law_are_pleats = fnSem 5 [] s__law_are_pleats := hid_eq _
instance : FnIs m__law_are_pleats 5 [] s__law_are_pleats := ⟨mm__law_are_pleats⟩
theorem ok__law_are_pleats (S : Src K mg "_law_are_pleats" t__law_are_pleats ["length", "pleats"]) (z_len : mg "len" = none) : Cal P w K mg base 1 "_law_are_pleats" ["length", "pleats"] [] m__law_are_pleats := by
  rw [mm__law_are_pleats]
  exact pd_cal (k := 0) [] S sc__law_are_pleats rfl (body := s__law_are_pleats) (fun f cdv A outer s H E hr => ⟨_, dss_cons (ds_set sc__law_are_pleats.nd (de_int) (i := 2))
  (dss_cons (ds_hid (ll__law_are_pleats_1) (ds_for [3, 4] PassesOwn.never rfl (di_sq (de_var 1)) (dg_tup rfl (dgs_cons (dg_name 3 sc__law_are_pleats.nd) (dgs_cons (dg_name 4 sc__law_are_pleats.nd) (dgs_nil)))) (dss_cons (ds_if ((dw_or (dt_cmp (op_ltB (hu_of' hr)) v_dat (de_var 3) (de_var 2)) (dw_or1 (dt_cmp (op_ltB (hu_of' hr)) v_dat (de_var 4) (de_int)))).dt) (dss_one (ds_ret (de_bl))) (dss_nil))
  (dss_one (ds_set sc__law_are_pleats.nd (de_bin op_addA v_addA (de_var 3) (de_bin op_mulA v_mulA (de_int) (de_var 4))) (i := 2))))))
  (dss_one (ds_ret (de_or (de_cmp (op_eqB (hu_of' hr)) v_dat (de_callB call_len a_len z_len (da_cons (de_var 1) (da_nil))) (de_int)) (de_one (de_cmp (op_leB (hu_of' hr)) v_dat (de_var 2) (de_var 0)))))))⟩)
/-! ### check_pleats -/
abbrev t_check_pleats : Stmt := topS 13
theorem sc_check_pleats : FnScope ["length", "pleats", "ends", "at", "depth", "number"] ["length", "pleats"] (defScope t_check_pleats) := ⟨rfl, rfl, rfl, by decide +kernel, rfl, by decide +kernel, by decide +kernel⟩
def kb_check_pleats_1 : FN := eComp none [3, 4] (iSq (eVar 1)) (gTp 2 (gCn (gNm 3) (gCn (gNm 4) (gNl)))) (cYes) (eBin dAddA (eVar 3) (eBin dMulA (eC (.int 2)) (eVar 4)))
def k_check_pleats_1 : FN := hid (kb_check_pleats_1)
theorem kk_check_pleats_1 : k_check_pleats_1 = eComp none [3, 4] (iSq (eVar 1)) (gTp 2 (gCn (gNm 3) (gCn (gNm 4) (gNl)))) (cYes) (eBin dAddA (eVar 3) (eBin dMulA (eC (.int 2)) (eVar 4))) := hid_eq _
def kb_check_pleats_2 : FN := eComp none [3, 4] (iSq (eVar 1)) (gTp 2 (gCn (gNm 3) (gCn (gNm 4) (gNl)))) (cYes) (eOrV (eBin (fun x y => (bLt x y).map .bool) (eVar 3) (eC (.int 0))) (eBin (fun x y => (bLt x y).map .bool) (eVar 4) (eC (.int 1))))
def k_check_pleats_2 : FN := hid (kb_check_pleats_2)
theorem kk_check_pleats_2 : k_check_pleats_2 = eComp none [3, 4] (iSq (eVar 1)) (gTp 2 (gCn (gNm 3) (gCn (gNm 4) (gNl)))) (cYes) (eOrV (eBin (fun x y => (bLt x y).map .bool) (eVar 3) (eC (.int 0))) (eBin (fun x y => (bLt x y).map .bool) (eVar 4) (eC (.int 1)))) := hid_eq _
def kb_check_pleats_3 : FN := eComp none [5] (iR1 (aCons (eBin dSub (eCB cLen (aCons (eVar 1) (aNil))) (eC (.int 1))) (aNil))) (gNm 5) (cYes) (eBin (fun x y => (bGt x y).map .bool) (eBin dIx (eVar 2) (eVar 5)) (eBin dIx (eBin dIx (eVar 1) (eBin dAddA (eVar 5) (eC (.int 1)))) (eC (.int 0))))
def k_check_pleats_3 : FN := hid (kb_check_pleats_3)
theorem kk_check_pleats_3 : k_check_pleats_3 = eComp none [5] (iR1 (aCons (eBin dSub (eCB cLen (aCons (eVar 1) (aNil))) (eC (.int 1))) (aNil))) (gNm 5) (cYes) (eBin (fun x y => (bGt x y).map .bool) (eBin dIx (eVar 2) (eVar 5)) (eBin dIx (eBin dIx (eVar 1) (eBin dAddA (eVar 5) (eC (.int 1)))) (eC (.int 0)))) := hid_eq _
def fx_check_pleats : FX := xSeq (sSet 2 (eFrz (k_check_pleats_1)))
  (xRz (eTru (eCB cAny (aCons (eFrz (k_check_pleats_2)) (aNil))))
  (xRz (eTru (eCB cAny (aCons (eFrz (k_check_pleats_3)) (aNil))))
  (xRz (eAnd (eTst (eBin (fun x y => (bGt x y).map .bool) (eCB cLen (aCons (eVar 1) (aNil))) (eC (.int 0)))) (eTst (eBin (fun x y => (bGt x y).map .bool) (eBin dIx (eVar 2) (eUn dNeg (eC (.int 1)))) (eVar 0))))
  (xEnd))))
def m_check_pleats : FnX := fnX 6 fx_check_pleats
theorem ok_check_pleats (S : Src K mg "check_pleats" t_check_pleats ["length", "pleats"]) {c_InvalidStrip : Addr} (z_any : mg "any" = none) (z_len : mg "len" = none) (z_range : mg "range" = none) (x_InvalidStrip : ExF K mg "InvalidStrip" c_InvalidStrip) : CalX P w K mg base 1 "check_pleats" ["length", "pleats"] c_InvalidStrip m_check_pleats :=
  pdx_cal (k := 0) S sc_check_pleats rfl (body := fx_check_pleats) (fun f cdv A outer s H E hr => dx_seq (ds_set sc_check_pleats.nd ((DN.de (dn_hid (kk_check_pleats_1) (dn_compX rfl sc_check_pleats.nd (di_sq (de_var 1)) (own := [("at", 3), ("depth", 4)]) (blkOk_by (N := ["length", "pleats", "ends", "at", "depth", "number"]) (sc := defScope t_check_pleats) (by decide +kernel)) (fun s H C cl fp => dg_tup rfl (dgs_cons (dg_name 3 sc_check_pleats.nd) (dgs_cons (dg_name 4 sc_check_pleats.nd) (dgs_nil)))) (fun s H C cl fp => dts_nil) (fun s H C cl fp => de_bin op_addA v_addA (de_var 3) (de_bin op_mulA v_mulA (de_int) (de_var 4))))))) (i := 2))
  (dx_rz (dt_tru (de_callB (cr_any rfl) a_any z_any (da_cons ((DN.de (dn_hid (kk_check_pleats_2) (dn_compX rfl sc_check_pleats.nd (di_sq (de_var 1)) (own := [("at", 3), ("depth", 4)]) (blkOk_by (N := ["length", "pleats", "ends", "at", "depth", "number"]) (sc := defScope t_check_pleats) (by decide +kernel)) (fun s H C cl fp => dg_tup rfl (dgs_cons (dg_name 3 sc_check_pleats.nd) (dgs_cons (dg_name 4 sc_check_pleats.nd) (dgs_nil)))) (fun s H C cl fp => dts_nil) (fun s H C cl fp => de_or (de_cmp (op_ltB (hu_of' hr)) v_dat (de_var 3) (de_int)) (de_one (de_cmp (op_ltB (hu_of' hr)) v_dat (de_var 4) (de_int)))))))) (da_nil)))) (psx_raise rfl x_InvalidStrip)
  (dx_rz (dt_tru (de_callB (cr_any rfl) a_any z_any (da_cons ((DN.de (dn_hid (kk_check_pleats_3) (dn_compX rfl sc_check_pleats.nd (di_range1 (da_cons (de_bin op_sub v_sub (de_callB call_len a_len z_len (da_cons (de_var 1) (da_nil))) (de_int)) (da_nil)) z_range) (own := [("number", 5)]) (blkOk_by (N := ["length", "pleats", "ends", "at", "depth", "number"]) (sc := defScope t_check_pleats) (by decide +kernel)) (fun s H C cl fp => dg_name 5 sc_check_pleats.nd) (fun s H C cl fp => dts_nil) (fun s H C cl fp => de_cmp (op_gtB (hu_of' hr)) v_dat (de_ix (de_var 2) (de_var 5)) (de_ix (de_ix (de_var 1) (de_bin op_addA v_addA (de_var 5) (de_int))) (de_int))))))) (da_nil)))) (psx_raise rfl x_InvalidStrip)
  (dx_rz ((dw_and (dt_cmp (op_gtB (hu_of' hr)) v_dat (de_callB call_len a_len z_len (da_cons (de_var 1) (da_nil))) (de_int)) (dw_and1 (dt_cmp (op_gtB (hu_of' hr)) v_dat (de_ix (de_var 2) (de_un un_neg v_neg (de_int))) (de_var 0)))).dt) (psx_raise rfl x_InvalidStrip)
  (dx_end)))))
/-! ### _law_other_error -/
abbrev t__law_other_error : Stmt := topS 23
theorem sc__law_other_error : FnScope ["e"] ["e"] (defScope t__law_other_error) := ⟨rfl, rfl, rfl, by decide +kernel, rfl, by decide +kernel, by decide +kernel⟩
def s__law_other_error : FS := sIfRet (eOr (eTru (eKn false)) (eOr (eTru (eKn false)) (eOr (eTru (eKn false)) (eTru (eKn false))))) (eC (.bool true)) (sRet (eOrV (eKn false) (eOrV (eKn false) (eKn false))))
theorem ok__law_other_error (S : Src K mg "_law_other_error" t__law_other_error ["e"]) {c_BadText : Addr} {c_InvalidBand : Addr} {c_InvalidStrip : Addr} {c_NoCrease : Addr} {c_NoPart : Addr} {c_NotFlat : Addr} {c_NothingToRedo : Addr} {c_NothingToUndo : Addr} (z_isinstance : mg "isinstance" = none) (g_BadText : mg "BadText" = some (.ref c_BadText)) (g_InvalidBand : mg "InvalidBand" = some (.ref c_InvalidBand)) (g_NoCrease : mg "NoCrease" = some (.ref c_NoCrease)) (g_NoPart : mg "NoPart" = some (.ref c_NoPart)) (g_NotFlat : mg "NotFlat" = some (.ref c_NotFlat)) (g_NothingToRedo : mg "NothingToRedo" = some (.ref c_NothingToRedo)) (g_NothingToUndo : mg "NothingToUndo" = some (.ref c_NothingToUndo)) (xc_InvalidStrip : ExcC K c_InvalidStrip) (kt_InvalidStrip_BadText : PySem.W.kitOne K (.ref c_InvalidStrip) (.ref c_BadText) = some false) (kt_InvalidStrip_InvalidBand : PySem.W.kitOne K (.ref c_InvalidStrip) (.ref c_InvalidBand) = some false) (kt_InvalidStrip_NoCrease : PySem.W.kitOne K (.ref c_InvalidStrip) (.ref c_NoCrease) = some false) (kt_InvalidStrip_NoPart : PySem.W.kitOne K (.ref c_InvalidStrip) (.ref c_NoPart) = some false) (kt_InvalidStrip_NotFlat : PySem.W.kitOne K (.ref c_InvalidStrip) (.ref c_NotFlat) = some false) (kt_InvalidStrip_NothingToRedo : PySem.W.kitOne K (.ref c_InvalidStrip) (.ref c_NothingToRedo) = some false) (kt_InvalidStrip_NothingToUndo : PySem.W.kitOne K (.ref c_InvalidStrip) (.ref c_NothingToUndo) = some false) : CalE P w K mg base 1 "_law_other_error" "e" c_InvalidStrip false :=
  pde_cal (k := 0) S sc__law_other_error (by decide) (body := s__law_other_error) rfl (fun f cdv A stk s H E ex hot zn hf => ⟨_, dse_ifret (((dwe_or (dte_tru (dee_isi xc_InvalidStrip zn.zc hf List.mem_cons_self (pe_glob (v := .ref c_BadText) (by rfl) g_BadText rfl) (.own _) kt_InvalidStrip_BadText z_isinstance)) (dwe_or (dte_tru (dee_isi xc_InvalidStrip zn.zc hf List.mem_cons_self (pe_glob (v := .ref c_InvalidBand) (by rfl) g_InvalidBand rfl) (.own _) kt_InvalidStrip_InvalidBand z_isinstance)) (dwe_or (dte_tru (dee_isi xc_InvalidStrip zn.zc hf List.mem_cons_self (pe_glob (v := .ref c_NoCrease) (by rfl) g_NoCrease rfl) (.own _) kt_InvalidStrip_NoCrease z_isinstance)) (dwe_or1 (dte_tru (dee_isi xc_InvalidStrip zn.zc hf List.mem_cons_self (pe_glob (v := .ref c_NoPart) (by rfl) g_NoPart rfl) (.own _) kt_InvalidStrip_NoPart z_isinstance)))))).dt)) (((de_bl : DE _ _ _ _).ee)) (dse_ret (dee_or (dee_isi xc_InvalidStrip zn.zc hf List.mem_cons_self (pe_glob (v := .ref c_NotFlat) (by rfl) g_NotFlat rfl) (.own _) kt_InvalidStrip_NotFlat z_isinstance) (dee_or (dee_isi xc_InvalidStrip zn.zc hf List.mem_cons_self (pe_glob (v := .ref c_NothingToRedo) (by rfl) g_NothingToRedo rfl) (.own _) kt_InvalidStrip_NothingToRedo z_isinstance) (dee_one (dee_isi xc_InvalidStrip zn.zc hf List.mem_cons_self (pe_glob (v := .ref c_NothingToUndo) (by rfl) g_NothingToUndo rfl) (.own _) kt_InvalidStrip_NothingToUndo z_isinstance)))))⟩)
/-! ### _law_is_checked -/
abbrev t__law_is_checked : Stmt := topS 27
theorem sc__law_is_checked : FnScope ["length", "pleats", "due", "told", "e"] ["length", "pleats"] (defScope t__law_is_checked) := ⟨rfl, rfl, rfl, by decide +kernel, rfl, by decide +kernel, by decide +kernel⟩
def s__law_is_checked : FS := sSeq (sSet 2 (eRetD (eCall0 m__law_are_pleats (aCons (eVar 0) (aCons (eVar 1) (aNil))))))
  (sSeq (sTry 3 4 m_check_pleats (aCons (eVar 0) (aCons (eVar 1) (aNil))) (sRet (eAndV (eNotV (eVar 2)) (eAndV (eKn true) (eAndV (eKn true) (eNotV (eKn false)))))))
  (sRet (eAndV (eVar 2) (eBin (fun x y => (bIsN x y).map .bool) (eVar 3) (eC .none)))))
def mb__law_is_checked : FnS := fnSem 5 [] s__law_is_checked
def m__law_is_checked : FnS := hid mb__law_is_checked
theorem mm__law_is_checked : m__law_is_checked = fnSem 5 [] s__law_is_checked := hid_eq _
instance : FnIs m__law_is_checked 5 [] s__law_is_checked := ⟨mm__law_is_checked⟩
theorem ok__law_is_checked (S : Src K mg "_law_is_checked" t__law_is_checked ["length", "pleats"]) {c_FoldError : Addr} {c_InvalidStrip : Addr} (h__law_are_pleats : Cal P w K mg base 1 "_law_are_pleats" ["length", "pleats"] [] m__law_are_pleats) (h__law_other_error : CalE P w K mg base 1 "_law_other_error" "e" c_InvalidStrip false) (h_check_pleats : CalX P w K mg base 1 "check_pleats" ["length", "pleats"] c_InvalidStrip m_check_pleats) (z_ValueError : mg "ValueError" = none) (z_isinstance : mg "isinstance" = none) (g_FoldError : mg "FoldError" = some (.ref c_FoldError)) (g_InvalidStrip : mg "InvalidStrip" = some (.ref c_InvalidStrip)) (xc_InvalidStrip : ExcC K c_InvalidStrip) (kt_InvalidStrip_InvalidStrip : PySem.W.kitOne K (.ref c_InvalidStrip) (.ref c_InvalidStrip) = some true) (kt_InvalidStrip_ValueError : PySem.W.kitOne K (.ref c_InvalidStrip) (.type "ValueError") = some true) (xm_InvalidStrip_FoldError : PySem.W.exmOne K (.ref c_InvalidStrip) (.ref c_FoldError) = some true) : Cal P w K mg base 2 "_law_is_checked" ["length", "pleats"] [] m__law_is_checked := by
  rw [mm__law_is_checked]
  exact pd_cal (k := 1) [] S sc__law_is_checked rfl (body := s__law_is_checked) (fun f cdv A outer s H E hr => ⟨_, dss_cons (ds_set sc__law_is_checked.nd ((dc_cal0 h__law_are_pleats (hr.mono (by first | exact Nat.le_refl _ | decide | omega)) (da_cons (de_var 0) (da_cons (de_var 1) (da_nil))) (aLen_cons (aLen_cons (aLen_nil)))).de) (i := 2))
  (dss_cons ((ds_try (i := 4) (j := 3) (k := 1) rfl rfl sc__law_is_checked.nd (hr.mono (by first | exact Nat.le_refl _ | decide | omega)) h_check_pleats (aLen_cons (aLen_cons (aLen_nil))) ⟨by rfl, by decide, .inl g_FoldError⟩ xm_InvalidStrip_FoldError (fun pn xe => da_cons (de_var 0) (da_cons (de_var 1) (da_nil))) (fun a oe pn hz hf => dse_ret (dee_and (((de_not (de_var 2) : DE _ _ _ _).ee)) (dee_and (dee_isi xc_InvalidStrip hz.zc hf List.mem_cons_self (pe_glob (v := .ref c_InvalidStrip) (by rfl) g_InvalidStrip rfl) (.own _) kt_InvalidStrip_InvalidStrip z_isinstance) (dee_and (dee_isi xc_InvalidStrip hz.zc hf List.mem_cons_self (pe_bltn (v := .ty "ValueError") (by rfl) z_ValueError (by decide +kernel) rfl (by decide)) (.ty _) kt_InvalidStrip_ValueError z_isinstance) (dee_one (dee_not (dee_call h__law_other_error (roomH_suite (hr.mono (by first | exact Nat.le_refl _ | decide | omega))) hz (hot_suite hz hf) List.mem_cons_self)))))))).choose_spec)
  (dss_one (ds_ret (de_and (de_var 2) (de_one (de_cmp (op_isNB) v_dat (de_var 3) (de_non)))))))⟩)
/-! ### fewest_pleats -/
abbrev t_fewest_pleats : Stmt := topS 17
theorem sc_fewest_pleats : FnScope ["length", "wanted", "most", "rest"] ["length", "wanted", "most"] (defScope t_fewest_pleats) := ⟨rfl, rfl, rfl, by decide +kernel, rfl, by decide +kernel, by decide +kernel⟩
def s_fewest_pleats : FS := sSeq (sSet 3 (eBin dSub (eVar 0) (eVar 1)))
  (sSeq (sIf (eOr (eTst (eBin (fun x y => (bLt x y).map .bool) (eVar 3) (eC (.int 0)))) (eOr (eTst (eBin (fun x y => (bLt x y).map .bool) (eVar 1) (eC (.int 0)))) (eOr (eTst (eBin (fun x y => (bEq x y).map .bool) (eBin dMod (eVar 3) (eC (.int 2))) (eC (.int 1)))) (eAnd (eTst (eBin (fun x y => (bGt x y).map .bool) (eVar 3) (eC (.int 0)))) (eTst (eBin (fun x y => (bLt x y).map .bool) (eVar 2) (eC (.int 1)))))))) (sRet (eC .none)) (sNx))
  (sRet (eIf (eTst (eBin (fun x y => (bGt x y).map .bool) (eVar 3) (eC (.int 0)))) (eUn dNeg (eBin dFdivP (eUn dNeg (eBin dFdivP (eVar 3) (eC (.int 2)))) (eVar 2))) (eC (.int 0)))))
def mb_fewest_pleats : FnS := fnSem 4 [] s_fewest_pleats
def m_fewest_pleats : FnS := hid mb_fewest_pleats
theorem mm_fewest_pleats : m_fewest_pleats = fnSem 4 [] s_fewest_pleats := hid_eq _
instance : FnIs m_fewest_pleats 4 [] s_fewest_pleats := ⟨mm_fewest_pleats⟩
theorem ok_fewest_pleats (S : Src K mg "fewest_pleats" t_fewest_pleats ["length", "wanted", "most"]) (hns : base.NoSeer) (htr : P.given.tree = none) : Cal P w K mg base 33 "fewest_pleats" ["length", "wanted", "most"] [] m_fewest_pleats := by
  rw [mm_fewest_pleats]
  exact pd_cal (k := 32) [] S sc_fewest_pleats rfl (body := s_fewest_pleats) (fun f cdv A outer s H E hr => ⟨_, dss_cons (ds_set sc_fewest_pleats.nd (de_bin op_sub v_sub (de_var 0) (de_var 1)) (i := 3))
  (dss_cons (ds_if ((dw_or (dt_cmp (op_ltB (hu_of' hr)) v_dat (de_var 3) (de_int)) (dw_or (dt_cmp (op_ltB (hu_of' hr)) v_dat (de_var 1) (de_int)) (dw_or (dt_cmp (op_eqB (hu_of' hr)) v_dat (de_bin op_modN v_mod (de_var 3) (de_int)) (de_int)) (dw_or1 ((dw_and (dt_cmp (op_gtB (hu_of' hr)) v_dat (de_var 3) (de_int)) (dw_and1 (dt_cmp (op_ltB (hu_of' hr)) v_dat (de_var 2) (de_int)))).dt))))).dt) (dss_one (ds_ret (de_non))) (dss_nil))
  (dss_one (ds_ret (de_if (dt_cmp (op_gtB (hu_of' hr)) v_dat (de_var 3) (de_int)) (de_un un_neg v_neg (de_bin (op_fdivP hns htr (room_py hr (by decide))) v_fdivP (de_un un_neg v_neg (de_bin (op_fdivP hns htr (room_py hr (by decide))) v_fdivP (de_var 3) (de_int))) (de_var 2))) (de_int)))))⟩)
/-! ### _law_fewest -/
abbrev t__law_fewest : Stmt := topS 33
theorem sc__law_fewest : FnScope ["length", "wanted", "most", "lost", "half"] ["length", "wanted", "most"] (defScope t__law_fewest) := ⟨rfl, rfl, rfl, by decide +kernel, rfl, by decide +kernel, by decide +kernel⟩
def s__law_fewest : FS := sSeq (sSet 3 (eBin dSub (eVar 0) (eVar 1)))
  (sSeq (sIf (eAnd (eTst (eBin (fun x y => (bEq x y).map .bool) (eVar 3) (eC (.int 0)))) (eTst (eBin (fun x y => (bGe x y).map .bool) (eVar 1) (eC (.int 0))))) (sRet (eC (.int 0))) (sNx))
  (sSeq (sIf (eOr (eTst (eBin (fun x y => (bLt x y).map .bool) (eVar 3) (eC (.int 0)))) (eOr (eTst (eBin (fun x y => (bLt x y).map .bool) (eVar 1) (eC (.int 0)))) (eOr (eTst (eBin (fun x y => (bLt x y).map .bool) (eVar 2) (eC (.int 1)))) (eTst (eBin (fun x y => (bEq x y).map .bool) (eBin dSub (eVar 3) (eBin dMulA (eC (.int 2)) (eBin dFdivP (eVar 3) (eC (.int 2))))) (eC (.int 1))))))) (sRet (eC .none)) (sNx))
  (sSeq (sSet 4 (eBin dFdivP (eVar 3) (eC (.int 2))))
  (sRet (eBin dAddA (eBin dFdivP (eVar 4) (eVar 2)) (eCB cInt (aCons (eBin (fun x y => (bGt x y).map .bool) (eBin dSub (eVar 4) (eBin dMulA (eVar 2) (eBin dFdivP (eVar 4) (eVar 2)))) (eC (.int 0))) (aNil))))))))
def mb__law_fewest : FnS := fnSem 5 [] s__law_fewest
def m__law_fewest : FnS := hid mb__law_fewest
theorem mm__law_fewest : m__law_fewest = fnSem 5 [] s__law_fewest := hid_eq _
instance : FnIs m__law_fewest 5 [] s__law_fewest := ⟨mm__law_fewest⟩
theorem ok__law_fewest (S : Src K mg "_law_fewest" t__law_fewest ["length", "wanted", "most"]) (hns : base.NoSeer) (htr : P.given.tree = none) (z_int : mg "int" = none) : Cal P w K mg base 33 "_law_fewest" ["length", "wanted", "most"] [] m__law_fewest := by
  rw [mm__law_fewest]
  exact pd_cal (k := 32) [] S sc__law_fewest rfl (body := s__law_fewest) (fun f cdv A outer s H E hr => ⟨_, dss_cons (ds_set sc__law_fewest.nd (de_bin op_sub v_sub (de_var 0) (de_var 1)) (i := 3))
  (dss_cons (ds_if ((dw_and (dt_cmp (op_eqB (hu_of' hr)) v_dat (de_var 3) (de_int)) (dw_and1 (dt_cmp (op_geB (hu_of' hr)) v_dat (de_var 1) (de_int)))).dt) (dss_one (ds_ret (de_int))) (dss_nil))
  (dss_cons (ds_if ((dw_or (dt_cmp (op_ltB (hu_of' hr)) v_dat (de_var 3) (de_int)) (dw_or (dt_cmp (op_ltB (hu_of' hr)) v_dat (de_var 1) (de_int)) (dw_or (dt_cmp (op_ltB (hu_of' hr)) v_dat (de_var 2) (de_int)) (dw_or1 (dt_cmp (op_eqB (hu_of' hr)) v_dat (de_bin op_sub v_sub (de_var 3) (de_bin op_mulA v_mulA (de_int) (de_bin (op_fdivP hns htr (room_py hr (by decide))) v_fdivP (de_var 3) (de_int)))) (de_int)))))).dt) (dss_one (ds_ret (de_non))) (dss_nil))
  (dss_cons (ds_set sc__law_fewest.nd (de_bin (op_fdivP hns htr (room_py hr (by decide))) v_fdivP (de_var 3) (de_int)) (i := 4))
  (dss_one (ds_ret (de_bin op_addA v_addA (de_bin (op_fdivP hns htr (room_py hr (by decide))) v_fdivP (de_var 4) (de_var 2)) (de_callTy call_intD a_int z_int (da_cons (de_cmp (op_gtB (hu_of' hr)) v_dat (de_bin op_sub v_sub (de_var 4) (de_bin op_mulA v_mulA (de_var 2) (de_bin (op_fdivP hns htr (room_py hr (by decide))) v_fdivP (de_var 4) (de_var 2)))) (de_int)) (da_nil)))))))))⟩)
/-! ### law -/
abbrev t_law : Stmt := topS 34
theorem sc_law : FnScope ["script", "draws", "scale", "length", "pleats", "papers", "k", "once", "paper", "small", "some", "turn", "whole_one", "wanted", "most"] ["script"] (defScope t_law) := ⟨rfl, rfl, rfl, by decide +kernel, rfl, by decide +kernel, by decide +kernel⟩
def b_law_1 : FS := sSeq (sSet 7 (eRetD (eCall1 1 1 m__law_changed (rCons (eVar 0) (rIo 1 (rCons (eVar 4) (rNil)))))))
  (sSeq (sExpr (eMeth 5 lAppend (aCons (eTup (aCons (eVar 3) (aCons (eVar 7) (aNil)))) (aNil))))
  (sIf (eTst (eBin (fun x y => (bEq x y).map .bool) (eRetD (eCall1 0 1 m__law_take (rIo 1 (rCons (eC (.int 2)) (rNil))))) (eC (.int 0)))) (sExpr (eMeth 5 lAppend (aCons (eTup (aCons (eBin dAddA (eVar 3) (eRetD (eCall1 0 1 m__law_take (rIo 1 (rCons (eC (.int 9)) (rNil)))))) (aCons (eRetD (eCall1 1 1 m__law_changed (rCons (eVar 0) (rIo 1 (rCons (eVar 7) (rNil)))))) (aNil)))) (aNil)))) (sNx)))
def lb_law_1 : FS := sFor none [6, 7] (iR1 (aCons (eC (.int 6)) (aNil))) (gNm 6) b_law_1
def l_law_1 : FS := hid (lb_law_1)
theorem ll_law_1 : l_law_1 = sFor none [6, 7] (iR1 (aCons (eC (.int 6)) (aNil))) (gNm 6) b_law_1 := hid_eq _
def b_law_2 : FS := sIf (eNot (eTru (eRetD (eCall0 m__law_is_checked (aCons (eBin dIx (eVar 8) (eC (.int 0))) (aCons (eBin dIx (eVar 8) (eC (.int 1))) (aNil))))))) (sRet (eC (.bool false))) (sNx)
def lb_law_2 : FS := sFor none [8] (iSq (eVar 5)) (gNm 8) b_law_2
def l_law_2 : FS := hid (lb_law_2)
theorem ll_law_2 : l_law_2 = sFor none [8] (iSq (eVar 5)) (gNm 8) b_law_2 := hid_eq _
def b_law_3 : FS := sIf (eNot (eTru (eRetD (eCall0 (m__law_same 12) (aCons (eRetD (eCall0 m_fewest_pleats (aCons (eVar 12) (aCons (eVar 13) (aCons (eVar 14) (aNil)))))) (aCons (eRetD (eCall0 m__law_fewest (aCons (eVar 12) (aCons (eVar 13) (aCons (eVar 14) (aNil)))))) (aNil))))))) (sRet (eC (.bool false))) (sNx)
def lb_law_3 : FS := sFor none [14] (iSq (eFrz (eLst (aCons (eBin dAddA (eC (.int 1)) (eRetD (eCall1 0 1 m__law_take (rIo 1 (rCons (eC (.int 9)) (rNil)))))) (aCons (eRetD (eCall1 0 1 m__law_take (rIo 1 (rCons (eC (.int 3)) (rNil))))) (aCons (eBin dAddA (eC (.int 1)) (eCB cAbs (aCons (eRetD (eCall1 1 1 m__law_cell (rCons (eVar 0) (rIo 1 (rNil))))) (aNil)))) (aNil))))))) (gNm 14) b_law_3
def l_law_3 : FS := hid (lb_law_3)
theorem ll_law_3 : l_law_3 = sFor none [14] (iSq (eFrz (eLst (aCons (eBin dAddA (eC (.int 1)) (eRetD (eCall1 0 1 m__law_take (rIo 1 (rCons (eC (.int 9)) (rNil)))))) (aCons (eRetD (eCall1 0 1 m__law_take (rIo 1 (rCons (eC (.int 3)) (rNil))))) (aCons (eBin dAddA (eC (.int 1)) (eCB cAbs (aCons (eRetD (eCall1 1 1 m__law_cell (rCons (eVar 0) (rIo 1 (rNil))))) (aNil)))) (aNil))))))) (gNm 14) b_law_3 := hid_eq _
def b_law_4 : FS := sSeq (sSet 12 (eBin dIx (eFrz (eLst (aCons (eRetD (eCall1 0 1 m__law_take (rIo 1 (rCons (eC (.int 60)) (rNil))))) (aCons (eCB cAbs (aCons (eRetD (eCall1 1 1 m__law_cell (rCons (eVar 0) (rIo 1 (rNil))))) (aNil))) (aCons (eVar 3) (aNil)))))) (eVar 11)))
  (sSeq (sSet 13 (eBin dIx (eFrz (eLst (aCons (eRetD (eCall1 0 1 m__law_take (rIo 1 (rCons (eC (.int 60)) (rNil))))) (aCons (eBin dSub (eVar 12) (eBin dMulA (eC (.int 2)) (eRetD (eCall1 0 1 m__law_take (rIo 1 (rCons (eC (.int 9)) (rNil))))))) (aCons (eBin dFdiv (eVar 12) (eC (.int 2))) (aNil)))))) (eVar 11)))
  (l_law_3))
def lb_law_4 : FS := sFor none [11, 12, 13, 14] (iR1 (aCons (eC (.int 3)) (aNil))) (gNm 11) b_law_4
def l_law_4 : FS := hid (lb_law_4)
theorem ll_law_4 : l_law_4 = sFor none [11, 12, 13, 14] (iR1 (aCons (eC (.int 3)) (aNil))) (gNm 11) b_law_4 := hid_eq _
def s_law : FS := sSeq (sSetN 1 (eRetN (eCall0 m__law_draws (aCons (eVar 0) (aCons (eC (.int 260)) (aNil))))))
  (sSeq (sIf (eNot (eTru (eRetD (eCall1 1 1 m__law_is_box_right (rCons (eVar 0) (rIo 1 (rNil))))))) (sRet (eC (.bool false))) (sNx))
  (sSeq (sSet 2 (eBin dIx (eFrz (eLst (aCons (eC (.int 1)) (aCons (eC (.int 1)) (aCons (eBin dAddA (eC (.int 1)) (eCB cAbs (aCons (eRetD (eCall1 1 1 m__law_cell (rCons (eVar 0) (rIo 1 (rNil))))) (aNil)))) (aNil)))))) (eRetD (eCall1 0 1 m__law_take (rIo 1 (rCons (eC (.int 3)) (rNil)))))))
  (sSeq (sAsg (eRetD (eCall1 0 1 m__law_drawn (rIo 1 (rCons (eC (.int 6)) (rCons (eVar 2) (rNil)))))) (gTp 2 (gCn (gNm 3) (gCn (gNm 4) (gNl)))))
  (sSeq (sSetN 5 (eLst (aCons (eTup (aCons (eVar 3) (aCons (eVar 4) (aNil)))) (aCons (eTup (aCons (eBin dAddA (eVar 3) (eVar 2)) (aCons (eVar 4) (aNil)))) (aCons (eTup (aCons (eCB cMax2 (aCons (eC (.int 0)) (aCons (eBin dSub (eVar 3) (eC (.int 1))) (aNil)))) (aCons (eVar 4) (aNil)))) (aCons (eTup (aCons (eC (.int 0)) (aCons (eTup (aNil)) (aNil)))) (aCons (eTup (aCons (eVar 3) (aCons (eTup (aNil)) (aNil)))) (aNil))))))))
  (sSeq (l_law_1)
  (sSeq (l_law_2)
  (sSeq (sIf (eNot (eTru (eRetD (eCall0 m__law_are_layers_right (aCons (eVar 3) (aCons (eVar 4) (aCons (eVar 2) (aNil)))))))) (sRet (eC (.bool false))) (sNx))
  (sSeq (sAsg (eRetD (eCall1 0 1 m__law_drawn (rIo 1 (rCons (eC (.int 4)) (rCons (eC (.int 1)) (rNil)))))) (gTp 2 (gCn (gNm 9) (gCn (gNm 10) (gNl)))))
  (sSeq (sIf (eOr (eNot (eTru (eRetD (eCall0 m__law_are_layers_right (aCons (eVar 9) (aCons (eVar 10) (aCons (eC (.int 1)) (aNil)))))))) (eNot (eTru (eRetD (eCall0 m__law_are_layers_right (aCons (eVar 3) (aCons (eVar 4) (aCons (eVar 2) (aNil))))))))) (sRet (eC (.bool false))) (sNx))
  (sSeq (l_law_4)
  (sSeq (sIf (eOr (eNot (eTru (eRetD (eCall0 (m__law_same 12) (aCons (eRetD (eCall0 m_best_height (aCons (eC (.int 8)) (aCons (eC (.int 10)) (aNil))))) (aCons (eC (.int 1)) (aNil))))))) (eNot (eTru (eRetD (eCall0 (m__law_same 12) (aCons (eRetD (eCall0 m_best_height (aCons (eC (.int 2)) (aCons (eC (.int 9)) (aNil))))) (aCons (eC (.int 0)) (aNil)))))))) (sRet (eC (.bool false))) (sNx))
  (sSeq (sIf (eOr (eNot (eTru (eRetD (eCall0 (m__law_same 12) (aCons (eRetD (eCall0 m_best_height (aCons (eC (.int 20)) (aCons (eC (.int 20)) (aNil))))) (aCons (eC (.int 3)) (aNil))))))) (eNot (eTru (eRetD (eCall0 (m__law_same 12) (aCons (eRetD (eCall0 m_layers_at_place (aCons (eC (.int 10)) (aCons (eTup (aCons (eTup (aCons (eC (.int 4)) (aCons (eC (.int 2)) (aNil)))) (aNil))) (aCons (eC (.int 3)) (aNil)))))) (aCons (eC (.int 3)) (aNil)))))))) (sRet (eC (.bool false))) (sNx))
  (sRet (eAndV (eRetD (eCall0 (m__law_same 12) (aCons (eRetD (eCall0 m_layers_at_place (aCons (eC (.int 10)) (aCons (eTup (aCons (eTup (aCons (eC (.int 0)) (aCons (eC (.int 3)) (aNil)))) (aNil))) (aCons (eUn dNeg (eC (.int 2))) (aNil)))))) (aCons (eC (.int 2)) (aNil))))) (eAndV (eRetD (eCall0 (m__law_same 12) (aCons (eRetD (eCall0 m_fewest_pleats (aCons (eC (.int 10)) (aCons (eC (.int 4)) (aCons (eC (.int 2)) (aNil)))))) (aCons (eC (.int 2)) (aNil))))) (eBin (fun x y => (bIsN x y).map .bool) (eRetD (eCall0 m_fewest_pleats (aCons (eC (.int 10)) (aCons (eC (.int 5)) (aCons (eC (.int 2)) (aNil)))))) (eC .none)))))))))))))))))
def m_law : FnS := fnSem 15 [] s_law
theorem mm_law : m_law = fnSem 15 [] s_law := rfl
instance : FnIs m_law 15 [] s_law := ⟨mm_law⟩
theorem ok_law {f : Addr} {fd : FuncData} (F : Fun K "law" "law" t_law f fd) (h__law_are_layers_right : Cal P w K mg base 13 "_law_are_layers_right" ["length", "pleats", "scale"] [] m__law_are_layers_right) (h__law_cell : Cal P w K mg base 2 "_law_cell" ["script", "draws"] [1] m__law_cell) (h__law_changed : Cal P w K mg base 3 "_law_changed" ["script", "draws", "pleats"] [1] m__law_changed) (h__law_drawn : Cal P w K mg base 2 "_law_drawn" ["draws", "many", "scale"] [0] m__law_drawn) (h__law_draws : Cal P w K mg base 1 "_law_draws" ["script", "many"] [] m__law_draws) (h__law_fewest : Cal P w K mg base 33 "_law_fewest" ["length", "wanted", "most"] [] m__law_fewest) (h__law_is_box_right : Cal P w K mg base 13 "_law_is_box_right" ["script", "draws"] [1] m__law_is_box_right) (h__law_is_checked : Cal P w K mg base 2 "_law_is_checked" ["length", "pleats"] [] m__law_is_checked) (h__law_same : Cal P w K mg base 12 "_law_same" ["actual", "due"] [] (m__law_same 12)) (h__law_take : Cal P w K mg base 1 "_law_take" ["draws", "many"] [0] m__law_take) (h_best_height : Cal P w K mg base 2 "best_height" ["a", "b"] [] m_best_height) (h_fewest_pleats : Cal P w K mg base 33 "fewest_pleats" ["length", "wanted", "most"] [] m_fewest_pleats) (h_layers_at_place : Cal P w K mg base 2 "layers_at_place" ["length", "pleats", "place"] [] m_layers_at_place) (z_abs : mg "abs" = none) (z_max : mg "max" = none) (z_range : mg "range" = none) : FnD P w K mg base 34 f fd ["script"] [] m_law :=
  pd_fnN (k := 33) [] F sc_law rfl (body := s_law) (fun cdv A outer s H E hr => ⟨_, dss_cons (ds_setN sc_law.nd ((dc_cal0 h__law_draws (hr.mono (by first | exact Nat.le_refl _ | decide | omega)) (da_cons (de_var 0) (da_cons (de_int) (da_nil))) (aLen_cons (aLen_cons (aLen_nil)))).dn) (i := 1))
  (dss_cons (ds_if (dt_not (dt_tru ((dc_cal1 h__law_is_box_right (hr.mono (by first | exact Nat.le_refl _ | decide | omega)) (j := 1) (dr_cons (de_var 0) (dr_io (dr_nil)))).de))) (dss_one (ds_ret (de_bl))) (dss_nil))
  (dss_cons (ds_set sc_law.nd (de_ix ((DN.de (dn_lst (da_cons (de_int) (da_cons (de_int) (da_cons (de_bin op_addA v_addA (de_int) (de_callB call_abs a_abs z_abs (da_cons ((dc_cal1 h__law_cell (hr.mono (by first | exact Nat.le_refl _ | decide | omega)) (j := 1) (dr_cons (de_var 0) (dr_io (dr_nil)))).de) (da_nil)))) (da_nil))))))) ((dc_cal1 h__law_take (hr.mono (by first | exact Nat.le_refl _ | decide | omega)) (j := 1) (dr_io (dr_cons (de_int) (dr_nil)))).de)) (i := 2))
  (dss_cons (ds_asg ((dc_cal1 h__law_drawn (hr.mono (by first | exact Nat.le_refl _ | decide | omega)) (j := 1) (dr_io (dr_cons (de_int) (dr_cons (de_var 2) (dr_nil))))).de) (dg_tup rfl (dgs_cons (dg_name 3 sc_law.nd) (dgs_cons (dg_name 4 sc_law.nd) (dgs_nil)))))
  (dss_cons (ds_setN sc_law.nd (dn_lst (da_cons (de_tup (da_cons (de_var 3) (da_cons (de_var 4) (da_nil)))) (da_cons (de_tup (da_cons (de_bin op_addA v_addA (de_var 3) (de_var 2)) (da_cons (de_var 4) (da_nil)))) (da_cons (de_tup (da_cons (de_callB (call_max2 rfl) a_max2 z_max (da_cons (de_int) (da_cons (de_bin op_sub v_sub (de_var 3) (de_int)) (da_nil)))) (da_cons (de_var 4) (da_nil)))) (da_cons (de_tup (da_cons (de_int) (da_cons (de_tup (da_nil)) (da_nil)))) (da_cons (de_tup (da_cons (de_var 3) (da_cons (de_tup (da_nil)) (da_nil)))) (da_nil))))))) (i := 5))
  (dss_cons (ds_hid (ll_law_1) (ds_for [6, 7] PassesOwn.never rfl (di_range1 (da_cons (de_int) (da_nil)) z_range) (dg_name 6 sc_law.nd) (dss_cons (ds_set sc_law.nd ((dc_cal1 h__law_changed (hr.mono (by first | exact Nat.le_refl _ | decide | omega)) (j := 1) (dr_cons (de_var 0) (dr_io (dr_cons (de_var 4) (dr_nil))))).de) (i := 7))
  (dss_cons (ds_expr (de_lm (j := 5) PySem.F.slot_list_append PySem.F.type_list_append mt_append l_append (da_cons (de_tup (da_cons (de_var 3) (da_cons (de_var 7) (da_nil)))) (da_nil))))
  (dss_one (ds_if (dt_cmp (op_eqB (hu_of' hr)) v_dat ((dc_cal1 h__law_take (hr.mono (by first | exact Nat.le_refl _ | decide | omega)) (j := 1) (dr_io (dr_cons (de_int) (dr_nil)))).de) (de_int)) (dss_one (ds_expr (de_lm (j := 5) PySem.F.slot_list_append PySem.F.type_list_append mt_append l_append (da_cons (de_tup (da_cons (de_bin op_addA v_addA (de_var 3) ((dc_cal1 h__law_take (hr.mono (by first | exact Nat.le_refl _ | decide | omega)) (j := 1) (dr_io (dr_cons (de_int) (dr_nil)))).de)) (da_cons ((dc_cal1 h__law_changed (hr.mono (by first | exact Nat.le_refl _ | decide | omega)) (j := 1) (dr_cons (de_var 0) (dr_io (dr_cons (de_var 7) (dr_nil))))).de) (da_nil)))) (da_nil))))) (dss_nil)))))))
  (dss_cons (ds_hid (ll_law_2) (ds_for [8] PassesOwn.never rfl (di_sq (de_var 5)) (dg_name 8 sc_law.nd) (dss_one (ds_if (dt_not (dt_tru ((dc_cal0 h__law_is_checked (hr.mono (by first | exact Nat.le_refl _ | decide | omega)) (da_cons (de_ix (de_var 8) (de_int)) (da_cons (de_ix (de_var 8) (de_int)) (da_nil))) (aLen_cons (aLen_cons (aLen_nil)))).de))) (dss_one (ds_ret (de_bl))) (dss_nil)))))
  (dss_cons (ds_if (dt_not (dt_tru ((dc_cal0 h__law_are_layers_right (hr.mono (by first | exact Nat.le_refl _ | decide | omega)) (da_cons (de_var 3) (da_cons (de_var 4) (da_cons (de_var 2) (da_nil)))) (aLen_cons (aLen_cons (aLen_cons (aLen_nil))))).de))) (dss_one (ds_ret (de_bl))) (dss_nil))
  (dss_cons (ds_asg ((dc_cal1 h__law_drawn (hr.mono (by first | exact Nat.le_refl _ | decide | omega)) (j := 1) (dr_io (dr_cons (de_int) (dr_cons (de_int) (dr_nil))))).de) (dg_tup rfl (dgs_cons (dg_name 9 sc_law.nd) (dgs_cons (dg_name 10 sc_law.nd) (dgs_nil)))))
  (dss_cons (ds_if ((dw_or (dt_not (dt_tru ((dc_cal0 h__law_are_layers_right (hr.mono (by first | exact Nat.le_refl _ | decide | omega)) (da_cons (de_var 9) (da_cons (de_var 10) (da_cons (de_int) (da_nil)))) (aLen_cons (aLen_cons (aLen_cons (aLen_nil))))).de))) (dw_or1 (dt_not (dt_tru ((dc_cal0 h__law_are_layers_right (hr.mono (by first | exact Nat.le_refl _ | decide | omega)) (da_cons (de_var 3) (da_cons (de_var 4) (da_cons (de_var 2) (da_nil)))) (aLen_cons (aLen_cons (aLen_cons (aLen_nil))))).de))))).dt) (dss_one (ds_ret (de_bl))) (dss_nil))
  (dss_cons (ds_hid (ll_law_4) (ds_for [11, 12, 13, 14] PassesOwn.never rfl (di_range1 (da_cons (de_int) (da_nil)) z_range) (dg_name 11 sc_law.nd) (dss_cons (ds_set sc_law.nd (de_ix ((DN.de (dn_lst (da_cons ((dc_cal1 h__law_take (hr.mono (by first | exact Nat.le_refl _ | decide | omega)) (j := 1) (dr_io (dr_cons (de_int) (dr_nil)))).de) (da_cons (de_callB call_abs a_abs z_abs (da_cons ((dc_cal1 h__law_cell (hr.mono (by first | exact Nat.le_refl _ | decide | omega)) (j := 1) (dr_cons (de_var 0) (dr_io (dr_nil)))).de) (da_nil))) (da_cons (de_var 3) (da_nil))))))) (de_var 11)) (i := 12))
  (dss_cons (ds_set sc_law.nd (de_ix ((DN.de (dn_lst (da_cons ((dc_cal1 h__law_take (hr.mono (by first | exact Nat.le_refl _ | decide | omega)) (j := 1) (dr_io (dr_cons (de_int) (dr_nil)))).de) (da_cons (de_bin op_sub v_sub (de_var 12) (de_bin op_mulA v_mulA (de_int) ((dc_cal1 h__law_take (hr.mono (by first | exact Nat.le_refl _ | decide | omega)) (j := 1) (dr_io (dr_cons (de_int) (dr_nil)))).de))) (da_cons (de_bin op_fdivD v_fdiv (de_var 12) (de_int)) (da_nil))))))) (de_var 11)) (i := 13))
  (dss_one (ds_hid (ll_law_3) (ds_for [14] PassesOwn.never rfl (di_sq ((DN.de (dn_lst (da_cons (de_bin op_addA v_addA (de_int) ((dc_cal1 h__law_take (hr.mono (by first | exact Nat.le_refl _ | decide | omega)) (j := 1) (dr_io (dr_cons (de_int) (dr_nil)))).de)) (da_cons ((dc_cal1 h__law_take (hr.mono (by first | exact Nat.le_refl _ | decide | omega)) (j := 1) (dr_io (dr_cons (de_int) (dr_nil)))).de) (da_cons (de_bin op_addA v_addA (de_int) (de_callB call_abs a_abs z_abs (da_cons ((dc_cal1 h__law_cell (hr.mono (by first | exact Nat.le_refl _ | decide | omega)) (j := 1) (dr_cons (de_var 0) (dr_io (dr_nil)))).de) (da_nil)))) (da_nil)))))))) (dg_name 14 sc_law.nd) (dss_one (ds_if (dt_not (dt_tru ((dc_cal0 h__law_same (hr.mono (by first | exact Nat.le_refl _ | decide | omega)) (da_cons ((dc_cal0 h_fewest_pleats (hr.mono (by first | exact Nat.le_refl _ | decide | omega)) (da_cons (de_var 12) (da_cons (de_var 13) (da_cons (de_var 14) (da_nil)))) (aLen_cons (aLen_cons (aLen_cons (aLen_nil))))).de) (da_cons ((dc_cal0 h__law_fewest (hr.mono (by first | exact Nat.le_refl _ | decide | omega)) (da_cons (de_var 12) (da_cons (de_var 13) (da_cons (de_var 14) (da_nil)))) (aLen_cons (aLen_cons (aLen_cons (aLen_nil))))).de) (da_nil))) (aLen_cons (aLen_cons (aLen_nil)))).de))) (dss_one (ds_ret (de_bl))) (dss_nil))))))))))
  (dss_cons (ds_if ((dw_or (dt_not (dt_tru ((dc_cal0 h__law_same (hr.mono (by first | exact Nat.le_refl _ | decide | omega)) (da_cons ((dc_cal0 h_best_height (hr.mono (by first | exact Nat.le_refl _ | decide | omega)) (da_cons (de_int) (da_cons (de_int) (da_nil))) (aLen_cons (aLen_cons (aLen_nil)))).de) (da_cons (de_int) (da_nil))) (aLen_cons (aLen_cons (aLen_nil)))).de))) (dw_or1 (dt_not (dt_tru ((dc_cal0 h__law_same (hr.mono (by first | exact Nat.le_refl _ | decide | omega)) (da_cons ((dc_cal0 h_best_height (hr.mono (by first | exact Nat.le_refl _ | decide | omega)) (da_cons (de_int) (da_cons (de_int) (da_nil))) (aLen_cons (aLen_cons (aLen_nil)))).de) (da_cons (de_int) (da_nil))) (aLen_cons (aLen_cons (aLen_nil)))).de))))).dt) (dss_one (ds_ret (de_bl))) (dss_nil))
  (dss_cons (ds_if ((dw_or (dt_not (dt_tru ((dc_cal0 h__law_same (hr.mono (by first | exact Nat.le_refl _ | decide | omega)) (da_cons ((dc_cal0 h_best_height (hr.mono (by first | exact Nat.le_refl _ | decide | omega)) (da_cons (de_int) (da_cons (de_int) (da_nil))) (aLen_cons (aLen_cons (aLen_nil)))).de) (da_cons (de_int) (da_nil))) (aLen_cons (aLen_cons (aLen_nil)))).de))) (dw_or1 (dt_not (dt_tru ((dc_cal0 h__law_same (hr.mono (by first | exact Nat.le_refl _ | decide | omega)) (da_cons ((dc_cal0 h_layers_at_place (hr.mono (by first | exact Nat.le_refl _ | decide | omega)) (da_cons (de_int) (da_cons (de_tup (da_cons (de_tup (da_cons (de_int) (da_cons (de_int) (da_nil)))) (da_nil))) (da_cons (de_int) (da_nil)))) (aLen_cons (aLen_cons (aLen_cons (aLen_nil))))).de) (da_cons (de_int) (da_nil))) (aLen_cons (aLen_cons (aLen_nil)))).de))))).dt) (dss_one (ds_ret (de_bl))) (dss_nil))
  (dss_one (ds_ret (de_and ((dc_cal0 h__law_same (hr.mono (by first | exact Nat.le_refl _ | decide | omega)) (da_cons ((dc_cal0 h_layers_at_place (hr.mono (by first | exact Nat.le_refl _ | decide | omega)) (da_cons (de_int) (da_cons (de_tup (da_cons (de_tup (da_cons (de_int) (da_cons (de_int) (da_nil)))) (da_nil))) (da_cons (de_un un_neg v_neg (de_int)) (da_nil)))) (aLen_cons (aLen_cons (aLen_cons (aLen_nil))))).de) (da_cons (de_int) (da_nil))) (aLen_cons (aLen_cons (aLen_nil)))).de) (de_and ((dc_cal0 h__law_same (hr.mono (by first | exact Nat.le_refl _ | decide | omega)) (da_cons ((dc_cal0 h_fewest_pleats (hr.mono (by first | exact Nat.le_refl _ | decide | omega)) (da_cons (de_int) (da_cons (de_int) (da_cons (de_int) (da_nil)))) (aLen_cons (aLen_cons (aLen_cons (aLen_nil))))).de) (da_cons (de_int) (da_nil))) (aLen_cons (aLen_cons (aLen_nil)))).de) (de_one (de_cmp (op_isNB) v_dat ((dc_cal0 h_fewest_pleats (hr.mono (by first | exact Nat.le_refl _ | decide | omega)) (da_cons (de_int) (da_cons (de_int) (da_cons (de_int) (da_nil)))) (aLen_cons (aLen_cons (aLen_cons (aLen_nil))))).de) (de_non)))))))))))))))))))⟩)
end
/-! ### what the top has written -/
theorem all_mk {l : PySem.W.OpenLaw} {w : World} {K : PySem.W.Frag} {h : Heap} {mg : Str → Option Value} {fa : Addr} (X : K.In h) (G : h.Ns mainGlobals mg) (hfa : mg "law" = some (.ref fa))
    {f0 : Addr} {od0 an0 : Option Addr} {sl0 : Array (Option Value)} {oc0 kV0 dc0 pm0 cd0 ct0 : Value}
    {f1 : Addr} {od1 an1 : Option Addr} {sl1 : Array (Option Value)} {oc1 kV1 dc1 pm1 cd1 ct1 : Value}
    {f2 : Addr} {od2 an2 : Option Addr} {sl2 : Array (Option Value)} {oc2 kV2 dc2 pm2 cd2 ct2 : Value}
    {f3 : Addr} {od3 an3 : Option Addr} {sl3 : Array (Option Value)} {oc3 kV3 dc3 pm3 cd3 ct3 : Value}
    {f4 : Addr} {od4 an4 : Option Addr} {sl4 : Array (Option Value)} {oc4 kV4 dc4 pm4 cd4 ct4 : Value}
    {f5 : Addr} {od5 an5 : Option Addr} {sl5 : Array (Option Value)} {oc5 kV5 dc5 pm5 cd5 ct5 : Value}
    {f6 : Addr} {od6 an6 : Option Addr} {sl6 : Array (Option Value)} {oc6 kV6 dc6 pm6 cd6 ct6 : Value}
    {f7 : Addr} {od7 an7 : Option Addr} {sl7 : Array (Option Value)} {oc7 kV7 dc7 pm7 cd7 ct7 : Value}
    {f8 : Addr} {od8 an8 : Option Addr} {sl8 : Array (Option Value)} {oc8 kV8 dc8 pm8 cd8 ct8 : Value}
    {f9 : Addr} {od9 an9 : Option Addr} {sl9 : Array (Option Value)} {oc9 kV9 dc9 pm9 cd9 ct9 : Value}
    {f10 : Addr} {od10 an10 : Option Addr} {sl10 : Array (Option Value)} {oc10 kV10 dc10 pm10 cd10 ct10 : Value}
    {f11 : Addr} {od11 an11 : Option Addr} {sl11 : Array (Option Value)} {oc11 kV11 dc11 pm11 cd11 ct11 : Value}
    {f12 : Addr} {od12 an12 : Option Addr} {sl12 : Array (Option Value)} {oc12 kV12 dc12 pm12 cd12 ct12 : Value}
    {f13 : Addr} {od13 an13 : Option Addr} {sl13 : Array (Option Value)} {oc13 kV13 dc13 pm13 cd13 ct13 : Value}
    {f14 : Addr} {od14 an14 : Option Addr} {sl14 : Array (Option Value)} {oc14 kV14 dc14 pm14 cd14 ct14 : Value}
    {f15 : Addr} {od15 an15 : Option Addr} {sl15 : Array (Option Value)} {oc15 kV15 dc15 pm15 cd15 ct15 : Value}
    {f16 : Addr} {od16 an16 : Option Addr} {sl16 : Array (Option Value)} {oc16 kV16 dc16 pm16 cd16 ct16 : Value}
    {f17 : Addr} {od17 an17 : Option Addr} {sl17 : Array (Option Value)} {oc17 kV17 dc17 pm17 cd17 ct17 : Value}
    {f18 : Addr} {od18 an18 : Option Addr} {sl18 : Array (Option Value)} {oc18 kV18 dc18 pm18 cd18 ct18 : Value}
    {f19 : Addr} {od19 an19 : Option Addr} {sl19 : Array (Option Value)} {oc19 kV19 dc19 pm19 cd19 ct19 : Value}
    {f20 : Addr} {od20 an20 : Option Addr} {sl20 : Array (Option Value)} {oc20 kV20 dc20 pm20 cd20 ct20 : Value}
    {f21 : Addr} {od21 an21 : Option Addr} {sl21 : Array (Option Value)} {oc21 kV21 dc21 pm21 cd21 ct21 : Value}
    {f22 : Addr} {od22 an22 : Option Addr} {sl22 : Array (Option Value)} {oc22 kV22 dc22 pm22 cd22 ct22 : Value}
    {c_BadText c_FoldError c_InvalidBand c_InvalidStrip c_NoCrease c_NoPart c_NotFlat c_NothingToRedo c_NothingToUndo : Addr}
    (a0 : PySem.W.nsIn K mainGlobals "_law_draws" = some (some (.ref f0))) (l0 : K.lookup f0 = some ⟨oc0, od0, .func (PySem.W.fnOf "_law_draws" "_law_draws" (defArgs t__law_draws) (defBody t__law_draws) (defScope t__law_draws) .none kV0 dc0 pm0 an0 cd0 ct0), sl0⟩) (c0 : PySem.W.codeIn K cd0 "_law_draws" = true) (k0 : PySem.W.keepIn K (.ref f0) = true)
    (a1 : PySem.W.nsIn K mainGlobals "_law_take" = some (some (.ref f1))) (l1 : K.lookup f1 = some ⟨oc1, od1, .func (PySem.W.fnOf "_law_take" "_law_take" (defArgs t__law_take) (defBody t__law_take) (defScope t__law_take) .none kV1 dc1 pm1 an1 cd1 ct1), sl1⟩) (c1 : PySem.W.codeIn K cd1 "_law_take" = true) (k1 : PySem.W.keepIn K (.ref f1) = true)
    (a2 : PySem.W.nsIn K mainGlobals "_law_drawn" = some (some (.ref f2))) (l2 : K.lookup f2 = some ⟨oc2, od2, .func (PySem.W.fnOf "_law_drawn" "_law_drawn" (defArgs t__law_drawn) (defBody t__law_drawn) (defScope t__law_drawn) .none kV2 dc2 pm2 an2 cd2 ct2), sl2⟩) (c2 : PySem.W.codeIn K cd2 "_law_drawn" = true) (k2 : PySem.W.keepIn K (.ref f2) = true)
    (a3 : PySem.W.nsIn K mainGlobals "room" = some (some (.ref f3))) (l3 : K.lookup f3 = some ⟨oc3, od3, .func (PySem.W.fnOf "room" "room" (defArgs t_room) (defBody t_room) (defScope t_room) .none kV3 dc3 pm3 an3 cd3 ct3), sl3⟩) (c3 : PySem.W.codeIn K cd3 "room" = true) (k3 : PySem.W.keepIn K (.ref f3) = true)
    (a4 : PySem.W.nsIn K mainGlobals "best_height" = some (some (.ref f4))) (l4 : K.lookup f4 = some ⟨oc4, od4, .func (PySem.W.fnOf "best_height" "best_height" (defArgs t_best_height) (defBody t_best_height) (defScope t_best_height) .none kV4 dc4 pm4 an4 cd4 ct4), sl4⟩) (c4 : PySem.W.codeIn K cd4 "best_height" = true) (k4 : PySem.W.keepIn K (.ref f4) = true)
    (a5 : PySem.W.nsIn K mainGlobals "_law_room" = some (some (.ref f5))) (l5 : K.lookup f5 = some ⟨oc5, od5, .func (PySem.W.fnOf "_law_room" "_law_room" (defArgs t__law_room) (defBody t__law_room) (defScope t__law_room) .none kV5 dc5 pm5 an5 cd5 ct5), sl5⟩) (c5 : PySem.W.codeIn K cd5 "_law_room" = true) (k5 : PySem.W.keepIn K (.ref f5) = true)
    (a6 : PySem.W.nsIn K mainGlobals "_law_cell" = some (some (.ref f6))) (l6 : K.lookup f6 = some ⟨oc6, od6, .func (PySem.W.fnOf "_law_cell" "_law_cell" (defArgs t__law_cell) (defBody t__law_cell) (defScope t__law_cell) .none kV6 dc6 pm6 an6 cd6 ct6), sl6⟩) (c6 : PySem.W.codeIn K cd6 "_law_cell" = true) (k6 : PySem.W.keepIn K (.ref f6) = true)
    (a7 : PySem.W.nsIn K mainGlobals "_law_same" = some (some (.ref f7))) (l7 : K.lookup f7 = some ⟨oc7, od7, .func (PySem.W.fnOf "_law_same" "_law_same" (defArgs t__law_same) (defBody t__law_same) (defScope t__law_same) .none kV7 dc7 pm7 an7 cd7 ct7), sl7⟩) (c7 : PySem.W.codeIn K cd7 "_law_same" = true) (k7 : PySem.W.keepIn K (.ref f7) = true)
    (a8 : PySem.W.nsIn K mainGlobals "_law_is_box_right" = some (some (.ref f8))) (l8 : K.lookup f8 = some ⟨oc8, od8, .func (PySem.W.fnOf "_law_is_box_right" "_law_is_box_right" (defArgs t__law_is_box_right) (defBody t__law_is_box_right) (defScope t__law_is_box_right) .none kV8 dc8 pm8 an8 cd8 ct8), sl8⟩) (c8 : PySem.W.codeIn K cd8 "_law_is_box_right" = true) (k8 : PySem.W.keepIn K (.ref f8) = true)
    (a9 : PySem.W.nsIn K mainGlobals "_law_changed" = some (some (.ref f9))) (l9 : K.lookup f9 = some ⟨oc9, od9, .func (PySem.W.fnOf "_law_changed" "_law_changed" (defArgs t__law_changed) (defBody t__law_changed) (defScope t__law_changed) .none kV9 dc9 pm9 an9 cd9 ct9), sl9⟩) (c9 : PySem.W.codeIn K cd9 "_law_changed" = true) (k9 : PySem.W.keepIn K (.ref f9) = true)
    (a10 : PySem.W.nsIn K mainGlobals "_law_by_units" = some (some (.ref f10))) (l10 : K.lookup f10 = some ⟨oc10, od10, .func (PySem.W.fnOf "_law_by_units" "_law_by_units" (defArgs t__law_by_units) (defBody t__law_by_units) (defScope t__law_by_units) .none kV10 dc10 pm10 an10 cd10 ct10), sl10⟩) (c10 : PySem.W.codeIn K cd10 "_law_by_units" = true) (k10 : PySem.W.keepIn K (.ref f10) = true)
    (a11 : PySem.W.nsIn K mainGlobals "_law_layers" = some (some (.ref f11))) (l11 : K.lookup f11 = some ⟨oc11, od11, .func (PySem.W.fnOf "_law_layers" "_law_layers" (defArgs t__law_layers) (defBody t__law_layers) (defScope t__law_layers) .none kV11 dc11 pm11 an11 cd11 ct11), sl11⟩) (c11 : PySem.W.codeIn K cd11 "_law_layers" = true) (k11 : PySem.W.keepIn K (.ref f11) = true)
    (a12 : PySem.W.nsIn K mainGlobals "pleated_length" = some (some (.ref f12))) (l12 : K.lookup f12 = some ⟨oc12, od12, .func (PySem.W.fnOf "pleated_length" "pleated_length" (defArgs t_pleated_length) (defBody t_pleated_length) (defScope t_pleated_length) .none kV12 dc12 pm12 an12 cd12 ct12), sl12⟩) (c12 : PySem.W.codeIn K cd12 "pleated_length" = true) (k12 : PySem.W.keepIn K (.ref f12) = true)
    (a13 : PySem.W.nsIn K mainGlobals "ways_of" = some (some (.ref f13))) (l13 : K.lookup f13 = some ⟨oc13, od13, .func (PySem.W.fnOf "ways_of" "ways_of" (defArgs t_ways_of) (defBody t_ways_of) (defScope t_ways_of) .none kV13 dc13 pm13 an13 cd13 ct13), sl13⟩) (c13 : PySem.W.codeIn K cd13 "ways_of" = true) (k13 : PySem.W.keepIn K (.ref f13) = true)
    (a14 : PySem.W.nsIn K mainGlobals "layers_at_place" = some (some (.ref f14))) (l14 : K.lookup f14 = some ⟨oc14, od14, .func (PySem.W.fnOf "layers_at_place" "layers_at_place" (defArgs t_layers_at_place) (defBody t_layers_at_place) (defScope t_layers_at_place) .none kV14 dc14 pm14 an14 cd14 ct14), sl14⟩) (c14 : PySem.W.codeIn K cd14 "layers_at_place" = true) (k14 : PySem.W.keepIn K (.ref f14) = true)
    (a15 : PySem.W.nsIn K mainGlobals "_law_are_layers_right" = some (some (.ref f15))) (l15 : K.lookup f15 = some ⟨oc15, od15, .func (PySem.W.fnOf "_law_are_layers_right" "_law_are_layers_right" (defArgs t__law_are_layers_right) (defBody t__law_are_layers_right) (defScope t__law_are_layers_right) .none kV15 dc15 pm15 an15 cd15 ct15), sl15⟩) (c15 : PySem.W.codeIn K cd15 "_law_are_layers_right" = true) (k15 : PySem.W.keepIn K (.ref f15) = true)
    (a16 : PySem.W.nsIn K mainGlobals "_law_are_pleats" = some (some (.ref f16))) (l16 : K.lookup f16 = some ⟨oc16, od16, .func (PySem.W.fnOf "_law_are_pleats" "_law_are_pleats" (defArgs t__law_are_pleats) (defBody t__law_are_pleats) (defScope t__law_are_pleats) .none kV16 dc16 pm16 an16 cd16 ct16), sl16⟩) (c16 : PySem.W.codeIn K cd16 "_law_are_pleats" = true) (k16 : PySem.W.keepIn K (.ref f16) = true)
    (a17 : PySem.W.nsIn K mainGlobals "check_pleats" = some (some (.ref f17))) (l17 : K.lookup f17 = some ⟨oc17, od17, .func (PySem.W.fnOf "check_pleats" "check_pleats" (defArgs t_check_pleats) (defBody t_check_pleats) (defScope t_check_pleats) .none kV17 dc17 pm17 an17 cd17 ct17), sl17⟩) (c17 : PySem.W.codeIn K cd17 "check_pleats" = true) (k17 : PySem.W.keepIn K (.ref f17) = true)
    (a18 : PySem.W.nsIn K mainGlobals "_law_other_error" = some (some (.ref f18))) (l18 : K.lookup f18 = some ⟨oc18, od18, .func (PySem.W.fnOf "_law_other_error" "_law_other_error" (defArgs t__law_other_error) (defBody t__law_other_error) (defScope t__law_other_error) .none kV18 dc18 pm18 an18 cd18 ct18), sl18⟩) (c18 : PySem.W.codeIn K cd18 "_law_other_error" = true) (k18 : PySem.W.keepIn K (.ref f18) = true)
    (a19 : PySem.W.nsIn K mainGlobals "_law_is_checked" = some (some (.ref f19))) (l19 : K.lookup f19 = some ⟨oc19, od19, .func (PySem.W.fnOf "_law_is_checked" "_law_is_checked" (defArgs t__law_is_checked) (defBody t__law_is_checked) (defScope t__law_is_checked) .none kV19 dc19 pm19 an19 cd19 ct19), sl19⟩) (c19 : PySem.W.codeIn K cd19 "_law_is_checked" = true) (k19 : PySem.W.keepIn K (.ref f19) = true)
    (a20 : PySem.W.nsIn K mainGlobals "fewest_pleats" = some (some (.ref f20))) (l20 : K.lookup f20 = some ⟨oc20, od20, .func (PySem.W.fnOf "fewest_pleats" "fewest_pleats" (defArgs t_fewest_pleats) (defBody t_fewest_pleats) (defScope t_fewest_pleats) .none kV20 dc20 pm20 an20 cd20 ct20), sl20⟩) (c20 : PySem.W.codeIn K cd20 "fewest_pleats" = true) (k20 : PySem.W.keepIn K (.ref f20) = true)
    (a21 : PySem.W.nsIn K mainGlobals "_law_fewest" = some (some (.ref f21))) (l21 : K.lookup f21 = some ⟨oc21, od21, .func (PySem.W.fnOf "_law_fewest" "_law_fewest" (defArgs t__law_fewest) (defBody t__law_fewest) (defScope t__law_fewest) .none kV21 dc21 pm21 an21 cd21 ct21), sl21⟩) (c21 : PySem.W.codeIn K cd21 "_law_fewest" = true) (k21 : PySem.W.keepIn K (.ref f21) = true)
    (a22 : PySem.W.nsIn K mainGlobals "law" = some (some (.ref f22))) (l22 : K.lookup f22 = some ⟨oc22, od22, .func (PySem.W.fnOf "law" "law" (defArgs t_law) (defBody t_law) (defScope t_law) .none kV22 dc22 pm22 an22 cd22 ct22), sl22⟩) (c22 : PySem.W.codeIn K cd22 "law" = true) (k22 : PySem.W.keepIn K (.ref f22) = true)
    (z_ValueError : PySem.W.nsIn K mainGlobals "ValueError" = some none)
    (z_abs : PySem.W.nsIn K mainGlobals "abs" = some none)
    (z_any : PySem.W.nsIn K mainGlobals "any" = some none)
    (z_bool : PySem.W.nsIn K mainGlobals "bool" = some none)
    (z_int : PySem.W.nsIn K mainGlobals "int" = some none)
    (z_isinstance : PySem.W.nsIn K mainGlobals "isinstance" = some none)
    (z_len : PySem.W.nsIn K mainGlobals "len" = some none)
    (z_list : PySem.W.nsIn K mainGlobals "list" = some none)
    (z_max : PySem.W.nsIn K mainGlobals "max" = some none)
    (z_min : PySem.W.nsIn K mainGlobals "min" = some none)
    (z_range : PySem.W.nsIn K mainGlobals "range" = some none)
    (z_sum : PySem.W.nsIn K mainGlobals "sum" = some none)
    (z_tuple : PySem.W.nsIn K mainGlobals "tuple" = some none)
    (xa_BadText : PySem.W.nsIn K mainGlobals "BadText" = some (some (.ref c_BadText)))
    (xa_FoldError : PySem.W.nsIn K mainGlobals "FoldError" = some (some (.ref c_FoldError)))
    (xa_InvalidBand : PySem.W.nsIn K mainGlobals "InvalidBand" = some (some (.ref c_InvalidBand)))
    (xa_InvalidStrip : PySem.W.nsIn K mainGlobals "InvalidStrip" = some (some (.ref c_InvalidStrip)))
    (xa_NoCrease : PySem.W.nsIn K mainGlobals "NoCrease" = some (some (.ref c_NoCrease)))
    (xa_NoPart : PySem.W.nsIn K mainGlobals "NoPart" = some (some (.ref c_NoPart)))
    (xa_NotFlat : PySem.W.nsIn K mainGlobals "NotFlat" = some (some (.ref c_NotFlat)))
    (xa_NothingToRedo : PySem.W.nsIn K mainGlobals "NothingToRedo" = some (some (.ref c_NothingToRedo)))
    (xa_NothingToUndo : PySem.W.nsIn K mainGlobals "NothingToUndo" = some (some (.ref c_NothingToUndo)))
    (xx_InvalidStrip : PySem.W.excIn K c_InvalidStrip [.type "ValueError", .type "Exception", .type "BaseException", .type "object"] "ValueError.__new__" = true)
    (xk_InvalidStrip : PySem.W.keepIn K (.ref c_InvalidStrip) = true)
    (xb_InvalidStrip : PySem.W.subIn K (.ref c_InvalidStrip) (.type "BaseException") = some true)
    (xt_InvalidStrip : PySem.W.typeIn K (.ref c_InvalidStrip) = some (.type "type"))
    (y1_InvalidStrip : PySem.W.findIn K (.ref c_InvalidStrip) "__getattribute__" = some (some (.builtin "BaseException.__getattribute__")))
    (y2_InvalidStrip : PySem.W.findIn K (.ref c_InvalidStrip) "__getattr__" = some none)
    (xd_InvalidStrip : PySem.W.hasDictIn K c_InvalidStrip = true)
    (y3_InvalidStrip : PySem.W.findIn K (.ref c_InvalidStrip) "__class__" = some (some (.builtin "object.__class__")))
    (y4 : PySem.W.specialIn K (.builtin "object.__class__") "__get__" = some (some (.builtin "getset_descriptor.__get__")))
    (y5 : PySem.W.takesIn K (.builtin "object.__class__") = some true)
    (y6_InvalidStrip : PySem.W.mroIn K c_InvalidStrip (.type "object") = some true)
    (xd_BadText : PySem.W.hasDictIn K c_BadText = true)
    (xt_BadText : PySem.W.typeIn K (.ref c_BadText) = some (.type "type"))
    (ks_InvalidStrip_BadText : PySem.W.subIn K (.ref c_InvalidStrip) (.ref c_BadText) = some false)
    (kn_InvalidStrip_BadText : (Value.ref c_InvalidStrip == Value.ref c_BadText) = false)
    (xd_InvalidBand : PySem.W.hasDictIn K c_InvalidBand = true)
    (xt_InvalidBand : PySem.W.typeIn K (.ref c_InvalidBand) = some (.type "type"))
    (ks_InvalidStrip_InvalidBand : PySem.W.subIn K (.ref c_InvalidStrip) (.ref c_InvalidBand) = some false)
    (kn_InvalidStrip_InvalidBand : (Value.ref c_InvalidStrip == Value.ref c_InvalidBand) = false)
    (xd_NoCrease : PySem.W.hasDictIn K c_NoCrease = true)
    (xt_NoCrease : PySem.W.typeIn K (.ref c_NoCrease) = some (.type "type"))
    (ks_InvalidStrip_NoCrease : PySem.W.subIn K (.ref c_InvalidStrip) (.ref c_NoCrease) = some false)
    (kn_InvalidStrip_NoCrease : (Value.ref c_InvalidStrip == Value.ref c_NoCrease) = false)
    (xd_NoPart : PySem.W.hasDictIn K c_NoPart = true)
    (xt_NoPart : PySem.W.typeIn K (.ref c_NoPart) = some (.type "type"))
    (ks_InvalidStrip_NoPart : PySem.W.subIn K (.ref c_InvalidStrip) (.ref c_NoPart) = some false)
    (kn_InvalidStrip_NoPart : (Value.ref c_InvalidStrip == Value.ref c_NoPart) = false)
    (xd_NotFlat : PySem.W.hasDictIn K c_NotFlat = true)
    (xt_NotFlat : PySem.W.typeIn K (.ref c_NotFlat) = some (.type "type"))
    (ks_InvalidStrip_NotFlat : PySem.W.subIn K (.ref c_InvalidStrip) (.ref c_NotFlat) = some false)
    (kn_InvalidStrip_NotFlat : (Value.ref c_InvalidStrip == Value.ref c_NotFlat) = false)
    (xd_NothingToRedo : PySem.W.hasDictIn K c_NothingToRedo = true)
    (xt_NothingToRedo : PySem.W.typeIn K (.ref c_NothingToRedo) = some (.type "type"))
    (ks_InvalidStrip_NothingToRedo : PySem.W.subIn K (.ref c_InvalidStrip) (.ref c_NothingToRedo) = some false)
    (kn_InvalidStrip_NothingToRedo : (Value.ref c_InvalidStrip == Value.ref c_NothingToRedo) = false)
    (xd_NothingToUndo : PySem.W.hasDictIn K c_NothingToUndo = true)
    (xt_NothingToUndo : PySem.W.typeIn K (.ref c_NothingToUndo) = some (.type "type"))
    (ks_InvalidStrip_NothingToUndo : PySem.W.subIn K (.ref c_InvalidStrip) (.ref c_NothingToUndo) = some false)
    (kn_InvalidStrip_NothingToUndo : (Value.ref c_InvalidStrip == Value.ref c_NothingToUndo) = false)
    (ks_InvalidStrip_ValueError : PySem.W.subIn K (.ref c_InvalidStrip) (.type "ValueError") = some true)
    (xd_FoldError : PySem.W.hasDictIn K c_FoldError = true)
    (xt_FoldError : PySem.W.typeIn K (.ref c_FoldError) = some (.type "type"))
    (ks_InvalidStrip_FoldError : PySem.W.subIn K (.ref c_InvalidStrip) (.ref c_FoldError) = some true)
    (xb_FoldError : PySem.W.subIn K (.ref c_FoldError) (.type "BaseException") = some true)
    (htr : l.prog.given.tree = none) :
    ∃ fd : FuncData, (∀ (s : Shared) (v : Value), BindsTo s fd ⟨[v], []⟩ [("script", v)]) ∧ ∀ base : Heap, K.In base → base.Ns mainGlobals mg → base.NoSeer → FnOk l.prog w K mg base CX0 34 fa fd ["script"] (fun vs H Q E => vs.length = ["script"].length ∧ spD K [] m_law vs H Q E) := by
  have e := hfa.symm.trans (PySem.W.mg_of X G a22)
  cases e
  have z_ValueError' := PySem.W.mg_none_of X G z_ValueError
  have z_abs' := PySem.W.mg_none_of X G z_abs
  have z_any' := PySem.W.mg_none_of X G z_any
  have z_bool' := PySem.W.mg_none_of X G z_bool
  have z_int' := PySem.W.mg_none_of X G z_int
  have z_isinstance' := PySem.W.mg_none_of X G z_isinstance
  have z_len' := PySem.W.mg_none_of X G z_len
  have z_list' := PySem.W.mg_none_of X G z_list
  have z_max' := PySem.W.mg_none_of X G z_max
  have z_min' := PySem.W.mg_none_of X G z_min
  have z_range' := PySem.W.mg_none_of X G z_range
  have z_sum' := PySem.W.mg_none_of X G z_sum
  have z_tuple' := PySem.W.mg_none_of X G z_tuple
  have g_BadText := PySem.W.mg_of X G xa_BadText
  have g_FoldError := PySem.W.mg_of X G xa_FoldError
  have g_InvalidBand := PySem.W.mg_of X G xa_InvalidBand
  have g_InvalidStrip := PySem.W.mg_of X G xa_InvalidStrip
  have g_NoCrease := PySem.W.mg_of X G xa_NoCrease
  have g_NoPart := PySem.W.mg_of X G xa_NoPart
  have g_NotFlat := PySem.W.mg_of X G xa_NotFlat
  have g_NothingToRedo := PySem.W.mg_of X G xa_NothingToRedo
  have g_NothingToUndo := PySem.W.mg_of X G xa_NothingToUndo
  have x_InvalidStrip : ExF K mg "InvalidStrip" c_InvalidStrip := ⟨PySem.W.mg_of X G xa_InvalidStrip, xx_InvalidStrip, xk_InvalidStrip, xb_InvalidStrip, xt_InvalidStrip⟩
  have xc_InvalidStrip : ExcC K c_InvalidStrip := ⟨y1_InvalidStrip, y2_InvalidStrip, xb_InvalidStrip, xd_InvalidStrip, y3_InvalidStrip, y4, y5, y6_InvalidStrip⟩
  have kt_InvalidStrip_BadText : PySem.W.kitOne K (.ref c_InvalidStrip) (.ref c_BadText) = some false := kit_own xd_BadText xt_BadText ks_InvalidStrip_BadText kn_InvalidStrip_BadText
  have kt_InvalidStrip_InvalidBand : PySem.W.kitOne K (.ref c_InvalidStrip) (.ref c_InvalidBand) = some false := kit_own xd_InvalidBand xt_InvalidBand ks_InvalidStrip_InvalidBand kn_InvalidStrip_InvalidBand
  have kt_InvalidStrip_InvalidStrip : PySem.W.kitOne K (.ref c_InvalidStrip) (.ref c_InvalidStrip) = some true := kit_self
  have kt_InvalidStrip_NoCrease : PySem.W.kitOne K (.ref c_InvalidStrip) (.ref c_NoCrease) = some false := kit_own xd_NoCrease xt_NoCrease ks_InvalidStrip_NoCrease kn_InvalidStrip_NoCrease
  have kt_InvalidStrip_NoPart : PySem.W.kitOne K (.ref c_InvalidStrip) (.ref c_NoPart) = some false := kit_own xd_NoPart xt_NoPart ks_InvalidStrip_NoPart kn_InvalidStrip_NoPart
  have kt_InvalidStrip_NotFlat : PySem.W.kitOne K (.ref c_InvalidStrip) (.ref c_NotFlat) = some false := kit_own xd_NotFlat xt_NotFlat ks_InvalidStrip_NotFlat kn_InvalidStrip_NotFlat
  have kt_InvalidStrip_NothingToRedo : PySem.W.kitOne K (.ref c_InvalidStrip) (.ref c_NothingToRedo) = some false := kit_own xd_NothingToRedo xt_NothingToRedo ks_InvalidStrip_NothingToRedo kn_InvalidStrip_NothingToRedo
  have kt_InvalidStrip_NothingToUndo : PySem.W.kitOne K (.ref c_InvalidStrip) (.ref c_NothingToUndo) = some false := kit_own xd_NothingToUndo xt_NothingToUndo ks_InvalidStrip_NothingToUndo kn_InvalidStrip_NothingToUndo
  have kt_InvalidStrip_ValueError : PySem.W.kitOne K (.ref c_InvalidStrip) (.type "ValueError") = some true := kit_bt ks_InvalidStrip_ValueError
  have xm_InvalidStrip_FoldError := PySem.W.exm_ref xb_FoldError xd_FoldError xt_FoldError ks_InvalidStrip_FoldError
  have S0 : Src K mg "_law_draws" t__law_draws ["script", "many"] := src_mk (PySem.W.mg_of X G a0) l0 c0 k0 (fun _ _ _ _ _ _ us hl => match us, hl with | [_, _], _ => rfl)
  have S1 : Src K mg "_law_take" t__law_take ["draws", "many"] := src_mk (PySem.W.mg_of X G a1) l1 c1 k1 (fun _ _ _ _ _ _ us hl => match us, hl with | [_, _], _ => rfl)
  have S2 : Src K mg "_law_drawn" t__law_drawn ["draws", "many", "scale"] := src_mk (PySem.W.mg_of X G a2) l2 c2 k2 (fun _ _ _ _ _ _ us hl => match us, hl with | [_, _, _], _ => rfl)
  have S3 : Src K mg "room" t_room ["a", "b", "x"] := src_mk (PySem.W.mg_of X G a3) l3 c3 k3 (fun _ _ _ _ _ _ us hl => match us, hl with | [_, _, _], _ => rfl)
  have S4 : Src K mg "best_height" t_best_height ["a", "b"] := src_mk (PySem.W.mg_of X G a4) l4 c4 k4 (fun _ _ _ _ _ _ us hl => match us, hl with | [_, _], _ => rfl)
  have S5 : Src K mg "_law_room" t__law_room ["a", "b", "x"] := src_mk (PySem.W.mg_of X G a5) l5 c5 k5 (fun _ _ _ _ _ _ us hl => match us, hl with | [_, _, _], _ => rfl)
  have S6 : Src K mg "_law_cell" t__law_cell ["script", "draws"] := src_mk (PySem.W.mg_of X G a6) l6 c6 k6 (fun _ _ _ _ _ _ us hl => match us, hl with | [_, _], _ => rfl)
  have S7 : Src K mg "_law_same" t__law_same ["actual", "due"] := src_mk (PySem.W.mg_of X G a7) l7 c7 k7 (fun _ _ _ _ _ _ us hl => match us, hl with | [_, _], _ => rfl)
  have S8 : Src K mg "_law_is_box_right" t__law_is_box_right ["script", "draws"] := src_mk (PySem.W.mg_of X G a8) l8 c8 k8 (fun _ _ _ _ _ _ us hl => match us, hl with | [_, _], _ => rfl)
  have S9 : Src K mg "_law_changed" t__law_changed ["script", "draws", "pleats"] := src_mk (PySem.W.mg_of X G a9) l9 c9 k9 (fun _ _ _ _ _ _ us hl => match us, hl with | [_, _, _], _ => rfl)
  have S10 : Src K mg "_law_by_units" t__law_by_units ["length", "pleats"] := src_mk (PySem.W.mg_of X G a10) l10 c10 k10 (fun _ _ _ _ _ _ us hl => match us, hl with | [_, _], _ => rfl)
  have S11 : Src K mg "_law_layers" t__law_layers ["length", "pleats", "place"] := src_mk (PySem.W.mg_of X G a11) l11 c11 k11 (fun _ _ _ _ _ _ us hl => match us, hl with | [_, _, _], _ => rfl)
  have S12 : Src K mg "pleated_length" t_pleated_length ["length", "pleats"] := src_mk (PySem.W.mg_of X G a12) l12 c12 k12 (fun _ _ _ _ _ _ us hl => match us, hl with | [_, _], _ => rfl)
  have S13 : Src K mg "ways_of" t_ways_of ["length", "pleats"] := src_mk (PySem.W.mg_of X G a13) l13 c13 k13 (fun _ _ _ _ _ _ us hl => match us, hl with | [_, _], _ => rfl)
  have S14 : Src K mg "layers_at_place" t_layers_at_place ["length", "pleats", "place"] := src_mk (PySem.W.mg_of X G a14) l14 c14 k14 (fun _ _ _ _ _ _ us hl => match us, hl with | [_, _, _], _ => rfl)
  have S15 : Src K mg "_law_are_layers_right" t__law_are_layers_right ["length", "pleats", "scale"] := src_mk (PySem.W.mg_of X G a15) l15 c15 k15 (fun _ _ _ _ _ _ us hl => match us, hl with | [_, _, _], _ => rfl)
  have S16 : Src K mg "_law_are_pleats" t__law_are_pleats ["length", "pleats"] := src_mk (PySem.W.mg_of X G a16) l16 c16 k16 (fun _ _ _ _ _ _ us hl => match us, hl with | [_, _], _ => rfl)
  have S17 : Src K mg "check_pleats" t_check_pleats ["length", "pleats"] := src_mk (PySem.W.mg_of X G a17) l17 c17 k17 (fun _ _ _ _ _ _ us hl => match us, hl with | [_, _], _ => rfl)
  have S18 : Src K mg "_law_other_error" t__law_other_error ["e"] := src_mk (PySem.W.mg_of X G a18) l18 c18 k18 (fun _ _ _ _ _ _ us hl => match us, hl with | [_], _ => rfl)
  have S19 : Src K mg "_law_is_checked" t__law_is_checked ["length", "pleats"] := src_mk (PySem.W.mg_of X G a19) l19 c19 k19 (fun _ _ _ _ _ _ us hl => match us, hl with | [_, _], _ => rfl)
  have S20 : Src K mg "fewest_pleats" t_fewest_pleats ["length", "wanted", "most"] := src_mk (PySem.W.mg_of X G a20) l20 c20 k20 (fun _ _ _ _ _ _ us hl => match us, hl with | [_, _, _], _ => rfl)
  have S21 : Src K mg "_law_fewest" t__law_fewest ["length", "wanted", "most"] := src_mk (PySem.W.mg_of X G a21) l21 c21 k21 (fun _ _ _ _ _ _ us hl => match us, hl with | [_, _, _], _ => rfl)
  refine ⟨PySem.W.fnOf "law" "law" (defArgs t_law) (defBody t_law) (defScope t_law) .none kV22 dc22 pm22 an22 cd22 ct22, fun s v => .of_eq rfl, fun base _ _ hns => ?_⟩
  have h__law_draws := ok__law_draws (P := l.prog) (w := w) (base := base) S0 z_int' z_len' z_list' z_range'
  have h__law_take := ok__law_take (P := l.prog) (w := w) (base := base) S1 z_int' z_len'
  have h__law_drawn := ok__law_drawn (P := l.prog) (w := w) (base := base) S2 h__law_take z_range' z_tuple'
  have h_room := ok_room (P := l.prog) (w := w) (base := base) S3 
  have h_best_height := ok_best_height (P := l.prog) (w := w) (base := base) S4 h_room z_min'
  have h__law_room := ok__law_room (P := l.prog) (w := w) (base := base) S5 
  have h__law_cell := ok__law_cell (P := l.prog) (w := w) (base := base) S6 h__law_take z_int' z_len'
  have h__law_same := ok__law_same (P := l.prog) (w := w) (base := base) S7 z_bool' z_int' z_isinstance' z_len' z_range' z_tuple' 12
  have h__law_is_box_right := ok__law_is_box_right (P := l.prog) (w := w) (base := base) S8 h__law_cell h__law_room h__law_same h__law_take h_best_height h_room z_abs' z_bool' z_int' z_isinstance' z_max' z_min' z_range'
  have h__law_changed := ok__law_changed (P := l.prog) (w := w) (base := base) S9 h__law_cell h__law_take z_len'
  have h__law_by_units := ok__law_by_units (P := l.prog) (w := w) (base := base) S10 z_range'
  have h__law_layers := ok__law_layers (P := l.prog) (w := w) (base := base) S11 z_int' z_sum'
  have h_pleated_length := ok_pleated_length (P := l.prog) (w := w) (base := base) S12 z_sum'
  have h_ways_of := ok_ways_of (P := l.prog) (w := w) (base := base) S13 
  have h_layers_at_place := ok_layers_at_place (P := l.prog) (w := w) (base := base) S14 h_ways_of z_len' z_max' z_min'
  have h__law_are_layers_right := ok__law_are_layers_right (P := l.prog) (w := w) (base := base) S15 h__law_by_units h__law_layers h__law_same h_layers_at_place h_pleated_length z_list' z_range' z_sum'
  have h__law_are_pleats := ok__law_are_pleats (P := l.prog) (w := w) (base := base) S16 z_len'
  have h_check_pleats := ok_check_pleats (P := l.prog) (w := w) (base := base) S17 z_any' z_len' z_range' x_InvalidStrip
  have h__law_other_error := ok__law_other_error (P := l.prog) (w := w) (base := base) S18 z_isinstance' g_BadText g_InvalidBand g_NoCrease g_NoPart g_NotFlat g_NothingToRedo g_NothingToUndo xc_InvalidStrip kt_InvalidStrip_BadText kt_InvalidStrip_InvalidBand kt_InvalidStrip_NoCrease kt_InvalidStrip_NoPart kt_InvalidStrip_NotFlat kt_InvalidStrip_NothingToRedo kt_InvalidStrip_NothingToUndo
  have h__law_is_checked := ok__law_is_checked (P := l.prog) (w := w) (base := base) S19 h__law_are_pleats h__law_other_error h_check_pleats z_ValueError' z_isinstance' g_FoldError g_InvalidStrip xc_InvalidStrip kt_InvalidStrip_InvalidStrip kt_InvalidStrip_ValueError xm_InvalidStrip_FoldError
  have h_fewest_pleats := ok_fewest_pleats (P := l.prog) (w := w) (base := base) S20 hns htr 
  have h__law_fewest := ok__law_fewest (P := l.prog) (w := w) (base := base) S21 hns htr z_int'
  exact ok_law (fun_mk (st := t_law) l22 c22 k22) h__law_are_layers_right h__law_cell h__law_changed h__law_drawn h__law_draws h__law_fewest h__law_is_box_right h__law_is_checked h__law_same h__law_take h_best_height h_fewest_pleats h_layers_at_place z_abs' z_max' z_range'
end
end L2.G

namespace L2.G
open PySem PySem.Spec PyProof.Rows L2 L2.Pd
/-! ## the laws' own draws -/
def tk (ns : List Int) (n : Int) : Int := match ns.getLast? with
  | none => 0
  | some z => z.fmod n
theorem tk_nn {ns : List Int} {n : Int} (h : 0 < n) : 0 ≤ tk ns n := by
  unfold tk
  split
  · exact Int.le_refl 0
  · exact Int.fmod_nonneg_of_pos _ h
theorem tk_lt {ns : List Int} {n : Int} (h : 0 < n) : tk ns n < n := by
  unfold tk
  split
  · exact h
  · exact Int.fmod_lt_of_pos _ h
@[simp] theorem v_take (ns : List Int) (n : Int) (hn : n ≠ 0) : m__law_take [.ol (is ns), .sh (.int n)] = some (.sh (.int (tk ns n)), [.ol (is ns.dropLast), .sh (.int n)]) := by
  rcases List.eq_nil_or_concat ns with rfl | ⟨r, z, rfl⟩
  · exact fn_io (ρ' := [.ol [], .sh (.int n)]) (by simp [s__law_take, tk]) rfl rfl
  · have h0 : ((r.length : Int) + 1 == 0) = false := by
      rw [beq_eq_false_iff_ne]
      omega
    refine (fn_io (m := m__law_take) (cs := [.ol (is (r.concat z)), .sh (.int n)]) (ρ' := [.ol (is r), .sh (.int n)]) (c := .sh (.int (z.fmod n))) ?_ rfl rfl).trans ?_
    · simp [s__law_take, lPop, hn, h0]
    · simp [tk]; rfl
@[simp] theorem okD_is (ns : List Int) : PyData.canLayAll0 (is ns) = true := by
  induction ns with
  | nil => rfl
  | cons n r ih => simp [ih]
@[simp] theorem dpA_is (ns : List Int) : PyData.depthAll (is ns) = 0 := by
  induction ns with
  | nil => rfl
  | cons n r ih => simp [ih]
/-! the list of the draws -/
@[simp] theorem atI_is {ns : List Int} {i : Int} (h0 : 0 ≤ i) (h1 : i < ns.length) : atI (is ns) i = some (.int (ns[i.toNat]'(by omega))) := by
  refine atI_in h0 ?_
  rw [is_get, List.getElem?_eq_getElem (by omega)]
  rfl
theorem v_draws (ns : List Int) (many : Int) (hl : ns.length ≤ 63) (h0 : 0 ≤ many) (h1 : many ≤ 5000) : ∃ ds : List Int, m__law_draws [.sh (.list (is ns)), .sh (.int many)] = some (.ol (is ds), []) := by
  have e1 : k__law_draws_1 [.sh (.list (is ns)), .sh (.int many), .dead, .dead, .dead, .dead, .dead, .dead, .dead] = some (.ol (is ns), [.sh (.list (is ns)), .sh (.int many), .dead, .dead, .dead, .dead, .dead, .dead, .dead]) := by
    rw [kk__law_draws_1]
    refine (ev_compA PyData.int PyData.int ns (ρi := [.sh (.list (is ns)), .sh (.int many), .dead, .dead, .dead, .dead, .dead, .dead, .dead]) rfl rfl (by simp [sizeLine]; omega) fun y _ => by refine ⟨_, _, rfl, rfl, ?_⟩; rfl).trans rfl
  obtain ⟨cells, hc0, hc1, e2⟩ : ∃ cells : List Int, cells ≠ [] ∧ cells.length ≤ 64 ∧ (sIf (eTst (eBin (fun x y => (bEq x y).map .bool) (eLenOwn 2) (eC (.int 0)))) (sExpr (eMeth 2 lAppend (aCons (eC (.int 0)) (aNil)))) (sNx)) [.sh (.list (is ns)), .sh (.int many), .ol (is ns), .dead, .dead, .dead, .dead, .dead, .dead] = some (.nx [.sh (.list (is ns)), .sh (.int many), .ol (is cells), .dead, .dead, .dead, .dead, .dead, .dead]) := by
    cases ns with
    | nil => exact ⟨[0], by simp, by simp, by simp [lAppend, sizeLine]⟩
    | cons n r =>
      have h0 : ((r.length : Int) + 1 == 0) = false := by
        rw [beq_eq_false_iff_ne]
        omega
      exact ⟨n :: r, by simp, by simp at hl ⊢; omega, by simp [h0]⟩
  -- the turns
  have hn0 : cells.length ≠ 0 := fun z => hc0 (List.eq_nil_of_length_eq_zero z)
  have hn : (0 : Int) < cells.length := by omega
  have hp : (10 : Int) ^ 18 = 1000000000000000000 := by decide
  have hp2 : (Builtin.Int.intBits 10 : Int) * 18 ≤ 134217728 := by decide
  have lp := loop_invN (xs0 := (List.range many.toNat).map (fun k : Nat => PyData.int (k : Int))) (ks := [5, 6, 7]) (b := fun x ρ => (gNm 5 x ρ).bind b__law_draws_1) (fun k : Nat => PyData.int (k : Int)) (fun r ρ => ∃ rest ds : List Int, rest.length = cells.length ∧ ds.length + r.length ≤ 5000 ∧ ρ = [.sh (.list (is ns)), .sh (.int many), .sh (.list (is cells)), .ol (is rest), .ol (is ds), .dead, .dead, .dead, .dead]) (fun k r ρ h => by
    obtain ⟨rest, ds, hr, hd, rfl⟩ := h
    rw [List.length_cons] at hd
    have hat0 : 0 ≤ (k : Int).fmod cells.length := Int.fmod_nonneg_of_pos _ hn
    have hat1 : (k : Int).fmod cells.length < cells.length := Int.fmod_lt_of_pos _ hn
    generalize hat : (k : Int).fmod cells.length = at_ at hat0 hat1
    have hat2 : at_ < rest.length := by omega
    have hdl : ds.length < 16777216 := by omega
    have hml : ∀ a : Int, mulOk a 48271 = true := fun a => by simp [mulOk]
    have hml2 : mulOk (k : Int) 69621 = true := by simp [mulOk]
    have hmm : ∀ a : Int, mulOk (a.fmod 2147483647) (a.fmod 2147483647) = true := fun a => mulOk_l (Nat.lt_of_lt_of_le (fmod_abs (by decide)) (by decide))
    have hm3 : ∀ a : Int, mulOk 3 a = true := fun a => mulOk_l (by decide)
    by_cases hb1 : (1000000000000000000 : Int) ≤ cells[at_.toNat]'(by omega)
    · by_cases hb2 : (0 : Int) < rest[at_.toNat]'(by omega)
      · have hq : Builtin.divisionGoesByPylong (rest[at_.toNat]'(by omega)) 1000 = false := PyProof.noPylong_small (by decide)
        simp [b__law_draws_1, hn0, hat, hat0, hat1, hat2, dPow, hp2, hb1, hb2, lAppend, sizeLine, hdl, hq, ixN_in]
        refine ⟨rest.set at_.toNat ((rest[at_.toNat]'(by omega)).fdiv 1000), by simp [hr], ds ++ [(rest[at_.toNat]'(by omega)).fmod 1000], by simp; omega, ?_, ?_⟩
        · rw [is_set]
        · simp
      · simp [b__law_draws_1, hn0, hat, hat0, hat1, hat2, dPow, hp2, hb1, hb2, lAppend, sizeLine, hdl, hml, hml2, hmm, hm3]
        exact ⟨rest, hr, ds ++ [_], by simp; omega, rfl, is_snoc⟩
    · simp [b__law_draws_1, hn0, hat, hat0, hat1, hat2, dPow, hp2, hb1, lAppend, sizeLine, hdl, hml, hml2, hmm, hm3]
      exact ⟨rest, hr, ds ++ [_], by simp; omega, rfl, is_snoc⟩)
  have e3 : (sSetN 4 (eLst aNil)) [.sh (.list (is ns)), .sh (.int many), .sh (.list (is cells)), .ol (is cells), .dead, .dead, .dead, .dead, .dead] = some (.nx [.sh (.list (is ns)), .sh (.int many), .sh (.list (is cells)), .ol (is cells), .ol (is []), .dead, .dead, .dead, .dead]) := by simp [sizeLine]
  obtain ⟨ρ', e4, rest, ds, _, _, rfl⟩ := lp (List.range many.toNat) [.sh (.list (is ns)), .sh (.int many), .sh (.list (is cells)), .ol (is cells), .ol (is []), .dead, .dead, .dead, .dead] ⟨cells, [], rfl, by simp; omega, rfl⟩
  have e5 : l__law_draws_1 [.sh (.list (is ns)), .sh (.int many), .sh (.list (is cells)), .ol (is cells), .ol (is []), .dead, .dead, .dead, .dead] = some (.nx [.sh (.list (is ns)), .sh (.int many), .sh (.list (is cells)), .ol (is rest), .ol (is ds), .dead, .dead, .dead, .dead]) := by
    exact for_hx ll__law_draws_1 (ev_r1 rfl h0 (by omega)) e4
  refine ⟨ds.reverse, fn_ret (ρ' := [.sh (.list (is ns)), .sh (.int many), .sh (.list (is cells)), .ol (is rest), .dead, .dead, .dead, .dead, .dead]) ?_⟩
  have e6 : s__law_draws [.sh (.list (is ns)), .sh (.int many), .dead, .dead, .dead, .dead, .dead, .dead, .dead] = some (.rt (.ol (is ds.reverse)) [.sh (.list (is ns)), .sh (.int many), .sh (.list (is cells)), .ol (is rest), .dead, .dead, .dead, .dead, .dead]) := by
    unfold s__law_draws
    rw [seq_nx (setN_nx e1)]
    refine (seq_nx e2).trans ?_
    refine (seq_nx (ρ1 := [.sh (.list (is ns)), .sh (.int many), .sh (.list (is cells)), .ol (is cells), .dead, .dead, .dead, .dead, .dead]) (by simp [cList])).trans ?_
    rw [seq_nx e3, seq_nx e5]
    simp [lReverse, sRetOwn, is_rev]
  exact e6
theorem v_cell (ns ds : List Int) (hn : ns.length ≤ 63) : ∃ (z : Int) (ds2 : List Int), (z = 0 ∨ z ∈ ns) ∧ ds2.length ≤ ds.length ∧ m__law_cell [.sh (.list (is ns)), .ol (is ds)] = some (.sh (.int z), [.sh (.list (is ns)), .ol (is ds2)]) := by
  cases ns with
  | nil => exact ⟨0, ds, .inl rfl, Nat.le_refl _, fn_io (ρ' := [.sh (.list []), .ol (is ds)]) (by simp [s__law_cell]) rfl rfl⟩
  | cons n r =>
    have h0 : ((r.length : Int) + 1 == 0) = false := by
      rw [beq_eq_false_iff_ne]
      omega
    have h0' : ((r.length : Int) + 1) ≠ 0 := by omega
    have hp : (0 : Int) < ((n :: r).length : Int) := by rw [List.length_cons]; omega
    have h1 := tk_nn (ns := ds) hp
    have h2 := tk_lt (ns := ds) hp
    have e := atI_is h1 h2
    generalize hz : (n :: r)[(tk ds (n :: r).length).toNat]'(by omega) = z at e
    have hm : z ∈ n :: r := by rw [← hz]; exact List.getElem_mem _
    clear hz
    have e : atI (PyData.int n :: is r) (tk ds ((r.length : Int) + 1)) = some (.int z) := e
    refine ⟨z, ds.dropLast, .inr hm, by simp, fn_io (ρ' := [.sh (.list (is (n :: r))), .ol (is ds.dropLast)]) ?_ rfl rfl⟩
    simp [s__law_cell, h0, h0', e]
/-! ### the laws' comparison -/
mutual
def sok : Nat → D → Bool
  | _, .none => true
  | _, .bool _ => true
  | _, .int _ => true
  | _, .str _ => false
  | 0, .tuple _ => false
  | n + 1, .tuple ds => soks n ds && decide (ds.length ≤ 1000000)
  | _, _ => false
def soks : Nat → List D → Bool
  | _, [] => true
  | n, d :: ds => sok n d && soks n ds
end
theorem soks_get {n : Nat} : ∀ {ds : List D} {i : Nat} {d : D}, soks n ds = true → ds[i]? = some d → sok n d = true
  | [], i, d, _, e => by simp at e
  | u :: r, 0, d, h, e => by
    simp at e; subst e
    rw [soks, Bool.and_eq_true] at h
    exact h.1
  | u :: r, i + 1, d, h, e => by
    rw [soks, Bool.and_eq_true] at h
    exact soks_get (i := i) h.2 (by simpa using e)
theorem v_same : ∀ (n : Nat) (d : D), sok n d = true → m__law_same (n + 1) [.sh d, .sh d] = some (.sh (.bool true), []) := by
  intro n
  induction n with
  | zero =>
    intro d h
    cases d with
    | none => exact fn_ret (ρ' := [.sh .none, .sh .none, .dead]) (by simp [s__law_same])
    | bool b => exact fn_ret (ρ' := [.sh (.bool b), .sh (.bool b), .dead]) (by simp [s__law_same])
    | int b => exact fn_ret (ρ' := [.sh (.int b), .sh (.int b), .dead]) (by simp [s__law_same])
    | str b => simp [sok] at h
    | _ => simp [sok] at h
  | succ n ih =>
    intro d h
    cases d with
    | none => exact fn_ret (ρ' := [.sh .none, .sh .none, .dead]) (by simp [s__law_same])
    | bool b => exact fn_ret (ρ' := [.sh (.bool b), .sh (.bool b), .dead]) (by simp [s__law_same])
    | int b => exact fn_ret (ρ' := [.sh (.int b), .sh (.int b), .dead]) (by simp [s__law_same])
    | str b => simp [sok] at h
    | tuple ds =>
      rw [sok, Bool.and_eq_true, decide_eq_true_eq] at h
      have hr := ev_r1 (a := aCons (eCB cLen (aCons (eVar 1) aNil)) aNil) (ρ := [.sh (.tuple ds), .sh (.tuple ds), .dead]) (ρ1 := [.sh (.tuple ds), .sh (.tuple ds), .dead]) (n := ds.length) rfl (by omega) (by omega)
      have lp := loop_same (fun k : Nat => PyData.int (k : Int)) (xs0 := (List.range ((ds.length : Int)).toNat).map (fun k : Nat => PyData.int (k : Int))) (ks := [2]) (b := fun x ρ => (gNm 2 x ρ).bind (b__law_same_1 (m__law_same (n + 1)))) (ρ0 := [.sh (.tuple ds), .sh (.tuple ds), .dead]) (List.range ((ds.length : Int)).toNat) (fun k hk => by
        have hk : k < ds.length := by simpa using hk
        have e1 : atI ds (k : Int) = some ds[k] := atI_nat (List.getElem?_eq_getElem hk)
        have e2 := ih ds[k] (soks_get h.1 (List.getElem?_eq_getElem hk))
        refine ⟨[.sh (.tuple ds), .sh (.tuple ds), .sh (.int k)], .inl ?_, rfl⟩
        simp [b__law_same_1, e1, e2]) (ρ := [.sh (.tuple ds), .sh (.tuple ds), .dead]) rfl
      have el : l__law_same_1 (m__law_same (n + 1)) [.sh (.tuple ds), .sh (.tuple ds), .dead] = some (.nx [.sh (.tuple ds), .sh (.tuple ds), .dead]) := for_hx (ll__law_same_1 _) hr lp
      have hne : eOr (eNot (eTru (eIsi "tuple" (eVar 0)))) (eTst (eBin (fun x y => (bNe x y).map .bool) (eCB cLen (aCons (eVar 0) (aNil))) (eCB cLen (aCons (eVar 1) (aNil))))) [.sh (.tuple ds), .sh (.tuple ds), .dead] = some (false, [.sh (.tuple ds), .sh (.tuple ds), .dead]) := by simp
      refine fn_ret (ρ' := [.sh (.tuple ds), .sh (.tuple ds), .dead]) ?_
      show s__law_same (m__law_same (n + 1)) [.sh (.tuple ds), .sh (.tuple ds), .dead] = _
      unfold s__law_same
      refine (seq_nx (if_f (ρ1 := [.sh (.tuple ds), .sh (.tuple ds), .dead]) (by simp))).trans ?_
      refine (seq_nx (if_f (ρ1 := [.sh (.tuple ds), .sh (.tuple ds), .dead]) (by simp))).trans ?_
      refine (seq_nx (if_f (ρ1 := [.sh (.tuple ds), .sh (.tuple ds), .dead]) (by simp))).trans ?_
      --fi4
      refine (seq_nx (if_f (ρ1 := [.sh (.tuple ds), .sh (.tuple ds), .dead]) hne)).trans ?_
      refine (seq_nx el).trans ?_
      rfl
    | _ => simp [sok] at h

/-! ## boxes: plain -/
def rmZ (a b x : Int) : Int := x * (a - 2 * x) * (b - 2 * x)
def dfZ (a b x : Int) : Int := rmZ a b (x + 1) - rmZ a b x
theorem rm_law (a b x : Int) : (a * b - 2 * x * a - 2 * x * b + 4 * x * x) * x = rmZ a b x := by
  unfold rmZ
  grind
theorem rm_comm (a b x : Int) : rmZ b a x = rmZ a b x := by
  unfold rmZ
  grind
theorem df_form (a b x : Int) : dfZ a b x = 12 * x * x + 12 * x + 4 - (a + b) * (4 * x + 2) + a * b := by
  unfold dfZ rmZ
  grind
theorem df_conv (a b x y M : Int) : (M - x) * dfZ a b y = (M - y) * dfZ a b x + (y - x) * dfZ a b M - 12 * ((M - x) * ((M - y) * (y - x))) := by
  rw [df_form, df_form, df_form]
  grind
theorem df_top {a b m : Int} (hm : 2 ≤ m) (ha : 2 * m ≤ a) (hb : 2 * m ≤ b) (h : a ≤ 2 * m + 1 ∨ b ≤ 2 * m + 1) : dfZ a b (m - 1) ≤ 0 := by
  have key : ∀ u v : Int, 0 ≤ u → u ≤ 1 → 0 ≤ v → dfZ (2 * m + u) (2 * m + v) (m - 1) ≤ 0 := fun u v h0 h1 hv => by
    have e : dfZ (2 * m + u) (2 * m + v) (m - 1) = m * u * v - (m - 1) * (u + 2) * (v + 2) := by
      unfold dfZ rmZ
      grind
    rw [e]
    have hu : u = 0 ∨ u = 1 := by omega
    rcases hu with rfl | rfl
    · have h3 : 0 ≤ (m - 1) * (v + 2) := Int.mul_nonneg (by omega) (by omega)
      have e2 : m * 0 * v - (m - 1) * (0 + 2) * (v + 2) = -(2 * ((m - 1) * (v + 2))) := by grind
      rw [e2]
      omega
    · have h3 : 0 ≤ (m - 2) * v := Int.mul_nonneg (by omega) hv
      have e2 : m * 1 * v - (m - 1) * (1 + 2) * (v + 2) = -(2 * ((m - 2) * v)) - v - 6 * m + 6 := by grind
      rw [e2]
      omega
  rcases h with h | h
  · have := key (a - 2 * m) (b - 2 * m) (by omega) (by omega) (by omega)
    rwa [show 2 * m + (a - 2 * m) = a by omega, show 2 * m + (b - 2 * m) = b by omega] at this
  · have := key (b - 2 * m) (a - 2 * m) (by omega) (by omega) (by omega)
    rw [show 2 * m + (a - 2 * m) = a by omega, show 2 * m + (b - 2 * m) = b by omega] at this
    unfold dfZ at this ⊢
    rw [rm_comm a b, rm_comm a b] at this
    exact this
/-- once it falls it falls on -/
theorem df_falls {a b m : Int} (ha : 2 * m ≤ a) (hb : 2 * m ≤ b) (h : a ≤ 2 * m + 1 ∨ b ≤ 2 * m + 1) {x y : Int} (h0 : 0 ≤ x) (hxy : x ≤ y) (hy : y < m) (hd : dfZ a b x ≤ 0) : dfZ a b y ≤ 0 := by
  by_cases e : x = y
  · exact e ▸ hd
  · have ht := df_top (m := m) (by omega) ha hb h
    have hc := df_conv a b x y (m - 1)
    have p1 : 0 ≤ (m - 1 - y) * -(dfZ a b x) := Int.mul_nonneg (by omega) (by omega)
    have p2 : 0 ≤ (y - x) * -(dfZ a b (m - 1)) := Int.mul_nonneg (by omega) (by omega)
    have p3 : 0 ≤ (m - 1 - x) * ((m - 1 - y) * (y - x)) := Int.mul_nonneg (by omega) (Int.mul_nonneg (by omega) (by omega))
    rw [Int.mul_neg] at p1 p2
    have hle : (m - 1 - x) * dfZ a b y ≤ 0 := by omega
    refine Decidable.byContradiction fun hn => ?_
    have : 0 < (m - 1 - x) * dfZ a b y := Int.mul_pos (by omega) (by omega)
    omega
/-- the best height -/
structure Best (a b m T : Int) : Prop where
  lo : 0 ≤ T
  hi : T ≤ m
  up : ∀ x, 0 ≤ x → x < T → 0 < dfZ a b x
  dn : ∀ x, T ≤ x → x < m → dfZ a b x ≤ 0
theorem Best.uniq {a b m T S : Int} (h : Best a b m T) (k : Best a b m S) : T = S := by
  have h1 := h.lo
  have h2 := h.hi
  have k1 := k.lo
  have k2 := k.hi
  refine Decidable.byContradiction fun hn => ?_
  by_cases hl : T < S
  · have := k.up T h1 hl
    have := h.dn T (Int.le_refl _) (by omega)
    omega
  · have := h.up S k1 (by omega)
    have := k.dn S (Int.le_refl _) (by omega)
    omega
theorem Best.comm {a b m T : Int} (h : Best a b m T) : Best b a m T := by
  have e : ∀ x, dfZ b a x = dfZ a b x := fun x => by unfold dfZ; rw [rm_comm a b (x + 1), rm_comm a b x]
  exact ⟨h.lo, h.hi, fun x h0 h1 => by rw [e]; exact h.up x h0 h1, fun x h0 h1 => by rw [e]; exact h.dn x h0 h1⟩
theorem Best.max {a b m T : Int} (h : Best a b m T) : ∀ x, 0 ≤ x → x ≤ m → rmZ a b x ≤ rmZ a b T := by
  have up : ∀ n : Nat, (n : Int) ≤ T → rmZ a b (T - n) ≤ rmZ a b T := by
    intro n
    induction n with
    | zero => intro _; rw [Int.natCast_zero, Int.sub_zero]; exact Int.le_refl _
    | succ n ih =>
      intro hn
      have h1 := ih (by omega)
      have h2 := h.up (T - (n + 1 : Nat)) (by omega) (by omega)
      unfold dfZ at h2
      rw [show T - ((n + 1 : Nat) : Int) + 1 = T - (n : Int) by omega] at h2
      omega
  have dn : ∀ n : Nat, T + (n : Int) ≤ m → rmZ a b (T + n) ≤ rmZ a b T := by
    intro n
    induction n with
    | zero => intro _; rw [Int.natCast_zero, Int.add_zero]; exact Int.le_refl _
    | succ n ih =>
      intro hn
      have h1 := ih (by omega)
      have h2 := h.dn (T + n) (by omega) (by omega)
      unfold dfZ at h2
      rw [show T + ((n + 1 : Nat) : Int) = T + (n : Int) + 1 by omega]
      omega
  intro x h0 h1
  by_cases hx : x ≤ T
  · have := up (T - x).toNat (by omega)
    rwa [show T - ((T - x).toNat : Int) = x by omega] at this
  · have := dn (x - T).toNat (by omega)
    rwa [show T + ((x - T).toNat : Int) = x by omega] at this


/-! ## boxes: the walk -/
abbrev BB (z : Int) : Prop := Bd 2000000 z
theorem bd_two {x : Int} (hx : BB x) : Bd 2000002 (2 * x) := by
  have h := Bd.mul (n := 2) (a := 2) (by unfold Bd; decide) hx
  have e : 2 + 2000000 = 2000002 := by omega
  rwa [e] at h
theorem bd_less {a x : Int} (ha : BB a) (hx : BB x) : Bd 2000003 (a - 2 * x) := by
  have h := ha.sub (bd_two hx)
  have e : max 2000000 2000002 + 1 = 2000003 := by omega
  rwa [e] at h
theorem v_room {a b x : Int} (ha : BB a) (hb : BB b) (hx : BB x) : m_room [.sh (.int a), .sh (.int b), .sh (.int x)] = some (.sh (.int (rmZ a b x)), []) := by
  have h2 : mulOk 2 x = true := mulOk_l (by decide)
  have h3 : mulOk x (a - 2 * x) = true := hx.mulOk (bd_less ha hx) (by omega)
  have h4 : mulOk (x * (a - 2 * x)) (b - 2 * x) = true := (hx.mul (bd_less ha hx)).mulOk (bd_less hb hx) (by omega)
  unfold rmZ
  exact fn_ret (by
    show s_room [.sh (.int (a)), .sh (.int (b)), .sh (.int (x))] = _
    simp [s_room, h2, h3, h4]
    rfl)
theorem v_lroom {a b x : Int} (ha : BB a) (hb : BB b) (hx : BB x) : m__law_room [.sh (.int a), .sh (.int b), .sh (.int x)] = some (.sh (.int (rmZ a b x)), []) := by
  have h1 : mulOk a b = true := ha.mulOk hb (by omega)
  have h2 : mulOk 2 x = true := mulOk_l (by decide)
  have h3 : mulOk (2 * x) a = true := (bd_two hx).mulOk ha (by omega)
  have h4 : mulOk (2 * x) b = true := (bd_two hx).mulOk hb (by omega)
  have h5 : mulOk 4 x = true := mulOk_l (by decide)
  have b4 : Bd 2000003 (4 * x) := by
    have h := Bd.mul (n := 3) (a := 4) (by unfold Bd; decide) hx
    have e : 3 + 2000000 = 2000003 := by omega
    rwa [e] at h
  have h6 : mulOk (4 * x) x = true := b4.mulOk hx (by omega)
  have c1 := (((ha.mul hb).sub ((bd_two hx).mul ha)).sub ((bd_two hx).mul hb)).add (b4.mul hx)
  have h7 : mulOk (a * b - 2 * x * a - 2 * x * b + 4 * x * x) x = true := c1.mulOk hx (by omega)
  rw [← rm_law]
  exact fn_ret (by
    show s__law_room [.sh (.int (a)), .sh (.int (b)), .sh (.int (x))] = _
    simp [s__law_room, h1, h2, h3, h4, h5, h6, h7]
    rfl)
theorem w_best {a b m : Int} (ba : BB a) (bb : BB b) (ha : 2 * m ≤ a) (hb : 2 * m ≤ b) (h : a ≤ 2 * m + 1 ∨ b ≤ 2 * m + 1) : ∀ (n : Nat) (low high : Int) (u4 : Cell), (high - low).toNat ≤ n → 0 ≤ low → low ≤ high → high ≤ m → (∀ x, 0 ≤ x → x < low → 0 < dfZ a b x) → (∀ x, high ≤ x → x < m → dfZ a b x ≤ 0) →
    ∃ T, Best a b m T ∧ l_best_height_1 [.sh (.int (a)), .sh (.int (b)), .sh (.int (low)), .sh (.int (high)), u4] = some (.nx [.sh (.int (a)), .sh (.int (b)), .sh (.int (T)), .sh (.int (T)), .dead]) := by
  rw [ll_best_height_1]
  intro n
  induction n with
  | zero =>
    intro low high u4 hn h0 h1 h2 up dn
    have e : high = low := by omega
    subst e
    refine ⟨high, ⟨h0, h2, up, dn⟩, ?_⟩
    exact sWhile_done (p := (false, [.sh (.int (a)), .sh (.int (b)), .sh (.int (high)), .sh (.int (high)), .dead])) (by
      show eTst (eBin (fun x y => (bLt x y).map .bool) (eVar 2) (eVar 3)) [.sh (.int (a)), .sh (.int (b)), .sh (.int (high)), .sh (.int (high)), .dead] = _
      simp) rfl
  | succ n ih =>
    intro low high u4 hn h0 h1 h2 up dn
    by_cases e : high = low
    · subst e
      refine ⟨high, ⟨h0, h2, up, dn⟩, ?_⟩
      exact sWhile_done (p := (false, [.sh (.int (a)), .sh (.int (b)), .sh (.int (high)), .sh (.int (high)), .dead])) (by
        show eTst (eBin (fun x y => (bLt x y).map .bool) (eVar 2) (eVar 3)) [.sh (.int (a)), .sh (.int (b)), .sh (.int (high)), .sh (.int (high)), .dead] = _
        simp) rfl
    · have hlt : low < high := by omega
      have hq : Builtin.divisionGoesByPylong (low + high) 2 = false := PyProof.noPylong_small (by decide)
      have hmid : (low + high).fdiv 2 = (low + high) / 2 := Int.fdiv_eq_ediv_of_nonneg _ (by decide)
      generalize hM : (low + high) / 2 = M at *
      have m1 : low ≤ M := by omega
      have m2 : M < high := by omega
      have e1 := v_room ba bb (x := M + 1) (ba.le (by omega))
      have e2 := v_room ba bb (x := M) (ba.le (by omega))
      have hc : eTst (eBin (fun x y => (bLt x y).map .bool) (eVar 2) (eVar 3)) [.sh (.int (a)), .sh (.int (b)), .sh (.int (low)), .sh (.int (high)), .dead] = some (true, [.sh (.int (a)), .sh (.int (b)), .sh (.int (low)), .sh (.int (high)), .dead]) := by simp [hlt]
      by_cases hd : rmZ a b M < rmZ a b (M + 1)
      · obtain ⟨T, t1, t2⟩ := ih (M + 1) high (.sh (.int M)) (by omega) (by omega) (by omega) h2 (fun x x0 x1 => by
          refine Decidable.byContradiction fun hn => ?_
          have := df_falls ha hb h x0 (show x ≤ M by omega) (by omega) (by omega)
          unfold dfZ at this
          omega) dn
        refine ⟨T, t1, sWhile_step (p := (true, [.sh (.int (a)), .sh (.int (b)), .sh (.int (low)), .sh (.int (high)), .dead])) (ρ1 := [.sh (.int (a)), .sh (.int (b)), .sh (.int ((M + 1))), .sh (.int (high)), .sh (.int (M))]) hc rfl ?_ t2⟩
        generalize rmZ a b (M + 1) = r1 at *
        generalize rmZ a b M = r0 at *
        simp [b_best_height_1, hq, hmid, e1, e2, hd]
      · obtain ⟨T, t1, t2⟩ := ih low M (.sh (.int M)) (by omega) h0 (by omega) (by omega) up (fun x x0 x1 => by
          refine df_falls ha hb h (show 0 ≤ M by omega) x0 x1 ?_
          unfold dfZ
          omega)
        refine ⟨T, t1, sWhile_step (p := (true, [.sh (.int (a)), .sh (.int (b)), .sh (.int (low)), .sh (.int (high)), .dead])) (ρ1 := [.sh (.int (a)), .sh (.int (b)), .sh (.int (low)), .sh (.int (M)), .sh (.int (M))]) hc rfl ?_ t2⟩
        generalize rmZ a b (M + 1) = r1 at *
        generalize rmZ a b M = r0 at *
        simp [b_best_height_1, hq, hmid, e1, e2, hd]
theorem v_bheight {a b : Int} (ba : BB a) (bb : BB b) (a1 : 1 ≤ a) (b1 : 1 ≤ b) : ∃ T, Best a b ((if b < a then b else a) / 2) T ∧ m_best_height [.sh (.int a), .sh (.int b)] = some (.sh (.int T), []) := by
  have hm : 2 * ((if b < a then b else a) / 2) ≤ a ∧ 2 * ((if b < a then b else a) / 2) ≤ b ∧ (a ≤ 2 * ((if b < a then b else a) / 2) + 1 ∨ b ≤ 2 * ((if b < a then b else a) / 2) + 1) ∧ 0 ≤ (if b < a then b else a) / 2 := by
    split <;> omega
  have hq : Builtin.divisionGoesByPylong (if b < a then b else a) 2 = false := PyProof.noPylong_small (by decide)
  have hf : (if b < a then b else a).fdiv 2 = (if b < a then b else a) / 2 := Int.fdiv_eq_ediv_of_nonneg _ (by decide)
  generalize hmm : (if b < a then b else a) = mn at *
  generalize hmd : mn / 2 = m at *
  obtain ⟨T, t1, t2⟩ := w_best ba bb hm.1 hm.2.1 hm.2.2.1 m.toNat 0 m .dead (by omega) (Int.le_refl _) hm.2.2.2 (Int.le_refl _) (fun x x0 x1 => by omega) (fun x x0 x1 => by omega)
  refine ⟨T, t1, fn_ret (by
    show s_best_height [.sh (.int (a)), .sh (.int (b)), .dead, .dead, .dead] = _
    unfold s_best_height
    refine (seq_nx (ρ1 := [.sh (.int (a)), .sh (.int (b)), .sh (.int (0)), .sh (.int (m)), .dead]) (by simp [hmm, hq, hf])).trans ?_
    refine (seq_nx t2).trans ?_
    simp
    rfl)⟩


theorem fmin_le : ∀ (ns : List Int) (n x : Int), x ∈ n :: ns → ns.foldl min n ≤ x
  | [], n, x, h => by rw [List.mem_singleton] at h; rw [h]; exact Int.le_refl _
  | k :: r, n, x, h => by
    rw [List.foldl_cons]
    rcases List.mem_cons.mp h with q | q
    · have := fmin_le r (min n k) (min n k) List.mem_cons_self; omega
    · rcases List.mem_cons.mp q with z | z
      · have := fmin_le r (min n k) (min n k) List.mem_cons_self; omega
      · exact fmin_le r (min n k) x (List.mem_cons_of_mem _ z)
theorem fmin_mem : ∀ (ns : List Int) (n : Int), ns.foldl min n ∈ n :: ns
  | [], n => List.mem_cons_self
  | k :: r, n => by
    rw [List.foldl_cons]
    rcases List.mem_cons.mp (fmin_mem r (min n k)) with q | q
    · rw [q]
      by_cases h : n ≤ k
      · rw [Int.min_eq_left h]; exact List.mem_cons_self
      · rw [Int.min_eq_right (by omega)]; exact List.mem_cons_of_mem _ List.mem_cons_self
    · exact List.mem_cons_of_mem _ (List.mem_cons_of_mem _ q)
theorem fmax_ge : ∀ (ns : List Int) (n x : Int), x ∈ n :: ns → x ≤ ns.foldl max n
  | [], n, x, h => by rw [List.mem_singleton] at h; rw [h]; exact Int.le_refl _
  | k :: r, n, x, h => by
    rw [List.foldl_cons]
    rcases List.mem_cons.mp h with q | q
    · have := fmax_ge r (max n k) (max n k) List.mem_cons_self; omega
    · rcases List.mem_cons.mp q with z | z
      · have := fmax_ge r (max n k) (max n k) List.mem_cons_self; omega
      · exact fmax_ge r (max n k) x (List.mem_cons_of_mem _ z)
theorem fmax_mem : ∀ (ns : List Int) (n : Int), ns.foldl max n ∈ n :: ns
  | [], n => List.mem_cons_self
  | k :: r, n => by
    rw [List.foldl_cons]
    rcases List.mem_cons.mp (fmax_mem r (max n k)) with q | q
    · rw [q]
      by_cases h : k ≤ n
      · rw [Int.max_eq_left h]; exact List.mem_cons_self
      · rw [Int.max_eq_right (by omega)]; exact List.mem_cons_of_mem _ List.mem_cons_self
    · exact List.mem_cons_of_mem _ (List.mem_cons_of_mem _ q)
theorem min_l (n : Int) (ns : List Int) : cMinL [.list (is (n :: ns))] = some (.int (ns.foldl min n)) := by
  have h := sortB_is (n :: ns)
  unfold sortB at h
  rw [Bool.and_eq_true] at h
  have h := h.1
  rw [is_cons] at h ⊢
  show (if alikeB (PyData.int n :: is ns) = true then some (PySem.W.minD (.int n) (is ns)) else none) = _
  rw [if_pos h]
  exact congrArg some (PySem.W.minD_ints n ns)
theorem max_l (n : Int) (ns : List Int) : cMaxL [.list (is (n :: ns))] = some (.int (ns.foldl max n)) := by
  have h := sortB_is (n :: ns)
  unfold sortB at h
  rw [Bool.and_eq_true] at h
  have h := h.1
  rw [is_cons] at h ⊢
  show (if alikeB (PyData.int n :: is ns) = true then some (PySem.W.maxD (.int n) (is ns)) else none) = _
  rw [if_pos h]
  exact congrArg some (PySem.W.maxD_ints n ns)
/-- both lists have the same least and greatest numbers -/
theorem same_int (z : Int) : m__law_same 12 [.sh (.int z), .sh (.int z)] = some (.sh (.bool true), []) := v_same 11 _ rfl
theorem bx_inner {u0 u1 u2 u5 u6 u7 : Cell} {a b : Int} (ba : BB a) (bb : BB b) {xs0 : List D} : ∀ (ys : List Int) (u8 : Cell), (∀ y ∈ ys, BB y) → (u8 = .dead ∨ ∃ d, u8 = .sh d) → ∃ u8' : Cell, (u8' = .dead ∨ ∃ d, u8' = .sh d) ∧
    loopF none xs0 [] (fun x ρ => (gNm 8 x ρ).bind b__law_is_box_right_1) (ys.map .int) [u0, u1, u2, .sh (.int (a)), .sh (.int (b)), u5, u6, u7, u8] = some (.nx [u0, u1, u2, .sh (.int (a)), .sh (.int (b)), u5, u6, u7, u8']) := by
  intro ys
  induction ys with
  | nil => exact fun u8 _ hu => ⟨u8, hu, loop_nil rfl⟩
  | cons y r ih =>
    intro u8 hy _
    obtain ⟨v, hv, e⟩ := ih (.sh (.int y)) (fun z hz => hy z (List.mem_cons_of_mem _ hz)) (.inr ⟨_, rfl⟩)
    have by' := hy y List.mem_cons_self
    have bn : BB (0 - a) := by rw [Int.zero_sub]; exact ba.neg
    have e1 := v_room ba bb by'
    have e2 := v_lroom ba bb by'
    have e3 := v_room bn bb by'
    have e4 := v_lroom bn bb by'
    have s1 := same_int (rmZ a b y)
    have s2 := same_int (rmZ (0 - a) b y)
    refine ⟨v, hv, ?_⟩
    rw [List.map_cons, loop_cons (ρ' := [u0, u1, u2, .sh (.int (a)), .sh (.int (b)), u5, u6, u7, .sh (.int (y))]) rfl ?_]
    · exact e
    · rw [bind_gnm]
      show b__law_is_box_right_1 [u0, u1, u2, .sh (.int (a)), .sh (.int (b)), u5, u6, u7, .sh (.int (y))] = _
      rw [Int.zero_sub] at e3 e4 s2
      generalize rmZ a b y = r1 at *
      generalize rmZ (-a) b y = r2 at *
      simp [b__law_is_box_right_1, e1, e2, e3, e4, s1, s2]
/-- the room at every height, the most of it -/
theorem bx_max {u0 u1 u2 u6 u7 u8 : Cell} {a b m T : Int} (ba : BB a) (bb : BB b) (h0 : 0 ≤ m) (hm : m ≤ 1000) (hB : Best a b m T) (hu : u8 = .dead ∨ ∃ d, u8 = .sh d) :
    ∃ L : List Int, cMaxL [.list (is L)] = some (.int (rmZ a b T)) ∧ k__law_is_box_right_1 [u0, u1, u2, .sh (.int (a)), .sh (.int (b)), .sh (.int (m)), u6, u7, u8] = some (.ol (is L), [u0, u1, u2, .sh (.int (a)), .sh (.int (b)), .sh (.int (m)), u6, u7, u8]) := by
  have hl := hB.lo
  have hh := hB.hi
  refine ⟨(List.range (m + 1).toNat).map fun k : Nat => rmZ a b (k : Int), ?_, ?_⟩
  · obtain ⟨n, hn⟩ : ∃ n, (m + 1).toNat = n + 1 := ⟨m.toNat, by omega⟩
    rw [hn, List.range_succ_eq_map, List.map_cons, max_l]
    congr 2
    have ge := fmax_ge (((List.range n).map Nat.succ).map fun k : Nat => rmZ a b (k : Int)) (rmZ a b ((0 : Nat) : Int))
    have me := fmax_mem (((List.range n).map Nat.succ).map fun k : Nat => rmZ a b (k : Int)) (rmZ a b ((0 : Nat) : Int))
    rw [← List.map_cons (f := fun k : Nat => rmZ a b (k : Int)), ← List.range_succ_eq_map] at ge me
    obtain ⟨k, hk, e⟩ := List.mem_map.mp me
    rw [List.mem_range] at hk
    have h1 := hB.max (k : Int) (by omega) (by omega)
    have h2 := ge (rmZ a b T) (List.mem_map.mpr ⟨T.toNat, List.mem_range.mpr (by omega), by rw [show ((T.toNat : Nat) : Int) = T by omega]⟩)
    have e : rmZ a b (k : Int) = List.foldl max (rmZ a b ((0 : Nat) : Int)) (((List.range n).map Nat.succ).map fun k : Nat => rmZ a b (k : Int)) := e
    omega
  · have ei : is ((List.range (m + 1).toNat).map fun k : Nat => rmZ a b (k : Int)) = (List.range (m + 1).toNat).map fun k : Nat => PyData.int (rmZ a b (k : Int)) := by unfold is; rw [List.map_map]; rfl
    rw [kk__law_is_box_right_1, ei]
    refine (ev_compA (fun k : Nat => PyData.int (k : Int)) (fun k : Nat => PyData.int (rmZ a b (k : Int))) (List.range (m + 1).toNat) (ρi := [u0, u1, u2, .sh (.int (a)), .sh (.int (b)), .sh (.int (m)), u6, u7, u8]) (ρ0 := [u0, u1, u2, .sh (.int (a)), .sh (.int (b)), .sh (.int (m)), u6, u7, .dead]) ?_ rfl (by rw [List.length_range]; unfold sizeLine; omega) fun k hk => ?_).trans (by rcases hu with rfl | ⟨d, rfl⟩ <;> rfl)
    · exact (ev_r1 (n := m + 1) (ρ1 := [u0, u1, u2, .sh (.int (a)), .sh (.int (b)), .sh (.int (m)), u6, u7, u8]) rfl (by omega) (by omega)).trans rfl
    · rw [List.mem_range] at hk
      refine ⟨[u0, u1, u2, .sh (.int (a)), .sh (.int (b)), .sh (.int (m)), u6, u7, .sh (.int ((k : Int)))], [u0, u1, u2, .sh (.int (a)), .sh (.int (b)), .sh (.int (m)), u6, u7, .sh (.int ((k : Int)))], rfl, ?_, rfl⟩
      have hk20 : Bd 20 (k : Int) := by
        unfold Bd
        have : k < 1048576 := by omega
        show (k : Int).natAbs < 1048576
        omega
      have e := v_lroom ba bb (x := (k : Int)) (Bd.mono (n := 20) hk20 (by decide))
      generalize rmZ a b (k : Int) = v at *
      simp [e]


theorem bb_cell {c : Int} {ns : List Int} (hb : ∀ z ∈ ns, Builtin.Int.intBits z ≤ 1048576) (hc1 : c = 0 ∨ c ∈ ns) : Bd 1048576 c := by
  rcases hc1 with rfl | h
  · exact bd_bits (by decide)
  · exact bd_bits (hb c h)
theorem bd_abs {n : Nat} {c : Int} (h : Bd n c) : Bd n (if c < 0 then -c else c) := by
  split
  · exact h.neg
  · exact h
theorem bd_plus {c s : Int} (h : Bd 1048576 c) (h0 : 0 ≤ s) (h1 : s ≤ 1000) : BB (s + c) := by
  have hs : Bd 20 s := by
    unfold Bd
    show s.natAbs < 1048576
    omega
  exact (hs.add h).mono (by omega)
theorem st_bx {ns : List Int} (hl : ns.length ≤ 63) (hb : ∀ z ∈ ns, Builtin.Int.intBits z ≤ 1048576) {tn : Int} (htn : tn = 0 ∨ tn = 1) {u8 : Cell} (hu : u8 = .dead ∨ ∃ d, u8 = .sh d) (ds : List Int) :
    ∃ (ds' : List Int) (u8' : Cell) (ρ' : En), (u8' = .dead ∨ ∃ d, u8' = .sh d) ∧ b__law_is_box_right_2 [.sh (.list (is ns)), .ol (is ds), .sh (.int (tn)), .dead, .dead, .dead, .dead, .dead, u8] = some (.nx ρ') ∧ killL [2, 3, 4, 5, 6, 7] ρ' = [.sh (.list (is ns)), .ol (is ds'), .dead, .dead, .dead, .dead, .dead, .dead, u8'] := by
  have t0 := tk_nn (ns := ds) (n := 60) (by decide)
  have t1 := tk_lt (ns := ds) (n := 60) (by decide)
  generalize h1 : tk ds 60 = t at *
  generalize h2 : ds.dropLast = d1
  obtain ⟨c, d2, hc, _, e1⟩ := v_cell ns d1 hl
  have bc := bd_abs (bb_cell hb hc)
  have c0 : 0 ≤ (if c < 0 then -c else c) := by split <;> omega
  generalize h3 : (if c < 0 then -c else c) = C at *
  have s0 := tk_nn (ns := d2) (n := 60) (by decide)
  have s1 := tk_lt (ns := d2) (n := 60) (by decide)
  generalize h4 : tk d2 60 = s at *
  generalize h5 : d2.dropLast = d3
  obtain ⟨c2, d4, hc2, _, e2⟩ := v_cell ns d3 hl
  have bc2 := bd_abs (bb_cell hb hc2)
  have c20 : 0 ≤ (if c2 < 0 then -c2 else c2) := by split <;> omega
  generalize h6 : (if c2 < 0 then -c2 else c2) = C2 at *
  have r0 := tk_nn (ns := d4) (n := 9) (by decide)
  have r1 := tk_lt (ns := d4) (n := 9) (by decide)
  generalize h7 : tk d4 9 = r at *
  generalize h8 : d4.dropLast = d5
  have ba : BB (1 + t * (1 - tn) + C * tn) ∧ 1 ≤ 1 + t * (1 - tn) + C * tn ∧ (tn = 0 → 1 + t * (1 - tn) + C * tn ≤ 60) := by
    rcases htn with rfl | rfl
    · rw [Int.mul_zero, Int.sub_zero, Int.mul_one, Int.add_zero]
      refine ⟨Bd.mono (n := 20) ?_ (by omega), by omega, fun _ => by omega⟩
      unfold Bd
      show (1 + t).natAbs < 1048576
      omega
    · rw [Int.sub_self, Int.mul_zero, Int.mul_one, Int.add_zero]
      exact ⟨bd_plus bc (by decide) (by decide), by omega, fun h => by omega⟩
  have bb : BB (1 + s * (1 - tn) + (C2 + r) * tn) ∧ 1 ≤ 1 + s * (1 - tn) + (C2 + r) * tn := by
    rcases htn with rfl | rfl
    · rw [Int.mul_zero, Int.sub_zero, Int.mul_one, Int.add_zero]
      refine ⟨Bd.mono (n := 20) ?_ (by omega), by omega⟩
      unfold Bd
      show (1 + s).natAbs < 1048576
      omega
    · rw [Int.sub_self, Int.mul_zero, Int.mul_one, Int.add_zero, show 1 + (C2 + r) = (1 + r) + C2 by omega]
      exact ⟨bd_plus bc2 (by omega) (by omega), by omega⟩
  have m1 : mulOk t (1 - tn) = true := mulOk_l (by omega)
  have m2 : mulOk C tn = true := mulOk_r (by omega)
  have m3 : mulOk s (1 - tn) = true := mulOk_l (by omega)
  have m4 : mulOk (C2 + r) tn = true := mulOk_r (by omega)
  generalize hA : 1 + t * (1 - tn) + C * tn = a at *
  generalize hB : 1 + s * (1 - tn) + (C2 + r) * tn = b at *
  obtain ⟨T, hT, e3⟩ := v_bheight ba.1 bb.1 ba.2.1 bb.2
  obtain ⟨T2, hT2, e4⟩ := v_bheight bb.1 ba.1 bb.2 ba.2.1
  have hmn : (if a < b then a else b) / 2 = (if b < a then b else a) / 2 := by split <;> split <;> omega
  rw [hmn] at hT2
  have hTT : T2 = T := hT2.uniq hT.comm
  rw [hTT] at e4
  have hq : Builtin.divisionGoesByPylong (if b < a then b else a) 2 = false := PyProof.noPylong_small (by decide)
  have hfd : (if b < a then b else a).fdiv 2 = (if b < a then b else a) / 2 := Int.fdiv_eq_ediv_of_nonneg _ (by decide)
  have hm0 : 0 ≤ (if b < a then b else a) / 2 ∧ (tn = 0 → (if b < a then b else a) / 2 ≤ 1000) ∧ (if b < a then b else a) / 2 ≤ a := by split <;> omega
  generalize hmm : (if b < a then b else a) = mn at *
  generalize hmd : mn / 2 = m at *
  have T0 := hT.lo
  have T1 := hT.hi
  have bT : BB T := ba.1.le (by omega)
  have e5 := v_lroom ba.1 bb.1 bT
  obtain ⟨c3, d7, hc3, _, e6⟩ := v_cell ns d5.dropLast hl
  have q0 := tk_nn (ns := d5) (n := 40) (by decide)
  have q1 := tk_lt (ns := d5) (n := 40) (by decide)
  generalize h9 : tk d5 40 = q at *
  obtain ⟨u8', hu', e7⟩ := bx_inner (u0 := .sh (.list (is ns))) (u1 := .ol (is d7)) (u2 := .sh (.int tn)) (u5 := .sh (.int m)) (u6 := .sh (.int T)) (u7 := .sh (.int (rmZ a b T))) ba.1 bb.1 (xs0 := is [T, q - 5, c3]) [T, q - 5, c3] u8 (fun y hy => by
    simp at hy
    rcases hy with rfl | rfl | rfl
    · exact bT
    · refine Bd.mono (n := 20) ?_ (by omega)
      unfold Bd
      show (q - 5).natAbs < 1048576
      omega
    · exact (bb_cell hb hc3).mono (by omega)) hu
  have z3 : 3 ≤ sizeLine := by decide
  have el : l__law_is_box_right_1 [.sh (.list (is ns)), .ol (is d5), .sh (.int (tn)), .sh (.int (a)), .sh (.int (b)), .sh (.int (m)), .sh (.int (T)), .sh (.int (rmZ a b T)), u8] = some (.nx [.sh (.list (is ns)), .ol (is d7), .sh (.int (tn)), .sh (.int (a)), .sh (.int (b)), .sh (.int (m)), .sh (.int (T)), .sh (.int (rmZ a b T)), u8']) := by
    refine for_hx ll__law_is_box_right_1 ?_ e7
    generalize rmZ a b T = w at *
    simp [z3, h9, e6]
  have sT := same_int T
  refine ⟨d7, u8', [.sh (.list (is ns)), .ol (is d7), .sh (.int (tn)), .sh (.int (a)), .sh (.int (b)), .sh (.int (m)), .sh (.int (T)), .sh (.int (rmZ a b T)), u8'], hu', ?_, rfl⟩
  unfold b__law_is_box_right_2
  refine (seq_nx (ρ1 := [.sh (.list (is ns)), .ol (is d2), .sh (.int (tn)), .sh (.int (a)), .dead, .dead, .dead, .dead, u8]) (by simp [h1, h2, e1, h3, m1, m2, hA])).trans ?_
  refine (seq_nx (ρ1 := [.sh (.list (is ns)), .ol (is d5), .sh (.int (tn)), .sh (.int (a)), .sh (.int (b)), .dead, .dead, .dead, u8]) (by simp [h4, h5, e2, h6, h7, h8, m3, m4, hB])).trans ?_
  refine (seq_nx (ρ1 := [.sh (.list (is ns)), .ol (is d5), .sh (.int (tn)), .sh (.int (a)), .sh (.int (b)), .sh (.int (m)), .dead, .dead, u8]) (by simp [hmm, hq, hfd])).trans ?_
  refine (seq_nx (ρ1 := [.sh (.list (is ns)), .ol (is d5), .sh (.int (tn)), .sh (.int (a)), .sh (.int (b)), .sh (.int (m)), .sh (.int (T)), .dead, u8]) (by simp [e3])).trans ?_
  refine (seq_nx (ρ1 := [.sh (.list (is ns)), .ol (is d5), .sh (.int (tn)), .sh (.int (a)), .sh (.int (b)), .sh (.int (m)), .sh (.int (T)), .dead, u8]) (by
    have g1 : ¬ T < 0 := by omega
    have g2 : ¬ m < T := by omega
    simp [g1, g2])).trans ?_
  refine (seq_nx (ρ1 := [.sh (.list (is ns)), .ol (is d5), .sh (.int (tn)), .sh (.int (a)), .sh (.int (b)), .sh (.int (m)), .sh (.int (T)), .sh (.int (rmZ a b T)), u8]) (by simp [e5])).trans ?_
  refine (seq_nx (ρ1 := [.sh (.list (is ns)), .ol (is d5), .sh (.int (tn)), .sh (.int (a)), .sh (.int (b)), .sh (.int (m)), .sh (.int (T)), .sh (.int (rmZ a b T)), u8]) ?_).trans ?_
  · have e8 : 0 < T → m__law_room [.sh (.int a), .sh (.int b), .sh (.int (T - 1))] = some (.sh (.int (rmZ a b (T - 1))), []) := fun h => v_lroom ba.1 bb.1 (bT.le (by omega))
    have e9 : T < m → m__law_room [.sh (.int a), .sh (.int b), .sh (.int (T + 1))] = some (.sh (.int (rmZ a b (T + 1))), []) := fun h => v_lroom ba.1 bb.1 (ba.1.le (by omega))
    have p1 : 0 < T → ¬ rmZ a b T ≤ rmZ a b (T - 1) := fun h => by
      have := hT.up (T - 1) (by omega) (by omega)
      unfold dfZ at this
      rw [show T - 1 + 1 = T by omega] at this
      omega
    have p2 : T < m → ¬ rmZ a b T < rmZ a b (T + 1) := fun h => by
      have := hT.dn T (Int.le_refl _) h
      unfold dfZ at this
      omega
    generalize rmZ a b T = w at *
    generalize rmZ a b (T - 1) = w1 at *
    generalize rmZ a b (T + 1) = w2 at *
    by_cases g1 : 0 < T
    · have e8 := e8 g1
      have p1 := p1 g1
      by_cases g2 : T < m
      · have e9 := e9 g2
        have p2 := p2 g2
        simp [g1, g2, e8, e9, p1, p2]
      · simp [g1, g2, e8, p1]
    · by_cases g2 : T < m
      · have e9 := e9 g2
        have p2 := p2 g2
        simp [g1, g2, e9, p2]
      · simp [g1, g2]
  refine (seq_nx (ρ1 := [.sh (.list (is ns)), .ol (is d5), .sh (.int (tn)), .sh (.int (a)), .sh (.int (b)), .sh (.int (m)), .sh (.int (T)), .sh (.int (rmZ a b T)), u8]) ?_).trans ?_
  · by_cases g : tn = 0
    · obtain ⟨L, hL, ek⟩ := bx_max (u0 := .sh (.list (is ns))) (u1 := .ol (is d5)) (u2 := .sh (.int tn)) (u6 := .sh (.int T)) (u7 := .sh (.int (rmZ a b T))) (u8 := u8) ba.1 bb.1 hm0.1 (hm0.2.1 g) hT hu
      generalize is L = LL at *
      generalize rmZ a b T = w at *
      subst g
      simp [ek, hL]
    · generalize rmZ a b T = w at *
      simp [g]
  refine (seq_nx el).trans ?_
  generalize rmZ a b T = w at *
  simp [e4, sT]
theorem v_box {ns : List Int} (hl : ns.length ≤ 63) (hb : ∀ z ∈ ns, Builtin.Int.intBits z ≤ 1048576) (ds : List Int) : ∃ ds' : List Int, m__law_is_box_right [.sh (.list (is ns)), .ol (is ds)] = some (.sh (.bool true), [.sh (.list (is ns)), .ol (is ds')]) := by
  obtain ⟨d1, u1, ρ1, hu1, e1, k1⟩ := st_bx hl hb (tn := 0) (.inl rfl) (u8 := .dead) (.inl rfl) ds
  obtain ⟨d2, u2, ρ2, hu2, e2, k2⟩ := st_bx hl hb (tn := 1) (.inr rfl) (u8 := u1) hu1 d1
  have lp : loopF none [PyData.int 0, .int 1] [2, 3, 4, 5, 6, 7] (fun x ρ => (gNm 2 x ρ).bind b__law_is_box_right_2) [PyData.int 0, .int 1] [.sh (.list (is ns)), .ol (is ds), .dead, .dead, .dead, .dead, .dead, .dead, .dead] = some (.nx [.sh (.list (is ns)), .ol (is d2), .dead, .dead, .dead, .dead, .dead, .dead, u2]) := by
    refine (loop_cons rfl (by rw [bind_gnm]; exact e1)).trans ?_
    refine (loop_cons rfl (by rw [bind_gnm, k1]; exact e2)).trans ?_
    rw [loop_nil rfl, k2]
  have el : l__law_is_box_right_2 [.sh (.list (is ns)), .ol (is ds), .dead, .dead, .dead, .dead, .dead, .dead, .dead] = some (.nx [.sh (.list (is ns)), .ol (is d2), .dead, .dead, .dead, .dead, .dead, .dead, u2]) := by
    refine for_hx ll__law_is_box_right_2 ?_ lp
    exact (ev_r1 (n := 2) (ρ1 := [.sh (.list (is ns)), .ol (is ds), .dead, .dead, .dead, .dead, .dead, .dead, .dead]) rfl (by decide) (by decide)).trans rfl
  refine ⟨d2, fn_io (ρ' := [.sh (.list (is ns)), .ol (is d2), .dead, .dead, .dead, .dead, .dead, .dead, u2]) ?_ rfl rfl⟩
  show s__law_is_box_right [.sh (.list (is ns)), .ol (is ds), .dead, .dead, .dead, .dead, .dead, .dead, .dead] = _
  unfold s__law_is_box_right
  refine (seq_nx el).trans ?_
  simp


/-! ## pleats -/
def vld : Int → List (Int × Int) → Bool
  | _, [] => true
  | h, (a, d) :: r => !(decide (a < h) || decide (d < 1)) && vld (a + 2 * d) r
def lst : Int → List (Int × Int) → Int
  | h, [] => h
  | _, (a, d) :: r => lst (a + 2 * d) r
def sumD (ps : List (Int × Int)) : Int := (ps.map (·.2)).sum
theorem sumD_cons (a d : Int) (r : List (Int × Int)) : sumD ((a, d) :: r) = d + sumD r := by unfold sumD; rw [List.map_cons, List.sum_cons]
theorem vld_cons {h a d : Int} {r : List (Int × Int)} : vld h ((a, d) :: r) = true ↔ h ≤ a ∧ 1 ≤ d ∧ vld (a + 2 * d) r = true := by
  show (!(decide (a < h) || decide (d < 1)) && vld (a + 2 * d) r) = true ↔ _
  rw [Bool.and_eq_true, Bool.not_eq_true', Bool.or_eq_false_iff, decide_eq_false_iff_not, decide_eq_false_iff_not]
  constructor
  · rintro ⟨⟨h1, h2⟩, h3⟩; exact ⟨by omega, by omega, h3⟩
  · rintro ⟨h1, h2, h3⟩; exact ⟨⟨by omega, by omega⟩, h3⟩
theorem vld_lst : ∀ (ps : List (Int × Int)) (h : Int), vld h ps = true → h + 2 * sumD ps ≤ lst h ps ∧ 0 ≤ sumD ps
  | [], h, _ => by show h + 2 * (0 : Int) ≤ h ∧ (0 : Int) ≤ 0; omega
  | (a, d) :: r, h, hv => by
    obtain ⟨h1, h2, h3⟩ := vld_cons.mp hv
    obtain ⟨q1, q2⟩ := vld_lst r _ h3
    rw [sumD_cons]
    show h + 2 * (d + sumD r) ≤ lst (a + 2 * d) r ∧ _
    omega
/-- 1 within, 0 without -/
def ind (a x b : Int) : Int := if a ≤ x ∧ x < b then 1 else 0
/-- the parts as they lie -/
def ways (L : Int) : Int → Int → List (Int × Int) → List (Int × Int)
  | p, done, [] => [(p, p + L - done)]
  | p, done, (a, d) :: r => (p, p + a - done) :: (p + (a - done), p + (a - done) - d) :: (p + (a - done) - d, p + (a - done)) :: ways L (p + (a - done)) (a + 2 * d) r
def cov (x : Int) (w : Int × Int) : Bool := decide (min w.1 w.2 ≤ x) && decide (x < max w.1 w.2)
def cnt (x : Int) (ws : List (Int × Int)) : Int := ((ws.filter (cov x)).length : Int)
theorem cnt_cons (x : Int) (w : Int × Int) (ws : List (Int × Int)) : cnt x (w :: ws) = ind (min w.1 w.2) x (max w.1 w.2) + cnt x ws := by
  unfold cnt ind
  by_cases h : cov x w = true
  · rw [List.filter_cons_of_pos h, List.length_cons]
    unfold cov at h
    rw [Bool.and_eq_true, decide_eq_true_eq, decide_eq_true_eq] at h
    rw [if_pos h]; omega
  · rw [List.filter_cons_of_neg h]
    unfold cov at h
    rw [Bool.and_eq_true, decide_eq_true_eq, decide_eq_true_eq] at h
    rw [if_neg h]; omega
/-- twice over each pleat -/
def dbl (x : Int) : Int → List (Int × Int) → Int
  | _, [] => 0
  | before, (a, d) :: r => 2 * ind (a - before - d) x (a - before) + dbl x (before + 2 * d) r
theorem ind_split {p f e x : Int} (h1 : p ≤ f) (h2 : f ≤ e) : ind p x f + ind f x e = ind p x e := by
  unfold ind
  split <;> split <;> split <;> omega
theorem cnt_ways (L x : Int) : ∀ (ps : List (Int × Int)) (p done before : Int), p = done - before → vld done ps = true → lst done ps ≤ L →
    cnt x (ways L p done ps) = ind p x (p + L - done - 2 * sumD ps) + dbl x before ps
  | [], p, done, before, hp, hv, hl => by
    have hl : done ≤ L := hl
    show cnt x [(p, p + L - done)] = _
    rw [cnt_cons]
    show ind (min p (p + L - done)) x (max p (p + L - done)) + 0 = ind p x (p + L - done - 2 * 0) + 0
    rw [Int.min_eq_left (by omega), Int.max_eq_right (by omega)]
    congr 2
    omega
  | (a, d) :: r, p, done, before, hp, hv, hl => by
    obtain ⟨h1, h2, h3⟩ := vld_cons.mp hv
    have hl : lst (a + 2 * d) r ≤ L := hl
    obtain ⟨q1, q2⟩ := vld_lst r _ h3
    have ih := cnt_ways L x r (p + (a - done)) (a + 2 * d) (before + 2 * d) (by omega) h3 hl
    show cnt x ((p, p + a - done) :: (p + (a - done), p + (a - done) - d) :: (p + (a - done) - d, p + (a - done)) :: ways L (p + (a - done)) (a + 2 * d) r) = _ + (2 * ind (a - before - d) x (a - before) + dbl x (before + 2 * d) r)
    rw [cnt_cons, cnt_cons, cnt_cons, ih, sumD_cons]
    show ind (min p (p + a - done)) x (max p (p + a - done)) + (ind (min (p + (a - done)) (p + (a - done) - d)) x (max (p + (a - done)) (p + (a - done) - d)) + (ind (min (p + (a - done) - d) (p + (a - done))) x (max (p + (a - done) - d) (p + (a - done))) + _)) = _
    rw [Int.min_eq_left (a := p) (by omega), Int.max_eq_right (a := p) (by omega), Int.min_eq_right (a := p + (a - done)) (by omega), Int.max_eq_left (a := p + (a - done)) (by omega), Int.min_eq_left (a := p + (a - done) - d) (by omega), Int.max_eq_right (a := p + (a - done) - d) (by omega)]
    have e := ind_split (p := p) (f := p + (a - done)) (e := p + L - done - 2 * (d + sumD r)) (x := x) (by omega) (by omega)
    have e1 : p + a - done = p + (a - done) := by omega
    have e2 : p + (a - done) + L - (a + 2 * d) - 2 * sumD r = p + L - done - 2 * (d + sumD r) := by omega
    have e3 : p + (a - done) = a - before := by omega
    rw [e1, e2]
    rw [e3] at e ⊢
    omega
def layN (L x : Int) (ps : List (Int × Int)) : Int := ind 0 x (L - 2 * sumD ps) + dbl x 0 ps
theorem cnt_lay {L x : Int} {ps : List (Int × Int)} (hv : vld 0 ps = true) (hl : lst 0 ps ≤ L) : cnt x (ways L 0 0 ps) = layN L x ps := by
  rw [cnt_ways L x ps 0 0 0 (by omega) hv hl]
  unfold layN
  congr 2
  omega
/-! ### scaled -/
def scl (s : Int) (ps : List (Int × Int)) : List (Int × Int) := ps.map fun p => (p.1 * s, p.2 * s)
theorem vld_scl {s : Int} (hs : 1 ≤ s) : ∀ (ps : List (Int × Int)) (h : Int), vld h ps = true → vld (h * s) (scl s ps) = true
  | [], _, _ => rfl
  | (a, d) :: r, h, hv => by
    obtain ⟨h1, h2, h3⟩ := vld_cons.mp hv
    have ih := vld_scl hs r _ h3
    refine vld_cons.mpr ⟨Int.mul_le_mul_of_nonneg_right h1 (by omega), ?_, ?_⟩
    · show 1 ≤ d * s
      have := Int.mul_le_mul h2 hs (by omega) (by omega)
      omega
    · rw [Int.add_mul, Int.mul_assoc] at ih
      exact ih
theorem lst_scl (s : Int) : ∀ (ps : List (Int × Int)) (h : Int), lst (h * s) (scl s ps) = lst h ps * s
  | [], _ => rfl
  | (a, d) :: r, h => by
    have ih := lst_scl s r (a + 2 * d)
    rw [Int.add_mul, Int.mul_assoc] at ih
    exact ih
/-! ### checked -/
def okP (L : Int) (ps : List (Int × Int)) : Bool := vld 0 ps && (decide (ps.length = 0) || decide (lst 0 ps ≤ L))
def ends (ps : List (Int × Int)) : List Int := ps.map fun p => p.1 + 2 * p.2
def bad1 (p : Int × Int) : Bool := decide (p.1 < 0) || decide (p.2 < 1)
def bad2 (ps : List (Int × Int)) (k : Nat) : Bool := decide ((ps.getD (k + 1) (0, 0)).1 < (ends ps).getD k 0)
theorem vld_all : ∀ (ps : List (Int × Int)) (h : Int), 0 ≤ h → (vld h ps = true ↔ (∀ p ∈ ps, bad1 p = false) ∧ (∀ k, k + 1 < ps.length → bad2 ps k = false) ∧ (0 < ps.length → h ≤ (ps.getD 0 (0, 0)).1))
  | [], h, _ => ⟨fun _ => ⟨fun p hp => (nomatch hp), fun k hk => by simp at hk, fun hz => by simp at hz⟩, fun _ => rfl⟩
  | (a, d) :: r, h, h0 => by
    rw [vld_cons]
    constructor
    · rintro ⟨h1, h2, h3⟩
      obtain ⟨q1, q2, q3⟩ := (vld_all r (a + 2 * d) (by omega)).mp h3
      refine ⟨fun p hp => ?_, fun k hk => ?_, fun _ => h1⟩
      · rcases List.mem_cons.mp hp with rfl | hp
        · unfold bad1; simp; omega
        · exact q1 p hp
      · cases k with
        | zero =>
          have := q3 (by simp at hk; omega)
          unfold bad2 ends
          rw [decide_eq_false_iff_not]
          show ¬ (r.getD 0 (0, 0)).1 < a + 2 * d
          omega
        | succ k =>
          have := q2 k (by simp at hk; omega)
          exact this
    · rintro ⟨q1, q2, q3⟩
      have b1 := q1 (a, d) List.mem_cons_self
      unfold bad1 at b1
      rw [Bool.or_eq_false_iff, decide_eq_false_iff_not, decide_eq_false_iff_not] at b1
      have q3 : h ≤ a := q3 (by simp)
      have b1 : ¬ a < 0 ∧ ¬ d < 1 := b1
      refine ⟨q3, by omega, (vld_all r (a + 2 * d) (by omega)).mpr ⟨fun p hp => q1 p (List.mem_cons_of_mem _ hp), fun k hk => ?_, fun hz => ?_⟩⟩
      · exact q2 (k + 1) (by simp; omega)
      · have := q2 0 (by simp; omega)
        unfold bad2 ends at this
        rw [decide_eq_false_iff_not] at this
        have : ¬ (r.getD 0 (0, 0)).1 < a + 2 * d := this
        omega
theorem lst_last : ∀ (ps : List (Int × Int)) (h : Int), 0 < ps.length → lst h ps = (ends ps).getD (ps.length - 1) 0
  | [(a, d)], h, _ => rfl
  | (a, d) :: p :: r, h, _ => by
    have ih := lst_last (p :: r) (a + 2 * d) (by simp)
    show lst (a + 2 * d) (p :: r) = _
    rw [ih]
    rfl
def badP (L : Int) (ps : List (Int × Int)) : Bool := ps.any bad1 || ((List.range (ps.length - 1)).any (bad2 ps) || (decide (0 < ps.length) && decide (L < (ends ps).getD (ps.length - 1) 0)))
theorem badP_okP (L : Int) (ps : List (Int × Int)) : badP L ps = !okP L ps := by
  rw [Bool.eq_iff_iff, Bool.not_eq_true', ← Bool.not_eq_true]
  have e : okP L ps = true ↔ ¬ badP L ps = true := by
    unfold okP badP
    rw [Bool.and_eq_true, Bool.or_eq_true, decide_eq_true_eq, decide_eq_true_eq, vld_all ps 0 (Int.le_refl 0), Bool.or_eq_true, Bool.or_eq_true, Bool.and_eq_true, decide_eq_true_eq, decide_eq_true_eq, List.any_eq_true, List.any_eq_true]
    constructor
    · rintro ⟨⟨h1, h2, h3⟩, h4⟩ (⟨p, hp, hb⟩ | ⟨k, hk, hb⟩ | ⟨q1, q2⟩)
      · rw [h1 p hp] at hb; cases hb
      · rw [h2 k (by have := List.mem_range.mp hk; omega)] at hb; cases hb
      · rw [← lst_last ps 0 q1] at q2
        rcases h4 with h4 | h4 <;> omega
    · intro h
      refine ⟨⟨fun p hp => ?_, fun k hk => ?_, fun hz => ?_⟩, ?_⟩
      · cases hb : bad1 p with
        | false => rfl
        | true => exact absurd (.inl ⟨p, hp, hb⟩) h
      · cases hb : bad2 ps k with
        | false => rfl
        | true => exact absurd (.inr (.inl ⟨k, List.mem_range.mpr (by omega), hb⟩)) h
      · cases ps with
        | nil => simp at hz
        | cons p r =>
          have : ¬ bad1 p = true := fun hb => h (.inl ⟨p, List.mem_cons_self, hb⟩)
          unfold bad1 at this
          rw [Bool.or_eq_true, decide_eq_true_eq, decide_eq_true_eq] at this
          show 0 ≤ p.1
          omega
      · by_cases hz : ps.length = 0
        · exact .inl hz
        · right
          rw [lst_last ps 0 (by omega)]
          have : ¬ L < (ends ps).getD (ps.length - 1) 0 := fun q => h (.inr (.inr ⟨by omega, q⟩))
          omega
  rw [e]
  simp
/-! ### the fewest -/
theorem fewest_eq {l m : Int} (hl : 0 < l) (he : l % 2 = 0) (hm : 1 ≤ m) : -(Int.fdiv (-(Int.fdiv l 2)) m) = Int.fdiv (Int.fdiv l 2) m + (if 0 < Int.fdiv l 2 - m * Int.fdiv (Int.fdiv l 2) m then 1 else 0) := by
  rw [Int.fdiv_eq_ediv_of_nonneg l (by omega), Int.fdiv_eq_ediv_of_nonneg _ (by omega), Int.fdiv_eq_ediv_of_nonneg _ (by omega)]
  generalize l / 2 = h at *
  have e1 := Int.mul_ediv_add_emod h m
  have e2 := Int.mul_ediv_add_emod (-h) m
  have r1 := Int.emod_nonneg h (b := m) (by omega)
  have r2 := Int.emod_lt_of_pos h (b := m) (by omega)
  have r3 := Int.emod_nonneg (-h) (b := m) (by omega)
  have r4 := Int.emod_lt_of_pos (-h) (b := m) (by omega)
  generalize h / m = x at *
  generalize (-h) / m = y at *
  generalize h % m = u at *
  generalize (-h) % m = v at *
  have e3 : m * (x + y) = - u - v := by rw [Int.mul_add]; omega
  split
  · next c =>
    have : x + y = -1 := by
      have hu : 0 < u := by omega
      rcases Int.lt_trichotomy (x + y) (-1) with k | k | k
      · have := Int.mul_le_mul_of_nonneg_left (show x + y ≤ -2 by omega) (show 0 ≤ m by omega)
        omega
      · exact k
      · have := Int.mul_le_mul_of_nonneg_left (show 0 ≤ x + y by omega) (show 0 ≤ m by omega)
        omega
    omega
  · next c =>
    have hu : u = 0 := by omega
    have : x + y = 0 := by
      rcases Int.lt_trichotomy (x + y) 0 with k | k | k
      · have := Int.mul_le_mul_of_nonneg_left (show x + y ≤ -1 by omega) (show 0 ≤ m by omega)
        omega
      · exact k
      · have := Int.mul_le_mul_of_nonneg_left (show 1 ≤ x + y by omega) (show 0 ≤ m by omega)
        omega
    omega


/-! ## the fewest pleats -/
def oD : Option Int → D
  | none => .none
  | some z => .int z
def fwP (l w m : Int) : Option Int := if l - w < 0 ∨ w < 0 ∨ (l - w) % 2 = 1 ∨ (0 < l - w ∧ m < 1) then none else if 0 < l - w then some (-(Int.fdiv (-(Int.fdiv (l - w) 2)) m)) else some 0
theorem fmod2 (z : Int) : Int.fmod z 2 = z % 2 := Int.fmod_eq_emod_of_nonneg z (by decide)
theorem v_fewest (l w m : Int) : m_fewest_pleats [.sh (.int l), .sh (.int w), .sh (.int m)] = some (.sh (oD (fwP l w m)), []) := by
  have fm := fmod2 (l - w)
  unfold fwP
  generalize hr : l - w = r at *
  have s0 : ∀ {o : Out} {X : FS}, X [.sh (.int (l)), .sh (.int (w)), .sh (.int (m)), .sh (.int (r))] = some o → sSeq (sSet 3 (eBin dSub (eVar 0) (eVar 1))) X [.sh (.int (l)), .sh (.int (w)), .sh (.int (m)), .dead] = some o := fun h => (seq_nx (ρ1 := [.sh (.int (l)), .sh (.int (w)), .sh (.int (m)), .sh (.int (r))]) (by simp [hr])).trans h
  clear hr
  by_cases c1 : r < 0
  · rw [if_pos (.inl c1)]
    exact fn_ret (s0 (by simp [c1, oD]; rfl))
  by_cases c2 : w < 0
  · rw [if_pos (.inr (.inl c2))]
    exact fn_ret (s0 (by simp [c1, c2, oD]; rfl))
  by_cases c3 : r % 2 = 1
  · rw [if_pos (.inr (.inr (.inl c3)))]
    exact fn_ret (s0 (by simp [c1, c2, fm, c3, oD]; rfl))
  by_cases c4 : 0 < r
  · by_cases c5 : m < 1
    · rw [if_pos (.inr (.inr (.inr ⟨c4, c5⟩)))]
      exact fn_ret (s0 (by simp [c1, c2, fm, c3, c4, c5, oD]; rfl))
    · rw [if_neg (by omega), if_pos c4]
      have m0 : ¬ m = 0 := by omega
      exact fn_ret (s0 (by simp [c1, c2, fm, c3, c4, c5, oD, m0]; rfl))
  · rw [if_neg (by omega), if_neg c4]
    exact fn_ret (s0 (by simp [c1, c2, fm, c3, c4, oD]; rfl))
theorem bd_fdiv {n : Nat} {a m : Int} (h : Bd n a) (ha : 0 ≤ a) (hm : 1 ≤ m) : Bd n (Int.fdiv a m) := by
  refine h.le ?_
  rw [Int.fdiv_eq_ediv_of_nonneg _ (by omega)]
  have q1 := Int.ediv_nonneg ha (show 0 ≤ m by omega)
  have q2 := Int.ediv_le_self m ha
  omega
theorem v_lfewest (l w m : Int) (hl : BB l) (hw : BB w) (hm : BB m) : m__law_fewest [.sh (.int l), .sh (.int w), .sh (.int m)] = some (.sh (oD (fwP l w m)), []) := by
  have e2 : ∀ z : Int, Int.fdiv z 2 = z / 2 := fun z => Int.fdiv_eq_ediv_of_nonneg z (by decide)
  have par : ∀ z : Int, z - 2 * Int.fdiv z 2 = 1 ↔ z % 2 = 1 := fun z => by rw [e2]; omega
  have br := hl.sub hw
  unfold fwP
  generalize hr : l - w = r at *
  have s0 : ∀ {o : Out} {X : FS}, X [.sh (.int (l)), .sh (.int (w)), .sh (.int (m)), .sh (.int (r)), .dead] = some o → sSeq (sSet 3 (eBin dSub (eVar 0) (eVar 1))) X [.sh (.int (l)), .sh (.int (w)), .sh (.int (m)), .dead, .dead] = some o := fun h => (seq_nx (ρ1 := [.sh (.int (l)), .sh (.int (w)), .sh (.int (m)), .sh (.int (r)), .dead]) (by simp [hr])).trans h
  clear hr
  have k2 : mulOk 2 (Int.fdiv r 2) = true := mulOk_l (by decide)
  by_cases c0 : r = 0
  · subst c0
    by_cases c2 : w < 0
    · rw [if_pos (.inr (.inl c2))]
      have c2' : ¬ 0 ≤ w := by omega
      exact fn_ret (s0 (by simp [c2, c2', oD]; rfl))
    · rw [if_neg (by omega), if_neg (by omega)]
      have c2' : 0 ≤ w := by omega
      exact fn_ret (s0 (by simp [c2', oD]; rfl))
  by_cases c1 : r < 0
  · rw [if_pos (.inl c1)]
    exact fn_ret (s0 (by simp [c0, c1, oD]; rfl))
  by_cases c2 : w < 0
  · rw [if_pos (.inr (.inl c2))]
    exact fn_ret (s0 (by simp [c0, c1, c2, oD]; rfl))
  by_cases c5 : m < 1
  · rw [if_pos (.inr (.inr (.inr ⟨by omega, c5⟩)))]
    exact fn_ret (s0 (by simp [c0, c1, c2, c5, oD]; rfl))
  have pr := par r
  by_cases c3 : r % 2 = 1
  · rw [if_pos (.inr (.inr (.inl c3)))]
    have c3' := pr.mpr c3
    exact fn_ret (s0 (by simp [c0, c1, c2, c5, k2, c3', oD]; rfl))
  · rw [if_neg (by omega), if_pos (by omega)]
    have c3' : ¬ r - 2 * Int.fdiv r 2 = 1 := fun q => c3 (pr.mp q)
    have fe := fewest_eq (l := r) (m := m) (by omega) (by omega) (by omega)
    have hh : 0 ≤ Int.fdiv r 2 := by rw [e2]; omega
    have bq := bd_fdiv br (by omega) (show (1 : Int) ≤ 2 by decide)
    have bf := bd_fdiv bq hh (show 1 ≤ m by omega)
    have k3 : mulOk m (Int.fdiv (Int.fdiv r 2) m) = true := hm.mulOk bf (by omega)
    have m0 : ¬ m = 0 := by omega
    rw [fe]
    clear fe bq bf br hh par pr e2
    by_cases c6 : 0 < Int.fdiv r 2 - m * Int.fdiv (Int.fdiv r 2) m
    · rw [if_pos c6]
      have c6' := Int.sub_pos.mp c6
      exact fn_ret (s0 (by simp [c0, c1, c2, c5, k2, c3', m0, k3, c6', oD]; rfl))
    · rw [if_neg c6]
      have c6' : ¬ m * Int.fdiv (Int.fdiv r 2) m < Int.fdiv r 2 := fun q => c6 (Int.sub_pos.mpr q)
      exact fn_ret (s0 (by simp [c0, c1, c2, c5, k2, c3', m0, k3, c6', oD]; rfl))


/-! ## pleats as data; layers -/
def p2 (p : Int × Int) : D := .tuple [.int p.1, .int p.2]
def pD (ps : List (Int × Int)) : D := .tuple (ps.map p2)
def seg (w : Int × Int) : D := .tuple [.int w.1, .int w.2]
theorem m2 (d : Int) : mulOk 2 d = true := mulOk_l (by decide)
theorem ev_ltB (a b : Int) : bLt (.int a) (.int b) = some (decide (a < b)) := rfl
theorem sumD_is (ps : List (Int × Int)) : cSumA [.list (ps.map fun p => PyData.int p.2)] = some (.int (sumD ps)) := by
  have e : (ps.map fun p => PyData.int p.2) = is (ps.map (·.2)) := by unfold is; rw [List.map_map]; rfl
  rw [e]
  exact cSumA_L _
theorem c_len {u0 : Cell} {ps : List (Int × Int)} (h : ps.length ≤ 1000) : k_pleated_length_1 [u0, .sh (pD ps), .dead, .dead] = some (.ol (ps.map fun p => PyData.int p.2), [u0, .sh (pD ps), .dead, .dead]) := by
  rw [kk_pleated_length_1]
  refine ev_compA p2 (fun p => .int p.2) ps (ρi := [u0, .sh (pD ps), .dead, .dead]) (ρ0 := [u0, .sh (pD ps), .dead, .dead]) rfl rfl (by unfold sizeLine; omega) fun p hp => ?_
  refine ⟨[u0, .sh (pD ps), .sh (.int (p.1)), .sh (.int (p.2))], [u0, .sh (pD ps), .sh (.int (p.1)), .sh (.int (p.2))], rfl, ?_, rfl⟩
  generalize pD ps = P at *
  simp
theorem v_plen {l : Int} {ps : List (Int × Int)} (h : ps.length ≤ 1000) : m_pleated_length [.sh (.int l), .sh (pD ps)] = some (.sh (.int (l - 2 * sumD ps)), []) := by
  have ek := c_len (u0 := .sh (.int l)) h
  have es := sumD_is ps
  have k2 := m2 (sumD ps)
  generalize (ps.map fun p => PyData.int p.2) = S at *
  generalize pD ps = P at *
  generalize sumD ps = s at *
  exact fn_ret (by
    show s_pleated_length [.sh (.int (l)), .sh (P), .dead, .dead] = _
    simp [s_pleated_length, ek, es, k2]
    rfl)
theorem w_ways {l : Int} {P : D} {xs0 : List D} : ∀ (ps : List (Int × Int)) (p done : Int) (acc : List (Int × Int)) (u5 u6 : Cell), acc.length + 3 * ps.length ≤ 100000 → ∃ (p' done' : Int) (acc' : List (Int × Int)), acc' ++ [(p', p' + l - done')] = acc ++ ways l p done ps ∧ acc'.length ≤ acc.length + 3 * ps.length ∧
    loopF none xs0 [5, 6] (fun x ρ => (gTp 2 (gCn (gNm 5) (gCn (gNm 6) (gNl))) x ρ).bind b_ways_of_1) (ps.map p2) [.sh (.int (l)), .sh (P), .ol (acc.map seg), .sh (.int (p)), .sh (.int (done)), u5, u6] = some (.nx [.sh (.int (l)), .sh (P), .ol (acc'.map seg), .sh (.int (p')), .sh (.int (done')), .dead, .dead]) := by
  intro ps
  induction ps with
  | nil => intro p done acc u5 u6 _; exact ⟨p, done, acc, rfl, by omega, loop_nil rfl⟩
  | cons q r ih =>
    intro p done acc u5 u6 h
    obtain ⟨a, d⟩ := q
    rw [List.length_cons] at h
    obtain ⟨p', done', acc', h1, h2, e⟩ := ih (p + (a - done)) (a + 2 * d) (acc ++ [(p, p + a - done), (p + (a - done), p + (a - done) - d), (p + (a - done) - d, p + (a - done))]) (.sh (.int a)) (.sh (.int d)) (by simp; omega)
    refine ⟨p', done', acc', ?_, by simp at h2 ⊢; omega, ?_⟩
    · rw [h1, List.append_assoc]; rfl
    · rw [List.map_cons]
      refine (loop_cons (ρ' := [.sh (.int (l)), .sh (P), .ol ((acc ++ [(p, p + a - done), (p + (a - done), p + (a - done) - d), (p + (a - done) - d, p + (a - done))]).map seg), .sh (.int (p + (a - done))), .sh (.int (a + 2 * d)), .sh (.int (a)), .sh (.int (d))]) rfl ?_).trans e
      show b_ways_of_1 [.sh (.int (l)), .sh (P), .ol (acc.map seg), .sh (.int (p)), .sh (.int (done)), .sh (.int (a)), .sh (.int (d))] = _
      have ea : (acc ++ [(p, p + a - done), (p + (a - done), p + (a - done) - d), (p + (a - done) - d, p + (a - done))]).map seg = acc.map seg ++ [.tuple [.int p, .int (p + a - done)]] ++ [.tuple [.int (p + (a - done)), .int (p + (a - done) - d)]] ++ [.tuple [.int (p + (a - done) - d), .int (p + (a - done))]] := by
        simp [seg]
      have hz : (acc.map seg).length + 3 < sizeLine := by rw [List.length_map]; unfold sizeLine; omega
      have k2 := m2 d
      have z2 : 2 ≤ sizeLine := by decide
      rw [ea]
      clear e h1 h2 ih ea
      generalize acc.map seg = Q at *
      unfold b_ways_of_1
      refine (seq_nx (ρ1 := [.sh (.int (l)), .sh (P), .ol (Q ++ [.tuple [.int p, .int (p + a - done)]]), .sh (.int (p)), .sh (.int (done)), .sh (.int (a)), .sh (.int (d))]) (by
        have hz : Q.length < sizeLine := by omega
        simp [lAppend, hz, z2])).trans ?_
      refine (seq_nx (ρ1 := [.sh (.int (l)), .sh (P), .ol (Q ++ [.tuple [.int p, .int (p + a - done)]]), .sh (.int (p + (a - done))), .sh (.int (done)), .sh (.int (a)), .sh (.int (d))]) (by simp)).trans ?_
      refine (seq_nx (ρ1 := [.sh (.int (l)), .sh (P), .ol (Q ++ [.tuple [.int p, .int (p + a - done)]] ++ [.tuple [.int (p + (a - done)), .int (p + (a - done) - d)]]), .sh (.int (p + (a - done))), .sh (.int (done)), .sh (.int (a)), .sh (.int (d))]) (by
        have hz : (Q ++ [PyData.tuple [.int p, .int (p + a - done)]]).length < sizeLine := by rw [List.length_append, List.length_singleton]; omega
        generalize Q ++ [PyData.tuple [.int p, .int (p + a - done)]] = Q1 at *
        simp [lAppend, hz, z2])).trans ?_
      refine (seq_nx (ρ1 := [.sh (.int (l)), .sh (P), .ol (Q ++ [.tuple [.int p, .int (p + a - done)]] ++ [.tuple [.int (p + (a - done)), .int (p + (a - done) - d)]] ++ [.tuple [.int (p + (a - done) - d), .int (p + (a - done))]]), .sh (.int (p + (a - done))), .sh (.int (done)), .sh (.int (a)), .sh (.int (d))]) (by
        have hz : (Q ++ [PyData.tuple [.int p, .int (p + a - done)]] ++ [PyData.tuple [.int (p + (a - done)), .int (p + (a - done) - d)]]).length < sizeLine := by rw [List.length_append, List.length_append, List.length_singleton, List.length_singleton]; omega
        generalize Q ++ [PyData.tuple [.int p, .int (p + a - done)]] ++ [PyData.tuple [.int (p + (a - done)), .int (p + (a - done) - d)]] = Q1 at *
        simp [lAppend, hz, z2])).trans ?_
      simp [k2]
theorem v_ways {l : Int} {ps : List (Int × Int)} (h : ps.length ≤ 1000) : m_ways_of [.sh (.int l), .sh (pD ps)] = some (.sh (.list ((ways l 0 0 ps).map seg)), []) := by
  obtain ⟨p', done', acc', h1, h2, w⟩ := w_ways (l := l) (P := pD ps) (xs0 := ps.map p2) ps 0 0 [] .dead .dead (by simp; omega)
  have el : l_ways_of_1 [.sh (.int (l)), .sh (pD ps), .ol ([]), .sh (.int (0)), .sh (.int (0)), .dead, .dead] = some (.nx [.sh (.int (l)), .sh (pD ps), .ol (acc'.map seg), .sh (.int (p')), .sh (.int (done')), .dead, .dead]) := for_hx ll_ways_of_1 rfl w
  rw [List.nil_append] at h1
  rw [← h1, List.map_append]
  have hz : (acc'.map seg).length < sizeLine := by rw [List.length_map]; unfold sizeLine; simp at h2; omega
  have z2 : 2 ≤ sizeLine := by decide
  clear w h1 h2
  generalize acc'.map seg = Q at *
  generalize pD ps = P at *
  exact fn_ret (by
    show s_ways_of [.sh (.int (l)), .sh (P), .dead, .dead, .dead, .dead, .dead] = _
    unfold s_ways_of
    refine (seq_nx (ρ1 := [.sh (.int (l)), .sh (P), .ol ([]), .dead, .dead, .dead, .dead]) (by simp)).trans ?_
    refine (seq_nx (ρ1 := [.sh (.int (l)), .sh (P), .ol ([]), .sh (.int (0)), .sh (.int (0)), .dead, .dead]) (by simp [z2])).trans ?_
    refine (seq_nx el).trans ?_
    refine (seq_nx (ρ1 := [.sh (.int (l)), .sh (P), .ol (Q ++ [.tuple [.int p', .int (p' + l - done')]]), .sh (.int (p')), .sh (.int (done')), .dead, .dead]) (by simp [lAppend, hz, z2])).trans ?_
    simp [seg]
    rfl)
theorem c_lap {l x : Int} {ps : List (Int × Int)} (h : ps.length ≤ 1000) : k_layers_at_place_1 [.sh (.int (l)), .sh (pD ps), .sh (.int (x)), .dead, .dead] = some (.ol (((ways l 0 0 ps).filter (cov x)).map fun _ => .int 1), [.sh (.int (l)), .sh (pD ps), .sh (.int (x)), .dead, .dead]) := by
  have e1 := v_ways (l := l) h
  have wl : ∀ (ps : List (Int × Int)) (p done : Int), (ways l p done ps).length = 3 * ps.length + 1 := by
    intro ps
    induction ps with
    | nil => intro p done; rfl
    | cons q r ih => intro p done; obtain ⟨a, d⟩ := q; simp [ways, ih]; omega
  rw [kk_layers_at_place_1]
  refine ev_comp seg (cov x) (fun _ => .int 1) (ways l 0 0 ps) (ρi := [.sh (.int (l)), .sh (pD ps), .sh (.int (x)), .dead, .dead]) (ρ0 := [.sh (.int (l)), .sh (pD ps), .sh (.int (x)), .dead, .dead]) ?_ rfl (by rw [wl]; unfold sizeLine; omega) fun w hw => ?_
  · generalize (ways l 0 0 ps).map seg = W at *
    generalize pD ps = P at *
    simp [iSq, e1]
  · obtain ⟨a, b⟩ := w
    have m1 : cMin2 [.int a, .int b] = some (.int (min a b)) := by
      rw [ev_min2]; congr 2; split <;> omega
    have m2 : cMax2 [.int a, .int b] = some (.int (max a b)) := by
      rw [ev_max2]; congr 2; split <;> omega
    refine ⟨[.sh (.int (l)), .sh (pD ps), .sh (.int (x)), .sh (.int (a)), .sh (.int (b))], [.sh (.int (l)), .sh (pD ps), .sh (.int (x)), .sh (.int (a)), .sh (.int (b))], rfl, ?_, fun _ => rfl, fun _ => ⟨[.sh (.int (l)), .sh (pD ps), .sh (.int (x)), .sh (.int (a)), .sh (.int (b))], rfl, rfl⟩⟩
    show _ = some (decide (min a b ≤ x) && decide (x < max a b), _)
    clear e1
    generalize pD ps = P at *
    generalize min a b = u at *
    generalize max a b = v at *
    by_cases c : u ≤ x
    · simp [m1, m2, c, ev_ltB, -ev_min2, -ev_max2]
    · simp [m1, m2, c, ev_ltB, -ev_min2, -ev_max2]
theorem v_lap {l x : Int} {ps : List (Int × Int)} (h : ps.length ≤ 1000) : m_layers_at_place [.sh (.int l), .sh (pD ps), .sh (.int x)] = some (.sh (.int (cnt x (ways l 0 0 ps))), []) := by
  have ek := c_lap (l := l) (x := x) h
  have hl : (((((ways l 0 0 ps).filter (cov x)).map fun _ => PyData.int 1).length : Nat) : Int) = cnt x (ways l 0 0 ps) := by unfold cnt; rw [List.length_map]
  generalize (((ways l 0 0 ps).filter (cov x)).map fun _ => PyData.int 1) = R at *
  generalize cnt x (ways l 0 0 ps) = c at *
  generalize pD ps = P at *
  exact fn_ret (by
    show s_layers_at_place [.sh (.int (l)), .sh (P), .sh (.int (x)), .dead, .dead] = _
    simp [s_layers_at_place, ek, hl]
    rfl)


theorem ik_len {α : Type} (enc : α → D) (l : List (Int × α)) : (ik enc l).length = l.length := List.length_map _
def addI (l : List (Int × Int)) (k x : Int) : List (Int × Int) := putI l k ((lookI l k).getD 0 + x)
theorem look_add (l : List (Int × Int)) (k x j : Int) : (lookI (addI l k x) j).getD 0 = (lookI l j).getD 0 + if j = k then x else 0 := by
  unfold addI
  rw [lookI_put]
  by_cases h : j = k
  · rw [if_pos h, if_pos h, h]; rfl
  · rw [if_neg h, if_neg h]; omega
/-! ## the law's layers, and by units -/
def nI (k : Nat) : D := .int (k : Int)
theorem w_llay {l x L0 : Int} {P : D} {xs0 : List D} : ∀ (ps : List (Int × Int)) (f b : Int) (u6 u7 u8 : Cell), ∃ b' : Int, loopF none xs0 [6, 7, 8] (fun z ρ => (gTp 2 (gCn (gNm 6) (gCn (gNm 7) (gNl))) z ρ).bind b__law_layers_1) (ps.map p2) [.sh (.int (l)), .sh (P), .sh (.int (x)), .sh (.int (L0)), .sh (.int (f)), .sh (.int (b)), u6, u7, u8, .dead] = some (.nx [.sh (.int (l)), .sh (P), .sh (.int (x)), .sh (.int (L0)), .sh (.int (f + dbl x b ps)), .sh (.int (b')), .dead, .dead, .dead, .dead]) := by
  intro ps
  induction ps with
  | nil => intro f b u6 u7 u8; exact ⟨b, by show _ = some (Out.nx [_, _, _, _, Cell.sh (.int (f + 0)), _, _, _, _, _]); rw [Int.add_zero]; exact loop_nil rfl⟩
  | cons q r ih =>
    intro f b u6 u7 u8
    obtain ⟨a, d⟩ := q
    obtain ⟨b', e⟩ := ih (f + 2 * ind (a - b - d) x (a - b)) (b + 2 * d) (.sh (.int a)) (.sh (.int d)) (.sh (.int (a - b)))
    have ed : f + 2 * ind (a - b - d) x (a - b) + dbl x (b + 2 * d) r = f + dbl x b ((a, d) :: r) := by
      show _ = f + (2 * ind (a - b - d) x (a - b) + dbl x (b + 2 * d) r)
      omega
    rw [ed] at e
    refine ⟨b', ?_⟩
    rw [List.map_cons]
    refine (loop_cons (ρ' := [.sh (.int (l)), .sh (P), .sh (.int (x)), .sh (.int (L0)), .sh (.int (f + 2 * ind (a - b - d) x (a - b))), .sh (.int (b + 2 * d)), .sh (.int (a)), .sh (.int (d)), .sh (.int (a - b)), .dead]) rfl ?_).trans e
    show b__law_layers_1 [.sh (.int (l)), .sh (P), .sh (.int (x)), .sh (.int (L0)), .sh (.int (f)), .sh (.int (b)), .sh (.int (a)), .sh (.int (d)), u8, .dead] = _
    have k2 := m2 d
    unfold b__law_layers_1
    refine (seq_nx (ρ1 := [.sh (.int (l)), .sh (P), .sh (.int (x)), .sh (.int (L0)), .sh (.int (f)), .sh (.int (b)), .sh (.int (a)), .sh (.int (d)), .sh (.int (a - b)), .dead]) (by simp)).trans ?_
    generalize a - b = g at *
    unfold ind
    generalize hg : g - d = v at *
    refine (seq_nx (ρ1 := [.sh (.int (l)), .sh (P), .sh (.int (x)), .sh (.int (L0)), .sh (.int (f + 2 * (if v ≤ x ∧ x < g then 1 else 0))), .sh (.int (b)), .sh (.int (a)), .sh (.int (d)), .sh (.int (g)), .dead]) ?_).trans ?_
    · by_cases c1 : v ≤ x
      · by_cases c2 : x < g
        · rw [if_pos ⟨c1, c2⟩]
          simp [hg, c1, c2, ev_ltB]
        · rw [if_neg (fun z => c2 z.2)]
          simp [hg, c1, c2, ev_ltB]
      · rw [if_neg (fun z => c1 z.1)]
        simp [hg, c1, ev_ltB]
    · simp [k2]
theorem c_lsum {l x : Int} {ps : List (Int × Int)} (h : ps.length ≤ 1000) : k__law_layers_1 [.sh (.int (l)), .sh (pD ps), .sh (.int (x)), .dead, .dead, .dead, .dead, .dead, .dead, .dead] = some (.ol (ps.map fun p => PyData.int p.2), [.sh (.int (l)), .sh (pD ps), .sh (.int (x)), .dead, .dead, .dead, .dead, .dead, .dead, .dead]) := by
  rw [kk__law_layers_1]
  refine ev_compA p2 (fun p => .int p.2) ps (ρi := [.sh (.int (l)), .sh (pD ps), .sh (.int (x)), .dead, .dead, .dead, .dead, .dead, .dead, .dead]) (ρ0 := [.sh (.int (l)), .sh (pD ps), .sh (.int (x)), .dead, .dead, .dead, .dead, .dead, .dead, .dead]) rfl rfl (by unfold sizeLine; omega) fun p hp => ?_
  refine ⟨[.sh (.int (l)), .sh (pD ps), .sh (.int (x)), .dead, .dead, .dead, .dead, .dead, .dead, .sh (p2 p)], [.sh (.int (l)), .sh (pD ps), .sh (.int (x)), .dead, .dead, .dead, .dead, .dead, .dead, .sh (p2 p)], rfl, ?_, rfl⟩
  generalize pD ps = P at *
  simp [p2]
theorem v_llay {l x : Int} {ps : List (Int × Int)} (h : ps.length ≤ 1000) : m__law_layers [.sh (.int l), .sh (pD ps), .sh (.int x)] = some (.sh (.int (layN l x ps)), []) := by
  have ek := c_lsum (l := l) (x := x) h
  have es := sumD_is ps
  have k2 := m2 (sumD ps)
  obtain ⟨b', w⟩ := w_llay (l := l) (x := x) (L0 := l - 2 * sumD ps) (P := pD ps) (xs0 := ps.map p2) ps (ind 0 x (l - 2 * sumD ps)) 0 .dead .dead .dead
  have el : l__law_layers_1 [.sh (.int (l)), .sh (pD ps), .sh (.int (x)), .sh (.int (l - 2 * sumD ps)), .sh (.int (ind 0 x (l - 2 * sumD ps))), .sh (.int (0)), .dead, .dead, .dead, .dead] = some (.nx [.sh (.int (l)), .sh (pD ps), .sh (.int (x)), .sh (.int (l - 2 * sumD ps)), .sh (.int (layN l x ps)), .sh (.int (b')), .dead, .dead, .dead, .dead]) := for_hx ll__law_layers_1 rfl w
  clear w
  generalize layN l x ps = R at *
  generalize (ps.map fun p => PyData.int p.2) = S at *
  generalize pD ps = P at *
  generalize sumD ps = s at *
  generalize hL : l - 2 * s = L0 at *
  generalize hf : ind 0 x L0 = f at *
  exact fn_ret (by
    show s__law_layers [.sh (.int (l)), .sh (P), .sh (.int (x)), .dead, .dead, .dead, .dead, .dead, .dead, .dead] = _
    unfold s__law_layers
    refine (seq_nx (ρ1 := [.sh (.int (l)), .sh (P), .sh (.int (x)), .sh (.int (L0)), .dead, .dead, .dead, .dead, .dead, .dead]) (by simp [ek, es, k2, hL])).trans ?_
    refine (seq_nx (ρ1 := [.sh (.int (l)), .sh (P), .sh (.int (x)), .sh (.int (L0)), .sh (.int (f)), .dead, .dead, .dead, .dead, .dead]) ?_).trans ?_
    · rw [← hf]
      unfold ind
      by_cases c1 : 0 ≤ x
      · by_cases c2 : x < L0
        · rw [if_pos ⟨c1, c2⟩]; simp [c1, c2, ev_ltB]
        · rw [if_neg (fun z => c2 z.2)]; simp [c1, c2, ev_ltB]
      · rw [if_neg (fun z => c1 z.1)]; simp [c1, ev_ltB]
    refine (seq_nx (ρ1 := [.sh (.int (l)), .sh (P), .sh (.int (x)), .sh (.int (L0)), .sh (.int (f)), .sh (.int (0)), .dead, .dead, .dead, .dead]) (by simp)).trans ?_
    refine (seq_nx el).trans ?_
    simp
    rfl)
def gU (U : List (Int × Int)) (x : Int) : Int := (lookI U x).getD 0
theorem gd_ik (U : List (Int × Int)) (j : Int) : (lookD (ik .int U) (.int j)).getD (.int 0) = .int (gU U j) := by unfold gU; rw [lookD_ik]; cases lookI U j <;> rfl
theorem put_ik (U : List (Int × Int)) (h : Int) : putD (ik .int U) (.int h) (.int (gU U h + 1)) = ik .int (addI U h 1) := putD_ik _ _ _ _
theorem ind_1 {h x n : Int} (h0 : 0 ≤ n) : (if x = h then (1 : Int) else 0) + ind (h + 1) x (h + 1 + n) = ind h x (h + (n + 1)) := by
  unfold ind
  split <;> split <;> split <;> omega
theorem ind_2 {h x n : Int} (h0 : 0 ≤ n) : (if x = h - 1 then (1 : Int) else 0) + ind (h - 1 - n) x (h - 1) = ind (h - (n + 1)) x h := by
  unfold ind
  split <;> split <;> split <;> omega
theorem ub1 {u0 u1 u4 u5 u6 : Cell} {U : List (Int × Int)} {h : Int} {k : Nat} (hz : U.length < 900000) : b__law_by_units_1 [u0, u1, .od false (ik .int U), .sh (.int (h)), u4, u5, u6, .sh (nI k)] = some (.nx [u0, u1, .od false (ik .int (addI U h 1)), .sh (.int (h + 1)), u4, u5, u6, .sh (nI k)]) := by
  have e1 := gd_ik U h
  have e2 := put_ik U h
  have l1 : (ik .int U).length < sizeLine := by rw [ik_len]; unfold sizeLine; omega
  generalize gU U h = g at *
  generalize ik .int (addI U h 1) = D1 at *
  generalize ik .int U = D0 at *
  generalize nI k = K at *
  simp [b__law_by_units_1, e1, e2, l1]
theorem ub3 {u0 u1 u4 u5 u6 : Cell} {U : List (Int × Int)} {h : Int} {k : Nat} (hz : U.length < 900000) : b__law_by_units_3 [u0, u1, .od false (ik .int U), .sh (.int (h)), u4, u5, u6, .sh (nI k)] = some (.nx [u0, u1, .od false (ik .int (addI U h 1)), .sh (.int (h + 1)), u4, u5, u6, .sh (nI k)]) := by
  have e1 := gd_ik U h
  have e2 := put_ik U h
  have l1 : (ik .int U).length < sizeLine := by rw [ik_len]; unfold sizeLine; omega
  generalize gU U h = g at *
  generalize ik .int (addI U h 1) = D1 at *
  generalize ik .int U = D0 at *
  generalize nI k = K at *
  simp [b__law_by_units_3, e1, e2, l1]
theorem ub2 {u0 u1 u4 u5 u6 : Cell} {U : List (Int × Int)} {h : Int} {k : Nat} (hz : U.length < 900000) : b__law_by_units_2 [u0, u1, .od false (ik .int U), .sh (.int (h)), u4, u5, u6, .sh (nI k)] = some (.nx [u0, u1, .od false (ik .int (addI U (h - 1) 1)), .sh (.int (h - 1)), u4, u5, u6, .sh (nI k)]) := by
  have e1 := gd_ik U (h - 1)
  have e2 := put_ik U (h - 1)
  have l1 : (ik .int U).length < sizeLine := by rw [ik_len]; unfold sizeLine; omega
  generalize hh : h - 1 = h' at *
  generalize hg : gU U h' = g at *
  generalize ik .int (addI U h' 1) = D1 at *
  generalize ik .int U = D0 at *
  generalize nI k = K at *
  unfold b__law_by_units_2
  refine (seq_nx (ρ1 := [u0, u1, .od false (D0), .sh (.int (h')), u4, u5, u6, .sh (K)]) (by simp [hh])).trans ?_
  simp [e1, e2, l1]


theorem gU_add (U : List (Int × Int)) (h x : Int) : gU (addI U h 1) x = gU U x + if x = h then 1 else 0 := look_add U h 1 x
theorem addI_len (U : List (Int × Int)) (h v : Int) : (addI U h v).length ≤ U.length + 1 := by unfold addI; exact putI_len _ _ _
theorem ind_nn (h x : Int) : ind h x (h + ((0 : Nat) : Int)) = 0 := by unfold ind; rw [if_neg (by omega)]
theorem ind_mm (h x : Int) : ind (h - ((0 : Nat) : Int)) x h = 0 := by unfold ind; rw [if_neg (by omega)]
theorem w_u1 {u0 u1 u4 u5 u6 : Cell} {xs0 : List D} : ∀ (n k : Nat) (U : List (Int × Int)) (h : Int) (u7 : Cell), U.length + n ≤ 800000 → ∃ U', U'.length ≤ U.length + n ∧ (∀ x, gU U' x = gU U x + ind h x (h + (n : Int))) ∧
    loopF none xs0 [7] (fun z ρ => (gNm 7 z ρ).bind b__law_by_units_1) ((List.range' k n).map nI) [u0, u1, .od false (ik .int U), .sh (.int (h)), u4, u5, u6, u7] = some (.nx [u0, u1, .od false (ik .int U'), .sh (.int (h + (n : Int))), u4, u5, u6, .dead]) := by
  intro n
  induction n with
  | zero =>
    intro k U h u7 _
    refine ⟨U, by omega, fun x => by rw [ind_nn, Int.add_zero], ?_⟩
    rw [show h + ((0 : Nat) : Int) = h by omega]
    exact loop_nil rfl
  | succ n ih =>
    intro k U h u7 hz
    have hl := addI_len U h 1
    obtain ⟨U', h1, h2, e⟩ := ih (k + 1) (addI U h 1) (h + 1) (.sh (nI k)) (by omega)
    refine ⟨U', by omega, fun x => ?_, ?_⟩
    · have := ind_1 (h := h) (x := x) (n := (n : Int)) (by omega)
      rw [h2, gU_add, Int.natCast_add]
      show _ = gU U x + ind h x (h + ((n : Int) + 1))
      omega
    · rw [List.range'_succ, List.map_cons, show h + ((n + 1 : Nat) : Int) = h + 1 + (n : Int) by omega]
      exact (loop_cons rfl (bind_gnm.trans (ub1 (by omega)))).trans e
theorem w_u3 {u0 u1 u4 u5 u6 : Cell} {xs0 : List D} : ∀ (n k : Nat) (U : List (Int × Int)) (h : Int) (u7 : Cell), U.length + n ≤ 800000 → ∃ U', U'.length ≤ U.length + n ∧ (∀ x, gU U' x = gU U x + ind h x (h + (n : Int))) ∧
    loopF none xs0 [7] (fun z ρ => (gNm 7 z ρ).bind b__law_by_units_3) ((List.range' k n).map nI) [u0, u1, .od false (ik .int U), .sh (.int (h)), u4, u5, u6, u7] = some (.nx [u0, u1, .od false (ik .int U'), .sh (.int (h + (n : Int))), u4, u5, u6, .dead]) := by
  intro n
  induction n with
  | zero =>
    intro k U h u7 _
    refine ⟨U, by omega, fun x => by rw [ind_nn, Int.add_zero], ?_⟩
    rw [show h + ((0 : Nat) : Int) = h by omega]
    exact loop_nil rfl
  | succ n ih =>
    intro k U h u7 hz
    have hl := addI_len U h 1
    obtain ⟨U', h1, h2, e⟩ := ih (k + 1) (addI U h 1) (h + 1) (.sh (nI k)) (by omega)
    refine ⟨U', by omega, fun x => ?_, ?_⟩
    · have := ind_1 (h := h) (x := x) (n := (n : Int)) (by omega)
      rw [h2, gU_add, Int.natCast_add]
      show _ = gU U x + ind h x (h + ((n : Int) + 1))
      omega
    · rw [List.range'_succ, List.map_cons, show h + ((n + 1 : Nat) : Int) = h + 1 + (n : Int) by omega]
      exact (loop_cons rfl (bind_gnm.trans (ub3 (by omega)))).trans e
theorem w_u2 {u0 u1 u4 u5 u6 : Cell} {xs0 : List D} : ∀ (n k : Nat) (U : List (Int × Int)) (h : Int) (u7 : Cell), U.length + n ≤ 800000 → ∃ U', U'.length ≤ U.length + n ∧ (∀ x, gU U' x = gU U x + ind (h - (n : Int)) x h) ∧
    loopF none xs0 [7] (fun z ρ => (gNm 7 z ρ).bind b__law_by_units_2) ((List.range' k n).map nI) [u0, u1, .od false (ik .int U), .sh (.int (h)), u4, u5, u6, u7] = some (.nx [u0, u1, .od false (ik .int U'), .sh (.int (h - (n : Int))), u4, u5, u6, .dead]) := by
  intro n
  induction n with
  | zero =>
    intro k U h u7 _
    refine ⟨U, by omega, fun x => by rw [ind_mm, Int.add_zero], ?_⟩
    rw [show h - ((0 : Nat) : Int) = h by omega]
    exact loop_nil rfl
  | succ n ih =>
    intro k U h u7 hz
    have hl := addI_len U (h - 1) 1
    obtain ⟨U', h1, h2, e⟩ := ih (k + 1) (addI U (h - 1) 1) (h - 1) (.sh (nI k)) (by omega)
    refine ⟨U', by omega, fun x => ?_, ?_⟩
    · have := ind_2 (h := h) (x := x) (n := (n : Int)) (by omega)
      rw [h2, gU_add, Int.natCast_add]
      show _ = gU U x + ind (h - ((n : Int) + 1)) x h
      omega
    · rw [List.range'_succ, List.map_cons, show h - ((n + 1 : Nat) : Int) = h - 1 - (n : Int) by omega]
      exact (loop_cons rfl (bind_gnm.trans (ub2 (by omega)))).trans e
theorem iR_nZ {a : FA} {ρ ρ1 : En} {z : Int} (h : a ρ = some ([.int z], ρ1)) (h1 : -100000 ≤ z) (h2 : z ≤ 100000) : iR1 a ρ = some ((List.range' 0 z.toNat).map nI, ρ1) := by
  unfold iR1
  rw [h]
  show (if -(2 ^ 62) ≤ z ∧ z < 2 ^ 62 then some (rngD 0 z.toNat, ρ1) else none) = _
  rw [if_pos ⟨by omega, by omega⟩, ← List.range_eq_range']
  congr 2
  unfold rngD
  refine List.map_congr_left fun k _ => ?_
  show PyData.int (0 + (k : Int)) = PyData.int (k : Int)
  rw [Int.zero_add]
/-- by units -/
def un (x : Int) : Int → Int → List (Int × Int) → Int
  | _, _, [] => 0
  | h, done, (a, d) :: r => ind h x (h + (a - done)) + 2 * ind (h + (a - done) - d) x (h + (a - done)) + un x (h + (a - done)) (a + 2 * d) r
theorem un_cnt (L x : Int) : ∀ (ps : List (Int × Int)) (p done : Int), vld done ps = true → lst done ps ≤ L → un x p done (ps ++ [(L, 0)]) = cnt x (ways L p done ps)
  | [], p, done, hv, hl => by
    have hl : done ≤ L := hl
    show ind p x (p + (L - done)) + 2 * ind (p + (L - done) - 0) x (p + (L - done)) + 0 = cnt x [(p, p + L - done)]
    rw [cnt_cons]
    show _ = ind (min p (p + L - done)) x (max p (p + L - done)) + 0
    rw [Int.min_eq_left (by omega), Int.max_eq_right (by omega), show p + L - done = p + (L - done) by omega]
    have : ind (p + (L - done) - 0) x (p + (L - done)) = 0 := by unfold ind; rw [if_neg (by omega)]
    omega
  | (a, d) :: r, p, done, hv, hl => by
    obtain ⟨h1, h2, h3⟩ := vld_cons.mp hv
    have ih := un_cnt L x r (p + (a - done)) (a + 2 * d) h3 hl
    show ind p x (p + (a - done)) + 2 * ind (p + (a - done) - d) x (p + (a - done)) + un x (p + (a - done)) (a + 2 * d) (r ++ [(L, 0)]) = cnt x ((p, p + a - done) :: (p + (a - done), p + (a - done) - d) :: (p + (a - done) - d, p + (a - done)) :: ways L (p + (a - done)) (a + 2 * d) r)
    rw [cnt_cons, cnt_cons, cnt_cons, ih]
    show _ = ind (min p (p + a - done)) x (max p (p + a - done)) + (ind (min (p + (a - done)) (p + (a - done) - d)) x (max (p + (a - done)) (p + (a - done) - d)) + (ind (min (p + (a - done) - d) (p + (a - done))) x (max (p + (a - done) - d) (p + (a - done))) + _))
    rw [Int.min_eq_left (a := p) (by omega), Int.max_eq_right (a := p) (by omega), Int.min_eq_right (a := p + (a - done)) (by omega), Int.max_eq_left (a := p + (a - done)) (by omega), Int.min_eq_left (a := p + (a - done) - d) (by omega), Int.max_eq_right (a := p + (a - done) - d) (by omega), show p + a - done = p + (a - done) by omega]
    omega
def vl0 : Int → List (Int × Int) → Prop
  | _, [] => True
  | h, (a, d) :: r => h ≤ a ∧ a ≤ h + 1000 ∧ 0 ≤ d ∧ d ≤ 1000 ∧ vl0 (a + 2 * d) r
theorem w_u4 {u0 u1 : Cell} {xs0 : List D} : ∀ (qs : List (Int × Int)) (U : List (Int × Int)) (h done : Int) (u5 u6 u7 : Cell), vl0 done qs → U.length + 3000 * qs.length ≤ 700000 → ∃ (U' : List (Int × Int)) (h' d' : Int), (∀ x, gU U' x = gU U x + un x h done qs) ∧ 
    loopF none xs0 [5, 6, 7] (fun z ρ => (gTp 2 (gCn (gNm 5) (gCn (gNm 6) (gNl))) z ρ).bind b__law_by_units_4) (qs.map p2) [u0, u1, .od false (ik .int U), .sh (.int (h)), .sh (.int (done)), u5, u6, u7] = some (.nx [u0, u1, .od false (ik .int U'), .sh (.int (h')), .sh (.int (d')), .dead, .dead, .dead]) := by
  intro qs
  induction qs with
  | nil => intro U h done u5 u6 u7 _ _; exact ⟨U, h, done, fun x => by show _ = _ + (0 : Int); omega, loop_nil rfl⟩
  | cons q r ih =>
    intro U h done u5 u6 u7 hv hz
    obtain ⟨a, d⟩ := q
    obtain ⟨v1, v2, v3, v4, v5⟩ := hv
    rw [List.length_cons] at hz
    obtain ⟨U1, l1, g1, w1⟩ := w_u1 (u0 := u0) (u1 := u1) (u4 := .sh (.int done)) (u5 := .sh (.int a)) (u6 := .sh (.int d)) (xs0 := (List.range' 0 (a - done).toNat).map nI) (a - done).toNat 0 U h .dead (by omega)
    rw [show (((a - done).toNat : Nat) : Int) = a - done by omega] at w1 g1
    obtain ⟨U2, l2, g2, w2⟩ := w_u2 (u0 := u0) (u1 := u1) (u4 := .sh (.int done)) (u5 := .sh (.int a)) (u6 := .sh (.int d)) (xs0 := (List.range' 0 d.toNat).map nI) d.toNat 0 U1 (h + (a - done)) .dead (by omega)
    rw [show ((d.toNat : Nat) : Int) = d by omega] at w2 g2
    obtain ⟨U3, l3, g3, w3⟩ := w_u3 (u0 := u0) (u1 := u1) (u4 := .sh (.int done)) (u5 := .sh (.int a)) (u6 := .sh (.int d)) (xs0 := (List.range' 0 d.toNat).map nI) d.toNat 0 U2 (h + (a - done) - d) .dead (by omega)
    rw [show ((d.toNat : Nat) : Int) = d by omega, show h + (a - done) - d + d = h + (a - done) by omega] at w3 g3
    obtain ⟨U', h', d', gg, e⟩ := ih U3 (h + (a - done)) (a + 2 * d) (.sh (.int a)) (.sh (.int d)) .dead v5 (by omega)
    have el1 : l__law_by_units_1 [u0, u1, .od false (ik .int U), .sh (.int (h)), .sh (.int (done)), .sh (.int (a)), .sh (.int (d)), .dead] = some (.nx [u0, u1, .od false (ik .int U1), .sh (.int (h + (a - done))), .sh (.int (done)), .sh (.int (a)), .sh (.int (d)), .dead]) := for_hx ll__law_by_units_1 (iR_nZ (z := a - done) (by simp) (by omega) (by omega)) w1
    have el2 : l__law_by_units_2 [u0, u1, .od false (ik .int U1), .sh (.int (h + (a - done))), .sh (.int (done)), .sh (.int (a)), .sh (.int (d)), .dead] = some (.nx [u0, u1, .od false (ik .int U2), .sh (.int (h + (a - done) - d)), .sh (.int (done)), .sh (.int (a)), .sh (.int (d)), .dead]) := for_hx ll__law_by_units_2 (iR_nZ (z := d) (by simp) (by omega) (by omega)) w2
    have el3 : l__law_by_units_3 [u0, u1, .od false (ik .int U2), .sh (.int (h + (a - done) - d)), .sh (.int (done)), .sh (.int (a)), .sh (.int (d)), .dead] = some (.nx [u0, u1, .od false (ik .int U3), .sh (.int (h + (a - done))), .sh (.int (done)), .sh (.int (a)), .sh (.int (d)), .dead]) := for_hx ll__law_by_units_3 (iR_nZ (z := d) (by simp) (by omega) (by omega)) w3
    refine ⟨U', h', d', fun x => ?_, ?_⟩
    · rw [gg, g3, g2, g1]
      show _ = gU U x + (ind h x (h + (a - done)) + 2 * ind (h + (a - done) - d) x (h + (a - done)) + un x (h + (a - done)) (a + 2 * d) r)
      omega
    · have k2 := m2 d
      rw [List.map_cons]
      refine (loop_cons (ρ' := [u0, u1, .od false (ik .int U3), .sh (.int (h + (a - done))), .sh (.int (a + 2 * d)), .sh (.int (a)), .sh (.int (d)), .dead]) rfl ?_).trans e
      show b__law_by_units_4 [u0, u1, .od false (ik .int U), .sh (.int (h)), .sh (.int (done)), .sh (.int (a)), .sh (.int (d)), .dead] = _
      unfold b__law_by_units_4
      refine (seq_nx el1).trans ?_
      refine (seq_nx el2).trans ?_
      refine (seq_nx el3).trans ?_
      clear e w1 w2 w3 el1 el2 el3
      generalize ik .int U3 = D3 at *
      simp [k2]
theorem vl0_of {L : Int} : ∀ (ps : List (Int × Int)) (h : Int), vld h ps = true → lst h ps ≤ L → L ≤ h + 1000 → vl0 h (ps ++ [(L, 0)])
  | [], h, hv, hl, hb => by
    have hl : h ≤ L := hl
    exact ⟨hl, hb, by omega, by omega, trivial⟩
  | (a, d) :: r, h, hv, hl, hb => by
    obtain ⟨h1, h2, h3⟩ := vld_cons.mp hv
    have hl : lst (a + 2 * d) r ≤ L := hl
    obtain ⟨q1, q2⟩ := vld_lst r _ h3
    exact ⟨h1, by omega, by omega, by omega, vl0_of r (a + 2 * d) h3 hl (by omega)⟩
theorem v_units {L : Int} {ps : List (Int × Int)} (hv : vld 0 ps = true) (hl : lst 0 ps ≤ L) (hb : L ≤ 1000) (hz : ps.length ≤ 100) : ∃ U : List (Int × Int), (∀ x, gU U x = layN L x ps) ∧ m__law_by_units [.sh (.int L), .sh (pD ps)] = some (.od false (ik .int U), []) := by
  have v0 := vl0_of ps 0 hv hl (by omega)
  obtain ⟨U, h', d', g, w⟩ := w_u4 (u0 := .sh (.int L)) (u1 := .sh (pD ps)) (xs0 := (ps ++ [(L, 0)]).map p2) (ps ++ [(L, 0)]) [] 0 0 .dead .dead .dead v0 (by simp; omega)
  refine ⟨U, fun x => ?_, ?_⟩
  · rw [g, un_cnt L x ps 0 0 hv hl, cnt_lay hv hl]
    show (0 : Int) + _ = _
    omega
  · have ea : dAddA (pD ps) (.tuple [.tuple [.int L, .int 0]]) = some (.tuple ((ps ++ [(L, 0)]).map p2)) := by
      unfold pD
      rw [ev_addT, if_pos (by rw [List.length_map]; show _ + 1 ≤ sizeLine; unfold sizeLine; omega), List.map_append]
      rfl
    have el : l__law_by_units_4 [.sh (.int (L)), .sh (pD ps), .od false ([]), .sh (.int (0)), .sh (.int (0)), .dead, .dead, .dead] = some (.nx [.sh (.int (L)), .sh (pD ps), .od false (ik .int U), .sh (.int (h')), .sh (.int (d')), .dead, .dead, .dead]) := by
      refine for_hx ll__law_by_units_4 ?_ w
      clear w
      generalize (ps ++ [(L, 0)]).map p2 = Q at *
      generalize pD ps = P at *
      generalize dAddA = f at *
      have z2 : 2 ≤ sizeLine := by decide
      have z1 : 1 ≤ sizeLine := by decide
      simp [iSq, ea, z1, z2]
      rfl
    clear w ea g
    generalize ik .int U = D1 at *
    generalize pD ps = P at *
    exact fn_ret (by
      show s__law_by_units [.sh (.int (L)), .sh (P), .dead, .dead, .dead, .dead, .dead, .dead] = _
      unfold s__law_by_units
      refine (seq_nx (ρ1 := [.sh (.int (L)), .sh (P), .od false ([]), .dead, .dead, .dead, .dead, .dead]) (by simp)).trans ?_
      refine (seq_nx (ρ1 := [.sh (.int (L)), .sh (P), .od false ([]), .sh (.int (0)), .dead, .dead, .dead, .dead]) (by simp)).trans ?_
      refine (seq_nx (ρ1 := [.sh (.int (L)), .sh (P), .od false ([]), .sh (.int (0)), .sh (.int (0)), .dead, .dead, .dead]) (by simp)).trans ?_
      refine (seq_nx el).trans ?_
      rfl)


/-! ## layers at places -/
theorem add_l {a b : List Int} (h : a.length + b.length ≤ 100000) : dAddA (.list (is a)) (.list (is b)) = some (.list (is (a ++ b))) := by
  rw [ev_addL, is_len, is_len, if_pos (by unfold sizeLine; omega), is_app]
theorem w_pl {u0 u1 u2 u3 u4 u8 u9 : Cell} {xs0 : List D} : ∀ (ps : List (Int × Int)) (xs : List Int) (u6 u7 : Cell), xs.length + 4 * ps.length ≤ 1000 → ∃ xs' : List Int, xs'.length ≤ 1000 ∧ loopF none xs0 [6, 7] (fun z ρ => (gTp 2 (gCn (gNm 6) (gCn (gNm 7) (gNl))) z ρ).bind b__law_are_layers_right_1) (ps.map p2) [u0, u1, u2, u3, u4, .sh (.list (is xs)), u6, u7, u8, u9, .dead] = some (.nx [u0, u1, u2, u3, u4, .sh (.list (is xs')), .dead, .dead, u8, u9, .dead]) := by
  intro ps
  induction ps with
  | nil => intro xs u6 u7 h; exact ⟨xs, by simp at h; exact h, loop_nil rfl⟩
  | cons q r ih =>
    intro xs u6 u7 h
    obtain ⟨a, d⟩ := q
    rw [List.length_cons] at h
    obtain ⟨xs', hl, e⟩ := ih (xs ++ [a, a - 1, a - d, a - d - 1]) (.sh (.int a)) (.sh (.int d)) (by simp; omega)
    have ea : dAddA (.list (is xs)) (.list [.int a, .int (a - 1), .int (a - d), .int (a - d - 1)]) = some (.list (is (xs ++ [a, a - 1, a - d, a - d - 1]))) := add_l (b := [a, a - 1, a - d, a - d - 1]) (by simp; omega)
    have z4 : 4 ≤ sizeLine := by decide
    refine ⟨xs', hl, ?_⟩
    rw [List.map_cons]
    refine (loop_cons (ρ' := [u0, u1, u2, u3, u4, .sh (.list (is (xs ++ [a, a - 1, a - d, a - d - 1]))), .sh (.int (a)), .sh (.int (d)), u8, u9, .dead]) rfl ?_).trans e
    show b__law_are_layers_right_1 [u0, u1, u2, u3, u4, .sh (.list (is xs)), .sh (.int (a)), .sh (.int (d)), u8, u9, .dead] = _
    clear e ih
    generalize is (xs ++ [a, a - 1, a - d, a - d - 1]) = X2 at *
    generalize is xs = X at *
    unfold b__law_are_layers_right_1
    generalize dAddA = f at *
    simp [ea, z4]
theorem lr_body {l : Int} {ps : List (Int × Int)} {s x : Int} {U : List (Int × Int)} {u3 u5 u6 u7 u9 : Cell} (hz : ps.length ≤ 1000) (hv : vld 0 ps = true) (hl : lst 0 ps ≤ l) (hU : s = 1 → gU U x = layN l x ps) :
    b__law_are_layers_right_2 [.sh (.int (l)), .sh (pD ps), .sh (.int (s)), u3, .od false (ik .int U), u5, u6, u7, .sh (.int (x)), u9, .dead] = some (.nx [.sh (.int (l)), .sh (pD ps), .sh (.int (s)), u3, .od false (ik .int U), u5, u6, u7, .sh (.int (x)), .sh (.int (layN l x ps)), .dead]) := by
  have e1 := v_llay (l := l) (x := x) hz
  have e2 := v_lap (l := l) (x := x) hz
  rw [cnt_lay hv hl] at e2
  have e3 := gd_ik U x
  have s1 := same_int (layN l x ps)
  unfold b__law_are_layers_right_2
  generalize layN l x ps = n at *
  generalize ik .int U = D0 at *
  generalize pD ps = P at *
  refine (seq_nx (ρ1 := [.sh (.int (l)), .sh (P), .sh (.int (s)), u3, .od false (D0), u5, u6, u7, .sh (.int (x)), .sh (.int (n)), .dead]) (by simp [e1])).trans ?_
  by_cases c : s = 1
  · rw [hU c] at e3
    simp [c, e3, e2, s1]
  · simp [c, e2, s1]
theorem w_lr {l : Int} {ps : List (Int × Int)} {s : Int} {U : List (Int × Int)} {u3 u5 u6 u7 : Cell} (hz : ps.length ≤ 1000) (hv : vld 0 ps = true) (hl : lst 0 ps ≤ l) (hU : s = 1 → ∀ x, gU U x = layN l x ps) {xs0 : List D} : ∀ (xs : List Int) (u8 u9 : Cell),
    loopF none xs0 [8, 9] (fun z ρ => (gNm 8 z ρ).bind b__law_are_layers_right_2) (is xs) [.sh (.int (l)), .sh (pD ps), .sh (.int (s)), u3, .od false (ik .int U), u5, u6, u7, u8, u9, .dead] = some (.nx [.sh (.int (l)), .sh (pD ps), .sh (.int (s)), u3, .od false (ik .int U), u5, u6, u7, .dead, .dead, .dead]) := by
  intro xs
  induction xs with
  | nil => intro u8 u9; exact loop_nil rfl
  | cons x r ih =>
    intro u8 u9
    rw [is_cons]
    exact (loop_cons rfl (bind_gnm.trans (lr_body hz hv hl (fun c => hU c x)))).trans (ih (.sh (.int x)) (.sh (.int (layN l x ps))))
theorem c_lrs {l : Int} {ps : List (Int × Int)} {s : Int} (h : ps.length ≤ 1000) : k__law_are_layers_right_1 [.sh (.int (l)), .sh (pD ps), .sh (.int (s)), .dead, .dead, .dead, .dead, .dead, .dead, .dead, .dead] = some (.ol (ps.map fun p => PyData.int p.2), [.sh (.int (l)), .sh (pD ps), .sh (.int (s)), .dead, .dead, .dead, .dead, .dead, .dead, .dead, .dead]) := by
  rw [kk__law_are_layers_right_1]
  refine ev_compA p2 (fun p => .int p.2) ps (ρi := [.sh (.int (l)), .sh (pD ps), .sh (.int (s)), .dead, .dead, .dead, .dead, .dead, .dead, .dead, .dead]) (ρ0 := [.sh (.int (l)), .sh (pD ps), .sh (.int (s)), .dead, .dead, .dead, .dead, .dead, .dead, .dead, .dead]) rfl rfl (by unfold sizeLine; omega) fun p hp => ?_
  refine ⟨[.sh (.int (l)), .sh (pD ps), .sh (.int (s)), .dead, .dead, .dead, .dead, .dead, .dead, .dead, .sh (p2 p)], [.sh (.int (l)), .sh (pD ps), .sh (.int (s)), .dead, .dead, .dead, .dead, .dead, .dead, .dead, .sh (p2 p)], rfl, ?_, rfl⟩
  generalize pD ps = P at *
  simp [p2]
def plc : List Int := (List.range 26).map fun k : Nat => (-6 : Int) + (k : Int)
theorem z_frz {f : FN} {ρ : En} {G : List D} (h : f ρ = some (.ol G, ρ)) : eFrz f ρ = some (.list G, ρ) := by
  simp [h]
theorem e_plc {ρ : En} : eFrz (eLRg (gR2 (eUn dNeg (eC (.int 6))) (eC (.int 20)))) ρ = some (.list (is plc), ρ) := by
  have e : gR2 (eUn dNeg (eC (.int 6))) (eC (.int 20)) ρ = some ((-6, 20), ρ) := rfl
  have r : rgOk (-6) 20 = true := by decide
  have d : rngD (-6) ((20 : Int) - -6).toNat = is plc := by
    unfold rngD plc is
    rw [List.map_map]
    rfl
  have f : eLRg (gR2 (eUn dNeg (eC (.int 6))) (eC (.int 20))) ρ = some (.ol (is plc), ρ) := by
    rw [ev_lrg, e, Option.bind_some]
    rw [if_pos r, d]
  exact z_frz f
theorem v_lright {l s : Int} {ps : List (Int × Int)} (hz : ps.length ≤ 100) (hv : vld 0 ps = true) (hl : lst 0 ps ≤ l) (hs : 1 ≤ s) (hb : s = 1 → l ≤ 1000) : m__law_are_layers_right [.sh (.int l), .sh (pD ps), .sh (.int s)] = some (.sh (.bool true), []) := by
  have ek := c_lrs (l := l) (s := s) (ps := ps) (by omega)
  have es := sumD_is ps
  have k2 := m2 (sumD ps)
  have ep := v_plen (l := l) (ps := ps) (by omega)
  have s1 := same_int (l - 2 * sumD ps)
  by_cases c : s = 1
  · obtain ⟨U, gu, eu⟩ := v_units hv hl (hb c) hz
    have w := w_lr (u3 := .sh (.int (l - 2 * sumD ps))) (u5 := .sh (.list (is plc))) (u6 := .dead) (u7 := .dead) (s := s) (by omega) hv hl (fun _ => gu) (xs0 := is plc) plc .dead .dead
    have el : l__law_are_layers_right_2 [.sh (.int (l)), .sh (pD ps), .sh (.int (s)), .sh (.int (l - 2 * sumD ps)), .od false (ik .int U), .sh (.list (is plc)), .dead, .dead, .dead, .dead, .dead] = some (.nx [.sh (.int (l)), .sh (pD ps), .sh (.int (s)), .sh (.int (l - 2 * sumD ps)), .od false (ik .int U), .sh (.list (is plc)), .dead, .dead, .dead, .dead, .dead]) := for_hx ll__law_are_layers_right_2 rfl w
    have epl := fun ρ : En => e_plc (ρ := ρ)
    clear w gu
    generalize is plc = X at *
    generalize ik .int U = D0 at *
    generalize (ps.map fun p => PyData.int p.2) = S at *
    generalize pD ps = P at *
    generalize sumD ps = q at *
    generalize hL : l - 2 * q = L0 at *
    subst c
    exact fn_ret (by
      show s__law_are_layers_right [.sh (.int (l)), .sh (P), .sh (.int (1)), .dead, .dead, .dead, .dead, .dead, .dead, .dead, .dead] = _
      unfold s__law_are_layers_right
      refine (seq_nx (ρ1 := [.sh (.int (l)), .sh (P), .sh (.int (1)), .sh (.int (L0)), .dead, .dead, .dead, .dead, .dead, .dead, .dead]) (by simp [ek, es, k2, hL])).trans ?_
      refine (seq_nx (if_f (ρ1 := [.sh (.int (l)), .sh (P), .sh (.int (1)), .sh (.int (L0)), .dead, .dead, .dead, .dead, .dead, .dead, .dead]) (by simp [ep, s1]))).trans ?_
      refine (seq_nx (ρ1 := [.sh (.int (l)), .sh (P), .sh (.int (1)), .sh (.int (L0)), .od false ([]), .dead, .dead, .dead, .dead, .dead, .dead]) (by simp)).trans ?_
      refine (seq_nx (ρ1 := [.sh (.int (l)), .sh (P), .sh (.int (1)), .sh (.int (L0)), .od false (D0), .dead, .dead, .dead, .dead, .dead, .dead]) (by simp [eu]; rfl)).trans ?_
      refine (seq_nx (ρ1 := [.sh (.int (l)), .sh (P), .sh (.int (1)), .sh (.int (L0)), .od false (D0), .sh (.list (X)), .dead, .dead, .dead, .dead, .dead]) (by unfold sSet; rw [epl]; rfl)).trans ?_
      refine (seq_nx (if_f (ρ1 := [.sh (.int (l)), .sh (P), .sh (.int (1)), .sh (.int (L0)), .od false (D0), .sh (.list (X)), .dead, .dead, .dead, .dead, .dead]) (by simp))).trans ?_
      refine (seq_nx el).trans ?_
      simp
      rfl)
  · have hq : Builtin.divisionGoesByPylong (l - 2 * sumD ps) 2 = false := PyProof.noPylong_small (by decide)
    obtain ⟨xs', hxl, wp⟩ := w_pl (u0 := .sh (.int l)) (u1 := .sh (pD ps)) (u2 := .sh (.int s)) (u3 := .sh (.int (l - 2 * sumD ps))) (u4 := .od false (ik .int [])) (u8 := .dead) (u9 := .dead) (xs0 := (ps.take 3).map p2) (ps.take 3) [0, -1, l - 2 * sumD ps, l - 2 * sumD ps - 1, Int.fdiv (l - 2 * sumD ps) 2] .dead .dead (by rw [List.length_take]; simp; omega)
    have w := w_lr (u3 := .sh (.int (l - 2 * sumD ps))) (u5 := .sh (.list (is xs'))) (u6 := .dead) (u7 := .dead) (s := s) (U := []) (by omega) hv hl (fun z => absurd z c) (xs0 := is xs') xs' .dead .dead
    have el : l__law_are_layers_right_2 [.sh (.int (l)), .sh (pD ps), .sh (.int (s)), .sh (.int (l - 2 * sumD ps)), .od false ([]), .sh (.list (is xs')), .dead, .dead, .dead, .dead, .dead] = some (.nx [.sh (.int (l)), .sh (pD ps), .sh (.int (s)), .sh (.int (l - 2 * sumD ps)), .od false ([]), .sh (.list (is xs')), .dead, .dead, .dead, .dead, .dead]) := for_hx ll__law_are_layers_right_2 rfl w
    have ec : cutD (ps.map p2) none (some 3) = (ps.take 3).map p2 := by
      rw [cutD_eq, cutL_map, cutL_to (by decide)]; rfl
    have el1 : l__law_are_layers_right_1 [.sh (.int (l)), .sh (pD ps), .sh (.int (s)), .sh (.int (l - 2 * sumD ps)), .od false ([]), .sh (.list (is [0, -1, l - 2 * sumD ps, l - 2 * sumD ps - 1, Int.fdiv (l - 2 * sumD ps) 2])), .dead, .dead, .dead, .dead, .dead] = some (.nx [.sh (.int (l)), .sh (pD ps), .sh (.int (s)), .sh (.int (l - 2 * sumD ps)), .od false ([]), .sh (.list (is xs')), .dead, .dead, .dead, .dead, .dead]) := by
      refine for_hx ll__law_are_layers_right_1 ?_ wp
      clear wp w el
      unfold pD
      generalize is [0, -1, l - 2 * sumD ps, l - 2 * sumD ps - 1, Int.fdiv (l - 2 * sumD ps) 2] = X at *
      generalize (ps.take 3).map p2 = P3 at *
      generalize ps.map p2 = P at *
      generalize l - 2 * sumD ps = L0 at *
      simp [iSq, ec]
      rfl
    have epl := fun ρ : En => e_plc (ρ := ρ)
    have c1 : 1 < s := by omega
    clear w wp ec
    have ex : is [0, -1, l - 2 * sumD ps, l - 2 * sumD ps - 1, Int.fdiv (l - 2 * sumD ps) 2] = [.int 0, .int (-1), .int (l - 2 * sumD ps), .int (l - 2 * sumD ps - 1), .int (Int.fdiv (l - 2 * sumD ps) 2)] := rfl
    rw [ex] at el1
    generalize is plc = X0 at *
    generalize is xs' = X at *
    generalize (ps.map fun p => PyData.int p.2) = S at *
    generalize pD ps = P at *
    generalize sumD ps = q at *
    generalize hL : l - 2 * q = L0 at *
    have z5 : 5 ≤ sizeLine := by decide
    exact fn_ret (by
      show s__law_are_layers_right [.sh (.int (l)), .sh (P), .sh (.int (s)), .dead, .dead, .dead, .dead, .dead, .dead, .dead, .dead] = _
      unfold s__law_are_layers_right
      refine (seq_nx (ρ1 := [.sh (.int (l)), .sh (P), .sh (.int (s)), .sh (.int (L0)), .dead, .dead, .dead, .dead, .dead, .dead, .dead]) (by simp [ek, es, k2, hL])).trans ?_
      refine (seq_nx (if_f (ρ1 := [.sh (.int (l)), .sh (P), .sh (.int (s)), .sh (.int (L0)), .dead, .dead, .dead, .dead, .dead, .dead, .dead]) (by simp [ep, s1]))).trans ?_
      refine (seq_nx (ρ1 := [.sh (.int (l)), .sh (P), .sh (.int (s)), .sh (.int (L0)), .od false ([]), .dead, .dead, .dead, .dead, .dead, .dead]) (by simp)).trans ?_
      refine (seq_nx (if_f (ρ1 := [.sh (.int (l)), .sh (P), .sh (.int (s)), .sh (.int (L0)), .od false ([]), .dead, .dead, .dead, .dead, .dead, .dead]) (by simp [c]))).trans ?_
      refine (seq_nx (ρ1 := [.sh (.int (l)), .sh (P), .sh (.int (s)), .sh (.int (L0)), .od false ([]), .sh (.list (X0)), .dead, .dead, .dead, .dead, .dead]) (by unfold sSet; rw [epl]; rfl)).trans ?_
      refine (seq_nx (ρ1 := [.sh (.int (l)), .sh (P), .sh (.int (s)), .sh (.int (L0)), .od false ([]), .sh (.list (X)), .dead, .dead, .dead, .dead, .dead]) ((if_t (ρ1 := [.sh (.int (l)), .sh (P), .sh (.int (s)), .sh (.int (L0)), .od false ([]), .sh (.list (X0)), .dead, .dead, .dead, .dead, .dead]) (by simp [c1])).trans ?_)).trans ?_
      · refine (seq_nx (ρ1 := [.sh (.int (l)), .sh (P), .sh (.int (s)), .sh (.int (L0)), .od false ([]), .sh (.list ([.int 0, .int (-1), .int L0, .int (L0 - 1), .int (Int.fdiv L0 2)])), .dead, .dead, .dead, .dead, .dead]) (by simp [z5, hq])).trans ?_
        exact el1
      · refine (seq_nx el).trans ?_
        simp
        rfl)


/-! ## what raising and catching means, for simp -/
@[simp] theorem ev_kn {b : Bool} {ρ : En} : eKn b ρ = some (.bool b, ρ) := rfl
@[simp] theorem ev_try {j i : Nat} {m : FnX} {fa : FA} {fs : FS} {ρ : En} : sTry j i m fa fs ρ = (fa ρ).bind fun p => (m p.1).bind fun b => if b = true then (if i < p.2.length then (fs (p.2.set i .dead)).bind fun o => match o with
  | .rt c ρ' => some (.rt c ρ')
  | _ => none else none) else some (.nx (p.2.set j (.sh .none))) := rfl
@[simp] theorem ev_ifret {fc : FT} {fe : FE} {g : FS} {ρ : En} : sIfRet fc fe g ρ = (fc ρ).bind fun p => if p.1 = true then sRet fe p.2 else g p.2 := rfl
@[simp] theorem ev_xend {ρ : En} : xEnd ρ = some false := rfl
@[simp] theorem ev_xrz {c : FT} {g : FX} {ρ : En} : xRz c g ρ = (c ρ).bind fun p => if p.1 = true then some true else g p.2 := rfl
@[simp] theorem ev_xseq {f : FS} {g : FX} {ρ : En} : xSeq f g ρ = (f ρ).bind fun o => match o with
  | .nx ρ' => g ρ'
  | _ => none := rfl
theorem ev_notV {fa : FE} {ρ : En} : eNotV fa ρ = (fa ρ).bind fun p => (truD p.1).map fun k => (.bool (!k), p.2) := rfl

/-! ## checked -/
theorem len_pD (ps : List (Int × Int)) : cLen [pD ps] = some (.int (ps.length : Int)) := by
  unfold pD
  show some (PyData.int ((ps.map p2).length : Int)) = _
  rw [List.length_map]
theorem ev_leB (a b : Int) : bLe (.int a) (.int b) = some (decide (a ≤ b)) := rfl
theorem ev_gtB (a b : Int) : bGt (.int a) (.int b) = some (decide (b < a)) := rfl
theorem w_apl {l : Int} {P : D} {xs0 : List D} : ∀ (ps : List (Int × Int)) (h : Int) (u3 u4 : Cell), ∃ ρ', loopF none xs0 [3, 4] (fun z ρ => (gTp 2 (gCn (gNm 3) (gCn (gNm 4) (gNl))) z ρ).bind b__law_are_pleats_1) (ps.map p2) [.sh (.int (l)), .sh (P), .sh (.int (h)), u3, u4] = some (if vld h ps = true then .nx [.sh (.int (l)), .sh (P), .sh (.int (lst h ps)), .dead, .dead] else .rt (.sh (.bool false)) ρ') := by
  intro ps
  induction ps with
  | nil => intro h u3 u4; exact ⟨[], loop_nil rfl⟩
  | cons q r ih =>
    intro h u3 u4
    obtain ⟨a, d⟩ := q
    rw [List.map_cons]
    have k2 := m2 d
    by_cases c1 : a < h
    · refine ⟨[.sh (.int (l)), .sh (P), .sh (.int (h)), .sh (.int (a)), .sh (.int (d))], ?_⟩
      have : ¬ vld h ((a, d) :: r) = true := fun z => by have := vld_cons.mp z; omega
      rw [if_neg this]
      refine loop_rt rfl ?_
      show b__law_are_pleats_1 [.sh (.int (l)), .sh (P), .sh (.int (h)), .sh (.int (a)), .sh (.int (d))] = _
      simp [b__law_are_pleats_1, c1]
    · by_cases c2 : d < 1
      · refine ⟨[.sh (.int (l)), .sh (P), .sh (.int (h)), .sh (.int (a)), .sh (.int (d))], ?_⟩
        have : ¬ vld h ((a, d) :: r) = true := fun z => by have := vld_cons.mp z; omega
        rw [if_neg this]
        refine loop_rt rfl ?_
        show b__law_are_pleats_1 [.sh (.int (l)), .sh (P), .sh (.int (h)), .sh (.int (a)), .sh (.int (d))] = _
        simp [b__law_are_pleats_1, c1, c2]
      · obtain ⟨ρ', e⟩ := ih (a + 2 * d) (.sh (.int a)) (.sh (.int d))
        refine ⟨ρ', ?_⟩
        have hv : vld h ((a, d) :: r) = vld (a + 2 * d) r := by
          show (!(decide (a < h) || decide (d < 1)) && vld (a + 2 * d) r) = _
          rw [decide_eq_false c1, decide_eq_false c2]; rfl
        rw [hv]
        refine (loop_cons (ρ' := [.sh (.int (l)), .sh (P), .sh (.int (a + 2 * d)), .sh (.int (a)), .sh (.int (d))]) rfl ?_).trans e
        show b__law_are_pleats_1 [.sh (.int (l)), .sh (P), .sh (.int (h)), .sh (.int (a)), .sh (.int (d))] = _
        simp [b__law_are_pleats_1, c1, c2, k2]
theorem v_apl {l : Int} {ps : List (Int × Int)} : m__law_are_pleats [.sh (.int l), .sh (pD ps)] = some (.sh (.bool (okP l ps)), []) := by
  obtain ⟨ρ', w⟩ := w_apl (l := l) (P := pD ps) (xs0 := ps.map p2) ps 0 .dead .dead
  have el : l__law_are_pleats_1 [.sh (.int (l)), .sh (pD ps), .sh (.int (0)), .dead, .dead] = _ := for_hx ll__law_are_pleats_1 rfl w
  have hl := len_pD ps
  unfold okP
  have e0 : decide (ps.length = 0) = ((ps.length : Int) == 0) := by rw [Bool.eq_iff_iff, decide_eq_true_eq, beq_iff_eq]; omega
  rw [e0]
  clear w e0
  generalize pD ps = P at *
  generalize lst 0 ps = L at *
  generalize (ps.length : Int) = n at *
  cases hv : vld 0 ps with
  | true =>
    rw [hv, if_pos rfl] at el
    rw [Bool.true_and]
    cases hn : (n == 0) with
    | true =>
      exact fn_ret (by
        show s__law_are_pleats [.sh (.int (l)), .sh (P), .dead, .dead, .dead] = _
        unfold s__law_are_pleats
        refine (seq_nx (ρ1 := [.sh (.int (l)), .sh (P), .sh (.int (0)), .dead, .dead]) (by simp)).trans ?_
        refine (seq_nx el).trans ?_
        simp [hl, hn, ev_leB]
        rfl)
    | false =>
      exact fn_ret (by
        show s__law_are_pleats [.sh (.int (l)), .sh (P), .dead, .dead, .dead] = _
        unfold s__law_are_pleats
        refine (seq_nx (ρ1 := [.sh (.int (l)), .sh (P), .sh (.int (0)), .dead, .dead]) (by simp)).trans ?_
        refine (seq_nx el).trans ?_
        simp [hl, hn, ev_leB]
        rfl)
  | false =>
    rw [hv, if_neg Bool.false_ne_true] at el
    rw [Bool.false_and]
    exact fn_ret (by
      show s__law_are_pleats [.sh (.int (l)), .sh (P), .dead, .dead, .dead] = _
      unfold s__law_are_pleats
      refine (seq_nx (ρ1 := [.sh (.int (l)), .sh (P), .sh (.int (0)), .dead, .dead]) (by simp)).trans ?_
      exact seq_rt el)
theorem bols_map {α : Type} (f : α → Bool) : ∀ l : List α, bolsD (l.map fun a => PyData.bool (f a)) = some (l.map f)
  | [] => rfl
  | a :: r => by
    rw [List.map_cons, List.map_cons]
    show (bolsD (r.map fun a => PyData.bool (f a))).map _ = _
    rw [bols_map f r]
    rfl
theorem any_bols {α : Type} (l : List α) (q : α → Bool) : cAny [.list (l.map fun k => .bool (q k))] = some (.bool (l.any q)) := by
  show (bolsD _).map _ = _
  rw [bols_map]
  show some (PyData.bool ((l.map q).any id)) = _
  rw [List.any_map]
  rfl
theorem c_ck1 {l : Int} {ps : List (Int × Int)} (h : ps.length ≤ 1000) : k_check_pleats_1 [.sh (.int (l)), .sh (pD ps), .dead, .dead, .dead, .dead] = some (.ol (is (ends ps)), [.sh (.int (l)), .sh (pD ps), .dead, .dead, .dead, .dead]) := by
  have e0 : is (ends ps) = ps.map fun p => .int (p.1 + 2 * p.2) := by unfold ends is; rw [List.map_map]; rfl
  rw [kk_check_pleats_1, e0]
  refine ev_compA p2 (fun p => .int (p.1 + 2 * p.2)) ps (ρi := [.sh (.int (l)), .sh (pD ps), .dead, .dead, .dead, .dead]) (ρ0 := [.sh (.int (l)), .sh (pD ps), .dead, .dead, .dead, .dead]) rfl rfl (by unfold sizeLine; omega) fun p hp => ?_
  refine ⟨[.sh (.int (l)), .sh (pD ps), .dead, .sh (.int (p.1)), .sh (.int (p.2)), .dead], [.sh (.int (l)), .sh (pD ps), .dead, .sh (.int (p.1)), .sh (.int (p.2)), .dead], rfl, ?_, rfl⟩
  have k2 := m2 p.2
  generalize pD ps = P at *
  simp [k2]
theorem c_ck2 {l : Int} {ps : List (Int × Int)} {u2 : Cell} (h : ps.length ≤ 1000) : k_check_pleats_2 [.sh (.int (l)), .sh (pD ps), u2, .dead, .dead, .dead] = some (.ol (ps.map fun p => .bool (bad1 p)), [.sh (.int (l)), .sh (pD ps), u2, .dead, .dead, .dead]) := by
  rw [kk_check_pleats_2]
  refine ev_compA p2 (fun p => .bool (bad1 p)) ps (ρi := [.sh (.int (l)), .sh (pD ps), u2, .dead, .dead, .dead]) (ρ0 := [.sh (.int (l)), .sh (pD ps), u2, .dead, .dead, .dead]) rfl rfl (by unfold sizeLine; omega) fun p hp => ?_
  obtain ⟨a, d⟩ := p
  refine ⟨[.sh (.int (l)), .sh (pD ps), u2, .sh (.int (a)), .sh (.int (d)), .dead], [.sh (.int (l)), .sh (pD ps), u2, .sh (.int (a)), .sh (.int (d)), .dead], rfl, ?_, rfl⟩
  show _ = some (PyData.bool (decide (a < 0) || decide (d < 1)), _)
  generalize pD ps = P at *
  by_cases c : a < 0
  · simp [c, ev_ltB]
  · simp [c, ev_ltB]
theorem p2_at {ps : List (Int × Int)} {k : Nat} (h : k < ps.length) : atI (ps.map p2) (k : Int) = some (.tuple [.int (ps.getD k (0, 0)).1, .int (ps.getD k (0, 0)).2]) := by
  rw [atI_map, atI_lt h, List.getD_eq_getElem?_getD, List.getElem?_eq_getElem h]; rfl
theorem ends_at {ps : List (Int × Int)} {k : Nat} (h : k < ps.length) : atI (is (ends ps)) (k : Int) = some (.int ((ends ps).getD k 0)) := by
  have hl : (ends ps).length = ps.length := List.length_map ..
  unfold is
  rw [atI_map, atI_lt (by rw [hl]; exact h), List.getD_eq_getElem?_getD, List.getElem?_eq_getElem (by rw [hl]; exact h)]; rfl
theorem c_ck3 {l : Int} {ps : List (Int × Int)} (h : ps.length ≤ 1000) : k_check_pleats_3 [.sh (.int (l)), .sh (pD ps), .sh (.list (is (ends ps))), .dead, .dead, .dead] = some (.ol ((List.range' 0 (ps.length - 1)).map fun k => .bool (bad2 ps k)), [.sh (.int (l)), .sh (pD ps), .sh (.list (is (ends ps))), .dead, .dead, .dead]) := by
  rw [kk_check_pleats_3]
  have hl := len_pD ps
  refine ev_compA nI (fun k => .bool (bad2 ps k)) (List.range' 0 (ps.length - 1)) (ρi := [.sh (.int (l)), .sh (pD ps), .sh (.list (is (ends ps))), .dead, .dead, .dead]) (ρ0 := [.sh (.int (l)), .sh (pD ps), .sh (.list (is (ends ps))), .dead, .dead, .dead]) ?_ rfl (by rw [List.length_range']; unfold sizeLine; omega) fun k hk => ?_
  · have e := iR_nZ (a := aCons (eBin dSub (eCB cLen (aCons (eVar 1) (aNil))) (eC (.int 1))) (aNil)) (ρ := [.sh (.int (l)), .sh (pD ps), .sh (.list (is (ends ps))), .dead, .dead, .dead]) (ρ1 := [.sh (.int (l)), .sh (pD ps), .sh (.list (is (ends ps))), .dead, .dead, .dead]) (z := (ps.length : Int) - 1) (by
      generalize is (ends ps) = E at *
      generalize pD ps = P at *
      simp [hl]) (by omega) (by omega)
    rw [show ((ps.length : Int) - 1).toNat = ps.length - 1 by omega] at e
    exact e
  · have hk := (List.mem_range'_1.mp hk).2
    have a0 := ends_at (ps := ps) (k := k) (by omega)
    have a1 := p2_at (ps := ps) (k := k + 1) (by omega)
    rw [Int.natCast_add] at a1
    have a1 : atI (ps.map p2) ((k : Int) + 1) = _ := a1
    refine ⟨[.sh (.int (l)), .sh (pD ps), .sh (.list (is (ends ps))), .dead, .dead, .sh (.int ((k : Int)))], [.sh (.int (l)), .sh (pD ps), .sh (.list (is (ends ps))), .dead, .dead, .sh (.int ((k : Int)))], rfl, ?_, rfl⟩
    unfold bad2 pD
    generalize (ends ps).getD k 0 = x at *
    generalize (ps.getD (k + 1) (0, 0)).1 = y at *
    generalize (ps.getD (k + 1) (0, 0)).2 = y2 at *
    generalize is (ends ps) = E at *
    generalize ps.map p2 = P at *
    generalize (k : Int) = K at *
    simp [a0, a1, ev_gtB]
theorem v_ckp {l : Int} {ps : List (Int × Int)} (h : ps.length ≤ 1000) : m_check_pleats [.int l, pD ps] = some (!okP l ps) := by
  rw [← badP_okP]
  have k1 := c_ck1 (l := l) h
  have k2 := c_ck2 (l := l) (u2 := .sh (.list (is (ends ps)))) h
  have k3 := c_ck3 (l := l) h
  have a2 := any_bols ps bad1
  have a3 := any_bols (List.range' 0 (ps.length - 1)) (bad2 ps)
  have hl := len_pD ps
  rw [← List.range_eq_range'] at a3 k3
  have el : 0 < ps.length → atI (is (ends ps)) (-1) = some (.int ((ends ps).getD (ps.length - 1) 0)) := fun hz => by
    have q := ends_at (ps := ps) (k := ps.length - 1) (by omega)
    have hll : (is (ends ps)).length = ps.length := by rw [is_len]; exact List.length_map ..
    unfold atI at q ⊢
    rw [hll] at q ⊢
    have e1 : ixN ps.length (-1) = some (ps.length - 1) := by
      unfold ixN
      rw [if_neg (by omega), if_pos (by omega)]
      congr 1
      omega
    have e2 : ixN ps.length ((ps.length - 1 : Nat) : Int) = some (ps.length - 1) := by
      unfold ixN
      rw [if_pos (by omega), if_pos (by omega), Int.toNat_natCast]
    rw [e2] at q
    rw [e1]; exact q
  unfold badP
  have e0 : decide (0 < ps.length) = decide (0 < (ps.length : Int)) := by rw [decide_eq_decide]; omega
  have el : 0 < (ps.length : Int) → atI (is (ends ps)) (-1) = some (.int ((ends ps).getD (ps.length - 1) 0)) := fun z => el (by omega)
  rw [e0]
  clear e0
  show fx_check_pleats [.sh (.int (l)), .sh (pD ps), .dead, .dead, .dead, .dead] = _
  generalize (ps.map fun p => PyData.bool (bad1 p)) = B1 at *
  generalize ((List.range (ps.length - 1)).map fun k => PyData.bool (bad2 ps k)) = B2 at *
  generalize ps.any bad1 = x at *
  generalize (List.range (ps.length - 1)).any (bad2 ps) = y at *
  generalize (ends ps).getD (ps.length - 1) 0 = z at *
  generalize is (ends ps) = E at *
  generalize (ps.length : Int) = n at *
  generalize pD ps = P at *
  cases x with
  | true => simp [fx_check_pleats, k1, k2, a2]
  | false =>
    cases y with
    | true => simp [fx_check_pleats, k1, k2, a2, k3, a3]
    | false =>
      by_cases c : 0 < n
      · have el := el c
        by_cases d : l < z <;> simp [fx_check_pleats, k1, k2, a2, k3, a3, hl, c, el, d]
      · simp [fx_check_pleats, k1, k2, a2, k3, a3, hl, c]
theorem v_ick {l : Int} {ps : List (Int × Int)} (h : ps.length ≤ 1000) : m__law_is_checked [.sh (.int l), .sh (pD ps)] = some (.sh (.bool true), []) := by
  have e1 := v_apl (l := l) (ps := ps)
  have e2 := v_ckp (l := l) h
  generalize pD ps = P at *
  cases hk : okP l ps with
  | true =>
    rw [hk] at e1 e2
    have e2 : m_check_pleats [.int l, P] = some false := e2
    exact fn_ret (by
      show s__law_is_checked [.sh (.int (l)), .sh (P), .dead, .dead, .dead] = _
      unfold s__law_is_checked
      refine (seq_nx (ρ1 := [.sh (.int (l)), .sh (P), .sh (.bool (true)), .dead, .dead]) (by simp [e1])).trans ?_
      refine (seq_nx (ρ1 := [.sh (.int (l)), .sh (P), .sh (.bool (true)), .sh (.none), .dead]) (by simp [e2])).trans ?_
      simp
      rfl)
  | false =>
    rw [hk] at e1 e2
    have e2 : m_check_pleats [.int l, P] = some true := e2
    exact fn_ret (by
      show s__law_is_checked [.sh (.int (l)), .sh (P), .dead, .dead, .dead] = _
      unfold s__law_is_checked
      refine (seq_nx (ρ1 := [.sh (.int (l)), .sh (P), .sh (.bool (false)), .dead, .dead]) (by simp [e1])).trans ?_
      refine seq_rt (ρ1 := [.sh (.int (l)), .sh (P), .sh (.bool (false)), .dead, .dead]) ?_
      simp [e2])


/-! ## drawn pleats -/
theorem tkx (ds : List Int) {n : Nat} (h : 0 < n) : ∃ (t : Nat) (ds' : List Int), t < n ∧ m__law_take [.ol (is ds), .sh (.int (n : Int))] = some (.sh (.int (t : Int)), [.ol (is ds'), .sh (.int (n : Int))]) := by
  have h0 : (0 : Int) < (n : Int) := by omega
  have a := tk_nn (ns := ds) h0
  have b := tk_lt (ns := ds) h0
  refine ⟨(tk ds n).toNat, ds.dropLast, by omega, ?_⟩
  rw [Int.toNat_of_nonneg a]
  exact v_take ds n (by omega)
/-- h ≤ a ≤ h + 3, 1 ≤ d ≤ 4 -/
def sml : Int → List (Int × Int) → Prop
  | _, [] => True
  | h, (a, d) :: r => h ≤ a ∧ a ≤ h + 3 ∧ 1 ≤ d ∧ d ≤ 4 ∧ sml (a + 2 * d) r
theorem sml_vld : ∀ (ps : List (Int × Int)) (h : Int), sml h ps → vld h ps = true ∧ lst h ps ≤ h + 11 * ps.length ∧ h ≤ lst h ps
  | [], h, _ => ⟨rfl, by show h ≤ h + 11 * ((0 : Nat) : Int); omega, Int.le_refl _⟩
  | (a, d) :: r, h, hs => by
    obtain ⟨h1, h2, h3, h4, h5⟩ := hs
    obtain ⟨q1, q2, q3⟩ := sml_vld r _ h5
    refine ⟨vld_cons.mpr ⟨h1, h3, q1⟩, ?_, ?_⟩
    · show lst (a + 2 * d) r ≤ h + 11 * ((r.length + 1 : Nat) : Int)
      omega
    · show h ≤ lst (a + 2 * d) r
      omega
theorem dr_body {u1 u6 u7 : Cell} {s h : Int} {Q : List D} {A A1 A2 : List D} {k : D} {t0 t1 : Int} (e0 : m__law_take [.ol A, .sh (.int 4)] = some (.sh (.int t0), [.ol A1, .sh (.int 4)])) (e1 : m__law_take [.ol A1, .sh (.int 4)] = some (.sh (.int t1), [.ol A2, .sh (.int 4)]))
    (k1 : mulOk (h + t0) s = true) (k2 : mulOk (1 + t1) s = true) (hz : Q.length < sizeLine) :
    b__law_drawn_1 [.ol (A), u1, .sh (.int (s)), .sh (.int (h)), .ol (Q), .sh (k), u6, u7] = some (.nx [.ol (A2), u1, .sh (.int (s)), .sh (.int (h + t0 + 2 * (1 + t1))), .ol (Q ++ [.tuple [.int ((h + t0) * s), .int ((1 + t1) * s)]]), .sh (k), .sh (.int (h + t0)), .sh (.int (1 + t1))]) := by
  have k3 : mulOk 2 (1 + t1) = true := mulOk_l (by decide)
  have z2 : 2 ≤ sizeLine := by decide
  unfold b__law_drawn_1
  refine (seq_nx (ρ1 := [.ol (A1), u1, .sh (.int (s)), .sh (.int (h)), .ol (Q), .sh (k), .sh (.int (h + t0)), u7]) (by simp [e0])).trans ?_
  generalize h + t0 = a at *
  refine (seq_nx (ρ1 := [.ol (A2), u1, .sh (.int (s)), .sh (.int (h)), .ol (Q), .sh (k), .sh (.int (a)), .sh (.int (1 + t1))]) (by simp [e1])).trans ?_
  generalize 1 + t1 = d at *
  refine (seq_nx (ρ1 := [.ol (A2), u1, .sh (.int (s)), .sh (.int (h)), .ol (Q ++ [.tuple [.int (a * s), .int (d * s)]]), .sh (k), .sh (.int (a)), .sh (.int (d))]) (by simp [k1, k2, lAppend, hz, z2])).trans ?_
  simp [k3]
theorem w_dr {u1 : Cell} {s : Int} {xs0 : List D} : ∀ (n k : Nat) (ds : List Int) (h : Int) (acc : List (Int × Int)) (u5 u6 u7 : Cell), 0 ≤ h → h + 11 * (n : Int) ≤ 1000 → acc.length + n ≤ 1000 → ∃ (ps : List (Int × Int)) (ds' : List Int), ps.length = n ∧ sml h ps ∧
    loopF none xs0 [5, 6, 7] (fun z ρ => (gNm 5 z ρ).bind b__law_drawn_1) ((List.range' k n).map nI) [.ol (is ds), u1, .sh (.int (s)), .sh (.int (h)), .ol ((scl s acc).map p2), u5, u6, u7] = some (.nx [.ol (is ds'), u1, .sh (.int (s)), .sh (.int (lst h ps)), .ol ((scl s (acc ++ ps)).map p2), .dead, .dead, .dead]) := by
  intro n
  induction n with
  | zero => intro k ds h acc u5 u6 u7 _ _ _; exact ⟨[], ds, rfl, trivial, by rw [List.append_nil]; exact loop_nil rfl⟩
  | succ n ih =>
    intro k ds h acc u5 u6 u7 h0 hh hz
    obtain ⟨t0, d1, q0, e0⟩ := tkx ds (n := 4) (by decide)
    obtain ⟨t1, d2, q1, e1⟩ := tkx d1 (n := 4) (by decide)
    obtain ⟨ps, ds', hp, hs, e⟩ := ih (k + 1) d2 (h + (t0 : Int) + 2 * (1 + (t1 : Int))) (acc ++ [(h + (t0 : Int), 1 + (t1 : Int))]) (.sh (nI k)) (.sh (.int (h + (t0 : Int)))) (.sh (.int (1 + (t1 : Int)))) (by omega) (by omega) (by simp; omega)
    refine ⟨(h + (t0 : Int), 1 + (t1 : Int)) :: ps, ds', by rw [List.length_cons, hp], ⟨by omega, by omega, by omega, by omega, hs⟩, ?_⟩
    rw [List.append_assoc] at e
    rw [List.range'_succ, List.map_cons]
    refine (loop_cons rfl (bind_gnm.trans ?_)).trans e
    have b := dr_body (u1 := u1) (u6 := .dead) (u7 := .dead) (s := s) (h := h) (Q := (scl s acc).map p2) (k := nI k) e0 e1 (mulOk_l (by omega)) (mulOk_l (by omega)) (by unfold scl; rw [List.length_map, List.length_map]; unfold sizeLine; omega)
    have ea : (scl s (acc ++ [(h + (t0 : Int), 1 + (t1 : Int))])).map p2 = (scl s acc).map p2 ++ [.tuple [.int ((h + (t0 : Int)) * s), .int ((1 + (t1 : Int)) * s)]] := by
      unfold scl; rw [List.map_append, List.map_append]; rfl
    rw [ea]
    exact b
theorem v_drawn (ds : List Int) {s : Int} (hs : 1 ≤ s) {m : Nat} (hm : m ≤ 10) : ∃ (L0 : Int) (ps : List (Int × Int)) (ds' : List Int), ps.length ≤ m ∧ vld 0 ps = true ∧ lst 0 ps ≤ L0 ∧ 0 ≤ L0 ∧ L0 ≤ 200 ∧
    m__law_drawn [.ol (is ds), .sh (.int (m : Int)), .sh (.int s)] = some (.sh (.tuple [.int (L0 * s), pD (scl s ps)]), [.ol (is ds'), .sh (.int (m : Int)), .sh (.int s)]) := by
  obtain ⟨t0, d1, q0, e0⟩ := tkx ds (n := m + 1) (by omega)
  have e0 : m__law_take [.ol (is ds), .sh (.int ((m : Int) + 1))] = some (.sh (.int (t0 : Int)), [.ol (is d1), .sh (.int ((m : Int) + 1))]) := e0
  obtain ⟨ps, d2, hp, hsm, w⟩ := w_dr (u1 := .sh (.int (m : Int))) (s := s) (xs0 := (List.range' 0 t0).map nI) t0 0 d1 0 [] .dead .dead .dead (by omega) (by omega) (by simp; omega)
  rw [List.nil_append] at w
  obtain ⟨v1, v2, v3⟩ := sml_vld ps 0 hsm
  obtain ⟨t3, d3, q3, e3⟩ := tkx d2 (n := 4) (by decide)
  have e3 : m__law_take [.ol (is d2), .sh (.int 4)] = some (.sh (.int (t3 : Int)), [.ol (is d3), .sh (.int 4)]) := e3
  have el : l__law_drawn_1 [.ol (is ds), .sh (.int ((m : Int))), .sh (.int (s)), .sh (.int (0)), .ol ([]), .dead, .dead, .dead] = some (.nx [.ol (is d2), .sh (.int ((m : Int))), .sh (.int (s)), .sh (.int (lst 0 ps)), .ol ((scl s ps).map p2), .dead, .dead, .dead]) := by
    have e := iR_nZ (a := aCons (eRetD (eCall1 0 0 m__law_take (rIo 0 (rCons (eBin dAddA (eVar 1) (eC (.int 1))) (rNil))))) (aNil)) (ρ := [.ol (is ds), .sh (.int ((m : Int))), .sh (.int (s)), .sh (.int (0)), .ol ([]), .dead, .dead, .dead]) (ρ1 := [.ol (is d1), .sh (.int ((m : Int))), .sh (.int (s)), .sh (.int (0)), .ol ([]), .dead, .dead, .dead]) (z := (t0 : Int)) (by simp [e0]) (by omega) (by omega)
    rw [Int.toNat_natCast] at e
    exact for_hx ll__law_drawn_1 e w
  have k1 : mulOk (lst 0 ps + (t3 : Int)) s = true := mulOk_l (by omega)
  refine ⟨lst 0 ps + (t3 : Int), ps, d3, by omega, v1, by omega, by omega, by omega, ?_⟩
  have z2 : 2 ≤ sizeLine := by decide
  clear w e0
  unfold pD
  generalize (scl s ps).map p2 = Q at *
  generalize lst 0 ps = h at *
  generalize (m : Int) = M at *
  generalize (t3 : Int) = T3 at *
  exact fn_io (ρ' := [.ol (is d3), .sh (.int (M)), .sh (.int (s)), .sh (.int (h)), .sh (.list (Q)), .dead, .dead, .dead]) (by
    show s__law_drawn [.ol (is ds), .sh (.int (M)), .sh (.int (s)), .dead, .dead, .dead, .dead, .dead] = _
    unfold s__law_drawn
    refine (seq_nx (ρ1 := [.ol (is ds), .sh (.int (M)), .sh (.int (s)), .sh (.int (0)), .dead, .dead, .dead, .dead]) (by simp)).trans ?_
    refine (seq_nx (ρ1 := [.ol (is ds), .sh (.int (M)), .sh (.int (s)), .sh (.int (0)), .ol ([]), .dead, .dead, .dead]) (by simp)).trans ?_
    refine (seq_nx el).trans ?_
    simp [e3, k1, cTuple, z2]) rfl rfl


/-! ## changed pleats -/
theorem addP {a b : List (Int × Int)} (h : a.length + b.length ≤ 100000) : dAddA (.tuple (a.map p2)) (.tuple (b.map p2)) = some (.tuple ((a ++ b).map p2)) := by
  rw [ev_addT, List.length_map, List.length_map, if_pos (by unfold sizeLine; omega), List.map_append]
theorem cutP (ps : List (Int × Int)) (a b : Option Int) : cutD (ps.map p2) a b = (cutL ps a b).map p2 := by rw [cutD_eq, cutL_map]
theorem cutL_len {α : Type} (xs : List α) (lo hi : Option Int) : (cutL xs lo hi).length ≤ xs.length := by
  unfold cutL
  rw [List.length_take, List.length_drop]
  omega
theorem ch_h {N A A1 A2 A3 : List D} {P : List D} {n T0 T2 cl : Int} (hl : (P.length : Int) = n) (e0 : m__law_take [.ol A, .sh (.int (n + 1))] = some (.sh (.int T0), [.ol A1, .sh (.int (n + 1))])) (e1 : m__law_cell [.sh (.list N), .ol A1] = some (.sh (.int cl), [.sh (.list N), .ol A2])) (e2 : m__law_take [.ol A2, .sh (.int 6)] = some (.sh (.int T2), [.ol A3, .sh (.int 6)])) {o : Out} {X : FS}
    (h : X [.sh (.list (N)), .ol (A3), .sh (.tuple (P)), .sh (.int (T0)), .sh (.int (cl)), .sh (.int (T2)), .dead, .dead, .dead] = some o) :
    (sSeq (sSet 3 (eRetD (eCall1 0 1 m__law_take (rIo 1 (rCons (eBin dAddA (eCB cLen (aCons (eVar 2) (aNil))) (eC (.int 1))) (rNil))))))
  (sSeq (sSet 4 (eRetD (eCall1 1 1 m__law_cell (rCons (eVar 0) (rIo 1 (rNil))))))
  (sSeq (sSet 5 (eRetD (eCall1 0 1 m__law_take (rIo 1 (rCons (eC (.int 6)) (rNil)))))) X))) [.sh (.list (N)), .ol (A), .sh (.tuple (P)), .dead, .dead, .dead, .dead, .dead, .dead] = some o := by
  refine (seq_nx (ρ1 := [.sh (.list (N)), .ol (A1), .sh (.tuple (P)), .sh (.int (T0)), .dead, .dead, .dead, .dead, .dead]) (by simp [hl, e0])).trans ?_
  refine (seq_nx (ρ1 := [.sh (.list (N)), .ol (A2), .sh (.tuple (P)), .sh (.int (T0)), .sh (.int (cl)), .dead, .dead, .dead, .dead]) (by simp [e1])).trans ?_
  refine (seq_nx (ρ1 := [.sh (.list (N)), .ol (A3), .sh (.tuple (P)), .sh (.int (T0)), .sh (.int (cl)), .sh (.int (T2)), .dead, .dead, .dead]) (by simp [e2])).trans ?_
  exact h
theorem v_changed (ns ds : List Int) (hn : ns.length ≤ 63) (ps : List (Int × Int)) (hz : ps.length ≤ 1000) : ∃ (ps' : List (Int × Int)) (ds' : List Int), ps'.length ≤ 2 * ps.length + 1 ∧ m__law_changed [.sh (.list (is ns)), .ol (is ds), .sh (pD ps)] = some (.sh (pD ps'), [.sh (.list (is ns)), .ol (is ds'), .sh (pD ps)]) := by
  obtain ⟨t0, d1, q0, e0⟩ := tkx ds (n := ps.length + 1) (by omega)
  have e0 : m__law_take [.ol (is ds), .sh (.int ((ps.length : Int) + 1))] = some (.sh (.int (t0 : Int)), [.ol (is d1), .sh (.int ((ps.length : Int) + 1))]) := e0
  obtain ⟨c, d2, hc, _, e1⟩ := v_cell ns d1 hn
  obtain ⟨t2, d3, q2, e2⟩ := tkx d2 (n := 6) (by decide)
  have e2 : m__law_take [.ol (is d2), .sh (.int 6)] = some (.sh (.int (t2 : Int)), [.ol (is d3), .sh (.int 6)]) := e2
  have hl : (((ps.map p2).length : Nat) : Int) = (ps.length : Int) := by rw [List.length_map]
  have hd := fun {o : Out} {X : FS} h => ch_h hl e0 e1 e2 (o := o) (X := X) h
  clear e0 e1 e2
  have z2 : 2 ≤ sizeLine := by decide
  have z1 : 1 ≤ sizeLine := by decide
  have z3 : 3 ≤ sizeLine := by decide
  unfold pD
  by_cases c0 : t2 = 0 ∨ ps.length = 0 ∨ t0 = ps.length
  · obtain ⟨t3, d4, q3, e3⟩ := tkx d3 (n := 30) (by decide)
    have e3 : m__law_take [.ol (is d3), .sh (.int 30)] = some (.sh (.int (t3 : Int)), [.ol (is d4), .sh (.int 30)]) := e3
    obtain ⟨t4, d5, q4, e4⟩ := tkx d4 (n := 4) (by decide)
    have e4 : m__law_take [.ol (is d4), .sh (.int 4)] = some (.sh (.int (t4 : Int)), [.ol (is d5), .sh (.int 4)]) := e4
    have ea : dAddA (.tuple (ps.map p2)) (.tuple [.tuple [.int ((t3 : Int) - 2), .int (t4 : Int)]]) = some (.tuple ((ps ++ [((t3 : Int) - 2, (t4 : Int))]).map p2)) := addP (b := [((t3 : Int) - 2, (t4 : Int))]) (by simp; omega)
    refine ⟨ps ++ [((t3 : Int) - 2, (t4 : Int))], d5, by simp; omega, ?_⟩
    have cc : (t2 : Int) = 0 ∨ (ps.length : Int) = 0 ∨ (t0 : Int) = (ps.length : Int) := by omega
    clear c0 q0 q2 q3 q4 hc
    generalize (ps ++ [((t3 : Int) - 2, (t4 : Int))]).map p2 = R at *
    generalize (ps.length : Int) = n at *
    generalize ps.map p2 = P at *
    generalize (t0 : Int) = T0 at *
    generalize (t2 : Int) = T2 at *
    generalize (t3 : Int) = T3 at *
    generalize (t4 : Int) = T4 at *
    generalize is ns = N at *
    exact fn_io (ρ' := [.sh (.list (N)), .ol (is d5), .sh (.tuple (P)), .sh (.int (T0)), .sh (.int (c)), .sh (.int (T2)), .dead, .dead, .dead]) (by
      show s__law_changed [.sh (.list (N)), .ol (is ds), .sh (.tuple (P)), .dead, .dead, .dead, .dead, .dead, .dead] = _
      unfold s__law_changed
      refine hd ?_
      refine seq_rt ((if_t (ρ1 := [.sh (.list (N)), .ol (is d3), .sh (.tuple (P)), .sh (.int (T0)), .sh (.int (c)), .sh (.int (T2)), .dead, .dead, .dead]) ?_).trans ?_)
      · by_cases x1 : T2 = 0
        · simp [x1]
        · by_cases x2 : n = 0
          · simp [x1, x2, hl]
          · have x3 : T0 = n := by omega
            simp [x1, x2, x3, hl]
      · generalize dAddA = f at *
        simp [e3, e4, ea, z1, z2]) rfl rfl
  have c1 : ¬ t2 = 0 := fun z => c0 (.inl z)
  have c2 : ¬ ps.length = 0 := fun z => c0 (.inr (.inl z))
  have c3 : ¬ t0 = ps.length := fun z => c0 (.inr (.inr z))
  clear c0
  have ht : t0 < ps.length := by omega
  have eat := p2_at (ps := ps) (k := t0) ht
  generalize (ps.getD t0 (0, 0)).1 = a at *
  generalize (ps.getD t0 (0, 0)).2 = b at *
  have x1 : ¬ (t2 : Int) = 0 := by omega
  have x2 : ¬ (ps.length : Int) = 0 := by omega
  have x3 : ¬ (t0 : Int) = (ps.length : Int) := by omega
  have k1 := cutP ps (some (t0 : Int)) none
  have k2 := cutP ps none (some (t0 : Int))
  have k3 := cutP ps none (some ((t0 : Int) + 1))
  have k4 := cutP ps (some ((t0 : Int) + 1)) none
  have l1 := cutL_len ps (some (t0 : Int)) none
  have l2 := cutL_len ps none (some (t0 : Int))
  have l3 := cutL_len ps none (some ((t0 : Int) + 1))
  have l4 := cutL_len ps (some ((t0 : Int) + 1)) none
  have lt2 : (cutL ps none (some (t0 : Int))).length + (cutL ps (some ((t0 : Int) + 1)) none).length ≤ ps.length := by
    rw [cutL_to (by omega), cutL_from (by omega), List.length_take, List.length_drop]; omega
  have pre : ∀ {o : Out} {X : FS}, X [.sh (.list (is ns)), .ol (is d3), .sh (.tuple ((ps.map p2))), .sh (.int ((t0 : Int))), .sh (.int (c)), .sh (.int ((t2 : Int))), .sh (.int (a)), .sh (.int (b)), .dead] = some o → 
      (sSeq (sIf (eOr (eTst (eBin (fun x y => (bEq x y).map .bool) (eVar 5) (eC (.int 0)))) (eOr (eTst (eBin (fun x y => (bEq x y).map .bool) (eCB cLen (aCons (eVar 2) (aNil))) (eC (.int 0)))) (eTst (eBin (fun x y => (bEq x y).map .bool) (eVar 3) (eCB cLen (aCons (eVar 2) (aNil))))))) (sRet (eBin dAddA (eVar 2) (eTup (aCons (eTup (aCons (eBin dSub (eRetD (eCall1 0 1 m__law_take (rIo 1 (rCons (eC (.int 30)) (rNil))))) (eC (.int 2))) (aCons (eRetD (eCall1 0 1 m__law_take (rIo 1 (rCons (eC (.int 4)) (rNil))))) (aNil)))) (aNil))))) (sNx))
  (sSeq (sAsg (eBin dIx (eVar 2) (eVar 3)) (gTp 2 (gCn (gNm 6) (gCn (gNm 7) (gNl))))) X)) [.sh (.list (is ns)), .ol (is d3), .sh (.tuple ((ps.map p2))), .sh (.int ((t0 : Int))), .sh (.int (c)), .sh (.int ((t2 : Int))), .dead, .dead, .dead] = some o := by
    intro o X h
    clear hd k1 k2 k3 k4 l1 l2 l3 l4 lt2
    generalize (ps.length : Int) = n at *
    generalize ps.map p2 = P at *
    generalize (t0 : Int) = T0 at *
    generalize (t2 : Int) = T2 at *
    generalize is ns = N at *
    refine (seq_nx (if_f (ρ1 := [.sh (.list (N)), .ol (is d3), .sh (.tuple (P)), .sh (.int (T0)), .sh (.int (c)), .sh (.int (T2)), .dead, .dead, .dead]) (by simp [x1, x2, x3, hl]))).trans ?_
    refine (seq_nx (ρ1 := [.sh (.list (N)), .ol (is d3), .sh (.tuple (P)), .sh (.int (T0)), .sh (.int (c)), .sh (.int (T2)), .sh (.int (a)), .sh (.int (b)), .dead]) (by simp [eat])).trans ?_
    exact h
  clear eat x1 x2 x3
  by_cases y1 : t2 = 1
  · subst y1
    have ea := addP (a := cutL ps (some (t0 : Int)) none) (b := cutL ps none (some (t0 : Int))) (by omega)
    refine ⟨cutL ps (some (t0 : Int)) none ++ cutL ps none (some (t0 : Int)), d3, by rw [List.length_append]; omega, ?_⟩
    clear k3 k4 l1 l2 l3 l4 lt2
    generalize (cutL ps (some (t0 : Int)) none ++ cutL ps none (some (t0 : Int))).map p2 = R at *
    generalize (cutL ps (some (t0 : Int)) none).map p2 = C1 at *
    generalize (cutL ps none (some (t0 : Int))).map p2 = C2 at *
    generalize ps.map p2 = P at *
    generalize (t0 : Int) = T0 at *
    generalize is ns = N at *
    exact fn_io (ρ' := [.sh (.list (N)), .ol (is d3), .sh (.tuple (P)), .sh (.int (T0)), .sh (.int (c)), .sh (.int (1)), .sh (.int (a)), .sh (.int (b)), .dead]) (by
      show s__law_changed [.sh (.list (N)), .ol (is ds), .sh (.tuple (P)), .dead, .dead, .dead, .dead, .dead, .dead] = _
      unfold s__law_changed
      refine hd (pre ?_)
      refine seq_rt ((if_t (ρ1 := [.sh (.list (N)), .ol (is d3), .sh (.tuple (P)), .sh (.int (T0)), .sh (.int (c)), .sh (.int (1)), .sh (.int (a)), .sh (.int (b)), .dead]) (by simp)).trans ?_)
      generalize dAddA = f at *
      simp [k1, k2, ea]) rfl rfl
  have w1 : ¬ (t2 : Int) = 1 := by omega
  by_cases y2 : t2 = 2
  · subst y2
    have ea := addP (a := cutL ps none (some ((t0 : Int) + 1))) (b := cutL ps (some (t0 : Int)) none) (by omega)
    refine ⟨cutL ps none (some ((t0 : Int) + 1)) ++ cutL ps (some (t0 : Int)) none, d3, by rw [List.length_append]; omega, ?_⟩
    clear k2 k4 l1 l2 l3 l4 lt2
    have p1 : dAddA (.int (t0 : Int)) (.int 1) = some (.int ((t0 : Int) + 1)) := rfl
    generalize (cutL ps none (some ((t0 : Int) + 1)) ++ cutL ps (some (t0 : Int)) none).map p2 = R at *
    generalize (cutL ps (some (t0 : Int)) none).map p2 = C1 at *
    generalize (cutL ps none (some ((t0 : Int) + 1))).map p2 = C2 at *
    generalize ps.map p2 = P at *
    generalize (t0 : Int) = T0 at *
    generalize is ns = N at *
    exact fn_io (ρ' := [.sh (.list (N)), .ol (is d3), .sh (.tuple (P)), .sh (.int (T0)), .sh (.int (c)), .sh (.int (2)), .sh (.int (a)), .sh (.int (b)), .dead]) (by
      show s__law_changed [.sh (.list (N)), .ol (is ds), .sh (.tuple (P)), .dead, .dead, .dead, .dead, .dead, .dead] = _
      unfold s__law_changed
      refine hd (pre ?_)
      refine (seq_nx (if_f (ρ1 := [.sh (.list (N)), .ol (is d3), .sh (.tuple (P)), .sh (.int (T0)), .sh (.int (c)), .sh (.int (2)), .sh (.int (a)), .sh (.int (b)), .dead]) (by simp))).trans ?_
      refine seq_rt ((if_t (ρ1 := [.sh (.list (N)), .ol (is d3), .sh (.tuple (P)), .sh (.int (T0)), .sh (.int (c)), .sh (.int (2)), .sh (.int (a)), .sh (.int (b)), .dead]) (by simp)).trans ?_)
      generalize dAddA = f at *
      simp [k1, k3, p1, ea]) rfl rfl
  have w2 : ¬ (t2 : Int) = 2 := by omega
  obtain ⟨t5, d5, q5, e5⟩ := tkx d3 (n := 3) (by decide)
  have e5 : m__law_take [.ol (is d3), .sh (.int 3)] = some (.sh (.int (t5 : Int)), [.ol (is d5), .sh (.int 3)]) := e5
  obtain ⟨t6, d6, q6, e6⟩ := tkx d5 (n := 3) (by decide)
  have e6 : m__law_take [.ol (is d5), .sh (.int 3)] = some (.sh (.int (t6 : Int)), [.ol (is d6), .sh (.int 3)]) := e6
  obtain ⟨u, eu⟩ : ∃ u : Int, atI [PyData.int 1, .int (-1), .int c] (t5 : Int) = some (.int u) := by
    match t5, q5 with
    | 0, _ => exact ⟨_, rfl⟩
    | 1, _ => exact ⟨_, rfl⟩
    | 2, _ => exact ⟨_, rfl⟩
  obtain ⟨v, ev⟩ : ∃ v : Int, atI [PyData.int 1, .int (-1), .int (-b)] (t6 : Int) = some (.int v) := by
    match t6, q6 with
    | 0, _ => exact ⟨_, rfl⟩
    | 1, _ => exact ⟨_, rfl⟩
    | 2, _ => exact ⟨_, rfl⟩
  obtain ⟨w, ew⟩ : ∃ w : Int × Int, atI [PyData.tuple [.int (a + u), .int b], .tuple [.int a, .int (b + v)], .tuple [.int a, .int c]] ((t2 : Int) - 3) = some (.tuple [.int w.1, .int w.2]) := by
    match t2, q2 with
    | 3, _ => exact ⟨(a + u, b), rfl⟩
    | 4, _ => exact ⟨(a, b + v), rfl⟩
    | 5, _ => exact ⟨(a, c), rfl⟩
    | 0, _ => exact absurd rfl c1
    | 1, _ => exact absurd rfl y1
    | 2, _ => exact absurd rfl y2
  have ea := addP (a := cutL ps none (some (t0 : Int))) (b := [w]) (by simp; omega)
  have ea : dAddA (.tuple ((cutL ps none (some (t0 : Int))).map p2)) (.tuple [.tuple [.int w.1, .int w.2]]) = _ := ea
  have eb := addP (a := cutL ps none (some (t0 : Int)) ++ [w]) (b := cutL ps (some ((t0 : Int) + 1)) none) (by simp; omega)
  refine ⟨cutL ps none (some (t0 : Int)) ++ [w] ++ cutL ps (some ((t0 : Int) + 1)) none, d6, by rw [List.length_append, List.length_append, List.length_singleton]; omega, ?_⟩
  have p1 : dAddA (.int (t0 : Int)) (.int 1) = some (.int ((t0 : Int) + 1)) := rfl
  have p3 : dAddA (.int a) (.int u) = some (.int (a + u)) := rfl
  have p4 : dAddA (.int b) (.int v) = some (.int (b + v)) := rfl
  clear k1 k3 l1 l2 l3 l4 lt2 c1 c2 c3 y1 y2 q0 q2 q5 q6 ht hc
  generalize (cutL ps none (some (t0 : Int)) ++ [w] ++ cutL ps (some ((t0 : Int) + 1)) none).map p2 = R at *
  generalize (cutL ps none (some (t0 : Int)) ++ [w]).map p2 = R1 at *
  generalize (cutL ps none (some (t0 : Int))).map p2 = C1 at *
  generalize (cutL ps (some ((t0 : Int) + 1)) none).map p2 = C2 at *
  generalize ps.map p2 = P at *
  generalize (t0 : Int) = T0 at *
  generalize (t2 : Int) = T2 at *
  generalize (t5 : Int) = T5 at *
  generalize (t6 : Int) = T6 at *
  generalize is ns = N at *
  exact fn_io (ρ' := [.sh (.list (N)), .ol (is d6), .sh (.tuple (P)), .sh (.int (T0)), .sh (.int (c)), .sh (.int (T2)), .sh (.int (a)), .sh (.int (b)), .sh (.tuple ([.int w.1, .int w.2]))]) (by
    show s__law_changed [.sh (.list (N)), .ol (is ds), .sh (.tuple (P)), .dead, .dead, .dead, .dead, .dead, .dead] = _
    unfold s__law_changed
    refine hd (pre ?_)
    refine (seq_nx (if_f (ρ1 := [.sh (.list (N)), .ol (is d3), .sh (.tuple (P)), .sh (.int (T0)), .sh (.int (c)), .sh (.int (T2)), .sh (.int (a)), .sh (.int (b)), .dead]) (by simp [w1]))).trans ?_
    refine (seq_nx (if_f (ρ1 := [.sh (.list (N)), .ol (is d3), .sh (.tuple (P)), .sh (.int (T0)), .sh (.int (c)), .sh (.int (T2)), .sh (.int (a)), .sh (.int (b)), .dead]) (by simp [w2]))).trans ?_
    generalize dAddA = f at *
    refine (seq_nx (ρ1 := [.sh (.list (N)), .ol (is d6), .sh (.tuple (P)), .sh (.int (T0)), .sh (.int (c)), .sh (.int (T2)), .sh (.int (a)), .sh (.int (b)), .sh (.tuple ([.int w.1, .int w.2]))]) ?_).trans ?_
    · simp [z3, z2, e5, e6, eu, ev, ew, p3, p4]
    · simp [k2, k4, p1, ea, eb, z1]) rfl rfl


/-! ## the law -/
def ppD (q : Int × List (Int × Int)) : D := .tuple [.int q.1, pD q.2]
def okQ (q : Int × List (Int × Int)) : Prop := q.2.length ≤ 1000
theorem w_ck {u0 u1 u2 u3 u4 u5 u6 u7 : Cell} {xs0 : List D} : ∀ (qs : List (Int × List (Int × Int))) (u8 : Cell), (∀ q ∈ qs, okQ q) → loopF none xs0 [8] (fun z ρ => (gNm 8 z ρ).bind b_law_2) (qs.map ppD) [u0, u1, u2, u3, u4, u5, u6, u7, u8, .dead, .dead, .dead, .dead, .dead, .dead] = some (.nx [u0, u1, u2, u3, u4, u5, u6, u7, .dead, .dead, .dead, .dead, .dead, .dead, .dead]) := by
  intro qs
  induction qs with
  | nil => intro u8 _; exact loop_nil rfl
  | cons q r ih =>
    intro u8 h
    have e1 := v_ick (l := q.1) (h q List.mem_cons_self)
    rw [List.map_cons]
    refine (loop_cons rfl (bind_gnm.trans ?_)).trans (ih (.sh (ppD q)) fun z hz => h z (List.mem_cons_of_mem _ hz))
    show b_law_2 [u0, u1, u2, u3, u4, u5, u6, u7, .sh (.tuple ([.int q.1, pD q.2])), .dead, .dead, .dead, .dead, .dead, .dead] = some (.nx [u0, u1, u2, u3, u4, u5, u6, u7, .sh (.tuple ([.int q.1, pD q.2])), .dead, .dead, .dead, .dead, .dead, .dead])
    generalize pD q.2 = P at *
    simp [b_law_2, e1]
theorem b_pap {ns : List Int} (hn : ns.length ≤ 63) {u2 : Cell} {l : Int} {ps : List (Int × Int)} (hz : ps.length ≤ 100) (ds : List Int) (qs : List (Int × List (Int × Int))) (hq : ∀ q ∈ qs, okQ q) (hl : qs.length ≤ 1000) (k : Nat) :
    ∃ (qs' : List (Int × List (Int × Int))) (ds' : List Int) (u7 : Cell), (∀ q ∈ qs', okQ q) ∧ qs'.length ≤ qs.length + 2 ∧ b_law_1 [.sh (.list (is ns)), .ol (is ds), u2, .sh (.int (l)), .sh (pD ps), .ol (qs.map ppD), .sh (nI k), .dead, .dead, .dead, .dead, .dead, .dead, .dead, .dead] = some (.nx [.sh (.list (is ns)), .ol (is ds'), u2, .sh (.int (l)), .sh (pD ps), .ol (qs'.map ppD), .sh (nI k), u7, .dead, .dead, .dead, .dead, .dead, .dead, .dead]) := by
  obtain ⟨p1, d1, l1, e1⟩ := v_changed ns ds hn ps (by omega)
  obtain ⟨t2, d2, q2, e2⟩ := tkx d1 (n := 2) (by decide)
  have e2 : m__law_take [.ol (is d1), .sh (.int 2)] = some (.sh (.int (t2 : Int)), [.ol (is d2), .sh (.int 2)]) := e2
  have z2 : 2 ≤ sizeLine := by decide
  have hz1 : (qs.map ppD).length < sizeLine := by rw [List.length_map]; unfold sizeLine; omega
  have hz2 : (qs.map ppD ++ [PyData.tuple [.int l, pD p1]]).length < sizeLine := by rw [List.length_append, List.length_map, List.length_singleton]; unfold sizeLine; omega
  have pre : ∀ {o : Out} {X : FS}, X [.sh (.list (is ns)), .ol (is d1), u2, .sh (.int (l)), .sh (pD ps), .ol ((qs ++ [(l, p1)]).map ppD), .sh (nI k), .sh (pD p1), .dead, .dead, .dead, .dead, .dead, .dead, .dead] = some o → sSeq (sSet 7 (eRetD (eCall1 1 1 m__law_changed (rCons (eVar 0) (rIo 1 (rCons (eVar 4) (rNil))))))) (sSeq (sExpr (eMeth 5 lAppend (aCons (eTup (aCons (eVar 3) (aCons (eVar 7) (aNil)))) (aNil)))) X) [.sh (.list (is ns)), .ol (is ds), u2, .sh (.int (l)), .sh (pD ps), .ol (qs.map ppD), .sh (nI k), .dead, .dead, .dead, .dead, .dead, .dead, .dead, .dead] = some o := by
    intro o X h
    have ea : (qs ++ [(l, p1)]).map ppD = qs.map ppD ++ [.tuple [.int l, pD p1]] := by rw [List.map_append]; rfl
    rw [ea] at h
    clear hz2
    generalize qs.map ppD = Q at *
    generalize pD p1 = P1 at *
    generalize pD ps = P at *
    generalize is ns = N at *
    generalize nI k = K at *
    refine (seq_nx (ρ1 := [.sh (.list (N)), .ol (is d1), u2, .sh (.int (l)), .sh (P), .ol (Q), .sh (K), .sh (P1), .dead, .dead, .dead, .dead, .dead, .dead, .dead]) (by simp [e1])).trans ?_
    refine (seq_nx (ρ1 := [.sh (.list (N)), .ol (is d1), u2, .sh (.int (l)), .sh (P), .ol (Q ++ [.tuple [.int l, P1]]), .sh (K), .sh (P1), .dead, .dead, .dead, .dead, .dead, .dead, .dead]) (by simp [lAppend, hz1, z2])).trans ?_
    exact h
  have hz3 : ((qs ++ [(l, p1)]).map ppD).length < sizeLine := by rw [List.length_map, List.length_append, List.length_singleton]; unfold sizeLine; omega
  by_cases c : t2 = 0
  · subst c
    obtain ⟨t3, d3, q3, e3⟩ := tkx d2 (n := 9) (by decide)
    have e3 : m__law_take [.ol (is d2), .sh (.int 9)] = some (.sh (.int (t3 : Int)), [.ol (is d3), .sh (.int 9)]) := e3
    obtain ⟨p4, d4, l4, e4⟩ := v_changed ns d3 hn p1 (by omega)
    refine ⟨qs ++ [(l, p1)] ++ [(l + (t3 : Int), p4)], d4, .sh (pD p1), ?_, by simp, ?_⟩
    · intro q hq'
      rcases List.mem_append.mp hq' with h | h
      · rcases List.mem_append.mp h with h | h
        · exact hq q h
        · rw [List.mem_singleton.mp h]; show p1.length ≤ 1000; omega
      · rw [List.mem_singleton.mp h]; show p4.length ≤ 1000; omega
    · have ea : (qs ++ [(l, p1)] ++ [(l + (t3 : Int), p4)]).map ppD = (qs ++ [(l, p1)]).map ppD ++ [.tuple [.int (l + (t3 : Int)), pD p4]] := by rw [List.map_append]; rfl
      rw [ea]
      refine pre ?_
      clear ea hq hz1 hz2 pre e1
      generalize (qs ++ [(l, p1)]).map ppD = Q1 at *
      generalize pD p1 = P1 at *
      generalize pD p4 = P4 at *
      generalize pD ps = P at *
      generalize is ns = N at *
      generalize nI k = K at *
      simp [e2, e3, e4, lAppend, hz3, z2]
  · refine ⟨qs ++ [(l, p1)], d2, .sh (pD p1), ?_, by simp, ?_⟩
    · intro q hq'
      rcases List.mem_append.mp hq' with h | h
      · exact hq q h
      · rw [List.mem_singleton.mp h]; show p1.length ≤ 1000; omega
    · refine pre ?_
      have c : ¬ (t2 : Int) = 0 := by omega
      clear hq hz1 hz2 pre e1
      generalize (qs ++ [(l, p1)]).map ppD = Q1 at *
      generalize pD p1 = P1 at *
      generalize pD ps = P at *
      generalize is ns = N at *
      generalize nI k = K at *
      generalize (t2 : Int) = T2 at *
      simp [e2, c]
theorem w_pap {ns : List Int} (hn : ns.length ≤ 63) {u2 : Cell} {l : Int} {ps : List (Int × Int)} (hz : ps.length ≤ 100) {xs0 : List D} : ∀ (m k : Nat) (ds : List Int) (qs : List (Int × List (Int × Int))) (u6 u7 : Cell), (∀ q ∈ qs, okQ q) → qs.length + 2 * m ≤ 900 →
    ∃ (qs' : List (Int × List (Int × Int))) (ds' : List Int), (∀ q ∈ qs', okQ q) ∧ loopF none xs0 [6, 7] (fun z ρ => (gNm 6 z ρ).bind b_law_1) ((List.range' k m).map nI) [.sh (.list (is ns)), .ol (is ds), u2, .sh (.int (l)), .sh (pD ps), .ol (qs.map ppD), u6, u7, .dead, .dead, .dead, .dead, .dead, .dead, .dead] = some (.nx [.sh (.list (is ns)), .ol (is ds'), u2, .sh (.int (l)), .sh (pD ps), .ol (qs'.map ppD), .dead, .dead, .dead, .dead, .dead, .dead, .dead, .dead, .dead]) := by
  intro m
  induction m with
  | zero => intro k ds qs u6 u7 hq _; exact ⟨qs, ds, hq, loop_nil rfl⟩
  | succ m ih =>
    intro k ds qs u6 u7 hq hl
    obtain ⟨q1, d1, v7, h1, h2, e1⟩ := b_pap hn (u2 := u2) (l := l) hz ds qs hq (by omega) k
    obtain ⟨q2, d2, h3, e2⟩ := ih (k + 1) d1 q1 (.sh (nI k)) v7 h1 (by omega)
    refine ⟨q2, d2, h3, ?_⟩
    rw [List.range'_succ, List.map_cons]
    exact (loop_cons rfl (bind_gnm.trans e1)).trans e2
theorem soD (o : Option Int) : m__law_same 12 [.sh (oD o), .sh (oD o)] = some (.sh (.bool true), []) := v_same 11 _ (by cases o <;> rfl)
theorem w_few {u0 u1 u2 u3 u4 u5 u6 u7 u8 u9 u10 u11 : Cell} {x w : Int} (hx : BB x) (hw : BB w) {xs0 : List D} : ∀ (ms : List Int) (u14 : Cell), (∀ m ∈ ms, BB m) → loopF none xs0 [14] (fun z ρ => (gNm 14 z ρ).bind b_law_3) (is ms) [u0, u1, u2, u3, u4, u5, u6, u7, u8, u9, u10, u11, .sh (.int (x)), .sh (.int (w)), u14] = some (.nx [u0, u1, u2, u3, u4, u5, u6, u7, u8, u9, u10, u11, .sh (.int (x)), .sh (.int (w)), .dead]) := by
  intro ms
  induction ms with
  | nil => intro u14 _; exact loop_nil rfl
  | cons m r ih =>
    intro u14 h
    have e1 := v_fewest x w m
    have e2 := v_lfewest x w m hx hw (h m List.mem_cons_self)
    have s1 := soD (fwP x w m)
    rw [is_cons]
    refine (loop_cons rfl (bind_gnm.trans ?_)).trans (ih (.sh (.int m)) fun z hz => h z (List.mem_cons_of_mem _ hz))
    show b_law_3 [u0, u1, u2, u3, u4, u5, u6, u7, u8, u9, u10, u11, .sh (.int (x)), .sh (.int (w)), .sh (.int (m))] = some (.nx [u0, u1, u2, u3, u4, u5, u6, u7, u8, u9, u10, u11, .sh (.int (x)), .sh (.int (w)), .sh (.int (m))])
    generalize oD (fwP x w m) = d at *
    simp [b_law_3, e1, e2, s1]


theorem bb_small {z : Int} (h0 : -1000 ≤ z) (h1 : z ≤ 1000) : Bd 20 z := by
  unfold Bd
  show z.natAbs < 1048576
  omega
theorem st_few {ns : List Int} (hn : ns.length ≤ 63) (hb : ∀ z ∈ ns, Builtin.Int.intBits z ≤ 1048576) {u2 u4 u5 u6 u7 u8 u9 u10 : Cell} {l : Int} (hl : Bd 1048600 l) (ds : List Int) {t : Nat} (ht : t < 3) :
    ∃ (x w : Int) (ds' : List Int), b_law_4 [.sh (.list (is ns)), .ol (is ds), u2, .sh (.int (l)), u4, u5, u6, u7, u8, u9, u10, .sh (.int ((t : Int))), .dead, .dead, .dead] = some (.nx [.sh (.list (is ns)), .ol (is ds'), u2, .sh (.int (l)), u4, u5, u6, u7, u8, u9, u10, .sh (.int ((t : Int))), .sh (.int (x)), .sh (.int (w)), .dead]) := by
  obtain ⟨t0, d1, q0, e0⟩ := tkx ds (n := 60) (by decide)
  have e0 : m__law_take [.ol (is ds), .sh (.int 60)] = some (.sh (.int (t0 : Int)), [.ol (is d1), .sh (.int 60)]) := e0
  obtain ⟨c1, d2, hc1, _, e1⟩ := v_cell ns d1 hn
  have b1 := bd_abs (bb_cell hb hc1)
  generalize ea1 : (if c1 < 0 then -c1 else c1) = A1 at *
  obtain ⟨x, hx, bx⟩ : ∃ x : Int, atI [PyData.int (t0 : Int), .int A1, .int l] (t : Int) = some (.int x) ∧ Bd 1048600 x := by
    match t, ht with
    | 0, _ => exact ⟨_, rfl, (bb_small (by omega) (by omega)).mono (by omega)⟩
    | 1, _ => exact ⟨_, rfl, b1.mono (by omega)⟩
    | 2, _ => exact ⟨_, rfl, hl⟩
  obtain ⟨t3, d3, q3, e3⟩ := tkx d2 (n := 60) (by decide)
  have e3 : m__law_take [.ol (is d2), .sh (.int 60)] = some (.sh (.int (t3 : Int)), [.ol (is d3), .sh (.int 60)]) := e3
  obtain ⟨t4, d4, q4, e4⟩ := tkx d3 (n := 9) (by decide)
  have e4 : m__law_take [.ol (is d3), .sh (.int 9)] = some (.sh (.int (t4 : Int)), [.ol (is d4), .sh (.int 9)]) := e4
  have k4 := m2 (t4 : Int)
  have hq : Builtin.divisionGoesByPylong x 2 = false := PyProof.noPylong_small (by decide)
  obtain ⟨w, hw, bw⟩ : ∃ w : Int, atI [PyData.int (t3 : Int), .int (x - 2 * (t4 : Int)), .int (Int.fdiv x 2)] (t : Int) = some (.int w) ∧ BB w := by
    match t, ht with
    | 0, _ => exact ⟨_, rfl, (bb_small (by omega) (by omega)).mono (by omega)⟩
    | 1, _ => exact ⟨_, rfl, (bx.sub (bb_small (z := 2 * (t4 : Int)) (by omega) (by omega))).mono (by omega)⟩
    | 2, _ =>
      refine ⟨_, rfl, (bx.mono (m := 2000000) (by omega)).le ?_⟩
      rw [Int.fdiv_eq_ediv_of_nonneg _ (by decide)]
      omega
  obtain ⟨t5, d5, q5, e5⟩ := tkx d4 (n := 9) (by decide)
  have e5 : m__law_take [.ol (is d4), .sh (.int 9)] = some (.sh (.int (t5 : Int)), [.ol (is d5), .sh (.int 9)]) := e5
  obtain ⟨t6, d6, q6, e6⟩ := tkx d5 (n := 3) (by decide)
  have e6 : m__law_take [.ol (is d5), .sh (.int 3)] = some (.sh (.int (t6 : Int)), [.ol (is d6), .sh (.int 3)]) := e6
  obtain ⟨c7, d7, hc7, _, e7⟩ := v_cell ns d6 hn
  have b7 := bd_abs (bb_cell hb hc7)
  generalize ea7 : (if c7 < 0 then -c7 else c7) = A7 at *
  have wf := w_few (u0 := .sh (.list (is ns))) (u1 := .ol (is d7)) (u2 := u2) (u3 := .sh (.int l)) (u4 := u4) (u5 := u5) (u6 := u6) (u7 := u7) (u8 := u8) (u9 := u9) (u10 := u10) (u11 := .sh (.int (t : Int))) (bx.mono (m := 2000000) (by omega)) bw (xs0 := is [1 + (t5 : Int), (t6 : Int), 1 + A7]) [1 + (t5 : Int), (t6 : Int), 1 + A7] .dead (fun m hm => by
    simp only [List.mem_cons, List.not_mem_nil, or_false] at hm
    rcases hm with rfl | rfl | rfl
    · exact (bb_small (by omega) (by omega)).mono (by omega)
    · exact (bb_small (by omega) (by omega)).mono (by omega)
    · exact ((bb_small (z := 1) (by omega) (by omega)).add b7).mono (by omega))
  have el : l_law_3 [.sh (.list (is ns)), .ol (is d4), u2, .sh (.int (l)), u4, u5, u6, u7, u8, u9, u10, .sh (.int ((t : Int))), .sh (.int (x)), .sh (.int (w)), .dead] = some (.nx [.sh (.list (is ns)), .ol (is d7), u2, .sh (.int (l)), u4, u5, u6, u7, u8, u9, u10, .sh (.int ((t : Int))), .sh (.int (x)), .sh (.int (w)), .dead]) := by
    refine for_hx ll_law_3 ?_ wf
    have z3 : 3 ≤ sizeLine := by decide
    clear wf e0 e1 e3 e4 hx hw hb
    generalize is ns = N at *
    show _ = some ([PyData.int (1 + (t5 : Int)), .int (t6 : Int), .int (1 + A7)], _)
    generalize (t : Int) = T at *
    simp [iSq, e5, e6, e7, ea7, z3]
  refine ⟨x, w, d7, ?_⟩
  clear wf e5 e6 e7 ea7 b7 b1 bx bw hb hl q0 q3 q4 q5 q6 ht
  have z3 : 3 ≤ sizeLine := by decide
  generalize is ns = N at *
  generalize (t : Int) = T at *
  generalize (t0 : Int) = T0 at *
  generalize (t3 : Int) = T3 at *
  generalize (t4 : Int) = T4 at *
  unfold b_law_4
  refine (seq_nx (ρ1 := [.sh (.list (N)), .ol (is d2), u2, .sh (.int (l)), u4, u5, u6, u7, u8, u9, u10, .sh (.int (T)), .sh (.int (x)), .dead, .dead]) (by simp [e0, e1, ea1, z3, hx])).trans ?_
  refine (seq_nx (ρ1 := [.sh (.list (N)), .ol (is d4), u2, .sh (.int (l)), u4, u5, u6, u7, u8, u9, u10, .sh (.int (T)), .sh (.int (x)), .sh (.int (w)), .dead]) (by simp [e3, e4, k4, hq, z3, hw])).trans ?_
  exact el
theorem w_few3 {ns : List Int} (hn : ns.length ≤ 63) (hb : ∀ z ∈ ns, Builtin.Int.intBits z ≤ 1048576) {u2 u4 u5 u6 u7 u8 u9 u10 : Cell} {l : Int} (hl : Bd 1048600 l) {xs0 : List D} : ∀ (n k : Nat) (ds : List Int) (u11 u12 u13 u14 : Cell), k + n ≤ 3 →
    ∃ ds' : List Int, loopF none xs0 [11, 12, 13, 14] (fun z ρ => (gNm 11 z ρ).bind b_law_4) ((List.range' k n).map nI) [.sh (.list (is ns)), .ol (is ds), u2, .sh (.int (l)), u4, u5, u6, u7, u8, u9, u10, u11, u12, u13, u14] = some (.nx [.sh (.list (is ns)), .ol (is ds'), u2, .sh (.int (l)), u4, u5, u6, u7, u8, u9, u10, .dead, .dead, .dead, .dead]) := by
  intro n
  induction n with
  | zero => intro k ds u11 u12 u13 u14 _; exact ⟨ds, loop_nil rfl⟩
  | succ n ih =>
    intro k ds u11 u12 u13 u14 h
    obtain ⟨x, w, d1, e1⟩ := st_few hn hb (u2 := u2) (u4 := u4) (u5 := u5) (u6 := u6) (u7 := u7) (u8 := u8) (u9 := u9) (u10 := u10) hl ds (t := k) (by omega)
    obtain ⟨d2, e2⟩ := ih (k + 1) d1 (.sh (nI k)) (.sh (.int x)) (.sh (.int w)) .dead (by omega)
    refine ⟨d2, ?_⟩
    rw [List.range'_succ, List.map_cons]
    exact (loop_cons rfl (bind_gnm.trans e1)).trans e2
theorem best_at {a b m T S : Int} (h : Best a b m T) (k : Best a b m S) (e : m_best_height [.sh (.int a), .sh (.int b)] = some (.sh (.int T), [])) : m_best_height [.sh (.int a), .sh (.int b)] = some (.sh (.int S), []) := by
  rw [e, Best.uniq h k]


theorem lap_1 : m_layers_at_place [.sh (.int 10), .sh (.tuple [.tuple [.int 4, .int 2]]), .sh (.int 3)] = some (.sh (.int 3), []) := by
  have e := v_lap (l := 10) (x := 3) (ps := [(4, 2)]) (by simp)
  have : cnt 3 (ways 10 0 0 [(4, 2)]) = 3 := by decide
  rw [this] at e
  exact e
theorem lap_2 : m_layers_at_place [.sh (.int 10), .sh (.tuple [.tuple [.int 0, .int 3]]), .sh (.int (-2))] = some (.sh (.int 2), []) := by
  have e := v_lap (l := 10) (x := -2) (ps := [(0, 3)]) (by simp)
  have : cnt (-2) (ways 10 0 0 [(0, 3)]) = 2 := by decide
  rw [this] at e
  exact e
theorem few_1 : m_fewest_pleats [.sh (.int 10), .sh (.int 4), .sh (.int 2)] = some (.sh (.int 2), []) := by
  have e := v_fewest 10 4 2
  have : oD (fwP 10 4 2) = .int 2 := by rw [show fwP 10 4 2 = some 2 by decide +kernel]; rfl
  rw [this] at e
  exact e
theorem few_2 : m_fewest_pleats [.sh (.int 10), .sh (.int 5), .sh (.int 2)] = some (.sh .none, []) := by
  have e := v_fewest 10 5 2
  have : oD (fwP 10 5 2) = .none := by rw [show fwP 10 5 2 = none by decide +kernel]; rfl
  rw [this] at e
  exact e
theorem bh {a b m S : Int} (ba : BB a) (bb : BB b) (a1 : 1 ≤ a) (b1 : 1 ≤ b) (em : (if b < a then b else a) / 2 = m) (k : Best a b m S) : m_best_height [.sh (.int a), .sh (.int b)] = some (.sh (.int S), []) := by
  obtain ⟨T, h, e⟩ := v_bheight ba bb a1 b1
  rw [em] at h
  exact best_at h k e
theorem bh_1 : m_best_height [.sh (.int 8), .sh (.int 10)] = some (.sh (.int 1), []) := by
  refine bh (m := 4) ((bb_small (by omega) (by omega)).mono (by omega)) ((bb_small (by omega) (by omega)).mono (by omega)) (by omega) (by omega) (by decide) ⟨by omega, by omega, fun x h0 h1 => ?_, fun x h0 h1 => ?_⟩
  · have : x = 0 := by omega
    subst this; decide
  · have : x = 1 ∨ x = 2 ∨ x = 3 := by omega
    rcases this with rfl | rfl | rfl <;> decide
theorem bh_2 : m_best_height [.sh (.int 2), .sh (.int 9)] = some (.sh (.int 0), []) := by
  refine bh (m := 1) ((bb_small (by omega) (by omega)).mono (by omega)) ((bb_small (by omega) (by omega)).mono (by omega)) (by omega) (by omega) (by decide) ⟨by omega, by omega, fun x h0 h1 => by omega, fun x h0 h1 => ?_⟩
  have : x = 0 := by omega
  subst this; decide
theorem bh_3 : m_best_height [.sh (.int 20), .sh (.int 20)] = some (.sh (.int 3), []) := by
  refine bh (m := 10) ((bb_small (by omega) (by omega)).mono (by omega)) ((bb_small (by omega) (by omega)).mono (by omega)) (by omega) (by omega) (by decide) ⟨by omega, by omega, fun x h0 h1 => ?_, fun x h0 h1 => ?_⟩
  · have : x = 0 ∨ x = 1 ∨ x = 2 := by omega
    rcases this with rfl | rfl | rfl <;> decide
  · have : x = 3 ∨ x = 4 ∨ x = 5 ∨ x = 6 ∨ x = 7 ∨ x = 8 ∨ x = 9 := by omega
    rcases this with rfl | rfl | rfl | rfl | rfl | rfl | rfl <;> decide
theorem scl_one (ps : List (Int × Int)) : scl 1 ps = ps := by
  unfold scl
  conv => rhs; rw [← List.map_id ps]
  refine List.map_congr_left fun p _ => ?_
  rw [Int.mul_one, Int.mul_one]; rfl
theorem plain : ∀ ns : List Int, ns.length ≤ 63 → (∀ z ∈ ns, Builtin.Int.intBits z ≤ 1048576) → ∃ z, m_law [.sh (.list (ns.map .int))] = some (.sh (.bool true), z) := by
  intro ns hn hb
  obtain ⟨d0, e0⟩ := v_draws ns 260 hn (by decide) (by decide)
  have e0 : m__law_draws [.sh (.list (is ns)), .sh (.int 260)] = _ := e0
  obtain ⟨d1, e1⟩ := v_box hn hb d0
  obtain ⟨c2, d2, hc2, _, e2⟩ := v_cell ns d1 hn
  have b2 := bd_abs (bb_cell hb hc2)
  have p2' : 0 ≤ (if c2 < 0 then -c2 else c2) := by split <;> omega
  generalize ea2 : (if c2 < 0 then -c2 else c2) = A2 at *
  obtain ⟨t3, d3, q3, e3⟩ := tkx d2 (n := 3) (by decide)
  have e3 : m__law_take [.ol (is d2), .sh (.int 3)] = some (.sh (.int (t3 : Int)), [.ol (is d3), .sh (.int 3)]) := e3
  obtain ⟨s, hs, s1, bs⟩ : ∃ s : Int, atI [PyData.int 1, .int 1, .int (1 + A2)] (t3 : Int) = some (.int s) ∧ 1 ≤ s ∧ Bd 1048580 s := by
    match t3, q3 with
    | 0, _ => exact ⟨1, rfl, by omega, (bb_small (by omega) (by omega)).mono (by omega)⟩
    | 1, _ => exact ⟨1, rfl, by omega, (bb_small (by omega) (by omega)).mono (by omega)⟩
    | 2, _ => exact ⟨1 + A2, rfl, by omega, ((bb_small (z := 1) (by omega) (by omega)).add b2).mono (by omega)⟩
  obtain ⟨L0, ps, d4, lps, vps, hl0, L1, L2, e4⟩ := v_drawn d3 s1 (m := 6) (by decide)
  have e4 : m__law_drawn [.ol (is d3), .sh (.int 6), .sh (.int s)] = some (.sh (.tuple [.int (L0 * s), pD (scl s ps)]), [.ol (is d4), .sh (.int 6), .sh (.int s)]) := e4
  have bl : Bd 1048600 (L0 * s) := by
    have h := Bd.mul (n := 20) (bb_small (z := L0) (by omega) (by omega)) bs
    exact h.mono (by omega)
  have lsc : (scl s ps).length = ps.length := List.length_map ..
  have vs := vld_scl s1 ps 0 vps
  rw [Int.zero_mul] at vs
  have ls := lst_scl s ps 0
  rw [Int.zero_mul] at ls
  have hls : lst 0 (scl s ps) ≤ L0 * s := by
    rw [ls]; exact Int.mul_le_mul_of_nonneg_right hl0 (by omega)
  have hb1 : s = 1 → L0 * s ≤ 1000 := fun h => by rw [h, Int.mul_one]; omega
  have elr := v_lright (l := L0 * s) (s := s) (ps := scl s ps) (by omega) vs hls s1 hb1
  generalize hl' : L0 * s = l at *
  generalize hps : scl s ps = P at *
  have hmx : cMax2 [.int 0, .int (l - 1)] = some (.int (if l - 1 > 0 then l - 1 else 0)) := rfl
  generalize (if l - 1 > 0 then l - 1 else 0) = mx at *
  obtain ⟨Q, d5, hQ, w5⟩ := w_pap hn (u2 := .sh (.int s)) (l := l) (ps := P) (by omega) (xs0 := (List.range' 0 6).map nI) 6 0 d4 [(l, P), (l + s, P), (mx, P), (0, []), (l, [])] .dead .dead (fun q hq => by
    simp only [List.mem_cons, List.not_mem_nil, or_false] at hq
    have hP : P.length ≤ 1000 := by omega
    have h0 : ([] : List (Int × Int)).length ≤ 1000 := by simp
    rcases hq with rfl | rfl | rfl | rfl | rfl <;> first | exact hP | exact h0) (by simp)
  have e5 : l_law_1 [.sh (.list (is ns)), .ol (is d4), .sh (.int (s)), .sh (.int (l)), .sh (pD P), .ol ([(l, P), (l + s, P), (mx, P), (0, []), (l, [])].map ppD), .dead, .dead, .dead, .dead, .dead, .dead, .dead, .dead, .dead] = some (.nx [.sh (.list (is ns)), .ol (is d5), .sh (.int (s)), .sh (.int (l)), .sh (pD P), .ol (Q.map ppD), .dead, .dead, .dead, .dead, .dead, .dead, .dead, .dead, .dead]) := for_hx ll_law_1 (iR_nZ (z := 6) rfl (by omega) (by omega)) w5
  have w6 := w_ck (u0 := .sh (.list (is ns))) (u1 := .ol (is d5)) (u2 := .sh (.int s)) (u3 := .sh (.int l)) (u4 := .sh (pD P)) (u5 := .sh (.list (Q.map ppD))) (u6 := .dead) (u7 := .dead) (xs0 := Q.map ppD) Q .dead hQ
  have e6 : l_law_2 [.sh (.list (is ns)), .ol (is d5), .sh (.int (s)), .sh (.int (l)), .sh (pD P), .ol (Q.map ppD), .dead, .dead, .dead, .dead, .dead, .dead, .dead, .dead, .dead] = some (.nx [.sh (.list (is ns)), .ol (is d5), .sh (.int (s)), .sh (.int (l)), .sh (pD P), .sh (.list (Q.map ppD)), .dead, .dead, .dead, .dead, .dead, .dead, .dead, .dead, .dead]) := for_hx ll_law_2 rfl w6
  obtain ⟨M0, rs, d7, lrs, vrs, hm0, M1, M2, e7⟩ := v_drawn d5 (s := 1) (by omega) (m := 4) (by decide)
  rw [scl_one, Int.mul_one] at e7
  have e7 : m__law_drawn [.ol (is d5), .sh (.int 4), .sh (.int 1)] = some (.sh (.tuple [.int M0, pD rs]), [.ol (is d7), .sh (.int 4), .sh (.int 1)]) := e7
  have elm := v_lright (l := M0) (s := 1) (ps := rs) (by omega) vrs hm0 (by omega) (fun _ => by omega)
  obtain ⟨d8, w8⟩ := w_few3 hn hb (u2 := .sh (.int s)) (u4 := .sh (pD P)) (u5 := .sh (.list (Q.map ppD))) (u6 := .dead) (u7 := .dead) (u8 := .dead) (u9 := .sh (.int M0)) (u10 := .sh (pD rs)) bl (xs0 := (List.range' 0 3).map nI) 3 0 d7 .dead .dead .dead .dead (by omega)
  have e8 : l_law_4 [.sh (.list (is ns)), .ol (is d7), .sh (.int (s)), .sh (.int (l)), .sh (pD P), .sh (.list (Q.map ppD)), .dead, .dead, .dead, .sh (.int (M0)), .sh (pD rs), .dead, .dead, .dead, .dead] = some (.nx [.sh (.list (is ns)), .ol (is d8), .sh (.int (s)), .sh (.int (l)), .sh (pD P), .sh (.list (Q.map ppD)), .dead, .dead, .dead, .sh (.int (M0)), .sh (pD rs), .dead, .dead, .dead, .dead]) := for_hx ll_law_4 (iR_nZ (z := 3) rfl (by omega) (by omega)) w8
  have g1 := same_int 1
  have g2 := same_int 0
  have g3 := same_int 3
  have g4 := same_int 2
  have f1 := few_1
  have f2 := few_2
  have h1 := bh_1
  have h2 := bh_2
  have h3 := bh_3
  have p1 := lap_1
  have p2 := lap_2
  have z5 : 5 ≤ sizeLine := by decide
  have z3 : 3 ≤ sizeLine := by decide
  have z2 : 2 ≤ sizeLine := by decide
  have z1 : 1 ≤ sizeLine := by decide
  have pe : pD [] = .tuple [] := rfl
  have ep : ([(l, P), (l + s, P), (mx, P), (0, []), (l, [])].map ppD : List D) = [.tuple [.int l, pD P], .tuple [.int (l + s), pD P], .tuple [.int mx, pD P], .tuple [.int 0, .tuple []], .tuple [.int l, .tuple []]] := rfl
  rw [ep] at e5
  clear ep w5 w6 w8 hQ hb bl bs b2 hc2 q3 vps vrs hls ls vs hps hl' lsc lps lrs hb1 hl0 L1 L2 hm0 M1 M2 s1 hn
  show ∃ z, m_law [.sh (.list (is ns))] = _
  generalize Q.map ppD = QQ at *
  generalize pD P = PP at *
  generalize pD rs = RR at *
  generalize is ns = N at *
  generalize (t3 : Int) = T3 at *
  refine ⟨[], fn_ret (ρ' := [.sh (.list (N)), .ol (is d8), .sh (.int (s)), .sh (.int (l)), .sh (PP), .sh (.list (QQ)), .dead, .dead, .dead, .sh (.int (M0)), .sh (RR), .dead, .dead, .dead, .dead]) ?_⟩
  show s_law [.sh (.list (N)), .dead, .dead, .dead, .dead, .dead, .dead, .dead, .dead, .dead, .dead, .dead, .dead, .dead, .dead] = _
  unfold s_law
  refine (seq_nx (ρ1 := [.sh (.list (N)), .ol (is d0), .dead, .dead, .dead, .dead, .dead, .dead, .dead, .dead, .dead, .dead, .dead, .dead, .dead]) (by simp [e0])).trans ?_
  refine (seq_nx (if_f (ρ1 := [.sh (.list (N)), .ol (is d1), .dead, .dead, .dead, .dead, .dead, .dead, .dead, .dead, .dead, .dead, .dead, .dead, .dead]) (by simp [e1]))).trans ?_
  refine (seq_nx (ρ1 := [.sh (.list (N)), .ol (is d3), .sh (.int (s)), .dead, .dead, .dead, .dead, .dead, .dead, .dead, .dead, .dead, .dead, .dead, .dead]) (by simp [e2, ea2, z3, e3, hs])).trans ?_
  refine (seq_nx (ρ1 := [.sh (.list (N)), .ol (is d4), .sh (.int (s)), .sh (.int (l)), .sh (PP), .dead, .dead, .dead, .dead, .dead, .dead, .dead, .dead, .dead, .dead]) (by simp [e4])).trans ?_
  refine (seq_nx (ρ1 := [.sh (.list (N)), .ol (is d4), .sh (.int (s)), .sh (.int (l)), .sh (PP), .ol ([.tuple [.int l, PP], .tuple [.int (l + s), PP], .tuple [.int mx, PP], .tuple [.int 0, .tuple []], .tuple [.int l, .tuple []]]), .dead, .dead, .dead, .dead, .dead, .dead, .dead, .dead, .dead]) (by simp [hmx, z2, z5, -ev_max2])).trans ?_
  refine (seq_nx e5).trans ?_
  refine (seq_nx e6).trans ?_
  refine (seq_nx (if_f (ρ1 := [.sh (.list (N)), .ol (is d5), .sh (.int (s)), .sh (.int (l)), .sh (PP), .sh (.list (QQ)), .dead, .dead, .dead, .dead, .dead, .dead, .dead, .dead, .dead]) (by simp [elr]))).trans ?_
  refine (seq_nx (ρ1 := [.sh (.list (N)), .ol (is d7), .sh (.int (s)), .sh (.int (l)), .sh (PP), .sh (.list (QQ)), .dead, .dead, .dead, .sh (.int (M0)), .sh (RR), .dead, .dead, .dead, .dead]) (by simp [e7])).trans ?_
  refine (seq_nx (if_f (ρ1 := [.sh (.list (N)), .ol (is d7), .sh (.int (s)), .sh (.int (l)), .sh (PP), .sh (.list (QQ)), .dead, .dead, .dead, .sh (.int (M0)), .sh (RR), .dead, .dead, .dead, .dead]) (by simp [elm, elr]))).trans ?_
  refine (seq_nx e8).trans ?_
  refine (seq_nx (if_f (ρ1 := [.sh (.list (N)), .ol (is d8), .sh (.int (s)), .sh (.int (l)), .sh (PP), .sh (.list (QQ)), .dead, .dead, .dead, .sh (.int (M0)), .sh (RR), .dead, .dead, .dead, .dead]) (by simp [h1, h2, g1, g2]))).trans ?_
  refine (seq_nx (if_f (ρ1 := [.sh (.list (N)), .ol (is d8), .sh (.int (s)), .sh (.int (l)), .sh (PP), .sh (.list (QQ)), .dead, .dead, .dead, .sh (.int (M0)), .sh (RR), .dead, .dead, .dead, .dead]) (by simp [h3, g3, p1, z2, z1]))).trans ?_
  simp [p2, g4, f1, f2, z2, z1, isNone]


end L2.G
open PySem PySem.W PyProof.Rows
set_option maxHeartbeats 0 in
theorem PySem.Challenge.cw_paperkeep_k49_boxes_and_pleats_holds : PySem.Challenge.rw_paperkeep_k49_boxes_and_pleats.Holds := by
  w_on; o_law; k_head; (case hw => w_witness2)
  k_fill
  refine L2.Pd.walk_py (imp := by decide +kernel) (l := PySem.Challenge.rw_paperkeep_k49_boxes_and_pleats) (m := 63) (n := 34) (x := "script") (CX := fun _ => L2.CX0) (sp := fun w vs H Q E => vs.length = ["script"].length ∧ L2.Pd.spD _ [] L2.G.m_law vs H Q E) rfl (by decide) rfl ⟨rfl, by decide, by decide⟩ (fun w h Y => PySem.W.kIn_of Y) ?F (fun _ _ a ns hl hb _ hS => L2.Pd.law_sp hS (L2.G.plain ns hl hb)) (fun _ _ _ _ _ h => h)
  case F =>
    intro w mg fa h KX G hmg
    refine' L2.G.all_mk KX G hmg ?a0 ?l0 ?c0 ?k0 ?a1 ?l1 ?c1 ?k1 ?a2 ?l2 ?c2 ?k2 ?a3 ?l3 ?c3 ?k3 ?a4 ?l4 ?c4 ?k4 ?a5 ?l5 ?c5 ?k5 ?a6 ?l6 ?c6 ?k6 ?a7 ?l7 ?c7 ?k7 ?a8 ?l8 ?c8 ?k8 ?a9 ?l9 ?c9 ?k9 ?a10 ?l10 ?c10 ?k10 ?a11 ?l11 ?c11 ?k11 ?a12 ?l12 ?c12 ?k12 ?a13 ?l13 ?c13 ?k13 ?a14 ?l14 ?c14 ?k14 ?a15 ?l15 ?c15 ?k15 ?a16 ?l16 ?c16 ?k16 ?a17 ?l17 ?c17 ?k17 ?a18 ?l18 ?c18 ?k18 ?a19 ?l19 ?c19 ?k19 ?a20 ?l20 ?c20 ?k20 ?a21 ?l21 ?c21 ?k21 ?a22 ?l22 ?c22 ?k22 ?z_ValueError ?z_abs ?z_any ?z_bool ?z_int ?z_isinstance ?z_len ?z_list ?z_max ?z_min ?z_range ?z_sum ?z_tuple ?xa_BadText ?xa_FoldError ?xa_InvalidBand ?xa_InvalidStrip ?xa_NoCrease ?xa_NoPart ?xa_NotFlat ?xa_NothingToRedo ?xa_NothingToUndo ?xx_InvalidStrip ?xk_InvalidStrip ?xb_InvalidStrip ?xt_InvalidStrip ?y1_InvalidStrip ?y2_InvalidStrip ?xd_InvalidStrip ?y3_InvalidStrip ?y4 ?y5 ?y6_InvalidStrip ?xd_BadText ?xt_BadText ?ks_InvalidStrip_BadText ?kn_InvalidStrip_BadText ?xd_InvalidBand ?xt_InvalidBand ?ks_InvalidStrip_InvalidBand ?kn_InvalidStrip_InvalidBand ?xd_NoCrease ?xt_NoCrease ?ks_InvalidStrip_NoCrease ?kn_InvalidStrip_NoCrease ?xd_NoPart ?xt_NoPart ?ks_InvalidStrip_NoPart ?kn_InvalidStrip_NoPart ?xd_NotFlat ?xt_NotFlat ?ks_InvalidStrip_NotFlat ?kn_InvalidStrip_NotFlat ?xd_NothingToRedo ?xt_NothingToRedo ?ks_InvalidStrip_NothingToRedo ?kn_InvalidStrip_NothingToRedo ?xd_NothingToUndo ?xt_NothingToUndo ?ks_InvalidStrip_NothingToUndo ?kn_InvalidStrip_NothingToUndo ?ks_InvalidStrip_ValueError ?xd_FoldError ?xt_FoldError ?ks_InvalidStrip_FoldError ?xb_FoldError ?htr
    (case a0 => k_is); (case l0 => k_is); (case c0 => k_is); (case k0 => k_is); (case a1 => k_is); (case l1 => k_is); (case c1 => k_is); (case k1 => k_is); (case a2 => k_is); (case l2 => k_is); (case c2 => k_is); (case k2 => k_is); (case a3 => k_is); (case l3 => k_is); (case c3 => k_is); (case k3 => k_is); (case a4 => k_is); (case l4 => k_is); (case c4 => k_is); (case k4 => k_is); (case a5 => k_is); (case l5 => k_is); (case c5 => k_is); (case k5 => k_is); (case a6 => k_is); (case l6 => k_is); (case c6 => k_is); (case k6 => k_is); (case a7 => k_is); (case l7 => k_is); (case c7 => k_is); (case k7 => k_is); (case a8 => k_is); (case l8 => k_is); (case c8 => k_is); (case k8 => k_is); (case a9 => k_is); (case l9 => k_is); (case c9 => k_is); (case k9 => k_is); (case a10 => k_is); (case l10 => k_is); (case c10 => k_is); (case k10 => k_is); (case a11 => k_is); (case l11 => k_is); (case c11 => k_is); (case k11 => k_is); (case a12 => k_is); (case l12 => k_is); (case c12 => k_is); (case k12 => k_is); (case a13 => k_is); (case l13 => k_is); (case c13 => k_is); (case k13 => k_is); (case a14 => k_is); (case l14 => k_is); (case c14 => k_is); (case k14 => k_is); (case a15 => k_is); (case l15 => k_is); (case c15 => k_is); (case k15 => k_is); (case a16 => k_is); (case l16 => k_is); (case c16 => k_is); (case k16 => k_is); (case a17 => k_is); (case l17 => k_is); (case c17 => k_is); (case k17 => k_is); (case a18 => k_is); (case l18 => k_is); (case c18 => k_is); (case k18 => k_is); (case a19 => k_is); (case l19 => k_is); (case c19 => k_is); (case k19 => k_is); (case a20 => k_is); (case l20 => k_is); (case c20 => k_is); (case k20 => k_is); (case a21 => k_is); (case l21 => k_is); (case c21 => k_is); (case k21 => k_is); (case a22 => k_is); (case l22 => k_is); (case c22 => k_is); (case k22 => k_is); (case z_ValueError => k_is); (case z_abs => k_is); (case z_any => k_is); (case z_bool => k_is); (case z_int => k_is); (case z_isinstance => k_is); (case z_len => k_is); (case z_list => k_is); (case z_max => k_is); (case z_min => k_is); (case z_range => k_is); (case z_sum => k_is); (case z_tuple => k_is); (case xa_BadText => k_is); (case xa_FoldError => k_is); (case xa_InvalidBand => k_is); (case xa_InvalidStrip => k_is); (case xa_NoCrease => k_is); (case xa_NoPart => k_is); (case xa_NotFlat => k_is); (case xa_NothingToRedo => k_is); (case xa_NothingToUndo => k_is); (case xx_InvalidStrip => k_exc); (case xk_InvalidStrip => k_is); (case xb_InvalidStrip => k_is); (case xt_InvalidStrip => k_is); (case y1_InvalidStrip => k_is); (case y2_InvalidStrip => k_is); (case xd_InvalidStrip => k_is); (case y3_InvalidStrip => k_is); (case y4 => k_is); (case y5 => k_is); (case y6_InvalidStrip => k_is); (case xd_BadText => k_is); (case xt_BadText => k_is); (case ks_InvalidStrip_BadText => k_is); (case kn_InvalidStrip_BadText => rfl); (case xd_InvalidBand => k_is); (case xt_InvalidBand => k_is); (case ks_InvalidStrip_InvalidBand => k_is); (case kn_InvalidStrip_InvalidBand => rfl); (case xd_NoCrease => k_is); (case xt_NoCrease => k_is); (case ks_InvalidStrip_NoCrease => k_is); (case kn_InvalidStrip_NoCrease => rfl); (case xd_NoPart => k_is); (case xt_NoPart => k_is); (case ks_InvalidStrip_NoPart => k_is); (case kn_InvalidStrip_NoPart => rfl); (case xd_NotFlat => k_is); (case xt_NotFlat => k_is); (case ks_InvalidStrip_NotFlat => k_is); (case kn_InvalidStrip_NotFlat => rfl); (case xd_NothingToRedo => k_is); (case xt_NothingToRedo => k_is); (case ks_InvalidStrip_NothingToRedo => k_is); (case kn_InvalidStrip_NothingToRedo => rfl); (case xd_NothingToUndo => k_is); (case xt_NothingToUndo => k_is); (case ks_InvalidStrip_NothingToUndo => k_is); (case kn_InvalidStrip_NothingToUndo => rfl); (case ks_InvalidStrip_ValueError => k_is); (case xd_FoldError => k_is); (case xt_FoldError => k_is); (case ks_InvalidStrip_FoldError => k_is); (case xb_FoldError => k_is); (case htr => rfl)
