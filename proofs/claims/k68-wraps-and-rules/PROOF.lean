import PyProof.Rows.All
import Wide.All
import OpenK.AllK
import Wide.FinOn
import HandS.ForMost
import HandS.IsInst
import HandS.Flow
import HandS.Wide
import HandS.Style
import HandS.Deep
import HandS.Conv
import HandS.TupAny
import HandS.EndBits
import KE.SortData
import KE.DataMinMax
import KE.DataCmp
import HandS.NoneIn
import HandS.TupMul
import PyProof.ListMulRoad
import PyProof.FactsAll.tuple_2
import KE.KTupSum
import HandS.TupSets
import HandS.Set
import HandS.WordsDict
import HandS.Iter
import HandS.SetFor
import HandS.Strs
import HandS.HotCalls
import HandS.ExcIs
import PySem.Challenge.RW_paperkeep_k68_wraps_and_rules
set_option Elab.async false
set_option linter.all false
set_option maxRecDepth 100000
set_option maxHeartbeats 4000000
namespace L2.Pd
open PySem PySem.Spec PyProof.Rows
/-! ## Pure data over the hand layer: cells, what holds of them, the growing of the heap -/
abbrev D := PyData
/-- what a def's slot holds: nothing that is asked for; data that nobody changes; a list, a dict of the def's own; a dict of its own that is walked just now -/
inductive Cell where
  | dead
  | sh (d : D)
  | ol (ds : List D)
  | od (tk : Bool) (kvs : List (D × D))
  | fd (tk : Bool) (kvs : List (D × D))
abbrev En := List Cell
def isOwn : Cell → Bool
  | .dead => false
  | .sh _ => false
  | .fd _ _ => false
  | _ => true
def kD : Key → D
  | .inl i => .int i
  | .inr x => .str x
abbrev KvK (K : PySem.W.Frag) (F : Hp) : List (D × D) → List (Key × V) → Prop := Paired (fun p q => p.1 = kD q.1 ∧ Dp K F q.2 p.2)
abbrev KvT (K : PySem.W.Frag) (F : Hp) : List (D × D) → List (List Key × V) → Prop := Paired (fun p q => p.1 = .tuple (q.1.map kD) ∧ Dp K F q.2 p.2)
/-- a dict's object; tk: its keys are tuples -/
def DictOb (K : PySem.W.Frag) (F : Hp) (kvs : List (D × D)) : Bool → HO → Prop
  | false, .dK ws => KvK K F kvs ws
  | true, .dT ws => KvT K F kvs ws
  | _, _ => False
/-- the object of an own cell -/
def Ob (K : PySem.W.Frag) (F : Hp) : Cell → HO → Prop
  | .ol ds, .lst vs => DpAll K F vs ds
  | .od tk kvs, o => DictOb K F kvs tk o
  | _, _ => False
def CellOk (K : PySem.W.Frag) (B F H : Hp) (x : Option V) : Cell → Prop
  | .dead => True
  | .sh d => ∃ v, x = some v ∧ Dp K F v d
  | .fd tk kvs => ∃ a ob u, x = some (.ref a) ∧ F a = some (.frz ob u) ∧ DictOb K F kvs tk u
  | c => ∃ a o, x = some (.ref a) ∧ H a = some o ∧ Ob K F c o ∧ F a = none ∧ B a = none
structure Con (K : PySem.W.Frag) (B F : Hp) (io : List (Nat × Addr)) (σ : St) (H : Hp) (ρ : En) : Prop where
  len : σ.length = ρ.length
  base : Same B H
  frz : Same F H
  cell : ∀ (i : Nat) (c : Cell), ρ[i]? = some c → ∃ x, σ[i]? = some x ∧ CellOk K B F H x c
  sep : ∀ (i j : Nat) (c e : Cell) (a : Addr), ρ[i]? = some c → ρ[j]? = some e → isOwn c = true → isOwn e = true → σ[i]? = some (some (.ref a)) → σ[j]? = some (some (.ref a)) → i = j
  io : ∀ p ∈ io, σ[p.1]? = some (some (.ref p.2))
/-- the frozen heap grows by what is new -/
structure Gr (B F F' : Hp) : Prop where
  sub : Same F F'
  new : ∀ a o, F' a = some o → F a = some o ∨ B a = none
/-- both heaps grow, nothing is changed -/
structure Al (F H F' H' : Hp) : Prop where
  ff : Same F F'
  hh : Same H H'
  sub : Same F' H'
  new : ∀ a o, F' a = some o → F a = some o ∨ H a = none

theorem Gr.refl (B F : Hp) : Gr B F F := ⟨Same.refl F, fun _ _ h => .inl h⟩
theorem Gr.trans {B F F1 F2 : Hp} (a : Gr B F F1) (b : Gr B F1 F2) : Gr B F F2 := ⟨a.sub.trans b.sub, fun x o h => by
  rcases b.new x o h with q | q
  · exact a.new x o q
  · exact .inr q⟩
theorem Al.refl {F H : Hp} (h : Same F H) : Al F H F H := ⟨Same.refl F, Same.refl H, h, fun _ _ q => .inl q⟩
theorem Al.trans {F H F1 H1 F2 H2 : Hp} (a : Al F H F1 H1) (b : Al F1 H1 F2 H2) : Al F H F2 H2 := ⟨a.ff.trans b.ff, a.hh.trans b.hh, b.sub, fun x o h => by
  rcases b.new x o h with q | q
  · exact a.new x o q
  · exact .inr (a.hh.free q)⟩
theorem same_upd {H : Hp} {p : Addr} {o : HO} (h : H p = none) : Same H (upd H p o) := fun b x e => by
  rw [upd_ne (ne_of_none e h)]
  exact e
theorem same_upd2 {F H : Hp} {p : Addr} {o : HO} (h : Same F H) : Same (upd F p o) (upd H p o) := fun b x e => by
  by_cases q : b = p
  · subst q; rw [upd_same] at e ⊢; exact e
  · rw [upd_ne q] at e ⊢; exact h b x e
theorem Al.laid {F H : Hp} {p : Addr} {o : HO} (h : Same F H) (n : H p = none) : Al F H (upd F p o) (upd H p o) :=
  ⟨same_upd (h.free n), same_upd n, same_upd2 h, fun a x e => by
    by_cases q : a = p
    · subst q; exact .inr n
    · rw [upd_ne q] at e; exact .inl e⟩
/-- the heap alone grows -/
theorem Al.laidH {F H : Hp} {p : Addr} {o : HO} (h : Same F H) (n : H p = none) : Al F H F (upd H p o) :=
  ⟨Same.refl F, same_upd n, h.trans (same_upd n), fun a x e => .inl e⟩
theorem Al.gr {B F H F' H' : Hp} (a : Al F H F' H') (b : Same B H) : Gr B F F' := ⟨a.ff, fun x o h => by
  rcases a.new x o h with q | q
  · exact .inl q
  · exact .inr (b.free q)⟩

theorem Rd.mono {F F' : Hp} (s : Same F F') {a : Addr} {u : HO} (h : Rd F a u) : Rd F' a u := by
  rcases h with h | ⟨o, h⟩
  · exact .inl (s _ _ h)
  · exact .inr ⟨o, s _ _ h⟩
theorem sqT_mono {K : PySem.W.Frag} {F F' : Hp} (s : Same F F') {a : Addr} {xs : List V} (h : SqT K F a xs) : SqT K F' a xs := by
  rcases h with h | h
  · exact .inl (Rd.mono s h)
  · exact .inr h
mutual
theorem dp_mono {K : PySem.W.Frag} {F F' : Hp} (s : Same F F') : ∀ {d : D} {v : V}, Dp K F v d → Dp K F' v d
  | .none, _, h => by cases h; exact .non
  | .bool _, _, h => by cases h; exact .bl _
  | .int _, _, h => by cases h; exact .int _
  | .str _, _, h => by cases h; exact .str _
  | .list ds, _, h => by
    cases h with
    | lst q r => exact .lst (s.seq q) (dpAll_mono s r)
  | .tuple ds, _, h => by
    cases h with
    | tup q r => exact .tup (sqT_mono s q) (dpAll_mono s r)
  | .dict _, _, h => by cases h
theorem dpAll_mono {K : PySem.W.Frag} {F F' : Hp} (s : Same F F') : ∀ {ds : List D} {vs : List V}, DpAll K F vs ds → DpAll K F' vs ds
  | [], _, h => by cases h; exact .nil
  | d :: ds, _, h => by
    cases h with
    | cons q r => exact .cons (dp_mono s q) (dpAll_mono s r)
end
theorem dictOb_mono {K : PySem.W.Frag} {F F' : Hp} (s : Same F F') {kvs : List (D × D)} {tk : Bool} {u : HO} (h : DictOb K F kvs tk u) : DictOb K F' kvs tk u := by
  cases tk with
  | false =>
    cases u with
    | dK ws =>
      have h : KvK K F kvs ws := h
      show KvK K F' kvs ws
      induction h with
      | nil => exact .nil
      | cons r t ih => exact .cons ⟨r.1, dp_mono s r.2⟩ (ih t)
    | _ => exact h.elim
  | true =>
    cases u with
    | dT ws =>
      have h : KvT K F kvs ws := h
      show KvT K F' kvs ws
      induction h with
      | nil => exact .nil
      | cons r t ih => exact .cons ⟨r.1, dp_mono s r.2⟩ (ih t)
    | _ => exact h.elim
theorem ob_mono {K : PySem.W.Frag} {F F' : Hp} (s : Same F F') {c : Cell} {o : HO} (h : Ob K F c o) : Ob K F' c o := by
  cases c with
  | ol ds =>
    cases o with
    | lst vs => exact dpAll_mono s h
    | _ => exact h
  | od tk kvs => exact dictOb_mono s h
  | dead => exact h
  | sh d => exact h
  | fd tk kvs => exact h
theorem ob_own {K : PySem.W.Frag} {F : Hp} {c : Cell} {o : HO} (h : Ob K F c o) : isOwn c = true := by
  cases c <;> first | rfl | (cases o <;> exact h.elim)
/-! ### lists of data -/
theorem _root_.L2.DpAll.length {K : PySem.W.Frag} {F : Hp} : ∀ {vs : List V} {ds : List D}, DpAll K F vs ds → vs.length = ds.length
  | _, [], h => by cases h; rfl
  | _, d :: ds, h => by
    cases h with
    | cons q r => rw [List.length_cons, List.length_cons, DpAll.length r]
theorem _root_.L2.DpAll.get {K : PySem.W.Frag} {F : Hp} : ∀ {vs : List V} {ds : List D} {i : Nat} {v : V}, DpAll K F vs ds → vs[i]? = some v → ∃ d, ds[i]? = some d ∧ Dp K F v d
  | _, [], i, v, h, e => by cases h; simp at e
  | _, d :: ds, 0, v, h, e => by
    cases h with
    | cons q r => simp at e; subst e; exact ⟨d, rfl, q⟩
  | _, d :: ds, i + 1, v, h, e => by
    cases h with
    | cons q r =>
      obtain ⟨d', e', q'⟩ := DpAll.get (i := i) (v := v) r (by simpa using e)
      exact ⟨d', by simpa using e', q'⟩
theorem _root_.L2.DpAll.get' {K : PySem.W.Frag} {F : Hp} : ∀ {vs : List V} {ds : List D} {i : Nat} {d : D}, DpAll K F vs ds → ds[i]? = some d → ∃ v, vs[i]? = some v ∧ Dp K F v d
  | _, [], i, v, h, e => by simp at e
  | _, d :: ds, 0, v, h, e => by
    cases h with
    | cons q r => simp at e; subst e; exact ⟨_, rfl, q⟩
  | _, d :: ds, i + 1, v, h, e => by
    cases h with
    | cons q r =>
      obtain ⟨d', e', q'⟩ := DpAll.get' (i := i) r (by simpa using e)
      exact ⟨d', by simpa using e', q'⟩
theorem _root_.L2.DpAll.append {K : PySem.W.Frag} {F : Hp} : ∀ {vs ws : List V} {ds es : List D}, DpAll K F vs ds → DpAll K F ws es → DpAll K F (vs ++ ws) (ds ++ es)
  | _, _, [], _, h, r => by cases h; exact r
  | _, _, d :: ds, _, h, r => by
    cases h with
    | cons q t => exact .cons q (DpAll.append t r)
theorem _root_.L2.DpAll.one {K : PySem.W.Frag} {F : Hp} {v : V} {d : D} (h : Dp K F v d) : DpAll K F [v] [d] := .cons h .nil
theorem _root_.L2.DpAll.take {K : PySem.W.Frag} {F : Hp} : ∀ {vs : List V} {ds : List D} (n : Nat), DpAll K F vs ds → DpAll K F (vs.take n) (ds.take n)
  | _, _, 0, _ => .nil
  | _, [], _ + 1, h => by cases h; exact .nil
  | _, d :: ds, n + 1, h => by
    cases h with
    | cons q r => exact .cons q (DpAll.take n r)
theorem _root_.L2.DpAll.drop {K : PySem.W.Frag} {F : Hp} : ∀ {vs : List V} {ds : List D} (n : Nat), DpAll K F vs ds → DpAll K F (vs.drop n) (ds.drop n)
  | _, _, 0, h => h
  | _, [], _ + 1, h => by cases h; exact .nil
  | _, d :: ds, n + 1, h => by
    cases h with
    | cons q r => exact DpAll.drop n r
theorem _root_.L2.DpAll.set {K : PySem.W.Frag} {F : Hp} {v : V} {d : D} (h : Dp K F v d) : ∀ {vs : List V} {ds : List D} (i : Nat), DpAll K F vs ds → DpAll K F (vs.set i v) (ds.set i d)
  | _, [], _, r => by cases r; exact .nil
  | _, e :: ds, 0, r => by
    cases r with
    | cons q t => exact .cons h t
  | _, e :: ds, i + 1, r => by
    cases r with
    | cons q t => exact .cons q (DpAll.set h i t)
theorem _root_.L2.DpAll.reverse {K : PySem.W.Frag} {F : Hp} : ∀ {vs : List V} {ds : List D}, DpAll K F vs ds → DpAll K F vs.reverse ds.reverse
  | _, [], h => by cases h; exact .nil
  | _, d :: ds, h => by
    cases h with
    | cons q r => rw [List.reverse_cons, List.reverse_cons]; exact DpAll.append (DpAll.reverse r) (.one q)
theorem _root_.L2.DpAll.eraseIdx {K : PySem.W.Frag} {F : Hp} : ∀ {vs : List V} {ds : List D} (i : Nat), DpAll K F vs ds → DpAll K F (vs.eraseIdx i) (ds.eraseIdx i)
  | _, [], _, r => by cases r; exact .nil
  | _, e :: ds, 0, r => by
    cases r with
    | cons q t => exact t
  | _, e :: ds, i + 1, r => by
    cases r with
    | cons q t => exact .cons q (DpAll.eraseIdx i t)
theorem _root_.L2.DpAll.dropLast {K : PySem.W.Frag} {F : Hp} {vs : List V} {ds : List D} (h : DpAll K F vs ds) : DpAll K F vs.dropLast ds.dropLast := by
  rw [List.dropLast_eq_take, List.dropLast_eq_take, h.length]
  exact h.take _
theorem dp_ints {K : PySem.W.Frag} {F : Hp} : ∀ ns : List Int, DpAll K F (ns.map V.int) (ns.map PyData.int)
  | [] => .nil
  | n :: ns => .cons (.int n) (dp_ints ns)
theorem dp_ints_inv {K : PySem.W.Frag} {F : Hp} : ∀ {ns : List Int} {vs : List V}, DpAll K F vs (ns.map PyData.int) → vs = ns.map V.int
  | [], _, h => by cases h; rfl
  | n :: ns, _, h => by
    cases h with
    | cons q r => cases q; rw [dp_ints_inv r]; rfl
theorem dp_strs_inv {K : PySem.W.Frag} {F : Hp} : ∀ {ns : List Str} {vs : List V}, DpAll K F vs (ns.map PyData.str) → vs = ns.map V.str
  | [], _, h => by cases h; rfl
  | n :: ns, _, h => by
    cases h with
    | cons q r => cases q; rw [dp_strs_inv r]; rfl
theorem dp_bls_inv {K : PySem.W.Frag} {F : Hp} : ∀ {ns : List Bool} {vs : List V}, DpAll K F vs (ns.map PyData.bool) → vs = ns.map V.bl
  | [], _, h => by cases h; rfl
  | n :: ns, _, h => by
    cases h with
    | cons q r => cases q; rw [dp_bls_inv r]; rfl
/-! ### the state under growing, storing, writing -/
section
variable {K : PySem.W.Frag} {B F F' H H' : Hp} {io : List (Nat × Addr)} {σ : St} {ρ : En}
theorem cellOk_own {x : Option V} {c : Cell} (h : isOwn c = true) : CellOk K B F H x c ↔ ∃ a o, x = some (.ref a) ∧ H a = some o ∧ Ob K F c o ∧ F a = none ∧ B a = none := by
  cases c <;> first | exact Iff.rfl | (cases h)
theorem Con.al (c : Con K B F io σ H ρ) (a : Al F H F' H') : Con K B F' io σ H' ρ := by
  refine ⟨c.len, c.base.trans a.hh, a.sub, fun i e he => ?_, c.sep, c.io⟩
  obtain ⟨x, hx, ok⟩ := c.cell i e he
  refine ⟨x, hx, ?_⟩
  by_cases ho : isOwn e = true
  · rw [cellOk_own ho] at ok ⊢
    obtain ⟨p, o, h1, h2, h3, h4, h5⟩ := ok
    refine ⟨p, o, h1, a.hh _ _ h2, ob_mono a.ff h3, ?_, h5⟩
    cases q : F' p with
    | none => rfl
    | some u =>
      rcases a.new p u q with z | z
      · rw [h4] at z; cases z
      · rw [h2] at z; cases z
  · cases e with
    | dead => trivial
    | sh d => obtain ⟨v, h1, h2⟩ := ok; exact ⟨v, h1, dp_mono a.ff h2⟩
    | fd tk kvs => obtain ⟨p, ob, u, z1, z2, z3⟩ := ok; exact ⟨p, ob, u, z1, a.ff _ _ z2, dictOb_mono a.ff z3⟩
    | _ => exact absurd rfl ho
theorem get_set_cases {α : Type} {l : List α} {i j : Nat} {x y : α} (h : (l.set i x)[j]? = some y) : (j = i ∧ y = x ∧ i < l.length) ∨ (j ≠ i ∧ l[j]? = some y) := by
  by_cases e : i = j
  · subst e
    by_cases q : i < l.length
    · rw [List.getElem?_set_self q] at h
      exact .inl ⟨rfl, (Option.some.inj h).symm, q⟩
    · rw [List.getElem?_eq_none (by rw [List.length_set]; omega)] at h
      cases h
  · rw [List.getElem?_set_ne e] at h
    exact .inr ⟨fun z => e z.symm, h⟩
theorem io_set (c : Con K B F io σ H ρ) {i : Nat} (hi : i ∉ io.map (·.1)) (x : Option V) : ∀ p ∈ io, (σ.set i x)[p.1]? = some (some (.ref p.2)) := fun p hp => by
  rw [List.getElem?_set_ne (fun e => hi (List.mem_map.mpr ⟨p, hp, e.symm⟩))]
  exact c.io p hp
theorem Con.set_sh (c : Con K B F io σ H ρ) {i : Nat} {v : V} {d : D} (hi : i ∉ io.map (·.1)) (h : Dp K F v d) : Con K B F io (σ.set i (some v)) H (ρ.set i (.sh d)) := by
  refine ⟨by rw [List.length_set, List.length_set, c.len], c.base, c.frz, fun j e he => ?_, fun j k e1 e2 a h1 h2 o1 o2 s1 s2 => ?_, io_set c hi _⟩
  · rcases get_set_cases he with ⟨rfl, rfl, hl⟩ | ⟨ne, he⟩
    · exact ⟨some v, by rw [List.getElem?_set_self (by rw [c.len]; exact hl)], v, rfl, h⟩
    · obtain ⟨x, hx, ok⟩ := c.cell j e he
      exact ⟨x, by rw [List.getElem?_set_ne (Ne.symm ne)]; exact hx, ok⟩
  · rcases get_set_cases h1 with ⟨rfl, rfl, hl⟩ | ⟨ne1, h1⟩
    · cases o1
    · rcases get_set_cases h2 with ⟨rfl, rfl, hl⟩ | ⟨ne2, h2⟩
      · cases o2
      · rw [List.getElem?_set_ne (Ne.symm ne1)] at s1
        rw [List.getElem?_set_ne (Ne.symm ne2)] at s2
        exact c.sep j k e1 e2 a h1 h2 o1 o2 s1 s2
/-- the address is no own cell's -/
def NotOwned (σ : St) (ρ : En) (a : Addr) : Prop := ∀ (i : Nat) (c : Cell), ρ[i]? = some c → isOwn c = true → σ[i]? ≠ some (some (.ref a))
theorem Con.set_own (c : Con K B F io σ H ρ) {i : Nat} {a : Addr} {o : HO} {e0 : Cell} (hi : i ∉ io.map (·.1)) (ha : H a = some o) (ob : Ob K F e0 o) (fa : F a = none) (ba : B a = none) (no : NotOwned σ ρ a) :
    Con K B F io (σ.set i (some (.ref a))) H (ρ.set i e0) := by
  have o0 := ob_own ob
  refine ⟨by rw [List.length_set, List.length_set, c.len], c.base, c.frz, fun j e he => ?_, fun j k e1 e2 b h1 h2 o1 o2 s1 s2 => ?_, io_set c hi _⟩
  · rcases get_set_cases he with ⟨rfl, rfl, hl⟩ | ⟨ne, he⟩
    · exact ⟨some (.ref a), by rw [List.getElem?_set_self (by rw [c.len]; exact hl)], (cellOk_own o0).mpr ⟨a, o, rfl, ha, ob, fa, ba⟩⟩
    · obtain ⟨x, hx, ok⟩ := c.cell j e he
      exact ⟨x, by rw [List.getElem?_set_ne (Ne.symm ne)]; exact hx, ok⟩
  · rcases get_set_cases h1 with ⟨rfl, rfl, hl⟩ | ⟨ne1, g1⟩
    · rcases get_set_cases h2 with ⟨rfl, rfl, _⟩ | ⟨ne2, g2⟩
      · rfl
      · rw [List.getElem?_set_self (by rw [c.len]; exact hl)] at s1
        rw [List.getElem?_set_ne (Ne.symm ne2)] at s2
        cases s1
        exact absurd s2 (no k e2 g2 o2)
    · rw [List.getElem?_set_ne (Ne.symm ne1)] at s1
      rcases get_set_cases h2 with ⟨rfl, rfl, hl⟩ | ⟨ne2, g2⟩
      · rw [List.getElem?_set_self (by rw [c.len]; exact hl)] at s2
        cases s2
        exact absurd s1 (no j e1 g1 o1)
      · rw [List.getElem?_set_ne (Ne.symm ne2)] at s2
        exact c.sep j k e1 e2 b g1 g2 o1 o2 s1 s2
/-- a slot is forgotten, whatever it is given -/
theorem Con.kill (c : Con K B F io σ H ρ) (i : Nat) : Con K B F io σ H (ρ.set i .dead) := by
  refine ⟨by rw [List.length_set, c.len], c.base, c.frz, fun j e he => ?_, fun j k e1 e2 b h1 h2 o1 o2 s1 s2 => ?_, c.io⟩
  · rcases get_set_cases he with ⟨rfl, rfl, hl⟩ | ⟨ne, he⟩
    · exact ⟨σ[j]'(by rw [c.len]; exact hl), List.getElem?_eq_getElem _, trivial⟩
    · exact c.cell j e he
  · rcases get_set_cases h1 with ⟨rfl, rfl, hl⟩ | ⟨ne1, h1⟩
    · cases o1
    · rcases get_set_cases h2 with ⟨rfl, rfl, hl⟩ | ⟨ne2, h2⟩
      · cases o2
      · exact c.sep j k e1 e2 b h1 h2 o1 o2 s1 s2
theorem Con.setDead (c : Con K B F io σ H ρ) {i : Nat} (hi : i ∉ io.map (·.1)) (x : Option V) : Con K B F io (σ.set i x) H (ρ.set i .dead) := by
  refine ⟨by rw [List.length_set, List.length_set, c.len], c.base, c.frz, fun j e he => ?_, fun j k e1 e2 a h1 h2 o1 o2 s1 s2 => ?_, io_set c hi _⟩
  · rcases get_set_cases he with ⟨rfl, rfl, hl⟩ | ⟨ne, he⟩
    · exact ⟨x, by rw [List.getElem?_set_self (by rw [c.len]; exact hl)], trivial⟩
    · obtain ⟨x, hx, ok⟩ := c.cell j e he
      exact ⟨x, by rw [List.getElem?_set_ne (Ne.symm ne)]; exact hx, ok⟩
  · rcases get_set_cases h1 with ⟨rfl, rfl, hl⟩ | ⟨ne1, h1⟩
    · cases o1
    · rcases get_set_cases h2 with ⟨rfl, rfl, hl⟩ | ⟨ne2, h2⟩
      · cases o2
      · rw [List.getElem?_set_ne (Ne.symm ne1)] at s1
        rw [List.getElem?_set_ne (Ne.symm ne2)] at s2
        exact c.sep j k e1 e2 a h1 h2 o1 o2 s1 s2
theorem Con.own (c : Con K B F io σ H ρ) {i : Nat} {e : Cell} (h : ρ[i]? = some e) (o1 : isOwn e = true) : ∃ a o, σ[i]? = some (some (.ref a)) ∧ H a = some o ∧ Ob K F e o ∧ F a = none ∧ B a = none := by
  obtain ⟨x, hx, ok⟩ := c.cell i e h
  obtain ⟨a, o, h1, h2, h3, h4, h5⟩ := (cellOk_own o1).mp ok
  subst h1
  exact ⟨a, o, hx, h2, h3, h4, h5⟩
/-- the own object of slot i is written -/
theorem Con.write (c : Con K B F io σ H ρ) {i : Nat} {a : Addr} {o' : HO} {e e' : Cell} (h : ρ[i]? = some e) (o1 : isOwn e = true) (hs : σ[i]? = some (some (.ref a))) (ob : Ob K F e' o') :
    Con K B F io σ (upd H a o') (ρ.set i e') := by
  obtain ⟨a', o, h1, h2, h3, h4, h5⟩ := c.own h o1
  have ea : a' = a := by rw [hs] at h1; cases h1; rfl
  subst ea
  have o2 := ob_own ob
  have same : ∀ {G : Hp}, Same G H → G a' = none → Same G (upd H a' o') := fun {G} s n b x q => by
    rw [upd_ne (ne_of_none q n)]
    exact s b x q
  refine ⟨by rw [List.length_set, c.len], same c.base h5, same c.frz h4, fun j u he => ?_, fun j k e1 e2 b q1 q2 w1 w2 s1 s2 => ?_, c.io⟩
  · rcases get_set_cases he with ⟨rfl, rfl, hl⟩ | ⟨ne, he⟩
    · exact ⟨_, hs, (cellOk_own o2).mpr ⟨a', o', rfl, upd_same, ob, h4, h5⟩⟩
    · obtain ⟨x, hx, ok⟩ := c.cell j u he
      refine ⟨x, hx, ?_⟩
      by_cases ho : isOwn u = true
      · rw [cellOk_own ho] at ok ⊢
        obtain ⟨p, w, g1, g2, g3, g4, g5⟩ := ok
        subst g1
        refine ⟨p, w, rfl, ?_, g3, g4, g5⟩
        have np : p ≠ a' := fun z => ne (c.sep j i u e a' he h ho o1 (by rw [hx, z]) hs)
        rw [upd_ne np]
        exact g2
      · cases u with
        | dead => trivial
        | sh d => exact ok
        | fd tk kvs => exact ok
        | _ => exact absurd rfl ho
  · rcases get_set_cases q1 with ⟨rfl, rfl, hl⟩ | ⟨ne1, g1⟩
    · rcases get_set_cases q2 with ⟨rfl, rfl, _⟩ | ⟨ne2, g2⟩
      · rfl
      · exact c.sep j k e e2 b h g2 o1 w2 s1 s2
    · rcases get_set_cases q2 with ⟨rfl, rfl, _⟩ | ⟨ne2, g2⟩
      · exact c.sep j k e1 e b g1 h w1 o1 s1 s2
      · exact c.sep j k e1 e2 b g1 g2 w1 w2 s1 s2
/-- what is frozen may be seen as new beside it -/
theorem Con.fresh_notOwned (c : Con K B F io σ H ρ) {a : Addr} (h : H a = none) : NotOwned σ ρ a := fun i e he ho q => by
  obtain ⟨p, o, h1, h2, _⟩ := c.own he ho
  rw [q] at h1
  cases h1
  rw [h] at h2
  cases h2
/-- an own list is frozen -/
theorem Con.freezeV (c : Con K B F io σ H ρ) {i : Nat} {ds : List D} (h : ρ[i]? = some (.ol ds)) : ∃ a vs, σ[i]? = some (some (.ref a)) ∧ H a = some (.lst vs) ∧ DpAll K F vs ds ∧ Gr B F (upd F a (.lst vs)) ∧ Dp K (upd F a (.lst vs)) (.ref a) (.list ds) ∧ Con K B (upd F a (.lst vs)) io σ H (ρ.set i (.sh (.list ds))) := by
  obtain ⟨a, o, h1, h2, h3, h4, h5⟩ := c.own h rfl
  cases o with
  | lst vs =>
    have ob : DpAll K F vs ds := h3
    have s1 : Same F (upd F a (.lst vs)) := same_upd h4
    have dd : Dp K (upd F a (.lst vs)) (.ref a) (.list ds) := .lst (.inl (.inl upd_same)) (dpAll_mono s1 ob)
    refine ⟨a, vs, h1, h2, ob, ⟨s1, fun b x e => ?_⟩, dd, ⟨by rw [List.length_set, c.len], c.base, fun b x e => ?_, fun j u he => ?_, fun j k e1 e2 b q1 q2 w1 w2 t1 t2 => ?_, c.io⟩⟩
    · by_cases q : b = a
      · subst q; exact .inr h5
      · rw [upd_ne q] at e; exact .inl e
    · by_cases q : b = a
      · subst q; rw [upd_same] at e; rw [h2]; exact e
      · rw [upd_ne q] at e; exact c.frz b x e
    · rcases get_set_cases he with ⟨rfl, rfl, hl⟩ | ⟨ne, he⟩
      · exact ⟨_, h1, .ref a, rfl, dd⟩
      · obtain ⟨x, hx, ok⟩ := c.cell j u he
        refine ⟨x, hx, ?_⟩
        by_cases ho : isOwn u = true
        · rw [cellOk_own ho] at ok ⊢
          obtain ⟨p, w, g1, g2, g3, g4, g5⟩ := ok
          subst g1
          refine ⟨p, w, rfl, g2, ob_mono s1 g3, ?_, g5⟩
          have np : p ≠ a := fun z => ne (c.sep j i u (.ol ds) a he h ho rfl (by rw [hx, z]) h1)
          rw [upd_ne np]
          exact g4
        · cases u with
          | dead => trivial
          | sh d => obtain ⟨v, z1, z2⟩ := ok; exact ⟨v, z1, dp_mono s1 z2⟩
          | fd tk kvs => obtain ⟨p, ob, u, z1, z2, z3⟩ := ok; exact ⟨p, ob, u, z1, s1 _ _ z2, dictOb_mono s1 z3⟩
          | _ => exact absurd rfl ho
    · rcases get_set_cases q1 with ⟨rfl, rfl, hl⟩ | ⟨ne1, q1⟩
      · cases w1
      · rcases get_set_cases q2 with ⟨rfl, rfl, hl⟩ | ⟨ne2, q2⟩
        · cases w2
        · exact c.sep j k e1 e2 b q1 q2 w1 w2 t1 t2
  | _ => exact False.elim h3
theorem Con.freeze (c : Con K B F io σ H ρ) {i : Nat} {ds : List D} (h : ρ[i]? = some (.ol ds)) : ∃ a F', σ[i]? = some (some (.ref a)) ∧ Gr B F F' ∧ Dp K F' (.ref a) (.list ds) ∧ Con K B F' io σ H (ρ.set i (.sh (.list ds))) := by
  obtain ⟨a, vs, h1, _, _, g, dd, c'⟩ := c.freezeV h
  exact ⟨a, _, h1, g, dd, c'⟩
end
end L2.Pd

namespace L2.Pd
open PySem PySem.Spec PyProof.Rows
/-! ## The judgements: a piece of syntax, its reading, and the plain function that it is -/
abbrev FE := En → Option (D × En)
abbrev FN := En → Option (Cell × En)
abbrev FT := En → Option (Bool × En)
abbrev FA := En → Option (List D × En)
def SE (K : PySem.W.Frag) (t : TE) (f : FE) : Prop := ∀ (B F : Hp) (io : List (Nat × Addr)) (σ : St) (H : Hp) (ρ : En) (d : D) (ρ' : En) (Q : VK), Con K B F io σ H ρ → f ρ = some (d, ρ') →
  (∀ F' H' v, Gr B F F' → Con K B F' io σ H' ρ' → Dp K F' v d → Q v H') → t σ H Q
def SN (K : PySem.W.Frag) (t : TE) (f : FN) : Prop := ∀ (B F : Hp) (io : List (Nat × Addr)) (σ : St) (H : Hp) (ρ : En) (c : Cell) (ρ' : En) (Q : VK), Con K B F io σ H ρ → f ρ = some (c, ρ') →
  (∀ F' H' a o, Gr B F F' → Con K B F' io σ H' ρ' → H' a = some o → Ob K F' c o → F' a = none → B a = none → NotOwned σ ρ' a → Q (.ref a) H') → t σ H Q
def ST (K : PySem.W.Frag) (t : TT) (f : FT) : Prop := ∀ (B F : Hp) (io : List (Nat × Addr)) (σ : St) (H : Hp) (ρ : En) (b : Bool) (ρ' : En) (Q : Bool → Hp → Prop), Con K B F io σ H ρ → f ρ = some (b, ρ') →
  (∀ F' H', Gr B F F' → Con K B F' io σ H' ρ' → Q b H') → t σ H Q
def SA (K : PySem.W.Frag) (t : TA) (f : FA) : Prop := ∀ (B F : Hp) (io : List (Nat × Addr)) (σ : St) (H : Hp) (ρ : En) (ds : List D) (ρ' : En) (Q : List V → Hp → Prop), Con K B F io σ H ρ → f ρ = some (ds, ρ') →
  (∀ F' H' vs, Gr B F F' → Con K B F' io σ H' ρ' → DpAll K F' vs ds → Q vs H') → t σ H Q
structure DE (X : Cx) (e : Expr) (t : TE) (f : FE) : Prop where
  pe : PE X e t
  se : SE X.K t f
structure DN (X : Cx) (e : Expr) (t : TE) (f : FN) : Prop where
  pe : PE X e t
  se : SN X.K t f
structure DT (X : Cx) (e : Expr) (t : TT) (f : FT) : Prop where
  pe : PT X e t
  se : ST X.K t f
structure DW (X : Cx) (e : Expr) (t : TT) (f : FT) : Prop where
  pe : PW X e t
  se : ST X.K t f
structure DA (X : Cx) (es : List Expr) (t : TA) (f : FA) : Prop where
  pe : PA X es t
  se : SA X.K t f
theorem DW.dt {X : Cx} {e : Expr} {t : TT} {f : FT} (h : DW X e t f) : DT X e t f := ⟨h.pe.pt, h.se⟩
/-! ### operations on values -/
def Op1 (K : PySem.W.Frag) (r : V → Hp → VK → Prop) (g : D → Option D) : Prop := ∀ (F H : Hp) (x : V) (dx d : D) (Q : VK), Same F H → Dp K F x dx → g dx = some d → (∀ F' H' v, Al F H F' H' → Dp K F' v d → Q v H') → r x H Q
def Op2 (K : PySem.W.Frag) (r : R2) (g : D → D → Option D) : Prop := ∀ (F H : Hp) (x y : V) (dx dy d : D) (Q : VK), Same F H → Dp K F x dx → Dp K F y dy → g dx dy = some d → (∀ F' H' v, Al F H F' H' → Dp K F' v d → Q v H') → r x y H Q
def Op2N (K : PySem.W.Frag) (r : R2) (g : D → D → Option Cell) : Prop := ∀ (F H : Hp) (x y : V) (dx dy : D) (c : Cell) (Q : VK), Same F H → Dp K F x dx → Dp K F y dy → g dx dy = some c →
  (∀ F' H' a o, Al F H F' H' → H' a = some o → Ob K F' c o → F' a = none → H a = none → Q (.ref a) H') → r x y H Q
def OpA (K : PySem.W.Frag) (r : List V → Hp → VK → Prop) (g : List D → Option D) : Prop := ∀ (F H : Hp) (xs : List V) (ds : List D) (d : D) (Q : VK), Same F H → DpAll K F xs ds → g ds = some d → (∀ F' H' v, Al F H F' H' → Dp K F' v d → Q v H') → r xs H Q
def OpAN (K : PySem.W.Frag) (r : List V → Hp → VK → Prop) (g : List D → Option Cell) : Prop := ∀ (F H : Hp) (xs : List V) (ds : List D) (c : Cell) (Q : VK), Same F H → DpAll K F xs ds → g ds = some c →
  (∀ F' H' a o, Al F H F' H' → H' a = some o → Ob K F' c o → F' a = none → H a = none → Q (.ref a) H') → r xs H Q
def OpM (K : PySem.W.Frag) (T : String) (r : V → List V → Hp → VK → Prop) (g : D → List D → Option D) : Prop := ∀ (F H : Hp) (x : V) (xs : List V) (dx : D) (ds : List D) (d : D) (Q : VK), Same F H → Dp K F x dx → DpAll K F xs ds → g dx ds = some d →
  (∀ F' H' v, Al F H F' H' → Dp K F' v d → Q v H') → r x xs H Q
/-- a new list may be frozen -/
theorem al_freeze {K : PySem.W.Frag} {F H F' H' : Hp} {a : Addr} {ds : List D} {o : HO} (al : Al F H F' H') (ha : H' a = some o) (ob : Ob K F' (.ol ds) o) (fa : F' a = none) (na : H a = none) :
    ∃ F2, Al F H F2 H' ∧ Dp K F2 (.ref a) (.list ds) := by
  cases o with
  | lst vs =>
    have s1 : Same F' (upd F' a (.lst vs)) := same_upd fa
    refine ⟨upd F' a (.lst vs), ⟨al.ff.trans s1, al.hh, fun b x e => ?_, fun b x e => ?_⟩, .lst (.inl (.inl upd_same)) (dpAll_mono s1 ob)⟩
    · by_cases q : b = a
      · subst q; rw [upd_same] at e; rw [ha]; exact e
      · rw [upd_ne q] at e; exact al.sub b x e
    · by_cases q : b = a
      · subst q; exact .inr na
      · rw [upd_ne q] at e; exact al.new b x e
  | _ => exact False.elim ob
def frzC : Cell → Option D
  | .ol ds => some (.list ds)
  | _ => none
theorem Op2N.frz {K : PySem.W.Frag} {r : R2} {g : D → D → Option Cell} (h : Op2N K r g) : Op2 K r (fun x y => (g x y).bind frzC) := by
  intro F H x y dx dy d Q s hx hy e k
  obtain ⟨c, e1, e2⟩ := Option.bind_eq_some_iff.mp e
  refine h F H x y dx dy c Q s hx hy e1 fun F' H' a o al ha ob fa na => ?_
  cases c with
  | ol ds =>
    cases e2
    obtain ⟨F2, al2, dd⟩ := al_freeze al ha ob fa na
    exact k F2 H' _ al2 dd
  | _ => cases e2
theorem OpAN.frz {K : PySem.W.Frag} {r : List V → Hp → VK → Prop} {g : List D → Option Cell} (h : OpAN K r g) : OpA K r (fun x => (g x).bind frzC) := by
  intro F H x dx d Q s hx e k
  obtain ⟨c, e1, e2⟩ := Option.bind_eq_some_iff.mp e
  refine h F H x dx c Q s hx e1 fun F' H' a o al ha ob fa na => ?_
  cases c with
  | ol ds =>
    cases e2
    obtain ⟨F2, al2, dd⟩ := al_freeze al ha ob fa na
    exact k F2 H' _ al2 dd
  | _ => cases e2
/-! ### names, constants -/
def eVar (i : Nat) : FE := fun ρ => match ρ[i]? with
  | some (.sh d) => some (d, ρ)
  | some (.ol ds) => some (.list ds, ρ.set i (.sh (.list ds)))
  | _ => none
def eC (d : D) : FE := fun ρ => some (d, ρ)
section
variable {X : Cx}
theorem se_var {K : PySem.W.Frag} (i : Nat) : SE K (tVar i) (eVar i) := by
  intro B F io σ H ρ d ρ' Q c h k
  unfold eVar at h
  cases e : ρ[i]? with
  | none => rw [e] at h; cases h
  | some u =>
    rw [e] at h
    cases u with
    | sh d0 =>
      cases h
      obtain ⟨x, hx, v, rfl, dd⟩ := c.cell i _ e
      exact ⟨v, hx, k F H v (Gr.refl _ _) c dd⟩
    | ol ds =>
      cases h
      obtain ⟨a, F', h1, g, dd, c'⟩ := c.freeze e
      exact ⟨.ref a, h1, k F' H _ g c' dd⟩
    | _ => cases h
theorem de_var (i : Nat) {x : Str} {pos : Pos} (hN : X.N[i]? = some x := by rfl) (hv : Vis X.env.scope x := by first | exact Or.inl rfl | exact Or.inr (Or.inl rfl) | exact Or.inr (Or.inr rfl)) (hd : (x == ("__debug__" : Str)) = false := by decide)
    (hcd : (x == ("__classdict__" : Str)) = false := by decide) : DE X (.Name x pos) (tVar i) (eVar i) := ⟨pe_var hN hv hd hcd, se_var i⟩
theorem se_c {K : PySem.W.Frag} {v : V} {d : D} (h : ∀ F, Dp K F v d) : SE K (tC v) (eC d) := by
  intro B F io σ H ρ d' ρ' Q c e k
  cases e
  exact k F H v (Gr.refl _ _) c (h F)
theorem de_int {i : Int} {j pos} : DE X (.Constant (.int i) j pos) (tC (.int i)) (eC (.int i)) := ⟨pe_int, se_c fun _ => .int i⟩
theorem de_bl {b : Bool} {j pos} : DE X (.Constant (.bool b) j pos) (tC (.bl b)) (eC (.bool b)) := ⟨pe_bl, se_c fun _ => .bl b⟩
theorem de_non {j pos} : DE X (.Constant .none j pos) (tC .non) (eC .none) := ⟨pe_non, se_c fun _ => .non⟩
theorem de_str {x : Str} {j pos} : DE X (.Constant (.str x) j pos) (tC (.str x)) (eC (.str x)) := ⟨pe_str, se_c fun _ => .str x⟩
/-- a module's constant -/
theorem de_glob {x : Str} {v : V} {u : Value} {d : D} {pos : Pos} (hm : X.mg x = some u) (r : RelV v u) (h : ∀ F, Dp X.K F v d) (hg : Gl X x := by rfl) (hd : (x == ("__debug__" : Str)) = false := by decide) : DE X (.Name x pos) (tC v) (eC d) :=
  ⟨pe_glob hg hm r hd, se_c h⟩
end
/-! ### operators -/
def eBin (g : D → D → Option D) (fa fb : FE) : FE := fun ρ => (fa ρ).bind fun p => (fb p.2).bind fun q => (g p.1 q.1).map fun d => (d, q.2)
def eBinN (g : D → D → Option Cell) (fa fb : FE) : FN := fun ρ => (fa ρ).bind fun p => (fb p.2).bind fun q => (g p.1 q.1).map fun d => (d, q.2)
def eUn (g : D → Option D) (fa : FE) : FE := fun ρ => (fa ρ).bind fun p => (g p.1).map fun d => (d, p.2)
theorem se_bin {K : PySem.W.Frag} {r : R2} {g : D → D → Option D} {ta tb : TE} {fa fb : FE} (hg : Op2 K r g) (ha : SE K ta fa) (hb : SE K tb fb) : SE K (tOp r ta tb) (eBin g fa fb) := by
  intro B F io σ H ρ d ρ' Q c h k
  obtain ⟨p, e1, h⟩ := Option.bind_eq_some_iff.mp h
  obtain ⟨q, e2, h⟩ := Option.bind_eq_some_iff.mp h
  obtain ⟨z, e3, h⟩ := Option.map_eq_some_iff.mp h
  cases h
  refine ha B F io σ H ρ p.1 p.2 _ c e1 fun F1 H1 x g1 c1 d1 => ?_
  refine hb B F1 io σ H1 p.2 q.1 q.2 _ c1 e2 fun F2 H2 y g2 c2 d2 => ?_
  exact hg F2 H2 x y p.1 q.1 d Q c2.frz (dp_mono g2.sub d1) d2 e3 fun F3 H3 v al d3 => k F3 H3 v ((g1.trans g2).trans (al.gr c2.base)) (c2.al al) d3
theorem notOwned_fresh {K : PySem.W.Frag} {B F H : Hp} {io : List (Nat × Addr)} {σ : St} {ρ : En} {a : Addr} (c : Con K B F io σ H ρ) (h : H a = none) : NotOwned σ ρ a := c.fresh_notOwned h
theorem se_binN {K : PySem.W.Frag} {r : R2} {g : D → D → Option Cell} {ta tb : TE} {fa fb : FE} (hg : Op2N K r g) (ha : SE K ta fa) (hb : SE K tb fb) : SN K (tOp r ta tb) (eBinN g fa fb) := by
  intro B F io σ H ρ d ρ' Q c h k
  obtain ⟨p, e1, h⟩ := Option.bind_eq_some_iff.mp h
  obtain ⟨q, e2, h⟩ := Option.bind_eq_some_iff.mp h
  obtain ⟨z, e3, h⟩ := Option.map_eq_some_iff.mp h
  cases h
  refine ha B F io σ H ρ p.1 p.2 _ c e1 fun F1 H1 x g1 c1 d1 => ?_
  refine hb B F1 io σ H1 p.2 q.1 q.2 _ c1 e2 fun F2 H2 y g2 c2 d2 => ?_
  exact hg F2 H2 x y p.1 q.1 d Q c2.frz (dp_mono g2.sub d1) d2 e3 fun F3 H3 a o al ha ob fa na => k F3 H3 a o ((g1.trans g2).trans (al.gr c2.base)) (c2.al al) ha ob fa (c2.base.free na) (c2.fresh_notOwned na)
theorem se_un {K : PySem.W.Frag} {r : V → Hp → VK → Prop} {g : D → Option D} {ta : TE} {fa : FE} (hg : Op1 K r g) (ha : SE K ta fa) : SE K (tUn r ta) (eUn g fa) := by
  intro B F io σ H ρ d ρ' Q c h k
  obtain ⟨p, e1, h⟩ := Option.bind_eq_some_iff.mp h
  obtain ⟨z, e3, h⟩ := Option.map_eq_some_iff.mp h
  cases h
  refine ha B F io σ H ρ p.1 p.2 _ c e1 fun F1 H1 x g1 c1 d1 => ?_
  exact hg F1 H1 x p.1 d Q c1.frz d1 e3 fun F3 H3 v al d3 => k F3 H3 v (g1.trans (al.gr c1.base)) (c1.al al) d3
section
variable {X : Cx} {a b c : Expr} {ta tb tc : TE} {fa fb fc : FE} {pos : Pos}
theorem de_bin {op : Operator} {r : R2} {g : D → D → Option D} (ho : OpR X (binaryOp op) r) (hg : Op2 X.K r g) (ha : DE X a ta fa) (hb : DE X b tb fb) : DE X (.BinOp a op b pos) (tOp r ta tb) (eBin g fa fb) :=
  ⟨pe_op ho ha.pe hb.pe, se_bin hg ha.se hb.se⟩
theorem dn_bin {op : Operator} {r : R2} {g : D → D → Option Cell} (ho : OpR X (binaryOp op) r) (hg : Op2N X.K r g) (ha : DE X a ta fa) (hb : DE X b tb fb) : DN X (.BinOp a op b pos) (tOp r ta tb) (eBinN g fa fb) :=
  ⟨pe_op ho ha.pe hb.pe, se_binN hg ha.se hb.se⟩
theorem de_un {op : UnaryOp} {r : V → Hp → VK → Prop} {g : D → Option D} (ho : UnR X (unaryOp op) r) (hg : Op1 X.K r g) (ha : DE X a ta fa) : DE X (.UnaryOp op a pos) (tUn r ta) (eUn g fa) :=
  ⟨pe_un ho ha.pe, se_un hg ha.se⟩
/-- a comparison as a value -/
theorem de_cmp {op : CmpOp} {r : R2} {g : D → D → Option D} (ho : OpR X (compareOp op) r) (hg : Op2 X.K r g) (ha : DE X a ta fa) (hb : DE X b tb fb) (hm : behindInMarks op b = false := by first | exact nomark _ | rfl) : DE X (.Compare a [op] [b] pos) (tOp r ta tb) (eBin g fa fb) :=
  ⟨pe_cmpR ho ha.pe hb.pe hm, se_bin hg ha.se hb.se⟩
def tstD : D → Option Bool
  | .bool b => some b
  | _ => none
def eTst (f : FE) : FT := fun ρ => (f ρ).bind fun p => (tstD p.1).map fun b => (b, p.2)
theorem st_tst {K : PySem.W.Frag} {t : TE} {f : FE} (h : SE K t f) : ST K (tTest t) (eTst f) := by
  intro B F io σ H ρ b ρ' Q c e k
  obtain ⟨p, e1, e⟩ := Option.bind_eq_some_iff.mp e
  obtain ⟨z, e3, e⟩ := Option.map_eq_some_iff.mp e
  cases e
  refine h B F io σ H ρ p.1 p.2 _ c e1 fun F1 H1 x g1 c1 d1 => ?_
  cases hp : p.1 <;> rw [hp] at e3 d1 <;> cases e3
  cases d1
  exact ⟨_, rfl, k F1 H1 g1 c1⟩
theorem dt_cmp {op : CmpOp} {r : R2} {g : D → D → Option D} (ho : OpR X (compareOp op) r) (hg : Op2 X.K r g) (ha : DE X a ta fa) (hb : DE X b tb fb) (hm : behindInMarks op b = false := by first | exact nomark _ | rfl) : DT X (.Compare a [op] [b] pos) (tTest (tOp r ta tb)) (eTst (eBin g fa fb)) :=
  ⟨pt_cmpR ho ha.pe hb.pe hm, st_tst (se_bin hg ha.se hb.se)⟩
/-- a op1 b op2 c -/
def eChain (g g' : D → D → Option D) (fa fb fc : FE) : FE := fun ρ => (fa ρ).bind fun p => (fb p.2).bind fun q => ((g p.1 q.1).bind tstD).bind fun k =>
  if k = true then (fc q.2).bind fun s => (g' q.1 s.1).map fun d => (d, s.2) else some (.bool false, q.2)
theorem se_chain {K : PySem.W.Frag} {r r' : R2} {g g' : D → D → Option D} (hg : Op2 K r g) (hg' : Op2 K r' g') (ha : SE K ta fa) (hb : SE K tb fb) (hc : SE K tc fc) : SE K (tChain r r' ta tb tc) (eChain g g' fa fb fc) := by
  intro B F io σ H ρ d ρ' Q c h k
  obtain ⟨p, e1, h⟩ := Option.bind_eq_some_iff.mp h
  obtain ⟨q, e2, h⟩ := Option.bind_eq_some_iff.mp h
  obtain ⟨z, e3, h⟩ := Option.bind_eq_some_iff.mp h
  obtain ⟨w, e3, e4⟩ := Option.bind_eq_some_iff.mp e3
  refine ha B F io σ H ρ p.1 p.2 _ c e1 fun F1 H1 x g1 c1 d1 => ?_
  refine hb B F1 io σ H1 p.2 q.1 q.2 _ c1 e2 fun F2 H2 y g2 c2 d2 => ?_
  refine hg F2 H2 x y p.1 q.1 w _ c2.frz (dp_mono g2.sub d1) d2 e3 fun F3 H3 v al d3 => ?_
  cases w <;> cases e4
  cases d3
  refine ⟨z, rfl, ?_⟩
  have g3 := (g1.trans g2).trans (al.gr c2.base)
  have c3 := c2.al al
  cases z with
  | false =>
    rw [if_neg Bool.false_ne_true] at h ⊢
    cases h
    exact k F3 H3 _ g3 c3 (.bl false)
  | true =>
    rw [if_pos rfl] at h ⊢
    obtain ⟨s, e5, h⟩ := Option.bind_eq_some_iff.mp h
    obtain ⟨u, e6, h⟩ := Option.map_eq_some_iff.mp h
    cases h
    refine hc B F3 io σ H3 q.2 s.1 s.2 _ c3 e5 fun F4 H4 x4 g4 c4 d4 => ?_
    exact hg' F4 H4 y x4 q.1 s.1 d Q c4.frz (dp_mono (al.ff.trans g4.sub) d2) d4 e6 fun F5 H5 v5 al5 d5 => k F5 H5 v5 ((g3.trans g4).trans (al5.gr c4.base)) (c4.al al5) d5
theorem de_chain {op op' : CmpOp} {r r' : R2} {g g' : D → D → Option D} (ho : OpR X (compareOp op) r) (hg : Op2 X.K r g) (ho' : OpR X (compareOp op') r') (hg' : Op2 X.K r' g') (ha : DE X a ta fa) (hb : DE X b tb fb) (hc : DE X c tc fc)
    (hm : lastMarks [op, op'] [b, c] = false := by with_unfolding_all rfl) : DE X (.Compare a [op, op'] [b, c] pos) (tChain r r' ta tb tc) (eChain g g' fa fb fc) :=
  ⟨pe_chain ho ho' ha.pe hb.pe hc.pe hm, se_chain hg hg' ha.se hb.se hc.se⟩
theorem dt_chain {op op' : CmpOp} {r r' : R2} {g g' : D → D → Option D} (ho : OpR X (compareOp op) r) (hg : Op2 X.K r g) (ho' : OpR X (compareOp op') r') (hg' : Op2 X.K r' g') (ha : DE X a ta fa) (hb : DE X b tb fb) (hc : DE X c tc fc)
    (hm : lastMarks [op, op'] [b, c] = false := by with_unfolding_all rfl) : DT X (.Compare a [op, op'] [b, c] pos) (tTest (tChain r r' ta tb tc)) (eTst (eChain g g' fa fb fc)) :=
  ⟨pt_chain ho ho' ha.pe hb.pe hc.pe hm, st_tst (se_chain hg hg' ha.se hb.se hc.se)⟩
/-! ### truth, and, or, not, if -/
def truD : D → Option Bool
  | .none => some false
  | .bool b => some b
  | .int i => some (i != 0)
  | .str x => if x.length ≤ sizeLine then some ((x.length : Int) != 0) else none
  | .list ds => some (!ds.isEmpty)
  | .tuple ds => some (!ds.isEmpty)
  | .dict _ => none
def eTru (f : FE) : FT := fun ρ => (f ρ).bind fun p => (truD p.1).map fun b => (b, p.2)
theorem isEmpty_dp {K : PySem.W.Frag} {F : Hp} {vs : List V} {ds : List D} (h : DpAll K F vs ds) : vs.isEmpty = ds.isEmpty := by
  cases h <;> rfl
theorem tru_dp {K : PySem.W.Frag} {F H : Hp} {v : V} {d : D} {b : Bool} (s : Same F H) (h : Dp K F v d) (e : truD d = some b) : TruV K v H b := by
  cases h with
  | non => cases e; rfl
  | bl b => cases e; rfl
  | int i => cases e; rfl
  | str x =>
    have e : (if x.length ≤ sizeLine then some ((x.length : Int) != 0) else none) = some b := e
    by_cases hz : x.length ≤ sizeLine
    · rw [if_pos hz] at e; cases e; exact ⟨hz, rfl⟩
    · rw [if_neg hz] at e; cases e
  | lst q r => cases e; exact .inl ⟨_, s.seq q, by rw [isEmpty_dp r]⟩
  | tup q r => cases e; exact .inr (.inl ⟨_, sqT_mono s q, by rw [isEmpty_dp r]⟩)
theorem st_tru {K : PySem.W.Frag} {t : TE} {f : FE} (h : SE K t f) : ST K (fun σ H Q => t σ H fun x H' => ∃ k, TruV K x H' k ∧ Q k H') (eTru f) := by
  intro B F io σ H ρ b ρ' Q c e k
  obtain ⟨p, e1, e⟩ := Option.bind_eq_some_iff.mp e
  obtain ⟨z, e3, e⟩ := Option.map_eq_some_iff.mp e
  cases e
  exact h B F io σ H ρ p.1 p.2 _ c e1 fun F1 H1 x g1 c1 d1 => ⟨b, tru_dp c1.frz d1 e3, k F1 H1 g1 c1⟩
theorem dt_tru (ha : DE X a ta fa) (he : ∀ whole, isTrue a X.env whole = (do let v ← whole; standAt a.pos; holding [v] (truthy v)) := by intro _; rfl) :
    DT X a (fun σ H Q => ta σ H fun x H' => ∃ k, TruV X.K x H' k ∧ Q k H') (eTru fa) := ⟨pt_truth ha.pe he, st_tru ha.se⟩
def eAnd (fa fb : FT) : FT := fun ρ => (fa ρ).bind fun p => if p.1 = true then fb p.2 else some (false, p.2)
def eOr (fa fb : FT) : FT := fun ρ => (fa ρ).bind fun p => if p.1 = true then some (true, p.2) else fb p.2
def eNot (fa : FT) : FT := fun ρ => (fa ρ).map fun p => (!p.1, p.2)
variable {tA tB' : TT} {fA fB : FT} {rest : List Expr}
theorem st_and {K : PySem.W.Frag} (ha : ST K tA fA) (hb : ST K tB' fB) : ST K (tAnd tA tB') (eAnd fA fB) := by
  intro B F io σ H ρ b ρ' Q c e k
  obtain ⟨p, e1, e⟩ := Option.bind_eq_some_iff.mp e
  refine ha B F io σ H ρ p.1 p.2 _ c e1 fun F1 H1 g1 c1 => ?_
  by_cases hp : p.1 = true
  · rw [if_pos hp] at e ⊢
    exact hb B F1 io σ H1 p.2 b ρ' Q c1 e fun F2 H2 g2 c2 => k F2 H2 (g1.trans g2) c2
  · rw [if_neg hp] at e ⊢
    cases e
    exact k F1 H1 g1 c1
theorem st_or {K : PySem.W.Frag} (ha : ST K tA fA) (hb : ST K tB' fB) : ST K (tOr tA tB') (eOr fA fB) := by
  intro B F io σ H ρ b ρ' Q c e k
  obtain ⟨p, e1, e⟩ := Option.bind_eq_some_iff.mp e
  refine ha B F io σ H ρ p.1 p.2 _ c e1 fun F1 H1 g1 c1 => ?_
  by_cases hp : p.1 = true
  · rw [if_pos hp] at e ⊢
    cases e
    exact k F1 H1 g1 c1
  · rw [if_neg hp] at e ⊢
    exact hb B F1 io σ H1 p.2 b ρ' Q c1 e fun F2 H2 g2 c2 => k F2 H2 (g1.trans g2) c2
theorem st_not {K : PySem.W.Frag} (ha : ST K tA fA) : ST K (tNot tA) (eNot fA) := by
  intro B F io σ H ρ b ρ' Q c e k
  obtain ⟨p, e1, e⟩ := Option.map_eq_some_iff.mp e
  cases e
  exact ha B F io σ H ρ p.1 p.2 _ c e1 fun F1 H1 g1 c1 => k F1 H1 g1 c1
theorem dw_and1 (ha : DT X a tA fA) : DW X (.BoolOp .And [a] pos) tA fA := ⟨pw_and1 ha.pe, ha.se⟩
theorem dw_or1 (ha : DT X a tA fA) : DW X (.BoolOp .Or [a] pos) tA fA := ⟨pw_or1 ha.pe, ha.se⟩
theorem dw_and (ha : DT X a tA fA) (hb : DW X (.BoolOp .And (b :: rest) pos) tB' fB) : DW X (.BoolOp .And (a :: b :: rest) pos) (tAnd tA tB') (eAnd fA fB) := ⟨pw_and ha.pe hb.pe, st_and ha.se hb.se⟩
theorem dw_or (ha : DT X a tA fA) (hb : DW X (.BoolOp .Or (b :: rest) pos) tB' fB) : DW X (.BoolOp .Or (a :: b :: rest) pos) (tOr tA tB') (eOr fA fB) := ⟨pw_or ha.pe hb.pe, st_or ha.se hb.se⟩
theorem dt_not (ha : DT X a tA fA) : DT X (.UnaryOp .Not a pos) (tNot tA) (eNot fA) := ⟨pt_not ha.pe, st_not ha.se⟩
/-- and, or, not as values, by truth -/
def eAndV (fa fb : FE) : FE := fun ρ => (fa ρ).bind fun p => (truD p.1).bind fun k => if k = true then fb p.2 else some p
def eOrV (fa fb : FE) : FE := fun ρ => (fa ρ).bind fun p => (truD p.1).bind fun k => if k = true then some p else fb p.2
def eNotV (fa : FE) : FE := fun ρ => (fa ρ).bind fun p => (truD p.1).map fun k => (.bool (!k), p.2)
theorem de_one {op} (h : DE X a ta fa) : DE X (.BoolOp op [a] pos) ta fa := ⟨pe_one h.pe, h.se⟩
theorem se_andV {K : PySem.W.Frag} (ha : SE K ta fa) (hb : SE K tb fb) : SE K (tAndT K ta tb) (eAndV fa fb) := by
  intro B F io σ H ρ d ρ' Q c e k
  obtain ⟨p, e1, e⟩ := Option.bind_eq_some_iff.mp e
  obtain ⟨z, e2, e⟩ := Option.bind_eq_some_iff.mp e
  refine ha B F io σ H ρ p.1 p.2 _ c e1 fun F1 H1 x g1 c1 d1 => ⟨z, tru_dp c1.frz d1 e2, ?_⟩
  by_cases hp : z = true
  · rw [if_pos hp] at e ⊢
    exact hb B F1 io σ H1 p.2 d ρ' Q c1 e fun F2 H2 v g2 c2 d2 => k F2 H2 v (g1.trans g2) c2 d2
  · rw [if_neg hp] at e ⊢
    cases e
    exact k F1 H1 x g1 c1 d1
theorem se_orV {K : PySem.W.Frag} (ha : SE K ta fa) (hb : SE K tb fb) : SE K (tOrT K ta tb) (eOrV fa fb) := by
  intro B F io σ H ρ d ρ' Q c e k
  obtain ⟨p, e1, e⟩ := Option.bind_eq_some_iff.mp e
  obtain ⟨z, e2, e⟩ := Option.bind_eq_some_iff.mp e
  refine ha B F io σ H ρ p.1 p.2 _ c e1 fun F1 H1 x g1 c1 d1 => ⟨z, tru_dp c1.frz d1 e2, ?_⟩
  by_cases hp : z = true
  · rw [if_pos hp] at e ⊢
    cases e
    exact k F1 H1 x g1 c1 d1
  · rw [if_neg hp] at e ⊢
    exact hb B F1 io σ H1 p.2 d ρ' Q c1 e fun F2 H2 v g2 c2 d2 => k F2 H2 v (g1.trans g2) c2 d2
theorem se_notV {K : PySem.W.Frag} (ha : SE K ta fa) : SE K (tNotT K ta) (eNotV fa) := by
  intro B F io σ H ρ d ρ' Q c e k
  obtain ⟨p, e1, e⟩ := Option.bind_eq_some_iff.mp e
  obtain ⟨z, e2, e⟩ := Option.map_eq_some_iff.mp e
  cases e
  exact ha B F io σ H ρ p.1 p.2 _ c e1 fun F1 H1 x g1 c1 d1 => ⟨z, tru_dp c1.frz d1 e2, k F1 H1 _ g1 c1 (.bl _)⟩
theorem de_and (ha : DE X a ta fa) (hb : DE X (.BoolOp .And (b :: rest) pos) tb fb) : DE X (.BoolOp .And (a :: b :: rest) pos) (tAndT X.K ta tb) (eAndV fa fb) := ⟨pe_andT ha.pe hb.pe, se_andV ha.se hb.se⟩
theorem de_or (ha : DE X a ta fa) (hb : DE X (.BoolOp .Or (b :: rest) pos) tb fb) : DE X (.BoolOp .Or (a :: b :: rest) pos) (tOrT X.K ta tb) (eOrV fa fb) := ⟨pe_orT ha.pe hb.pe, se_orV ha.se hb.se⟩
theorem de_not (ha : DE X a ta fa) : DE X (.UnaryOp .Not a pos) (tNotT X.K ta) (eNotV fa) := ⟨pe_notT ha.pe, se_notV ha.se⟩
def eIf (fc : FT) (fa fb : FE) : FE := fun ρ => (fc ρ).bind fun p => if p.1 = true then fa p.2 else fb p.2
def eIfN (fc : FT) (fa fb : FN) : FN := fun ρ => (fc ρ).bind fun p => if p.1 = true then fa p.2 else fb p.2
theorem de_if (hc : DT X c tA fA) (ha : DE X a ta fa) (hb : DE X b tb fb) : DE X (.IfExp c a b pos) (tIf tA ta tb) (eIf fA fa fb) := by
  refine ⟨pe_ifExp hc.pe ha.pe hb.pe, ?_⟩
  intro B F io σ H ρ d ρ' Q c e k
  obtain ⟨p, e1, e⟩ := Option.bind_eq_some_iff.mp e
  refine hc.se B F io σ H ρ p.1 p.2 _ c e1 fun F1 H1 g1 c1 => ?_
  by_cases hp : p.1 = true
  · rw [if_pos hp] at e ⊢
    exact ha.se B F1 io σ H1 p.2 d ρ' Q c1 e fun F2 H2 v g2 c2 d2 => k F2 H2 v (g1.trans g2) c2 d2
  · rw [if_neg hp] at e ⊢
    exact hb.se B F1 io σ H1 p.2 d ρ' Q c1 e fun F2 H2 v g2 c2 d2 => k F2 H2 v (g1.trans g2) c2 d2
theorem dn_if {fa fb : FN} (hc : DT X c tA fA) (ha : DN X a ta fa) (hb : DN X b tb fb) : DN X (.IfExp c a b pos) (tIf tA ta tb) (eIfN fA fa fb) := by
  refine ⟨pe_ifExp hc.pe ha.pe hb.pe, ?_⟩
  intro B F io σ H ρ d ρ' Q c e k
  obtain ⟨p, e1, e⟩ := Option.bind_eq_some_iff.mp e
  refine hc.se B F io σ H ρ p.1 p.2 _ c e1 fun F1 H1 g1 c1 => ?_
  by_cases hp : p.1 = true
  · rw [if_pos hp] at e ⊢
    exact ha.se B F1 io σ H1 p.2 d ρ' Q c1 e fun F2 H2 v o g2 c2 h1 h2 h3 h4 h5 => k F2 H2 v o (g1.trans g2) c2 h1 h2 h3 h4 h5
  · rw [if_neg hp] at e ⊢
    exact hb.se B F1 io σ H1 p.2 d ρ' Q c1 e fun F2 H2 v o g2 c2 h1 h2 h3 h4 h5 => k F2 H2 v o (g1.trans g2) c2 h1 h2 h3 h4 h5
/-! ### argument lists, displays -/
def aNil : FA := fun ρ => some ([], ρ)
def aCons (f : FE) (g : FA) : FA := fun ρ => (f ρ).bind fun p => (g p.2).map fun q => (p.1 :: q.1, q.2)
theorem da_nil : DA X [] tNil aNil := ⟨pa_nil, fun B F io σ H ρ ds ρ' Q c e k => by
  cases e
  exact k F H [] (Gr.refl _ _) c .nil⟩
theorem da_cons {e : Expr} {es : List Expr} {t : TA} {g : FA} (ha : DE X e ta fa) (hr : DA X es t g) (hs : starEach (e :: es) X.env = (false, eval e X.env) :: starEach es X.env := by rfl) : DA X (e :: es) (tCons ta t) (aCons fa g) :=
  ⟨pa_cons ha.pe hr.pe hs, fun B F io σ H ρ ds ρ' Q c h k => by
    obtain ⟨p, e1, h⟩ := Option.bind_eq_some_iff.mp h
    obtain ⟨q, e2, h⟩ := Option.map_eq_some_iff.mp h
    cases h
    refine ha.se B F io σ H ρ p.1 p.2 _ c e1 fun F1 H1 x g1 c1 d1 => ?_
    exact hr.se B F1 io σ H1 p.2 q.1 q.2 _ c1 e2 fun F2 H2 xs g2 c2 d2 => k F2 H2 (x :: xs) (g1.trans g2) c2 (.cons (dp_mono g2.sub d1) d2)⟩
def eTup (g : FA) : FE := fun ρ => (g ρ).bind fun p => if p.1.length ≤ sizeLine then some (.tuple p.1, p.2) else none
def eLst (g : FA) : FN := fun ρ => (g ρ).bind fun p => if p.1.length ≤ sizeLine then some (.ol p.1, p.2) else none
theorem de_tup {es : List Expr} {t : TA} {g : FA} {x1} (h : DA X es t g) : DE X (.Tuple es x1 pos) (tTup t) (eTup g) := by
  refine ⟨pe_tup h.pe, ?_⟩
  intro B F io σ H ρ d ρ' Q c e k
  obtain ⟨p, e1, e⟩ := Option.bind_eq_some_iff.mp e
  by_cases hz : p.1.length ≤ sizeLine
  · rw [if_pos hz] at e
    cases e
    refine h.se B F io σ H ρ p.1 p.2 _ c e1 fun F1 H1 xs g1 c1 d1 => ⟨by rw [d1.length]; exact hz, fun a na => ?_⟩
    have al := Al.laid (o := .tup xs) c1.frz na
    exact k _ _ _ (g1.trans (al.gr c1.base)) (c1.al al) (.tup (.inl (.inl upd_same)) (dpAll_mono al.ff d1))
  · rw [if_neg hz] at e
    cases e
theorem dn_lst {es : List Expr} {t : TA} {g : FA} (h : DA X es t g) : DN X (.List es pos) (tLst t) (eLst g) := by
  refine ⟨pe_lst h.pe, ?_⟩
  intro B F io σ H ρ d ρ' Q c e k
  obtain ⟨p, e1, e⟩ := Option.bind_eq_some_iff.mp e
  by_cases hz : p.1.length ≤ sizeLine
  · rw [if_pos hz] at e
    cases e
    refine h.se B F io σ H ρ p.1 p.2 _ c e1 fun F1 H1 xs g1 c1 d1 => ⟨by rw [d1.length]; exact hz, fun a na => ?_⟩
    have al := Al.laidH (o := .lst xs) c1.frz na
    exact k _ _ a (.lst xs) (g1.trans (al.gr c1.base)) (c1.al al) upd_same d1 (c1.frz.free na) (c1.base.free na) (c1.fresh_notOwned na)
  · rw [if_neg hz] at e
    cases e
/-- a new list, frozen at once -/
def eFrz (f : FN) : FE := fun ρ => (f ρ).bind fun p => (frzC p.1).map fun d => (d, p.2)
theorem se_frz {K : PySem.W.Frag} {t : TE} {f : FN} (h : SN K t f) : SE K t (eFrz f) := by
  intro B F io σ H ρ d ρ' Q c e k
  obtain ⟨p, e1, e⟩ := Option.bind_eq_some_iff.mp e
  obtain ⟨z, e2, e⟩ := Option.map_eq_some_iff.mp e
  cases e
  refine h B F io σ H ρ p.1 p.2 _ c e1 fun F1 H1 a o g1 c1 ha ob fa ba no => ?_
  cases hp : p.1 with
  | ol ds =>
    rw [hp] at e2 ob
    cases e2
    cases o with
    | lst vs =>
      have s1 : Same F1 (upd F1 a (.lst vs)) := same_upd fa
      have gr : Gr B F1 (upd F1 a (.lst vs)) := ⟨s1, fun b x e => by
        by_cases q : b = a
        · subst q; exact .inr ba
        · rw [upd_ne q] at e; exact .inl e⟩
      refine k (upd F1 a (.lst vs)) H1 _ (g1.trans gr) ⟨c1.len, c1.base, fun b x e => ?_, fun i u hu => ?_, c1.sep, c1.io⟩ (.lst (.inl (.inl upd_same)) (dpAll_mono s1 ob))
      · by_cases q : b = a
        · subst q; rw [upd_same] at e; rw [ha]; exact e
        · rw [upd_ne q] at e; exact c1.frz b x e
      · obtain ⟨x, hx, ok⟩ := c1.cell i u hu
        refine ⟨x, hx, ?_⟩
        by_cases ho : isOwn u = true
        · rw [cellOk_own ho] at ok ⊢
          obtain ⟨q, w, z1, z2, z3, z4, z5⟩ := ok
          subst z1
          refine ⟨q, w, rfl, z2, ob_mono s1 z3, ?_, z5⟩
          rw [upd_ne (fun z => no i u hu ho (by rw [hx, z]))]
          exact z4
        · cases u with
          | dead => trivial
          | sh d => obtain ⟨v, z1, z2⟩ := ok; exact ⟨v, z1, dp_mono s1 z2⟩
          | fd tk kvs => obtain ⟨p, ob, u, z1, z2, z3⟩ := ok; exact ⟨p, ob, u, z1, s1 _ _ z2, dictOb_mono s1 z3⟩
          | _ => exact absurd rfl ho
    | _ => exact False.elim ob
  | _ => rw [hp] at e2; cases e2
theorem DN.de {f : FN} (h : DN X a ta f) : DE X a ta (eFrz f) := ⟨h.pe, se_frz h.se⟩
/-! ### calls of built-in things -/
def eCB (g : List D → Option D) (fa : FA) : FE := fun ρ => (fa ρ).bind fun p => (g p.1).map fun d => (d, p.2)
def eCBN (g : List D → Option Cell) (fa : FA) : FN := fun ρ => (fa ρ).bind fun p => (g p.1).map fun d => (d, p.2)
theorem se_cb {K : PySem.W.Frag} {r : List V → Hp → VK → Prop} {g : List D → Option D} {t : TA} {fa : FA} (hg : OpA K r g) (ha : SA K t fa) : SE K (tCB r t) (eCB g fa) := by
  intro B F io σ H ρ d ρ' Q c h k
  obtain ⟨p, e1, h⟩ := Option.bind_eq_some_iff.mp h
  obtain ⟨z, e3, h⟩ := Option.map_eq_some_iff.mp h
  cases h
  refine ha B F io σ H ρ p.1 p.2 _ c e1 fun F1 H1 xs g1 c1 d1 => ?_
  exact hg F1 H1 xs p.1 d Q c1.frz d1 e3 fun F3 H3 v al d3 => k F3 H3 v (g1.trans (al.gr c1.base)) (c1.al al) d3
theorem se_cbN {K : PySem.W.Frag} {r : List V → Hp → VK → Prop} {g : List D → Option Cell} {t : TA} {fa : FA} (hg : OpAN K r g) (ha : SA K t fa) : SN K (tCB r t) (eCBN g fa) := by
  intro B F io σ H ρ d ρ' Q c h k
  obtain ⟨p, e1, h⟩ := Option.bind_eq_some_iff.mp h
  obtain ⟨z, e3, h⟩ := Option.map_eq_some_iff.mp h
  cases h
  refine ha B F io σ H ρ p.1 p.2 _ c e1 fun F1 H1 xs g1 c1 d1 => ?_
  exact hg F1 H1 xs p.1 d Q c1.frz d1 e3 fun F3 H3 a o al ha ob fa na => k F3 H3 a o (g1.trans (al.gr c1.base)) (c1.al al) ha ob fa (c1.base.free na) (c1.fresh_notOwned na)
variable {e : Expr} {es : List Expr} {t : TA} {fl : FA} {x : Str} {p : Pos} {r : List V → Hp → VK → Prop} {id T : String}
theorem de_callB {g : List D → Option D} (hc : CallR X (.builtin id) r) (hg' : OpA X.K r g) (hm : X.mg x = none) (ha : DA X (e :: es) t fl) (hv : bootBuiltins x = some (.builtin id) := by decide +kernel) (hg : Gl X x := by rfl) (hn : x ≠ "__name__" := by decide) (hdb : (x == ("__debug__" : Str)) = false := by decide)
    (he : starEach (e :: es) X.env = (false, eval e X.env) :: starEach es X.env := by rfl) (hpl : (backTo pos (starEach es X.env)).any (·.1) = false := by rfl) : DE X (.Call (.Name x p) (e :: es) [] pos) (tCB r t) (eCB g fl) :=
  ⟨pe_callB hc hg hm hv ha.pe hn hdb he hpl, se_cb hg' ha.se⟩
theorem dn_callB {g : List D → Option Cell} (hc : CallR X (.builtin id) r) (hg' : OpAN X.K r g) (hm : X.mg x = none) (ha : DA X (e :: es) t fl) (hv : bootBuiltins x = some (.builtin id) := by decide +kernel) (hg : Gl X x := by rfl) (hn : x ≠ "__name__" := by decide) (hdb : (x == ("__debug__" : Str)) = false := by decide)
    (he : starEach (e :: es) X.env = (false, eval e X.env) :: starEach es X.env := by rfl) (hpl : (backTo pos (starEach es X.env)).any (·.1) = false := by rfl) : DN X (.Call (.Name x p) (e :: es) [] pos) (tCB r t) (eCBN g fl) :=
  ⟨pe_callB hc hg hm hv ha.pe hn hdb he hpl, se_cbN hg' ha.se⟩
theorem de_callTy {g : List D → Option D} (hc : CallR X (.type T) r) (hg' : OpA X.K r g) (hm : X.mg x = none) (ha : DA X (e :: es) t fl) (hv : bootBuiltins x = some (.type T) := by decide +kernel) (hg : Gl X x := by rfl) (hn : x ≠ "__name__" := by decide) (hdb : (x == ("__debug__" : Str)) = false := by decide)
    (he : starEach (e :: es) X.env = (false, eval e X.env) :: starEach es X.env := by rfl) (hpl : (backTo pos (starEach es X.env)).any (·.1) = false := by rfl) : DE X (.Call (.Name x p) (e :: es) [] pos) (tCB r t) (eCB g fl) :=
  ⟨pe_callTy hc hg hm hv ha.pe hn hdb he hpl, se_cb hg' ha.se⟩
theorem dn_callTy {g : List D → Option Cell} (hc : CallR X (.type T) r) (hg' : OpAN X.K r g) (hm : X.mg x = none) (ha : DA X (e :: es) t fl) (hv : bootBuiltins x = some (.type T) := by decide +kernel) (hg : Gl X x := by rfl) (hn : x ≠ "__name__" := by decide) (hdb : (x == ("__debug__" : Str)) = false := by decide)
    (he : starEach (e :: es) X.env = (false, eval e X.env) :: starEach es X.env := by rfl) (hpl : (backTo pos (starEach es X.env)).any (·.1) = false := by rfl) : DN X (.Call (.Name x p) (e :: es) [] pos) (tCB r t) (eCBN g fl) :=
  ⟨pe_callTy hc hg hm hv ha.pe hn hdb he hpl, se_cbN hg' ha.se⟩
end
end L2.Pd

namespace L2.Pd
open PySem PySem.Spec PyProof.Rows
/-! ## Operations on values, as plain functions of data -/
def okD (d : D) : Bool := SeqAt.shaped d
/-! ### + - * // % ** -/
def dAdd : D → D → Option D
  | .int a, .int b => some (.int (a + b))
  | .str a, .str b => if a.length + b.length ≤ sizeLine then some (.str (a ++ b)) else none
  | .tuple a, .tuple b => if a.length + b.length ≤ sizeLine then some (.tuple (a ++ b)) else none
  | _, _ => none
def dSub : D → D → Option D
  | .int a, .int b => some (.int (a - b))
  | _, _ => none
def mulOk (i j : Int) : Bool := decide (i.natAbs < 2 ^ 64) || decide (j.natAbs < 2 ^ 64) || decide (i.natAbs.log2 + j.natAbs.log2 < 134217720)
def dMul : D → D → Option D
  | .int a, .int b => if mulOk a b = true then some (.int (a * b)) else none
  | _, _ => none
def dFdiv : D → D → Option D
  | .int a, .int b => if b ≠ 0 ∧ Builtin.divisionGoesByPylong a b = false then some (.int (a.fdiv b)) else none
  | _, _ => none
def dMod : D → D → Option D
  | .int a, .int b => if b ≠ 0 then some (.int (a.fmod b)) else none
  | _, _ => none
def dPow : D → D → Option D
  | .int a, .int b => if 0 ≤ b ∧ (Builtin.Int.intBits a : Int) * b ≤ 134217728 then some (.int (a ^ b.toNat)) else none
  | _, _ => none
def dNeg : D → Option D
  | .int a => some (.int (-a))
  | _ => none
theorem mulOk_ok {i j : Int} (h : mulOk i j = true) : IntMulOk i j := by
  unfold mulOk at h
  simp only [Bool.or_eq_true, decide_eq_true_eq] at h
  rcases h with (h | h) | h
  · exact .of_left (intBits_le_64 (by omega) (by omega))
  · exact .of_right (intBits_le_64 (by omega) (by omega))
  · have b : ∀ x : Int, Builtin.Int.intBits x ≤ x.natAbs.log2 + 1 := fun x => by
      unfold Builtin.Int.intBits
      split <;> omega
    have h1 := b i
    have h2 := b j
    have e : bitsLine = 134217728 := by decide
    unfold IntMulOk
    intro z
    rw [Bool.and_eq_true] at z
    have z2 := z.2
    unfold Builtin.Int.intTooBig at z2
    have z3 := of_decide_eq_true z2
    rw [e] at z3
    omega
section
variable {X : Cx}
abbrev rAddD (K : PySem.W.Frag) : R2 := fun x y H Q => rI0 (fun i j => .int (i + j)) x y H Q ∨ ((∃ i j, x = .str i ∧ y = .str j ∧ i.length + j.length ≤ sizeLine ∧ Q (.str (i ++ j)) H) ∨ rCatA K x y H Q)
theorem op_addD : OpR X (binaryOp .Add) (rAddD X.K) := op_add.or (op_add_str.or op_catA)
theorem v_add {K : PySem.W.Frag} : Op2 K (rAddD K) dAdd := by
  intro F H x y dx dy d Q s hx hy e k
  cases hx with
  | int a =>
    cases hy with
    | int b => cases e; exact .inl ⟨a, b, rfl, rfl, k F H _ (Al.refl s) (.int _)⟩
    | _ => cases e
  | str a =>
    cases hy with
    | str b =>
      have e : (if a.length + b.length ≤ sizeLine then some (PyData.str (a ++ b)) else none) = some d := e
      by_cases hz : a.length + b.length ≤ sizeLine
      · rw [if_pos hz] at e; cases e
        exact .inr (.inl ⟨a, b, rfl, rfl, hz, k F H _ (Al.refl s) (.str _)⟩)
      · rw [if_neg hz] at e; cases e
    | _ => cases e
  | @tup a xs ds q1 r1 =>
    cases hy with
    | @tup b ys es q2 r2 =>
      have e : (if ds.length + es.length ≤ sizeLine then some (PyData.tuple (ds ++ es)) else none) = some d := e
      by_cases hz : ds.length + es.length ≤ sizeLine
      · rw [if_pos hz] at e; cases e
        refine .inr (.inr ⟨a, b, xs, ys, rfl, rfl, sqT_mono s q1, sqT_mono s q2, by rw [r1.length, r2.length]; exact hz, fun h0 => ?_, fun _ h0 => ?_, fun _ _ p np => ?_⟩)
        · subst h0; cases r1
          exact k F H _ (Al.refl s) (by rw [List.nil_append]; exact .tup q2 r2)
        · subst h0; cases r2
          exact k F H _ (Al.refl s) (by rw [List.append_nil]; exact .tup q1 r1)
        · have al := Al.laid (o := .tup (xs ++ ys)) s np
          exact k _ _ _ al (.tup (.inl (.inl upd_same)) ((dpAll_mono al.ff r1).append (dpAll_mono al.ff r2)))
      · rw [if_neg hz] at e; cases e
    | _ => cases e
  | _ => cases e
theorem v_sub {K : PySem.W.Frag} : Op2 K (rI0 fun i j => .int (i - j)) dSub := by
  intro F H x y dx dy d Q s hx hy e k
  cases hx with
  | int a =>
    cases hy with
    | int b => cases e; exact ⟨a, b, rfl, rfl, k F H _ (Al.refl s) (.int _)⟩
    | _ => cases e
  | _ => cases e
theorem op_mulD : OpR X (binaryOp .Mult) (rI IntMulOk fun i j => .int (i * j)) := opI fun _ _ _ _ _ _ _ hc q => mul_int q hc
theorem v_mul {K : PySem.W.Frag} : Op2 K (rI IntMulOk fun i j => .int (i * j)) dMul := by
  intro F H x y dx dy d Q s hx hy e k
  cases hx with
  | int a =>
    cases hy with
    | int b =>
      have e : (if mulOk a b = true then some (PyData.int (a * b)) else none) = some d := e
      by_cases hz : mulOk a b = true
      · rw [if_pos hz] at e; cases e
        exact ⟨a, b, rfl, rfl, mulOk_ok hz, k F H _ (Al.refl s) (.int _)⟩
      · rw [if_neg hz] at e; cases e
    | _ => cases e
  | _ => cases e
def CFd (i j : Int) : Prop := j ≠ 0 ∧ Builtin.divisionGoesByPylong i j = false
theorem op_fdivD : OpR X (binaryOp .FloorDiv) (rI CFd fun i j => .int (i.fdiv j)) := opI fun _ _ _ _ _ _ _ hc q => floordiv_int hc.1 q (.inl hc.2)
theorem v_fdiv {K : PySem.W.Frag} : Op2 K (rI CFd fun i j => .int (i.fdiv j)) dFdiv := by
  intro F H x y dx dy d Q s hx hy e k
  cases hx with
  | int a =>
    cases hy with
    | int b =>
      have e : (if b ≠ 0 ∧ Builtin.divisionGoesByPylong a b = false then some (PyData.int (a.fdiv b)) else none) = some d := e
      by_cases hz : b ≠ 0 ∧ Builtin.divisionGoesByPylong a b = false
      · rw [if_pos hz] at e; cases e
        exact ⟨a, b, rfl, rfl, hz, k F H _ (Al.refl s) (.int _)⟩
      · rw [if_neg hz] at e; cases e
    | _ => cases e
  | _ => cases e
theorem v_mod {K : PySem.W.Frag} : Op2 K (rI (fun _ j => j ≠ 0) fun i j => .int (i.fmod j)) dMod := by
  intro F H x y dx dy d Q s hx hy e k
  cases hx with
  | int a =>
    cases hy with
    | int b =>
      have e : (if b ≠ 0 then some (PyData.int (a.fmod b)) else none) = some d := e
      by_cases hz : b ≠ 0
      · rw [if_pos hz] at e; cases e
        exact ⟨a, b, rfl, rfl, hz, k F H _ (Al.refl s) (.int _)⟩
      · rw [if_neg hz] at e; cases e
    | _ => cases e
  | _ => cases e
def CPowD (i j : Int) : Prop := 0 ≤ j ∧ (Builtin.Int.intBits i : Int) * j ≤ 134217728
theorem op_powD : OpR X (binaryOp .Pow) (rI CPowD fun i j => .int (i ^ j.toNat)) := opI fun _ _ _ _ _ _ _ hc q => pow_int hc.1 (by have := hc.2; omega) q
theorem v_pow {K : PySem.W.Frag} : Op2 K (rI CPowD fun i j => .int (i ^ j.toNat)) dPow := by
  intro F H x y dx dy d Q s hx hy e k
  cases hx with
  | int a =>
    cases hy with
    | int b =>
      have e : (if 0 ≤ b ∧ (Builtin.Int.intBits a : Int) * b ≤ 134217728 then some (PyData.int (a ^ b.toNat)) else none) = some d := e
      by_cases hz : 0 ≤ b ∧ (Builtin.Int.intBits a : Int) * b ≤ 134217728
      · rw [if_pos hz] at e; cases e
        exact ⟨a, b, rfl, rfl, hz, k F H _ (Al.refl s) (.int _)⟩
      · rw [if_neg hz] at e; cases e
    | _ => cases e
  | _ => cases e
theorem v_neg {K : PySem.W.Frag} : Op1 K (rU fun i => .int (-i)) dNeg := by
  intro F H x dx d Q s hx e k
  cases hx with
  | int a => cases e; exact ⟨a, rfl, k F H _ (Al.refl s) (.int _)⟩
  | _ => cases e
/-! ### comparisons -/
/-- an operation whose answer is a truth value told by the data -/
def rDat (K : PySem.W.Frag) (g : D → D → Option Bool) : R2 := fun x y H Q => ∃ d e b, Dp K H x d ∧ Dp K H y e ∧ g d e = some b ∧ Q (.bl b) H
theorem v_dat {K : PySem.W.Frag} {g : D → D → Option Bool} : Op2 K (rDat K g) (fun x y => (g x y).map .bool) := by
  intro F H x y dx dy d Q s hx hy e k
  obtain ⟨b, e1, e2⟩ := Option.map_eq_some_iff.mp e
  cases e2
  exact ⟨dx, dy, b, dp_mono s hx, dp_mono s hy, e1, k F H _ (Al.refl s) (.bl _)⟩
def bEq (a b : D) : Option Bool := if (okD a && okD b) = true then some (PyData.eqv a b) else none
def bNe (a b : D) : Option Bool := if (okD a && okD b) = true then some (!PyData.eqv a b) else none
def noNone : D → Bool
  | .none => false
  | _ => true
def cmpOk (a b : D) : Bool := okD a && PySem.W.alike a b && noNone a
def bLt (a b : D) : Option Bool := match a, b with
  | .int i, .int j => some (decide (i < j))
  | a, b => if cmpOk a b = true then some (PySem.W.dataLt a b) else none
def bGt (a b : D) : Option Bool := match a, b with
  | .int i, .int j => some (decide (j < i))
  | a, b => if cmpOk a b = true then some (PySem.W.dataLt b a) else none
def bLe (a b : D) : Option Bool := match a, b with
  | .int i, .int j => some (decide (i ≤ j))
  | a, b => if cmpOk a b = true then some (!PySem.W.dataLt b a) else none
def bGe (a b : D) : Option Bool := match a, b with
  | .int i, .int j => some (decide (j ≤ i))
  | a, b => if cmpOk a b = true then some (!PySem.W.dataLt a b) else none
theorem op_eqB (hu : X.A.units + 100 < cLine) : OpR X (compareOp .Eq) (rDat X.K bEq) := by
  intro pins s σ H x y v u Q I rx ry h
  obtain ⟨d, e, b, hd, he, hb, q⟩ := h
  unfold bEq at hb
  by_cases hz : (okD d && okD e) = true
  · rw [if_pos hz] at hb; cases hb
    rw [Bool.and_eq_true] at hz
    exact op_eqD (by omega) pins s σ H x y v u Q I rx ry ⟨d, e, hd, he, hz.1, hz.2, q⟩
  · rw [if_neg hz] at hb; cases hb
theorem op_neB (hu : X.A.units + 100 < cLine) : OpR X (compareOp .NotEq) (rDat X.K bNe) := by
  intro pins s σ H x y v u Q I rx ry h
  obtain ⟨d, e, b, hd, he, hb, q⟩ := h
  unfold bNe at hb
  by_cases hz : (okD d && okD e) = true
  · rw [if_pos hz] at hb; cases hb
    rw [Bool.and_eq_true] at hz
    exact op_neD (by omega) pins s σ H x y v u Q I rx ry ⟨d, e, hd, he, hz.1, hz.2, q⟩
  · rw [if_neg hz] at hb; cases hb
theorem noNone_ne {d : D} (h : noNone d = true) : d ≠ .none := fun e => by subst e; cases h
theorem cmp_room {A : Around} {d e : D} (h : okD d = true) (hu : A.units + 100 < cLine) : A.units + min d.depth e.depth < cLine := by
  have h1 := SeqAt.depth_of_shaped h
  have h2 : min d.depth e.depth ≤ d.depth := Nat.min_le_left _ _
  omega
theorem cmpOk_iff {a b : D} (h : cmpOk a b = true) : okD a = true ∧ PySem.W.alike a b = true ∧ a ≠ .none := by
  unfold cmpOk at h
  rw [Bool.and_eq_true, Bool.and_eq_true] at h
  exact ⟨h.1.1, h.1.2, noNone_ne h.2⟩
theorem cmp_case {g : D → D → Option Bool} {f : D → D → Bool} {p : Int → Int → Bool} (hg : g = fun a b => match a, b with
    | .int i, .int j => some (p i j)
    | a, b => if cmpOk a b = true then some (f a b) else none) {d e : D} {b : Bool} (h : g d e = some b) : (∃ i j, d = .int i ∧ e = .int j ∧ b = p i j) ∨ (cmpOk d e = true ∧ b = f d e) := by
  subst hg
  by_cases hz : cmpOk d e = true
  · cases d <;> first
      | (right; refine ⟨hz, ?_⟩; simp only [hz, if_true] at h; exact (Option.some.inj h).symm)
      | (cases e <;> first
          | (left; exact ⟨_, _, rfl, rfl, (Option.some.inj h).symm⟩)
          | (right; refine ⟨hz, ?_⟩; simp only [hz, if_true] at h; exact (Option.some.inj h).symm))
  · cases d <;> first
      | (simp only [hz, if_false] at h; cases h; done)
      | (cases e <;> first
          | (left; exact ⟨_, _, rfl, rfl, (Option.some.inj h).symm⟩)
          | (simp only [hz] at h; cases h; done))
theorem op_ltB (hu : X.A.units + 100 < cLine) : OpR X (compareOp .Lt) (rDat X.K bLt) := by
  intro pins s σ H x y v u Q I rx ry h
  obtain ⟨d, e, b, hd, he, hb, q⟩ := h
  rcases cmp_case (g := bLt) (f := PySem.W.dataLt) (p := fun i j => decide (i < j)) rfl hb with ⟨i, j, rfl, rfl, rfl⟩ | ⟨hz, rfl⟩
  · cases hd; cases he
    exact op_lt pins s σ H _ _ v u Q I rx ry ⟨i, j, rfl, rfl, q⟩
  · obtain ⟨z1, z2, z3⟩ := cmpOk_iff hz
    obtain ⟨as, r1⟩ := Dp.reads I d x v hd rx
    obtain ⟨bs, r2⟩ := Dp.reads I e y u he ry
    exact PySem.W.lt_data r1 r2 z2 z3 (cmp_room z1 hu) ⟨.bl _, H, I, rfl, q⟩
theorem op_gtB (hu : X.A.units + 100 < cLine) : OpR X (compareOp .Gt) (rDat X.K bGt) := by
  intro pins s σ H x y v u Q I rx ry h
  obtain ⟨d, e, b, hd, he, hb, q⟩ := h
  rcases cmp_case (g := bGt) (f := fun a b => PySem.W.dataLt b a) (p := fun i j => decide (j < i)) rfl hb with ⟨i, j, rfl, rfl, rfl⟩ | ⟨hz, rfl⟩
  · cases hd; cases he
    exact op_gt pins s σ H _ _ v u Q I rx ry ⟨i, j, rfl, rfl, q⟩
  · obtain ⟨z1, z2, z3⟩ := cmpOk_iff hz
    obtain ⟨as, r1⟩ := Dp.reads I d x v hd rx
    obtain ⟨bs, r2⟩ := Dp.reads I e y u he ry
    exact PySem.W.gt_data r1 r2 z2 z3 (cmp_room z1 hu) ⟨.bl _, H, I, rfl, q⟩
theorem op_leB (hu : X.A.units + 100 < cLine) : OpR X (compareOp .LtE) (rDat X.K bLe) := by
  intro pins s σ H x y v u Q I rx ry h
  obtain ⟨d, e, b, hd, he, hb, q⟩ := h
  rcases cmp_case (g := bLe) (f := fun a b => !PySem.W.dataLt b a) (p := fun i j => decide (i ≤ j)) rfl hb with ⟨i, j, rfl, rfl, rfl⟩ | ⟨hz, rfl⟩
  · cases hd; cases he
    exact op_le pins s σ H _ _ v u Q I rx ry ⟨i, j, rfl, rfl, q⟩
  · obtain ⟨z1, z2, z3⟩ := cmpOk_iff hz
    obtain ⟨as, r1⟩ := Dp.reads I d x v hd rx
    obtain ⟨bs, r2⟩ := Dp.reads I e y u he ry
    exact PySem.W.le_data r1 r2 z2 z3 (cmp_room z1 hu) ⟨.bl _, H, I, rfl, q⟩
theorem op_geB (hu : X.A.units + 100 < cLine) : OpR X (compareOp .GtE) (rDat X.K bGe) := by
  intro pins s σ H x y v u Q I rx ry h
  obtain ⟨d, e, b, hd, he, hb, q⟩ := h
  rcases cmp_case (g := bGe) (f := fun a b => !PySem.W.dataLt a b) (p := fun i j => decide (j ≤ i)) rfl hb with ⟨i, j, rfl, rfl, rfl⟩ | ⟨hz, rfl⟩
  · cases hd; cases he
    exact op_ge pins s σ H _ _ v u Q I rx ry ⟨i, j, rfl, rfl, q⟩
  · obtain ⟨z1, z2, z3⟩ := cmpOk_iff hz
    obtain ⟨as, r1⟩ := Dp.reads I d x v hd rx
    obtain ⟨bs, r2⟩ := Dp.reads I e y u he ry
    exact PySem.W.ge_data r1 r2 z2 z3 (cmp_room z1 hu) ⟨.bl _, H, I, rfl, q⟩
/-! ### in, not in -/
def bIn (x y : D) : Option Bool := match y with
  | .list ds => if (okD x && okD (.list ds)) = true then some (ds.any fun z => PyData.eqv z x) else none
  | .tuple ds => if (okD x && okD (.tuple ds)) = true then some (ds.any fun z => PyData.eqv z x) else none
  | .str z => match x with
    | .str w => if w.length = 1 then some (decide (w.cps.getD 0 0 ∈ z.cps.toList)) else some (!(Builtin.Str.occurrences z w 0 z.length 1).isEmpty)
    | _ => none
  | _ => none
def bNotIn (x y : D) : Option Bool := (bIn x y).map not
theorem str_one {w : Str} (h : w.length = 1) : w = ⟨#[w.cps.getD 0 0]⟩ := by
  obtain ⟨⟨l⟩⟩ := w
  have h : l.length = 1 := h
  match l, h with
  | [a], _ => rfl
theorem op_inB (hu : X.A.units + 100 < cLine) : OpR X (compareOp .In) (rDat X.K bIn) := by
  intro pins s σ H x y v u Q I rx ry h
  obtain ⟨d, e, b, hd, he, hb, q⟩ := h
  cases he with
  | @lst a vs ds q1 r1 =>
    have hb : (if (okD d && okD (.list ds)) = true then some (ds.any fun z => PyData.eqv z d) else none) = some b := hb
    by_cases hz : (okD d && okD (.list ds)) = true
    · rw [if_pos hz] at hb; cases hb
      rw [Bool.and_eq_true] at hz
      exact op_inD (by omega) pins s σ H x _ v u Q I rx ry ⟨d, ds, hd, .lst q1 r1, hz.1, hz.2, q⟩
    · rw [if_neg hz] at hb; cases hb
  | @tup a vs ds q1 r1 =>
    have hb : (if (okD d && okD (.tuple ds)) = true then some (ds.any fun z => PyData.eqv z d) else none) = some b := hb
    by_cases hz : (okD d && okD (.tuple ds)) = true
    · rw [if_pos hz] at hb; cases hb
      rw [Bool.and_eq_true] at hz
      obtain ⟨as, z1⟩ := Dp.reads I d x v hd rx
      obtain ⟨bs, z2⟩ := Dp.reads I (.tuple ds) _ u (.tup q1 r1) ry
      exact SeqAt.in_tuple_reads z2 z1 (SeqAt.canLay_of_shaped hz.2) (SeqAt.canLay_of_shaped hz.1) (room_in_shaped hz.1 (by omega)) ⟨.bl _, H, I, rfl, q⟩
    · rw [if_neg hz] at hb; cases hb
  | str z =>
    cases hd with
    | str w =>
      have hb : (if w.length = 1 then some (decide (w.cps.getD 0 0 ∈ z.cps.toList)) else some (!(Builtin.Str.occurrences z w 0 z.length 1).isEmpty)) = some b := hb
      by_cases hz : w.length = 1
      · rw [if_pos hz] at hb; cases hb
        rw [str_one hz] at rx
        exact op_in_sign pins s σ H _ _ v u Q I rx ry ⟨_, z, rfl, rfl, q⟩
      · rw [if_neg hz] at hb; cases hb
        exact op_in_str pins s σ H _ _ v u Q I rx ry ⟨_, z, rfl, rfl, q⟩
    | _ => cases hb
  | _ => cases hb
theorem op_notInB (hu : X.A.units + 100 < cLine) : OpR X (compareOp .NotIn) (rDat X.K bNotIn) := by
  intro pins s σ H x y v u Q I rx ry h
  obtain ⟨d, e, b0, hd, he, hb0, q⟩ := h
  obtain ⟨b, hb, eb⟩ := Option.map_eq_some_iff.mp hb0
  subst eb
  cases he with
  | @lst a vs ds q1 r1 =>
    have hb : (if (okD d && okD (.list ds)) = true then some (ds.any fun z => PyData.eqv z d) else none) = some b := hb
    by_cases hz : (okD d && okD (.list ds)) = true
    · rw [if_pos hz] at hb; cases hb
      rw [Bool.and_eq_true] at hz
      exact op_notInD (by omega) pins s σ H x _ v u Q I rx ry ⟨d, ds, hd, .lst q1 r1, hz.1, hz.2, q⟩
    · rw [if_neg hz] at hb; cases hb
  | @tup a vs ds q1 r1 =>
    have hb : (if (okD d && okD (.tuple ds)) = true then some (ds.any fun z => PyData.eqv z d) else none) = some b := hb
    by_cases hz : (okD d && okD (.tuple ds)) = true
    · rw [if_pos hz] at hb; cases hb
      rw [Bool.and_eq_true] at hz
      obtain ⟨as, z1⟩ := Dp.reads I d x v hd rx
      obtain ⟨bs, z2⟩ := Dp.reads I (.tuple ds) _ u (.tup q1 r1) ry
      exact SeqAt.notIn_tuple_reads z2 z1 (SeqAt.canLay_of_shaped hz.2) (SeqAt.canLay_of_shaped hz.1) (room_in_shaped hz.1 (by omega)) ⟨.bl _, H, I, rfl, q⟩
    · rw [if_neg hz] at hb; cases hb
  | str z =>
    cases hd with
    | str w =>
      have hb : (if w.length = 1 then some (decide (w.cps.getD 0 0 ∈ z.cps.toList)) else some (!(Builtin.Str.occurrences z w 0 z.length 1).isEmpty)) = some b := hb
      by_cases hz : w.length = 1
      · rw [if_pos hz] at hb; cases hb
        rw [str_one hz] at rx
        exact op_notIn_sign pins s σ H _ _ v u Q I rx ry ⟨_, z, rfl, rfl, q⟩
      · rw [if_neg hz] at hb; cases hb
        exact op_notin_str pins s σ H _ _ v u Q I rx ry ⟨_, z, rfl, rfl, q⟩
    | _ => cases hb
  | _ => cases hb
/-! ### is None, is not None -/
def isNone : D → Bool
  | .none => true
  | _ => false
def bIsN (x y : D) : Option Bool := if isNone y = true then some (isNone x) else none
def bNotN (x y : D) : Option Bool := if isNone y = true then some (!isNone x) else none
theorem isNone_dp {K : PySem.W.Frag} {H : Hp} {v : V} {d : D} (h : Dp K H v d) : decide (v = .non) = isNone d := by
  cases h <;> first | rfl | exact decide_eq_false (fun z => nomatch z)
theorem op_isNB : OpR X (compareOp .Is) (rDat X.K bIsN) := by
  intro pins s σ H x y v u Q I rx ry h
  obtain ⟨d, e, b, hd, he, hb, q⟩ := h
  unfold bIsN at hb
  by_cases hz : isNone e = true
  · rw [if_pos hz] at hb; cases hb
    cases he <;> first | cases hz | skip
    exact op_isN pins s σ H x _ v u Q I rx ry ⟨rfl, by rw [isNone_dp hd]; exact q⟩
  · rw [if_neg hz] at hb; cases hb
theorem op_notNB : OpR X (compareOp .IsNot) (rDat X.K bNotN) := by
  intro pins s σ H x y v u Q I rx ry h
  obtain ⟨d, e, b, hd, he, hb, q⟩ := h
  unfold bNotN at hb
  by_cases hz : isNone e = true
  · rw [if_pos hz] at hb; cases hb
    cases he <;> first | cases hz | skip
    exact op_notN pins s σ H x _ v u Q I rx ry ⟨rfl, by rw [isNone_dp hd]; exact q⟩
  · rw [if_neg hz] at hb; cases hb
/-! ### items, slices -/
def dIx : D → D → Option D
  | .list ds, .int i => atI ds i
  | .tuple ds, .int i => atI ds i
  | .str z, .int i => if z.length ≤ sizeLine then (atI z.cps.toList i).map fun c => .str ⟨#[c]⟩ else none
  | _, _ => none
theorem atI_dp {K : PySem.W.Frag} {F : Hp} {vs : List V} {ds : List D} {i : Int} {d : D} (h : DpAll K F vs ds) (e : atI ds i = some d) : ∃ v, atI vs i = some v ∧ Dp K F v d := by
  unfold atI at e ⊢
  rw [h.length]
  cases q : ixN ds.length i with
  | none => rw [q] at e; cases e
  | some j => rw [q] at e; exact h.get' e
theorem v_ix {K : PySem.W.Frag} : Op2 K (rIx K) dIx := by
  intro F H x y dx dy d Q s hx hy e k
  cases hx with
  | @lst a vs ds q1 r1 =>
    cases hy with
    | int i =>
      obtain ⟨v, e1, e2⟩ := atI_dp r1 e
      exact .inl ⟨a, vs, i, v, rfl, rfl, s.seq q1, e1, k F H v (Al.refl s) e2⟩
    | _ => cases e
  | @tup a vs ds q1 r1 =>
    cases hy with
    | int i =>
      obtain ⟨v, e1, e2⟩ := atI_dp r1 e
      exact .inr (.inl ⟨a, vs, i, v, rfl, rfl, sqT_mono s q1, e1, k F H v (Al.refl s) e2⟩)
    | _ => cases e
  | str z =>
    cases hy with
    | int i =>
      have e : (if z.length ≤ sizeLine then (atI z.cps.toList i).map fun c => PyData.str ⟨#[c]⟩ else none) = some d := e
      by_cases hz : z.length ≤ sizeLine
      · rw [if_pos hz] at e
        obtain ⟨c, e1, e2⟩ := Option.map_eq_some_iff.mp e
        cases e2
        exact .inr (.inr ⟨z, i, c, rfl, rfl, hz, e1, k F H _ (Al.refl s) (.str _)⟩)
      · rw [if_neg hz] at e; cases e
    | _ => cases e
  | _ => cases e
variable {a b : Expr} {ta tb : TE} {fa fb : FE} {pos : Pos}
theorem de_ix (ha : DE X a ta fa) (hb : DE X b tb fb) (hs : PlainIx b := by exact fun _ _ => rfl) : DE X (.Subscript a b pos) (tOp (rIx X.K) ta tb) (eBin dIx fa fb) :=
  ⟨pe_ix ix_seq ha.pe hb.pe hs, se_bin v_ix ha.se hb.se⟩
/-- a slice's bound -/
abbrev FO := En → Option (Option Int × En)
def SO (K : PySem.W.Frag) (t : TO) (f : FO) : Prop := ∀ (B F : Hp) (io : List (Nat × Addr)) (σ : St) (H : Hp) (ρ : En) (o : Option Int) (ρ' : En) (Q : Option Int → Hp → Prop), Con K B F io σ H ρ → f ρ = some (o, ρ') →
  (∀ F' H', Gr B F F' → Con K B F' io σ H' ρ' → Q o H') → t σ H Q
structure DO (X : Cx) (e : Option Expr) (t : TO) (f : FO) : Prop where
  pe : PO X e t
  se : SO X.K t f
def oNone : FO := fun ρ => some (none, ρ)
def intD : D → Option Int
  | .int i => some i
  | _ => none
def oSome (f : FE) : FO := fun ρ => (f ρ).bind fun p => (intD p.1).map fun i => (some i, p.2)
theorem do_none : DO X none tNoPart oNone := ⟨po_none, fun B F io σ H ρ o ρ' Q c e k => by cases e; exact k F H (Gr.refl _ _) c⟩
theorem do_some (ha : DE X a ta fa) : DO X (some a) (tPart ta) (oSome fa) := ⟨po_some ha.pe, fun B F io σ H ρ o ρ' Q c e k => by
  obtain ⟨p, e1, e⟩ := Option.bind_eq_some_iff.mp e
  obtain ⟨z, e3, e⟩ := Option.map_eq_some_iff.mp e
  cases e
  refine ha.se B F io σ H ρ p.1 p.2 _ c e1 fun F1 H1 x g1 c1 d1 => ?_
  cases hp : p.1 <;> rw [hp] at e3 d1 <;> cases e3
  cases d1
  exact ⟨_, rfl, k F1 H1 g1 c1⟩⟩
def cutD (ds : List D) (lo hi : Option Int) : List D := (ds.drop (HT.sIx ds.length 0 lo)).take (HT.sIx ds.length ds.length hi - HT.sIx ds.length 0 lo)
theorem cut_dp {K : PySem.W.Frag} {F : Hp} {vs : List V} {ds : List D} (h : DpAll K F vs ds) (lo hi : Option Int) : DpAll K F (cutV vs lo hi) (cutD ds lo hi) := by
  unfold cutV cutD
  rw [h.length]
  exact (h.drop _).take _
def dSl (x : D) (lo hi : Option Int) : Option D := match x with
  | .tuple ds => some (.tuple (cutD ds lo hi))
  | .list ds => some (.list (cutD ds lo hi))
  | .str z => if z.length ≤ sizeLine then some (.str (cutS z lo hi)) else none
  | _ => none
def eSl (fa : FE) (fl fh : FO) : FE := fun ρ => (fa ρ).bind fun p => (fl p.2).bind fun l => (fh l.2).bind fun h => (dSl p.1 l.1 h.1).map fun d => (d, h.2)
def eSlN (fa : FE) (fl fh : FO) : FN := fun ρ => (fa ρ).bind fun p => (fl p.2).bind fun l => (fh l.2).bind fun h => match p.1 with
  | .list ds => some (.ol (cutD ds l.1 h.1), h.2)
  | _ => none
abbrev rSlD (K : PySem.W.Frag) : V → Option Int → Option Int → Hp → VK → Prop := fun x lo hi H Q => rSlL K x lo hi H Q ∨ (rSlA K x lo hi H Q ∨ rSlS x lo hi H Q)
theorem sl_D : SlR X (rSlD X.K) := sl_list.or (sl_tupA.or sl_str)
variable {lo hi : Option Expr} {tl th : TO} {fl fh : FO} {p2 : Pos}
theorem cut_whole {α : Type} (xs : List α) (lo hi : Option Int) (h : HT.sIx xs.length 0 lo = 0 ∧ HT.sIx xs.length xs.length hi = xs.length) : (xs.drop (HT.sIx xs.length 0 lo)).take (HT.sIx xs.length xs.length hi - HT.sIx xs.length 0 lo) = xs := by
  rw [h.1, h.2, List.drop_zero, Nat.sub_zero, List.take_length]
theorem de_slice (he : DE X a ta fa) (hl : DO X lo tl fl) (hu : DO X hi th fh) : DE X (.Subscript a (.Slice lo hi none p2) pos) (tSl (rSlD X.K) ta tl th) (eSl fa fl fh) := by
  refine ⟨pe_slice sl_D he.pe hl.pe hu.pe, ?_⟩
  intro B F io σ H ρ d ρ' Q c e k
  obtain ⟨p, e1, e⟩ := Option.bind_eq_some_iff.mp e
  obtain ⟨l, e2, e⟩ := Option.bind_eq_some_iff.mp e
  obtain ⟨h, e3, e⟩ := Option.bind_eq_some_iff.mp e
  obtain ⟨z, e4, e⟩ := Option.map_eq_some_iff.mp e
  cases e
  refine he.se B F io σ H ρ p.1 p.2 _ c e1 fun F1 H1 x g1 c1 d1 => ?_
  refine hl.se B F1 io σ H1 p.2 l.1 l.2 _ c1 e2 fun F2 H2 g2 c2 => ?_
  refine hu.se B F2 io σ H2 l.2 h.1 h.2 _ c2 e3 fun F3 H3 g3 c3 => ?_
  have d3 := dp_mono (g2.sub.trans g3.sub) d1
  have g := (g1.trans g2).trans g3
  cases hp : p.1 with
  | list ds =>
    rw [hp] at e4 d3
    cases e4
    cases d3 with
    | @lst a vs _ q1 r1 =>
      refine .inl ⟨a, vs, rfl, c3.frz.seq q1, fun n nn => ?_⟩
      have al := Al.laid (o := .lst (cutV vs l.1 h.1)) c3.frz nn
      exact k _ _ _ (g.trans (al.gr c3.base)) (c3.al al) (.lst (.inl (.inl upd_same)) (cut_dp (dpAll_mono al.ff r1) _ _))
  | tuple ds =>
    rw [hp] at e4 d3
    cases e4
    cases d3 with
    | @tup a vs _ q1 r1 =>
      refine .inr (.inl ⟨a, vs, rfl, sqT_mono c3.frz q1, fun hw => ?_, fun _ n nn => ?_⟩)
      · refine k _ _ _ g c3 ?_
        have e5 : cutD ds l.1 h.1 = ds := cut_whole ds _ _ (by rw [← r1.length]; exact hw)
        rw [e5]
        exact .tup q1 r1
      · have al := Al.laid (o := .tup (cutV vs l.1 h.1)) c3.frz nn
        exact k _ _ _ (g.trans (al.gr c3.base)) (c3.al al) (.tup (.inl (.inl upd_same)) (cut_dp (dpAll_mono al.ff r1) _ _))
  | str z =>
    rw [hp] at e4 d3
    have e4 : (if z.length ≤ sizeLine then some (PyData.str (cutS z l.1 h.1)) else none) = some d := e4
    by_cases hz : z.length ≤ sizeLine
    · rw [if_pos hz] at e4; cases e4
      cases d3
      exact .inr (.inr ⟨z, rfl, hz, k _ _ _ g c3 (.str _)⟩)
    · rw [if_neg hz] at e4; cases e4
  | _ => rw [hp] at e4; cases e4
theorem dn_slice (he : DE X a ta fa) (hl : DO X lo tl fl) (hu : DO X hi th fh) : DN X (.Subscript a (.Slice lo hi none p2) pos) (tSl (rSlL X.K) ta tl th) (eSlN fa fl fh) := by
  refine ⟨pe_slice sl_list he.pe hl.pe hu.pe, ?_⟩
  intro B F io σ H ρ d ρ' Q c e k
  obtain ⟨p, e1, e⟩ := Option.bind_eq_some_iff.mp e
  obtain ⟨l, e2, e⟩ := Option.bind_eq_some_iff.mp e
  obtain ⟨h, e3, e4⟩ := Option.bind_eq_some_iff.mp e
  refine he.se B F io σ H ρ p.1 p.2 _ c e1 fun F1 H1 x g1 c1 d1 => ?_
  refine hl.se B F1 io σ H1 p.2 l.1 l.2 _ c1 e2 fun F2 H2 g2 c2 => ?_
  refine hu.se B F2 io σ H2 l.2 h.1 h.2 _ c2 e3 fun F3 H3 g3 c3 => ?_
  have d3 := dp_mono (g2.sub.trans g3.sub) d1
  have g := (g1.trans g2).trans g3
  cases hp : p.1 with
  | list ds =>
    rw [hp] at e4 d3
    cases e4
    cases d3 with
    | @lst a vs _ q1 r1 =>
      refine ⟨a, vs, rfl, c3.frz.seq q1, fun n nn => ?_⟩
      have al := Al.laidH (o := .lst (cutV vs l.1 h.1)) c3.frz nn
      exact k _ _ n _ (g.trans (al.gr c3.base)) (c3.al al) upd_same (cut_dp r1 _ _) (c3.frz.free nn) (c3.base.free nn) (c3.fresh_notOwned nn)
  | _ => rw [hp] at e4; cases e4
end
end L2.Pd

namespace L2.Pd
open PySem PySem.Spec PyProof.Rows
/-! ## Calls of built-in functions, as plain functions of data -/
/-- a call whose answer is told by the data, flat -/
def rDatA (K : PySem.W.Frag) (g : List D → Option D) : List V → Hp → VK → Prop := fun xs H Q => ∃ ds d, DpAll K H xs ds ∧ g ds = some d ∧ ∀ v, Dp K H v d → Q v H
def rDatN (K : PySem.W.Frag) (g : List D → Option (List D)) : List V → Hp → VK → Prop := fun xs H Q => ∃ ds es, DpAll K H xs ds ∧ g ds = some es ∧ ∀ p ws, H p = none → DpAll K H ws es → Q (.ref p) (upd H p (.lst ws))
/-- the answer's items are told by the items -/
theorem lift_dp {K : PySem.W.Frag} {F H : Hp} (s : Same F H) {vs : List V} {ds : List D} (h : DpAll K F vs ds) : DpAll K H vs ds := dpAll_mono s h
section
variable {X : Cx}
theorem one_of {K : PySem.W.Frag} {H : Hp} {xs : List V} {d : D} (h : DpAll K H xs [d]) : ∃ x, xs = [x] ∧ Dp K H x d := by
  cases h with
  | cons q r => cases r; exact ⟨_, rfl, q⟩
theorem two_of {K : PySem.W.Frag} {H : Hp} {xs : List V} {d e : D} (h : DpAll K H xs [d, e]) : ∃ x y, xs = [x, y] ∧ Dp K H x d ∧ Dp K H y e := by
  cases h with
  | cons q r =>
    cases r with
    | cons q' r' => cases r'; exact ⟨_, _, rfl, q, q'⟩
/-! ### len, int, abs, min, max of two, str -/
def cLen : List D → Option D
  | [.list ds] => some (.int ds.length)
  | [.tuple ds] => some (.int ds.length)
  | [.str z] => if z.length ≤ sizeLine then some (.int z.length) else none
  | _ => none
abbrev rLen (K : PySem.W.Frag) : List V → Hp → VK → Prop := fun xs H Q => ∃ x n, xs = [x] ∧ LenV K x H n ∧ Q (.int n) H
theorem a_len {K : PySem.W.Frag} : OpA K (rLen K) cLen := by
  intro F H xs ds d Q s hx e k
  match ds, hx, e with
  | [.list ds], hx, e =>
    obtain ⟨x, rfl, q⟩ := one_of hx
    cases q with
    | lst q1 r1 => cases e; exact ⟨_, _, rfl, .inl ⟨_, s.seq q1, rfl⟩, k F H _ (Al.refl s) (by rw [r1.length]; exact .int _)⟩
  | [.tuple ds], hx, e =>
    obtain ⟨x, rfl, q⟩ := one_of hx
    cases q with
    | tup q1 r1 => cases e; exact ⟨_, _, rfl, .inr ⟨_, sqT_mono s q1, rfl⟩, k F H _ (Al.refl s) (by rw [r1.length]; exact .int _)⟩
  | [.str z], hx, e =>
    obtain ⟨x, rfl, q⟩ := one_of hx
    cases q
    have e : (if z.length ≤ sizeLine then some (PyData.int z.length) else none) = some d := e
    by_cases hz : z.length ≤ sizeLine
    · rw [if_pos hz] at e; cases e
      exact ⟨_, _, rfl, ⟨hz, rfl⟩, k F H _ (Al.refl s) (.int _)⟩
    · rw [if_neg hz] at e; cases e
def cInt : List D → Option D
  | [.int i] => some (.int i)
  | [.bool b] => some (.int (if b then 1 else 0))
  | [.str a] => if a.length ≤ 640 then (PySem.intText? a).map .int else none
  | _ => none
abbrev rIntC : List V → Hp → VK → Prop := fun xs H Q => ((∃ i, xs = [.int i] ∧ Q (.int i) H) ∨ ∃ k, xs = [.bl k] ∧ Q (.int (if k then 1 else 0)) H) ∨ (∃ a n, xs = [.str a] ∧ PySem.intText? a = some n ∧ a.length ≤ 640 ∧ Q (.int n) H)
theorem call_intD : CallR X (.type "int") rIntC := call_int1.or call_int_str
theorem a_int {K : PySem.W.Frag} : OpA K rIntC cInt := by
  intro F H xs ds d Q s hx e k
  match ds, hx, e with
  | [.int i], hx, e =>
    obtain ⟨x, rfl, q⟩ := one_of hx
    cases q; cases e
    exact .inl (.inl ⟨i, rfl, k F H _ (Al.refl s) (.int _)⟩)
  | [.bool b], hx, e =>
    obtain ⟨x, rfl, q⟩ := one_of hx
    cases q; cases e
    exact .inl (.inr ⟨b, rfl, k F H _ (Al.refl s) (.int _)⟩)
  | [.str a], hx, e =>
    obtain ⟨x, rfl, q⟩ := one_of hx
    cases q
    have e : (if a.length ≤ 640 then (PySem.intText? a).map PyData.int else none) = some d := e
    by_cases hz : a.length ≤ 640
    · rw [if_pos hz] at e
      obtain ⟨n, e1, e2⟩ := Option.map_eq_some_iff.mp e
      cases e2
      exact .inr ⟨a, n, rfl, e1, hz, k F H _ (Al.refl s) (.int _)⟩
    · rw [if_neg hz] at e; cases e
def cAbs : List D → Option D
  | [.int i] => some (.int (if i < 0 then -i else i))
  | _ => none
theorem a_abs {K : PySem.W.Frag} : OpA K (fun xs H Q => ∃ i, xs = [.int i] ∧ Q (.int (if i < 0 then -i else i)) H) cAbs := by
  intro F H xs ds d Q s hx e k
  match ds, hx, e with
  | [.int i], hx, e =>
    obtain ⟨x, rfl, q⟩ := one_of hx
    cases q; cases e
    exact ⟨i, rfl, k F H _ (Al.refl s) (.int _)⟩
def cMax2 : List D → Option D
  | [.int i, .int j] => some (.int (if j > i then j else i))
  | _ => none
def cMin2 : List D → Option D
  | [.int i, .int j] => some (.int (if j < i then j else i))
  | _ => none
theorem a_max2 {K : PySem.W.Frag} : OpA K (fun xs H Q => ∃ i j, xs = [.int i, .int j] ∧ Q (.int (if j > i then j else i)) H) cMax2 := by
  intro F H xs ds d Q s hx e k
  match ds, hx, e with
  | [.int i, .int j], hx, e =>
    obtain ⟨x, y, rfl, q, q'⟩ := two_of hx
    cases q; cases q'; cases e
    exact ⟨i, j, rfl, k F H _ (Al.refl s) (.int _)⟩
theorem a_min2 {K : PySem.W.Frag} : OpA K (fun xs H Q => ∃ i j, xs = [.int i, .int j] ∧ Q (.int (if j < i then j else i)) H) cMin2 := by
  intro F H xs ds d Q s hx e k
  match ds, hx, e with
  | [.int i, .int j], hx, e =>
    obtain ⟨x, y, rfl, q, q'⟩ := two_of hx
    cases q; cases q'; cases e
    exact ⟨i, j, rfl, k F H _ (Al.refl s) (.int _)⟩
def cStr : List D → Option D
  | [.int i] => if i.natAbs.log2 < 1920 then some (.str (toString i)) else none
  | _ => none
theorem a_str {K : PySem.W.Frag} : OpA K (fun xs H Q => ∃ i, xs = [.int i] ∧ i.natAbs.log2 < 1920 ∧ Q (.str (toString i)) H) cStr := by
  intro F H xs ds d Q s hx e k
  match ds, hx, e with
  | [.int i], hx, e =>
    obtain ⟨x, rfl, q⟩ := one_of hx
    cases q
    have e : (if i.natAbs.log2 < 1920 then some (PyData.str (toString i)) else none) = some d := e
    by_cases hz : i.natAbs.log2 < 1920
    · rw [if_pos hz] at e; cases e
      exact ⟨i, rfl, hz, k F H _ (Al.refl s) (.str _)⟩
    · rw [if_neg hz] at e; cases e
/-! ### sum, any, all -/
def intsD : List D → Option (List Int)
  | [] => some []
  | .int i :: r => (intsD r).map (i :: ·)
  | _ :: _ => none
def bolsD : List D → Option (List Bool)
  | [] => some []
  | .bool i :: r => (bolsD r).map (i :: ·)
  | _ :: _ => none
theorem intsD_map : ∀ ns : List Int, intsD (ns.map .int) = some ns
  | [] => rfl
  | n :: ns => by show (intsD (ns.map .int)).map _ = _; rw [intsD_map ns]; rfl
theorem bolsD_map : ∀ ns : List Bool, bolsD (ns.map .bool) = some ns
  | [] => rfl
  | n :: ns => by show (bolsD (ns.map .bool)).map _ = _; rw [bolsD_map ns]; rfl
theorem intsD_eq : ∀ {ds : List D} {ns : List Int}, intsD ds = some ns → ds = ns.map .int
  | [], _, e => by cases e; rfl
  | d :: ds, ns, e => by
    cases d <;> first | (cases e; done) | skip
    obtain ⟨m, e1, e2⟩ := Option.map_eq_some_iff.mp e
    subst e2
    rw [intsD_eq e1]; rfl
theorem bolsD_eq : ∀ {ds : List D} {ns : List Bool}, bolsD ds = some ns → ds = ns.map .bool
  | [], _, e => by cases e; rfl
  | d :: ds, ns, e => by
    cases d <;> first | (cases e; done) | skip
    obtain ⟨m, e1, e2⟩ := Option.map_eq_some_iff.mp e
    subst e2
    rw [bolsD_eq e1]; rfl
def cSum : List D → Option D
  | [.list ds] => (intsD ds).map fun ns => .int ns.sum
  | _ => none
def cAny : List D → Option D
  | [.list ds] => (bolsD ds).map fun bs => .bool (bs.any id)
  | _ => none
def cAll : List D → Option D
  | [.list ds] => (bolsD ds).map fun bs => .bool (bs.all id)
  | _ => none
theorem a_sum {K : PySem.W.Frag} : OpA K (rSum K) cSum := by
  intro F H xs ds d Q s hx e k
  match ds, hx, e with
  | [.list ds], hx, e =>
    obtain ⟨x, rfl, q⟩ := one_of hx
    obtain ⟨ns, e1, e2⟩ := Option.map_eq_some_iff.mp e
    cases e2
    have := intsD_eq e1; subst this
    cases q with
    | lst q1 r1 => have := dp_ints_inv r1; subst this; exact ⟨_, ns, rfl, s.seq q1, k F H _ (Al.refl s) (.int _)⟩
theorem a_any {K : PySem.W.Frag} : OpA K (rAny K) cAny := by
  intro F H xs ds d Q s hx e k
  match ds, hx, e with
  | [.list ds], hx, e =>
    obtain ⟨x, rfl, q⟩ := one_of hx
    obtain ⟨ns, e1, e2⟩ := Option.map_eq_some_iff.mp e
    cases e2
    have := bolsD_eq e1; subst this
    cases q with
    | lst q1 r1 => have := dp_bls_inv r1; subst this; exact ⟨_, ns, rfl, s.seq q1, k F H _ (Al.refl s) (.bl _)⟩
theorem a_all {K : PySem.W.Frag} : OpA K (rAll K) cAll := by
  intro F H xs ds d Q s hx e k
  match ds, hx, e with
  | [.list ds], hx, e =>
    obtain ⟨x, rfl, q⟩ := one_of hx
    obtain ⟨ns, e1, e2⟩ := Option.map_eq_some_iff.mp e
    cases e2
    have := bolsD_eq e1; subst this
    cases q with
    | lst q1 r1 => have := dp_bls_inv r1; subst this; exact ⟨_, ns, rfl, s.seq q1, k F H _ (Al.refl s) (.bl _)⟩
/-! ### tuple(x), list(x) -/
def cTuple : List D → Option D
  | [.list ds] => some (.tuple ds)
  | [.tuple ds] => some (.tuple ds)
  | _ => none
abbrev rTupC (K : PySem.W.Frag) : List V → Hp → VK → Prop := fun xs H Q => ∃ p ys, xs = [.ref p] ∧ ((SqL K H p ys ∧ ∀ l, H l = none → Q (.ref l) (upd H l (.tup ys))) ∨ (SqT K H p ys ∧ Q (.ref p) H))
theorem a_tuple {K : PySem.W.Frag} : OpA K (rTupC K) cTuple := by
  intro F H xs ds d Q s hx e k
  match ds, hx, e with
  | [.list ds], hx, e =>
    obtain ⟨x, rfl, q⟩ := one_of hx
    cases e
    cases q with
    | @lst a vs _ q1 r1 =>
      refine ⟨a, vs, rfl, .inl ⟨s.seq q1, fun l nl => ?_⟩⟩
      have al := Al.laid (o := .tup vs) s nl
      exact k _ _ _ al (.tup (.inl (.inl upd_same)) (dpAll_mono al.ff r1))
  | [.tuple ds], hx, e =>
    obtain ⟨x, rfl, q⟩ := one_of hx
    cases e
    cases q with
    | @tup a vs _ q1 r1 => exact ⟨a, vs, rfl, .inr ⟨sqT_mono s q1, k F H _ (Al.refl s) (.tup q1 r1)⟩⟩
def cList : List D → Option Cell
  | [.list ds] => some (.ol ds)
  | [.tuple ds] => some (.ol ds)
  | _ => none
abbrev rLstC (K : PySem.W.Frag) : List V → Hp → VK → Prop := fun xs H Q => ∃ p ys, xs = [.ref p] ∧ (SqL K H p ys ∨ SqT K H p ys) ∧ ∀ l, H l = none → Q (.ref l) (upd H l (.lst ys))
theorem a_list {K : PySem.W.Frag} : OpAN K (rLstC K) cList := by
  intro F H xs ds c Q s hx e k
  match ds, hx, e with
  | [.list ds], hx, e =>
    obtain ⟨x, rfl, q⟩ := one_of hx
    cases e
    cases q with
    | @lst a vs _ q1 r1 =>
      refine ⟨a, vs, rfl, .inl (s.seq q1), fun l nl => ?_⟩
      have al := Al.laidH (o := .lst vs) s nl
      exact k _ _ l _ al upd_same r1 (s.free nl) nl
  | [.tuple ds], hx, e =>
    obtain ⟨x, rfl, q⟩ := one_of hx
    cases e
    cases q with
    | @tup a vs _ q1 r1 =>
      refine ⟨a, vs, rfl, .inr (sqT_mono s q1), fun l nl => ?_⟩
      have al := Al.laidH (o := .lst vs) s nl
      exact k _ _ l _ al upd_same r1 (s.free nl) nl
/-! ### sorted, min, max of a list or tuple of alike data -/
def alikeB (ds : List D) : Bool := (ds.all fun x => ds.all fun y => PySem.W.alike x y) && ds.all noNone && ds.all okD
def nonEmptyT : D → Bool
  | .tuple (_ :: _) => true
  | _ => false
def notTup : D → Bool
  | .tuple _ => false
  | .none => false
  | _ => true
def sortB (ds : List D) : Bool := alikeB ds && (ds.all nonEmptyT || ds.all notTup)
def sortD (ds : List D) : List D := ds.mergeSort (PySem.W.dataLe false id)
theorem alikeB_all {ds : List D} (h : alikeB ds = true) : PySem.W.AllAlike ds ∧ (∀ d ∈ ds, d ≠ .none) ∧ ∀ d ∈ ds, okD d = true := by
  unfold alikeB at h
  rw [Bool.and_eq_true, Bool.and_eq_true] at h
  obtain ⟨⟨h1, h2⟩, h3⟩ := h
  refine ⟨fun d hd e he => ?_, fun d hd => noNone_ne (List.all_eq_true.mp h2 d hd), fun d hd => List.all_eq_true.mp h3 d hd⟩
  exact List.all_eq_true.mp (List.all_eq_true.mp h1 d hd) e he
theorem sortB_all {ds : List D} (h : sortB ds = true) : PySem.W.AllAlike ds ∧ PySem.W.Sortable ds ∧ ∀ d ∈ ds, okD d = true := by
  unfold sortB at h
  rw [Bool.and_eq_true, Bool.or_eq_true] at h
  obtain ⟨h1, h2⟩ := h
  obtain ⟨a, b, c⟩ := alikeB_all h1
  refine ⟨a, ?_, c⟩
  rcases h2 with h2 | h2
  · refine .inl fun d hd => ?_
    have := List.all_eq_true.mp h2 d hd
    cases d with
    | tuple xs =>
      cases xs with
      | nil => cases this
      | cons x r => exact ⟨x, r, rfl⟩
    | _ => cases this
  · refine .inr fun d hd => ?_
    have := List.all_eq_true.mp h2 d hd
    refine ⟨fun e => ?_, fun xs e => ?_⟩ <;> (subst e; cases this)
abbrev DpV (K : PySem.W.Frag) (H : Hp) (u : Value) (d : D) : Prop := ∃ v, RelV v u ∧ Dp K H v d
theorem each_dp {K : PySem.W.Frag} {H : Hp} : ∀ {vs : List V} {us : List Value} {ds : List D}, Vals vs us → DpAll K H vs ds → PySem.W.EachIs (DpV K H) us ds
  | _, _, [], r, h => by cases h; cases r; exact .nil
  | _, _, d :: ds, r, h => by
    cases h with
    | cons q t =>
      cases r with
      | cons r1 r2 => exact .cons ⟨_, r1, q⟩ (each_dp r2 t)
theorem dp_each {K : PySem.W.Frag} {H : Hp} : ∀ {us : List Value} {ds : List D}, PySem.W.EachIs (DpV K H) us ds → ∃ vs, Vals vs us ∧ DpAll K H vs ds
  | [], _, h => by cases h; exact ⟨[], .nil, .nil⟩
  | u :: us, _, h => by
    cases h with
    | cons q t =>
      obtain ⟨v, r, d⟩ := q
      obtain ⟨vs, r2, d2⟩ := dp_each t
      exact ⟨v :: vs, .cons r r2, .cons d d2⟩
theorem reads_each {pins : List (Addr × Obj)} {σ : St} {H : Hp} {s : Shared} (I : Inv X pins σ H s) : ∀ {vs : List V} {us : List Value} {ds : List D}, Vals vs us → DpAll X.K H vs ds → PySem.W.EachIs (fun v b => ∃ as, Reads s.heap v (id b) as) us ds
  | _, _, [], r, h => by cases h; cases r; exact .nil
  | _, _, d :: ds, r, h => by
    cases h with
    | cons q t =>
      cases r with
      | cons r1 r2 => exact .cons (Dp.reads I d _ _ q r1) (reads_each I r2 t)
def cSorted : List D → Option Cell
  | [.list ds] => if sortB ds = true then some (.ol (sortD ds)) else none
  | _ => none
def rSrt (K : PySem.W.Frag) : List V → Hp → VK → Prop := fun xs H Q => ∃ F a vs ds, Same F H ∧ xs = [.ref a] ∧ SqL K H a vs ∧ DpAll K F vs ds ∧ sortB ds = true ∧ ∀ p ws, H p = none → DpAll K F ws (sortD ds) → Q (.ref p) (upd H p (.lst ws))
theorem call_srt (hu : X.A.units + 100 < cLine) : CallR X (.builtin "sorted") (rSrt X.K) := by
  intro pins s σ H xs us Q I r h
  obtain ⟨F, a, vs, ds, sm, rfl, hq, hd, hs, q⟩ := h
  obtain ⟨u, rfl, rx⟩ := vals1 r
  cases rx
  obtain ⟨its, rv, pl, hz⟩ := I.list hq
  obtain ⟨al, sb, ok⟩ := sortB_all hs
  have hl : ds.length ≤ sizeLine := by rw [← hd.length]; exact hz
  refine PySem.W.sorted_data (enc := id) (R := DpV X.K F) pl.isList (each_dp rv hd) (reads_each I rv (dpAll_mono sm hd)) (by rw [List.map_id]; exact al) (by rw [List.map_id]; exact sb) hl (fun b hb => ?_) fun out ho eo => ?_
  · have := SeqAt.depth_of_shaped (ok b hb)
    show X.A.units + 2 + b.depth < cLine
    omega
  · obtain ⟨ws, r2, d2⟩ := dp_each eo
    obtain ⟨ep, he'⟩ := PyProof.Rows.sortedAll_at s.heap its (List.toArray out)
    have hlen : ws.length ≤ sizeLine := by rw [r2.length, ho]; exact hl
    exact ⟨.ref _, upd H (s.heap.objs.size + 1) (.lst ws), I.laid (t' := s.toks) (fun _ _ => PyProof.Rows.sortedAll_old) (Nat.le_succ _) ⟨hlen, out, ep, r2, he'⟩, rfl, q _ ws (I.hok.fresh (Nat.le_succ _)) d2⟩
theorem a_sorted {K : PySem.W.Frag} : OpAN K (rSrt K) cSorted := by
  intro F H xs ds c Q s hx e k
  match ds, hx, e with
  | [.list ds], hx, e =>
    obtain ⟨x, rfl, q⟩ := one_of hx
    have e : (if sortB ds = true then some (Cell.ol (sortD ds)) else none) = some c := e
    by_cases hz : sortB ds = true
    · rw [if_pos hz] at e; cases e
      cases q with
      | @lst a vs _ q1 r1 =>
        refine ⟨F, a, vs, ds, s, rfl, s.seq q1, r1, hz, fun p ws np dw => ?_⟩
        have al := Al.laidH (o := .lst ws) s np
        exact k _ _ p _ al upd_same dw (s.free np) np
    · rw [if_neg hz] at e; cases e
/-- min(xs), max(xs) -/
def cMinL : List D → Option D
  | [.list (x :: ds)] => if alikeB (x :: ds) = true then some (PySem.W.minD x ds) else none
  | [.tuple (x :: ds)] => if alikeB (x :: ds) = true then some (PySem.W.minD x ds) else none
  | _ => none
def cMaxL : List D → Option D
  | [.list (x :: ds)] => if alikeB (x :: ds) = true then some (PySem.W.maxD x ds) else none
  | [.tuple (x :: ds)] => if alikeB (x :: ds) = true then some (PySem.W.maxD x ds) else none
  | _ => none
def rBest (K : PySem.W.Frag) (g : D → List D → D) : List V → Hp → VK → Prop := fun xs H Q => ∃ F a vs x ds, Same F H ∧ xs = [.ref a] ∧ (SqL K H a vs ∨ SqT K H a vs) ∧ DpAll K F vs (x :: ds) ∧ alikeB (x :: ds) = true ∧ ∀ v, Dp K F v (g x ds) → Q v H
theorem depthAll_le {ds : List D} (h : ∀ d ∈ ds, okD d = true) : PyData.depthAll ds ≤ 64 := by
  induction ds with
  | nil => exact Nat.zero_le _
  | cons d ds ih =>
    have h1 := SeqAt.depth_of_shaped (h d List.mem_cons_self)
    have h2 := ih fun e he => h e (List.mem_cons_of_mem _ he)
    show max d.depth (PyData.depthAll ds) ≤ 64
    omega
theorem best_item {pins : List (Addr × Obj)} {σ : St} {F H : Hp} {s : Shared} (I : Inv X pins σ H s) (sm : Same F H) {vs : List V} {its : List Value} {ds : List D} {d : D} {i : Nat} {u : Value} {h' : Heap} {bs : List Addr}
    (hok : ∀ e ∈ ds, okD e = true) (rv : Vals vs its) (hd : DpAll X.K F vs ds) (hu : its.toArray[i]? = some u) (hr : Reads h' u d bs) (hk : ∀ b o, s.heap.get? b = some o → h'.get? b = some o) : ∃ v, RelV v u ∧ Dp X.K F v d := by
  have hu2 : its[i]? = some u := by simpa using hu
  have hi : i < vs.length := by
    rw [rv.length]
    exact (List.getElem?_eq_some_iff.mp hu2).1
  obtain ⟨w, e1, r1⟩ := rv.get (List.getElem?_eq_getElem hi)
  rw [hu2] at e1
  cases e1
  obtain ⟨d0, e2, q⟩ := hd.get (List.getElem?_eq_getElem hi)
  obtain ⟨as, r2⟩ := Dp.reads I d0 _ _ (dp_mono sm q) r1
  have c0 : d0.canLay0 = true := SeqAt.canLay_of_shaped (hok d0 (List.mem_of_getElem? e2))
  have r3 : Reads h' u d0 as := PySem.W.reads_keeps hk r2
  have e3 : d0 = d := PySem.SeqAt.Reads.unique d0 _ _ _ _ c0 r3 hr
  subst e3
  exact ⟨_, r1, q⟩
theorem call_minB (hc : X.calm = true) (hu : X.A.units + 100 < cLine) : CallR X (.builtin "min") (rBest X.K PySem.W.minD) := by
  intro pins s σ H xs us Q I r h
  obtain ⟨F, a, vs, x, ds, sm, rfl, hq, hd, hs, q⟩ := h
  obtain ⟨u, rfl, rx⟩ := vals1 r
  cases rx
  obtain ⟨al, nn, ok⟩ := alikeB_all hs
  have hdp : X.A.units + 1 + PyData.depthAll (x :: ds) < cLine := by
    have := depthAll_le ok
    omega
  rcases hq with hq | hq
  · obtain ⟨its, rv, pl, hz⟩ := I.list hq
    obtain ⟨as, ra⟩ := Dp.readsAll I _ _ its (dpAll_mono sm hd) rv
    refine PySem.W.min_list_data (I.ok.hd hc) pl.isList (show ReadsAll s.heap its.toArray.toList _ as from ra) ⟨al, nn⟩ hdp fun i v h' tk bs e1 e2 hk => ?_
    obtain ⟨w, r1, d1⟩ := best_item I sm ok rv hd e1 e2 hk
    exact ⟨w, H, I.kept hk, r1, q w d1⟩
  · obtain ⟨its, rv, pl, hz⟩ := I.tuple hq
    obtain ⟨as, ra⟩ := Dp.readsAll I _ _ its (dpAll_mono sm hd) rv
    refine PySem.W.min_tuple_data (I.ok.hd hc) pl (show ReadsAll s.heap its.toArray.toList _ as from ra) ⟨al, nn⟩ hdp fun i v h' tk bs e1 e2 hk => ?_
    obtain ⟨w, r1, d1⟩ := best_item I sm ok rv hd e1 e2 hk
    exact ⟨w, H, I.kept hk, r1, q w d1⟩
theorem call_maxB (hc : X.calm = true) (hu : X.A.units + 100 < cLine) : CallR X (.builtin "max") (rBest X.K PySem.W.maxD) := by
  intro pins s σ H xs us Q I r h
  obtain ⟨F, a, vs, x, ds, sm, rfl, hq, hd, hs, q⟩ := h
  obtain ⟨u, rfl, rx⟩ := vals1 r
  cases rx
  obtain ⟨al, nn, ok⟩ := alikeB_all hs
  have hdp : X.A.units + 1 + PyData.depthAll (x :: ds) < cLine := by
    have := depthAll_le ok
    omega
  rcases hq with hq | hq
  · obtain ⟨its, rv, pl, hz⟩ := I.list hq
    obtain ⟨as, ra⟩ := Dp.readsAll I _ _ its (dpAll_mono sm hd) rv
    refine PySem.W.max_list_data (I.ok.hd hc) pl.isList (show ReadsAll s.heap its.toArray.toList _ as from ra) ⟨al, nn⟩ hdp fun i v h' tk bs e1 e2 hk => ?_
    obtain ⟨w, r1, d1⟩ := best_item I sm ok rv hd e1 e2 hk
    exact ⟨w, H, I.kept hk, r1, q w d1⟩
  · obtain ⟨its, rv, pl, hz⟩ := I.tuple hq
    obtain ⟨as, ra⟩ := Dp.readsAll I _ _ its (dpAll_mono sm hd) rv
    refine PySem.W.max_tuple_data (I.ok.hd hc) pl (show ReadsAll s.heap its.toArray.toList _ as from ra) ⟨al, nn⟩ hdp fun i v h' tk bs e1 e2 hk => ?_
    obtain ⟨w, r1, d1⟩ := best_item I sm ok rv hd e1 e2 hk
    exact ⟨w, H, I.kept hk, r1, q w d1⟩
theorem a_minL {K : PySem.W.Frag} : OpA K (rBest K PySem.W.minD) cMinL := by
  intro F H xs ds d Q s hx e k
  match ds, hx, e with
  | [.list (y :: ds)], hx, e =>
    obtain ⟨x, rfl, q⟩ := one_of hx
    have e : (if alikeB (y :: ds) = true then some (PySem.W.minD y ds) else none) = some d := e
    by_cases hz : alikeB (y :: ds) = true
    · rw [if_pos hz] at e; cases e
      cases q with
      | @lst a vs _ q1 r1 => exact ⟨F, a, vs, y, ds, s, rfl, .inl (s.seq q1), r1, hz, fun v dv => k F H v (Al.refl s) dv⟩
    · rw [if_neg hz] at e; cases e
  | [.tuple (y :: ds)], hx, e =>
    obtain ⟨x, rfl, q⟩ := one_of hx
    have e : (if alikeB (y :: ds) = true then some (PySem.W.minD y ds) else none) = some d := e
    by_cases hz : alikeB (y :: ds) = true
    · rw [if_pos hz] at e; cases e
      cases q with
      | @tup a vs _ q1 r1 => exact ⟨F, a, vs, y, ds, s, rfl, .inr (sqT_mono s q1), r1, hz, fun v dv => k F H v (Al.refl s) dv⟩
    · rw [if_neg hz] at e; cases e
theorem a_maxL {K : PySem.W.Frag} : OpA K (rBest K PySem.W.maxD) cMaxL := by
  intro F H xs ds d Q s hx e k
  match ds, hx, e with
  | [.list (y :: ds)], hx, e =>
    obtain ⟨x, rfl, q⟩ := one_of hx
    have e : (if alikeB (y :: ds) = true then some (PySem.W.maxD y ds) else none) = some d := e
    by_cases hz : alikeB (y :: ds) = true
    · rw [if_pos hz] at e; cases e
      cases q with
      | @lst a vs _ q1 r1 => exact ⟨F, a, vs, y, ds, s, rfl, .inl (s.seq q1), r1, hz, fun v dv => k F H v (Al.refl s) dv⟩
    · rw [if_neg hz] at e; cases e
  | [.tuple (y :: ds)], hx, e =>
    obtain ⟨x, rfl, q⟩ := one_of hx
    have e : (if alikeB (y :: ds) = true then some (PySem.W.maxD y ds) else none) = some d := e
    by_cases hz : alikeB (y :: ds) = true
    · rw [if_pos hz] at e; cases e
      cases q with
      | @tup a vs _ q1 r1 => exact ⟨F, a, vs, y, ds, s, rfl, .inr (sqT_mono s q1), r1, hz, fun v dv => k F H v (Al.refl s) dv⟩
    · rw [if_neg hz] at e; cases e
/-! ### isinstance(x, T) -/
def tyN : D → String
  | .none => "NoneType"
  | .bool _ => "bool"
  | .int _ => "int"
  | .str _ => "str"
  | .list _ => "list"
  | .tuple _ => "tuple"
  | .dict _ => "dict"
theorem tyX_dp {K : PySem.W.Frag} {H : Hp} {v : V} {d : D} (h : Dp K H v d) : TyX K H v (.type (tyN d)) := by
  cases h with
  | non => exact .base .non
  | bl b => exact .base (.bl b)
  | int i => exact .base (.int i)
  | str x => exact .base (.str x)
  | lst q _ =>
    rcases q with (q | ⟨o, q⟩) | ⟨o, its, n, q, c, _⟩
    · exact .base (.lst q)
    · exact .base (.frz q)
    · exact .kList q c
  | tup q _ =>
    rcases q with (q | ⟨o, q⟩) | ⟨o, its, n, q, c, _⟩
    · exact .base (.tup q)
    · exact .fTuple q
    · exact .kTuple q c
def eIsi (T : String) (fa : FE) : FE := fun ρ => (fa ρ).bind fun p => (kitB (tyN p.1) T).map fun b => (.bool b, p.2)
theorem de_isi {a : Expr} {ta : TE} {fa : FE} {T : String} {y x : Str} {p p2 pos : Pos} (ha : DE X a ta fa) (hx : X.mg x = none) (hy : X.mg y = none) (hv : bootBuiltins x = some (.builtin "isinstance") := by decide +kernel) (hT : bootBuiltins y = some (.type T) := by decide +kernel)
    (hg : Gl X x := by rfl) (hg2 : Gl X y := by rfl) (hn : x ≠ "__name__" := by decide) (hn2 : y ≠ "__name__" := by decide) (hdb : (x == ("__debug__" : Str)) = false := by decide) (hdb2 : (y == ("__debug__" : Str)) = false := by decide)
    (s1 : starEach [a, .Name y p2] X.env = (false, eval a X.env) :: starEach [.Name y p2] X.env := by rfl) (s2 : starEach [.Name y p2] X.env = (false, eval (.Name y p2) X.env) :: starEach [] X.env := by rfl) (hpl : (backTo pos (starEach [.Name y p2] X.env)).any (·.1) = false := by rfl) :
    DE X (.Call (.Name x p) [a, .Name y p2] [] pos) (tCB (rIsi X.K) (tCons ta (tCons (tC (.ty T)) tNil))) (eIsi T fa) := by
  refine ⟨pe_callB call_isi hg hx hv (pa_cons ha.pe (pa_cons (pe_bltn hg2 hy hT rfl hn2 hdb2) pa_nil s2) s1) hn hdb s1 hpl, ?_⟩
  intro B F io σ H ρ d ρ' Q c e k
  obtain ⟨q, e1, e⟩ := Option.bind_eq_some_iff.mp e
  obtain ⟨z, e3, e⟩ := Option.map_eq_some_iff.mp e
  cases e
  exact ha.se B F io σ H ρ q.1 q.2 _ c e1 fun F1 H1 v g1 c1 d1 => ⟨v, .ty T, _, _, z, rfl, .ty T, tyX_dp (dp_mono c1.frz d1), kit_ty e3, k F1 H1 _ g1 c1 (.bl z)⟩
end
end L2.Pd

namespace L2.Pd
open PySem PySem.Spec PyProof.Rows
/-! ## Statements -/
inductive Out where
  | nx (ρ : En)
  | rt (c : Cell) (ρ : En)
  | bk (ρ : En)
  | ct (ρ : En)
abbrev FS := En → Option Out
/-- what a def hands back -/
def RetOk (K : PySem.W.Frag) (B F : Hp) (σ : St) (H : Hp) (ρ : En) (v : V) : Cell → Prop
  | .dead => False
  | .sh d => Dp K F v d
  | c => ∃ a o, v = .ref a ∧ H a = some o ∧ Ob K F c o ∧ F a = none ∧ B a = none ∧ NotOwned σ ρ a
def Post (K : PySem.W.Frag) (B F : Hp) (io : List (Nat × Addr)) (Dn : Ends) : Out → Prop
  | .nx ρ' => ∀ F' σ' H', Gr B F F' → Con K B F' io σ' H' ρ' → Dn.nx σ' H'
  | .bk ρ' => ∀ F' σ' H', Gr B F F' → Con K B F' io σ' H' ρ' → Dn.bk σ' H'
  | .ct ρ' => ∀ F' σ' H', Gr B F F' → Con K B F' io σ' H' ρ' → Dn.ct σ' H'
  | .rt c ρ' => ∀ F' σ' H' v, Gr B F F' → Con K B F' io σ' H' ρ' → RetOk K B F' σ' H' ρ' v c → Dn.rt v H'
theorem Post.mono {K : PySem.W.Frag} {B F F1 : Hp} {io : List (Nat × Addr)} {Dn : Ends} {o : Out} (p : Post K B F io Dn o) (g : Gr B F F1) : Post K B F1 io Dn o := by
  cases o with
  | nx ρ => exact fun F' σ' H' g' c => p F' σ' H' (g.trans g') c
  | bk ρ => exact fun F' σ' H' g' c => p F' σ' H' (g.trans g') c
  | ct ρ => exact fun F' σ' H' g' c => p F' σ' H' (g.trans g') c
  | rt c ρ => exact fun F' σ' H' v g' c => p F' σ' H' v (g.trans g') c
def SS (K : PySem.W.Frag) (L : List Nat) (t : TS) (f : FS) : Prop := ∀ (B F : Hp) (io : List (Nat × Addr)) (σ : St) (H : Hp) (ρ : En) (o : Out) (Dn : Ends), io.map (·.1) = L → Con K B F io σ H ρ → f ρ = some o → Post K B F io Dn o → t Dn σ H
structure DS (X : Cx) (L : List Nat) (st : Stmt) (t : TS) (f : FS) : Prop where
  pe : PS X st t
  se : SS X.K L t f
structure DSs (X : Cx) (L : List Nat) (st : List Stmt) (t : TS) (f : FS) : Prop where
  pe : PSs X st t
  se : SS X.K L t f
def sSeq (f g : FS) : FS := fun ρ => (f ρ).bind fun o => match o with
  | .nx ρ' => g ρ'
  | o => some o
def sNx : FS := fun ρ => some (.nx ρ)
section
variable {X : Cx} {L : List Nat} {st : Stmt} {rest : List Stmt} {t u : TS} {f g : FS} {pos : Pos}
theorem dss_nil : DSs X L [] tNext sNx := ⟨pss_nil, fun B F io σ H ρ o Dn hL c e p => by cases e; exact p F σ H (Gr.refl _ _) c⟩
theorem dss_cons (h1 : DS X L st t f) (h2 : DSs X L rest u g) : DSs X L (st :: rest) (tSeq t u) (sSeq f g) := by
  refine ⟨pss_cons h1.pe h2.pe, ?_⟩
  intro B F io σ H ρ o Dn hL c e p
  obtain ⟨o1, e1, e⟩ := Option.bind_eq_some_iff.mp e
  refine h1.se B F io σ H ρ o1 { Dn with nx := u Dn } hL c e1 ?_
  cases o1 with
  | nx ρ1 => exact fun F' σ' H' g' c' => h2.se B F' io σ' H' ρ1 o Dn hL c' e (p.mono g')
  | bk ρ1 => cases e; exact p
  | ct ρ1 => cases e; exact p
  | rt c1 ρ1 => cases e; exact p
theorem dss_one (h1 : DS X L st t f) : DSs X L [st] t f := ⟨pss_one h1.pe, h1.se⟩
theorem ds_pass : DS X L (.Pass pos) tNext sNx := ⟨ps_pass, fun B F io σ H ρ o Dn hL c e p => by cases e; exact p F σ H (Gr.refl _ _) c⟩
def sBrk : FS := fun ρ => some (.bk ρ)
def sCnt : FS := fun ρ => some (.ct ρ)
theorem ds_break : DS X L (.Break pos) tBreak sBrk := ⟨ps_break, fun B F io σ H ρ o Dn hL c e p => by cases e; exact p F σ H (Gr.refl _ _) c⟩
theorem ds_continue : DS X L (.Continue pos) tCont sCnt := ⟨ps_continue, fun B F io σ H ρ o Dn hL c e p => by cases e; exact p F σ H (Gr.refl _ _) c⟩
/-! ### return -/
def sRet (f : FE) : FS := fun ρ => (f ρ).map fun p => .rt (.sh p.1) p.2
def sRetNew (f : FN) : FS := fun ρ => (f ρ).map fun p => .rt p.1 p.2
def sRetN : FS := fun ρ => some (.rt (.sh .none) ρ)
def sRetOwn (i : Nat) : FS := fun ρ => match ρ[i]? with
  | some (.ol ds) => some (.rt (.ol ds) (ρ.set i .dead))
  | some (.od tk ds) => some (.rt (.od tk ds) (ρ.set i .dead))
  | some (.sh d) => some (.rt (.sh d) ρ)
  | _ => none
variable {e : Expr} {te : TE} {fe : FE} {fn : FN}
theorem ds_ret (he : DE X e te fe) : DS X L (.Return (some e) pos) (tRet te) (sRet fe) := ⟨ps_ret he.pe, fun B F io σ H ρ o Dn hL c h p => by
  obtain ⟨q, e1, e2⟩ := Option.map_eq_some_iff.mp h
  subst e2
  exact he.se B F io σ H ρ q.1 q.2 _ c e1 fun F' H' v g c' d => p F' σ H' v g c' d⟩
theorem retOk_own {K : PySem.W.Frag} {B F : Hp} {σ : St} {H : Hp} {ρ : En} {v : V} {c : Cell} (h : isOwn c = true) : RetOk K B F σ H ρ v c ↔ ∃ a o, v = .ref a ∧ H a = some o ∧ Ob K F c o ∧ F a = none ∧ B a = none ∧ NotOwned σ ρ a := by
  cases c <;> first | exact Iff.rfl | (cases h)
theorem ds_retNew (he : DN X e te fn) : DS X L (.Return (some e) pos) (tRet te) (sRetNew fn) := ⟨ps_ret he.pe, fun B F io σ H ρ o Dn hL c h p => by
  obtain ⟨q, e1, e2⟩ := Option.map_eq_some_iff.mp h
  subst e2
  exact he.se B F io σ H ρ q.1 q.2 _ c e1 fun F' H' a o g c' h1 h2 h3 h4 h5 => p F' σ H' _ g c' ((retOk_own (ob_own h2)).mpr ⟨a, o, rfl, h1, h2, h3, h4, h5⟩)⟩
theorem ds_retN : DS X L (.Return none pos) tRetN sRetN := ⟨ps_retN, fun B F io σ H ρ o Dn hL c e p => by cases e; exact p F σ H _ (Gr.refl _ _) c .non⟩
theorem ds_retOwn (i : Nat) {x : Str} {p' : Pos} (hN : X.N[i]? = some x := by rfl) (hv : Vis X.env.scope x := by first | exact Or.inl rfl | exact Or.inr (Or.inl rfl) | exact Or.inr (Or.inr rfl)) (hd : (x == ("__debug__" : Str)) = false := by decide)
    (hcd : (x == ("__classdict__" : Str)) = false := by decide) : DS X L (.Return (some (.Name x p')) pos) (tRet (tVar i)) (sRetOwn i) := ⟨ps_ret (pe_var hN hv hd hcd), fun B F io σ H ρ o Dn hL c h p => by
  unfold sRetOwn at h
  cases q : ρ[i]? with
  | none => rw [q] at h; cases h
  | some u =>
    rw [q] at h
    by_cases ho : isOwn u = true
    · have e2 : o = .rt u (ρ.set i .dead) := by cases u <;> first | (cases ho; done) | (exact (Option.some.inj h).symm)
      subst e2
      obtain ⟨a, w, h1, h2, h3, h4, h5⟩ := c.own q ho
      refine ⟨.ref a, h1, p F σ H _ (Gr.refl _ _) (c.kill i) ((retOk_own ho).mpr ⟨a, w, rfl, h2, h3, h4, h5, fun j e he hj hs => ?_⟩)⟩
      rcases get_set_cases he with ⟨rfl, rfl, hl⟩ | ⟨ne, he⟩
      · cases hj
      · exact ne (c.sep j i e u a he q hj ho hs h1)
    · cases u with
      | sh d =>
        cases h
        obtain ⟨x, hx, v, rfl, dd⟩ := c.cell i _ q
        exact ⟨v, hx, p F σ H v (Gr.refl _ _) c dd⟩
      | dead => cases h
      | fd tk kvs => cases h
      | _ => exact absurd rfl ho⟩
/-! ### expression statements, if -/
def sExpr (f : FE) : FS := fun ρ => (f ρ).map fun p => .nx p.2
theorem ds_expr (he : DE X e te fe) (hs : swapsWith e none pos.line X.env = pure false := by rfl) : DS X L (.Expr e pos) (tDrop te) (sExpr fe) := ⟨ps_expr he.pe hs, fun B F io σ H ρ o Dn hL c h p => by
  obtain ⟨q, e1, e2⟩ := Option.map_eq_some_iff.mp h
  subst e2
  exact he.se B F io σ H ρ q.1 q.2 _ c e1 fun F' H' v g c' d => p F' σ H' g c'⟩
def sIf (c : FT) (f g : FS) : FS := fun ρ => (c ρ).bind fun p => if p.1 = true then f p.2 else g p.2
theorem ds_if {c : Expr} {a b : List Stmt} {tc : TT} {fc : FT} (hc : DT X c tc fc) (ha : DSs X L a t f) (hb : DSs X L b u g) : DS X L (.If c a b pos) (tIfS tc t u) (sIf fc f g) := ⟨ps_if hc.pe ha.pe hb.pe, fun B F io σ H ρ o Dn hL c h p => by
  obtain ⟨q, e1, h⟩ := Option.bind_eq_some_iff.mp h
  refine hc.se B F io σ H ρ q.1 q.2 _ c e1 fun F' H' g' c' => ?_
  by_cases hq : q.1 = true
  · rw [if_pos hq] at h ⊢
    exact ha.se B F' io σ H' q.2 o Dn hL c' h (p.mono g')
  · rw [if_neg hq] at h ⊢
    exact hb.se B F' io σ H' q.2 o Dn hL c' h (p.mono g')⟩
/-! ### stores to names -/
def sSet (i : Nat) (f : FE) : FS := fun ρ => (f ρ).map fun p => .nx (p.2.set i (.sh p.1))
def sSetN (i : Nat) (f : FN) : FS := fun ρ => (f ρ).map fun p => .nx (p.2.set i p.1)
theorem ss_set {K : PySem.W.Frag} {i : Nat} (hi : i ∉ L) (he : SE K te fe) : SS K L (tAsg te (gName i)) (sSet i fe) := fun B F io σ H ρ o Dn hL c h p => by
  obtain ⟨q, e1, e2⟩ := Option.map_eq_some_iff.mp h
  subst e2
  exact he B F io σ H ρ q.1 q.2 _ c e1 fun F' H' v g c' d => p F' _ H' g (c'.set_sh (by rw [hL]; exact hi) d)
theorem ss_setN {K : PySem.W.Frag} {i : Nat} (hi : i ∉ L) (he : SN K te fn) : SS K L (tAsg te (gName i)) (sSetN i fn) := fun B F io σ H ρ o Dn hL c h p => by
  obtain ⟨q, e1, e2⟩ := Option.map_eq_some_iff.mp h
  subst e2
  exact he B F io σ H ρ q.1 q.2 _ c e1 fun F' H' a o g c' h1 h2 h3 h4 h5 => p F' _ H' g (c'.set_own (by rw [hL]; exact hi) h1 h2 h3 h4 h5)
theorem ds_set {i : Nat} {x : Str} {pos' : Pos} (hN : X.N.Nodup) (he : DE X e te fe) (hi : X.N[i]? = some x := by rfl) (hl : i ∉ L := by decide) (hx : Loc X.env.scope x := by first | exact Or.inl rfl | exact Or.inr rfl) (hs : swapsWith e (some (.Name x pos')) pos.line X.env = pure false := by rfl)
    (hf : X.fn x = true ∨ X.env.scope.names.lookup x = some .local := by first | exact .inl rfl | exact .inr rfl | assumption) : DS X L (.Assign [.Name x pos'] e pos) (tAsg te (gName i)) (sSet i fe) := ⟨ps_set hN hi hx he.pe hs hf, ss_set hl he.se⟩
theorem ds_setN {i : Nat} {x : Str} {pos' : Pos} (hN : X.N.Nodup) (he : DN X e te fn) (hi : X.N[i]? = some x := by rfl) (hl : i ∉ L := by decide) (hx : Loc X.env.scope x := by first | exact Or.inl rfl | exact Or.inr rfl) (hs : swapsWith e (some (.Name x pos')) pos.line X.env = pure false := by rfl)
    (hf : X.fn x = true ∨ X.env.scope.names.lookup x = some .local := by first | exact .inl rfl | exact .inr rfl | assumption) : DS X L (.Assign [.Name x pos'] e pos) (tAsg te (gName i)) (sSetN i fn) := ⟨ps_set hN hi hx he.pe hs hf, ss_setN hl he.se⟩
/-! ### targets -/
abbrev FG := D → En → Option En
abbrev FGs := List D → En → Option En
/-- only these slots have been stored to -/
def Off (ws : List Nat) (σ σ' : St) : Prop := σ'.length = σ.length ∧ ∀ i, i ∉ ws → σ'[i]? = σ[i]?
theorem Off.refl (σ : St) : Off [] σ σ := ⟨rfl, fun _ _ => rfl⟩
theorem Off.trans {ws vs : List Nat} {σ σ' σ'' : St} (a : Off ws σ σ') (b : Off vs σ' σ'') : Off (ws ++ vs) σ σ'' := ⟨b.1.trans a.1, fun i hi => by
  rw [List.mem_append, not_or] at hi
  exact (b.2 i hi.2).trans (a.2 i hi.1)⟩
theorem Off.set (σ : St) (i : Nat) (x : Option V) : Off [i] σ (σ.set i x) := ⟨List.length_set, fun j hj => List.getElem?_set_ne (fun e => hj (by rw [e]; exact List.mem_singleton.mpr rfl))⟩
def SG (K : PySem.W.Frag) (L ws : List Nat) (t : TG) (g : FG) : Prop := ∀ (B F : Hp) (io : List (Nat × Addr)) (σ : St) (H : Hp) (ρ : En) (v : V) (d : D) (ρ' : En) (Q : St → Hp → Prop), io.map (·.1) = L → Con K B F io σ H ρ → Dp K F v d → g d ρ = some ρ' →
  (∀ F' σ' H', Gr B F F' → Con K B F' io σ' H' ρ' → Off ws σ σ' → Q σ' H') → t v σ H Q
def SGs (K : PySem.W.Frag) (L ws : List Nat) (t : TGs) (g : FGs) : Prop := ∀ (B F : Hp) (io : List (Nat × Addr)) (σ : St) (H : Hp) (ρ : En) (vs : List V) (ds : List D) (ρ' : En) (Q : St → Hp → Prop), io.map (·.1) = L → Con K B F io σ H ρ → DpAll K F vs ds → g ds ρ = some ρ' →
  (∀ F' σ' H', Gr B F F' → Con K B F' io σ' H' ρ' → Off ws σ σ' → Q σ' H') → t vs σ H Q
structure DG (X : Cx) (L ws : List Nat) (e : Expr) (t : TG) (g : FG) : Prop where
  pe : PG X e t
  se : SG X.K L ws t g
structure DGs (X : Cx) (L ws : List Nat) (es : List Expr) (t : TGs) (g : FGs) : Prop where
  pe : PGs X es t
  se : SGs X.K L ws t g
def gNm (i : Nat) : FG := fun d ρ => some (ρ.set i (.sh d))
def gNl : FGs := fun ds ρ => match ds with
  | [] => some ρ
  | _ => none
def gCn (g : FG) (h : FGs) : FGs := fun ds ρ => match ds with
  | d :: r => (g d ρ).bind (h r)
  | _ => none
def gTp (n : Nat) (h : FGs) : FG := fun d ρ => match d with
  | .tuple ds => if ds.length = n then h ds ρ else none
  | .list ds => if ds.length = n then h ds ρ else none
  | _ => none
/-- a tuple or a list, taken apart -/
abbrev gTupA (K : PySem.W.Frag) (n : Nat) (t : TGs) : TG := fun v σ H Q => gTup K n t v σ H Q ∨ gUnl K n t v σ H Q
theorem sg_name {K : PySem.W.Frag} {i : Nat} (hl : i ∉ L) : SG K L [i] (gName i) (gNm i) := fun B F io σ H ρ v d ρ' Q hL c dd e k => by
  cases e
  exact k F _ H (Gr.refl _ _) (c.set_sh (by rw [hL]; exact hl) dd) (Off.set σ i _)
theorem dg_name (i : Nat) {x : Str} (hN : X.N.Nodup) (hi : X.N[i]? = some x := by rfl) (hl : i ∉ L := by decide) (hx : Loc X.env.scope x := by first | exact Or.inl rfl | exact Or.inr rfl) (hf : X.fn x = true ∨ X.env.scope.names.lookup x = some .local := by first | exact .inl rfl | exact .inr rfl | assumption) :
    DG X L [i] (.Name x pos) (gName i) (gNm i) := ⟨pg_name hN hi hx hf, sg_name hl⟩
theorem dgs_nil : DGs X L [] [] gNil gNl := ⟨pgs_nil, fun B F io σ H ρ vs ds ρ' Q hL c dd e k => by
  cases ds with
  | nil => cases e; cases dd; exact ⟨rfl, k F σ H (Gr.refl _ _) c (Off.refl σ)⟩
  | cons d r => cases e⟩
theorem dgs_cons {es : List Expr} {ws ws2 : List Nat} {t1 : TG} {t2 : TGs} {g1 : FG} {g2 : FGs} (h1 : DG X L ws e t1 g1) (h2 : DGs X L ws2 es t2 g2) (hs : (assignEach (e :: es) X.env).map (·.2) = assign e X.env :: (assignEach es X.env).map (·.2) := by rfl) : DGs X L (ws ++ ws2) (e :: es) (gCons t1 t2) (gCn g1 g2) :=
  ⟨pgs_cons h1.pe h2.pe hs, fun B F io σ H ρ vs ds ρ' Q hL c dd e k => by
    cases ds with
    | nil => cases e
    | cons d r =>
      obtain ⟨ρ1, e1, e2⟩ := Option.bind_eq_some_iff.mp e
      cases dd with
      | cons q q' =>
        refine ⟨_, _, rfl, h1.se B F io σ H ρ _ d ρ1 _ hL c q e1 fun F1 σ1 H1 gr1 c1 o1 => ?_⟩
        exact h2.se B F1 io σ1 H1 ρ1 _ r ρ' Q hL c1 (dpAll_mono gr1.sub q') e2 fun F2 σ2 H2 gr2 c2 o2 => k F2 σ2 H2 (gr1.trans gr2) c2 (o1.trans o2)⟩
theorem dg_tup {es : List Expr} {ws : List Nat} {k0 : Nat} {t2 : TGs} {g2 : FGs} {n : Nat} (hc : X.calm = true) (h : DGs X L ws es t2 g2) (hn : (assignEach es X.env).length = n := by rfl) (hst : (assignEach es X.env).findIdx? (·.1) = none := by rfl) : DG X L ws (.Tuple es k0 pos) (gTupA X.K n t2) (gTp n g2) :=
  ⟨⟨fun pins s σ H v u Q I r hw => by
    rcases hw with hw | hw
    · exact (pg_tup hc h.pe hn hst).run pins s σ H v u Q I r hw
    · exact (pg_unl hc h.pe hn hst).run pins s σ H v u Q I r hw⟩, fun B F io σ H ρ v d ρ' Q hL c dd e k => by
    cases dd with
    | @tup a vs ds q r =>
      have e : (if ds.length = n then g2 ds ρ else none) = some ρ' := e
      by_cases hz : ds.length = n
      · rw [if_pos hz] at e
        exact .inl ⟨a, vs, rfl, sqT_mono c.frz q, by rw [r.length]; exact hz, h.se B F io σ H ρ vs ds ρ' Q hL c r e k⟩
      · rw [if_neg hz] at e; cases e
    | @lst a vs ds q r =>
      have e : (if ds.length = n then g2 ds ρ else none) = some ρ' := e
      by_cases hz : ds.length = n
      · rw [if_pos hz] at e
        exact .inr ⟨a, vs, rfl, c.frz.seq q, by rw [r.length]; exact hz, h.se B F io σ H ρ vs ds ρ' Q hL c r e k⟩
      · rw [if_neg hz] at e; cases e
    | _ => cases e⟩
def sAsg (f : FE) (g : FG) : FS := fun ρ => (f ρ).bind fun p => (g p.1 p.2).map .nx
theorem ds_asg {tg : Expr} {ws : List Nat} {t1 : TG} {g1 : FG} (he : DE X e te fe) (hg : DG X L ws tg t1 g1) (hs : swapsWithSole [tg] e pos.line X.env = pure false := by rfl) (hw : swappedStores [tg] e X.env = pure none := by rfl)
    (h1 : (assignEach [tg] X.env).map (·.2) = [assign tg X.env] := by rfl) : DS X L (.Assign [tg] e pos) (tAsg te t1) (sAsg fe g1) := ⟨ps_asg he.pe hg.pe hs hw h1, fun B F io σ H ρ o Dn hL c h p => by
  obtain ⟨q, e1, h⟩ := Option.bind_eq_some_iff.mp h
  obtain ⟨ρ1, e2, e3⟩ := Option.map_eq_some_iff.mp h
  subst e3
  refine he.se B F io σ H ρ q.1 q.2 _ c e1 fun F1 H1 v g1' c1 d1 => ?_
  exact hg.se B F1 io σ H1 q.2 v q.1 ρ1 _ hL c1 d1 e2 fun F2 σ2 H2 g2' c2 _ => p F2 σ2 H2 (g1'.trans g2') c2⟩
def sPar (i j : Nat) (f : FA) : FS := fun ρ => (f ρ).bind fun p => match p.1 with
  | [d, e] => some (.nx ((p.2.set i (.sh d)).set j (.sh e)))
  | _ => none
theorem ds_par {i j : Nat} {x y : Str} {a b : Expr} {ta : TA} {fa : FA} {px py pt : Pos} {kt k2 pt2} (hc : X.calm = true) (hN : X.N.Nodup) (ha : DA X [a, b] ta fa) (hi : X.N[i]? = some x := by rfl) (hj : X.N[j]? = some y := by rfl) (hij : i ≠ j := by decide) (hli : i ∉ L := by decide) (hlj : j ∉ L := by decide)
    (hx : X.env.scope.names.lookup x = some .local := by rfl) (hy : X.env.scope.names.lookup y = some .local := by rfl)
    (hw : swappedStores [.Tuple [.Name x px, .Name y py] kt pt] (.Tuple [a, b] k2 pt2) X.env = pure (some [x, y]) := by rfl)
    (hs : swapsWithSole [.Tuple [.Name x px, .Name y py] kt pt] (.Tuple [a, b] k2 pt2) pos.line X.env = pure false := by rfl) :
    DS X L (.Assign [.Tuple [.Name x px, .Name y py] kt pt] (.Tuple [a, b] k2 pt2) pos) (tPar i j ta) (sPar i j fa) := ⟨ps_par hc hN hi hj hij hx hy ha.pe hw hs, fun B F io σ H ρ o Dn hL c h p => by
  obtain ⟨q, e1, h⟩ := Option.bind_eq_some_iff.mp h
  refine ha.se B F io σ H ρ q.1 q.2 _ c e1 fun F1 H1 vs g1 c1 d1 => ?_
  obtain ⟨ds, ρ1⟩ := q
  match ds, d1, h with
  | [d, e], d1, h =>
    obtain ⟨v, w, rfl, q1, q2⟩ := two_of d1
    cases h
    exact ⟨v, w, rfl, p F1 _ H1 g1 ((c1.set_sh (by rw [hL]; exact hli) q1).set_sh (by rw [hL]; exact hlj) q2)⟩⟩
/-! ### x op= e -/
def sAug (i : Nat) (g : D → D → Option D) (f : FE) : FS := fun ρ => match ρ[i]? with
  | some (.sh d) => (f ρ).bind fun p => (g d p.1).map fun z => .nx (p.2.set i (.sh z))
  | _ => none
theorem ds_aug {i : Nat} {x : Str} {op : Operator} {r : R2} {g : D → D → Option D} {pos' : Pos} (hN : X.N.Nodup) (ho : OpR X (inplaceOp op) r) (hg : Op2 X.K r g) (he : DE X e te fe) (hi : X.N[i]? = some x := by rfl) (hl : i ∉ L := by decide) (hx : Loc X.env.scope x := by first | exact Or.inl rfl | exact Or.inr rfl)
    (hf : X.fn x = true ∨ X.env.scope.names.lookup x = some .local := by first | exact .inl rfl | exact .inr rfl | assumption) : DS X L (.AugAssign (.Name x pos') op e pos) (tAug i te r) (sAug i g fe) := ⟨ps_aug hN hi hx he.pe ho hf, fun B F io σ H ρ o Dn hL c h p => by
  unfold sAug at h
  cases q : ρ[i]? with
  | none => rw [q] at h; cases h
  | some u =>
    rw [q] at h
    cases u with
    | sh d =>
      obtain ⟨s, e1, h⟩ := Option.bind_eq_some_iff.mp h
      obtain ⟨z, e2, e3⟩ := Option.map_eq_some_iff.mp h
      subst e3
      obtain ⟨y, hy, v, rfl, dd⟩ := c.cell i _ q
      refine ⟨v, hy, he.se B F io σ H ρ s.1 s.2 _ c e1 fun F1 H1 w g1 c1 d1 => ?_⟩
      exact hg F1 H1 v w d s.1 z _ c1.frz (dp_mono g1.sub dd) d1 e2 fun F2 H2 r2 al d2 => p F2 _ H2 (g1.trans (al.gr c1.base)) ((c1.al al).set_sh (by rw [hL]; exact hl) d2)
    | _ => cases h⟩
/-! ### what is done to an own list -/
/-- the slot holds an own list -/
def ownL (j : Nat) (ρ : En) : Option (List D) := match ρ[j]? with
  | some (.ol ds) => some ds
  | _ => none
theorem ownL_eq {j : Nat} {ρ : En} {ds : List D} (h : ownL j ρ = some ds) : ρ[j]? = some (.ol ds) := by
  unfold ownL at h
  split at h
  · cases h; assumption
  · cases h
theorem own_list {K : PySem.W.Frag} {B F H : Hp} {io : List (Nat × Addr)} {σ : St} {ρ : En} {j : Nat} {ds : List D} (c : Con K B F io σ H ρ) (h : ownL j ρ = some ds) : ∃ a vs, σ[j]? = some (some (.ref a)) ∧ H a = some (.lst vs) ∧ DpAll K F vs ds := by
  obtain ⟨a, o, h1, h2, h3, _⟩ := c.own (ownL_eq h) rfl
  cases o with
  | lst vs => exact ⟨a, vs, h1, h2, h3⟩
  | _ => exact False.elim h3
/-- the list at j is written -/
theorem Con.putL {K : PySem.W.Frag} {B F H : Hp} {io : List (Nat × Addr)} {σ : St} {ρ : En} {j : Nat} {ds es : List D} {a : Addr} {ws : List V} (c : Con K B F io σ H ρ) (h : ownL j ρ = some ds) (hs : σ[j]? = some (some (.ref a))) (hw : DpAll K F ws es) :
    Con K B F io σ (upd H a (.lst ws)) (ρ.set j (.ol es)) := c.write (ownL_eq h) rfl hs hw
/-- xs[i] = e, xs an own list -/
def sItem (j : Nat) (fi fe : FE) : FS := fun ρ => (fe ρ).bind fun p => (ownL j p.2).bind fun _ => (fi p.2).bind fun q => (ownL j q.2).bind fun ds => (intD q.1).bind fun k => (ixN ds.length k).map fun n => .nx (q.2.set j (.ol (ds.set n p.1)))
theorem intD_eq {d : D} {i : Int} (h : intD d = some i) : d = .int i := by
  cases d <;> first | (cases h; rfl) | cases h
theorem ds_item {j : Nat} {x : Str} {i : Expr} {ti : TE} {fi : FE} {p1 p2 : Pos} (he : DE X e te fe) (hi : DE X i ti fi) (hN : X.N[j]? = some x := by rfl) (hv : Vis X.env.scope x := by first | exact Or.inl rfl | exact Or.inr (Or.inl rfl) | exact Or.inr (Or.inr rfl)) (hd : (x == ("__debug__" : Str)) = false := by decide)
    (hcd : (x == ("__classdict__" : Str)) = false := by decide) (hs : swapsWithSole [.Subscript (.Name x p1) i p2] e pos.line X.env = pure false := by rfl) (hw : swappedStores [.Subscript (.Name x p1) i p2] e X.env = pure none := by rfl)
    (h1 : (assignEach [.Subscript (.Name x p1) i p2] X.env).map (·.2) = [assign (.Subscript (.Name x p1) i p2) X.env] := by rfl)
    (ha : ∀ v, assign (.Subscript (.Name x p1) i p2) X.env v = (do
      let ov ← holding [v] (eval (.Name x p1) X.env)
      let iv ← holding [v, ov] (eval i X.env)
      standAt p2
      holding [v, ov, iv] (setItem ov iv v)
      release [v, ov, iv] []) := by intro _; rfl) :
    DS X L (.Assign [.Subscript (.Name x p1) i p2] e pos) (tAsg te (gSub (tVar j) ti rSetL)) (sItem j fi fe) := ⟨ps_asg he.pe (pg_sub (pe_var hN hv hd hcd) hi.pe set_list ha) hs hw h1, fun B F io σ H ρ o Dn hL c h p => by
  obtain ⟨q, e1, h⟩ := Option.bind_eq_some_iff.mp h
  obtain ⟨es, z1, h⟩ := Option.bind_eq_some_iff.mp h
  obtain ⟨r, e2, h⟩ := Option.bind_eq_some_iff.mp h
  obtain ⟨ds, z2, h⟩ := Option.bind_eq_some_iff.mp h
  obtain ⟨k, z3, h⟩ := Option.bind_eq_some_iff.mp h
  obtain ⟨n, z4, e4⟩ := Option.map_eq_some_iff.mp h
  subst e4
  refine he.se B F io σ H ρ q.1 q.2 _ c e1 fun F1 H1 v g1 c1 d1 => ?_
  obtain ⟨a, _, s1, _, _⟩ := own_list c1 z1
  refine ⟨.ref a, s1, hi.se B F1 io σ H1 q.2 r.1 r.2 _ c1 e2 fun F2 H2 y g2 c2 d2 => ?_⟩
  obtain ⟨a', vs, s2, h2, h3⟩ := own_list c2 z2
  have ea : a' = a := by rw [s1] at s2; cases s2; rfl
  subst ea
  rw [intD_eq z3] at d2
  cases d2
  refine ⟨a', vs, k, n, rfl, rfl, h2, by rw [h3.length]; exact z4, p F2 σ _ (g1.trans g2) (c2.putL z2 s1 (DpAll.set (dp_mono g2.sub d1) n h3))⟩⟩
/-! ### methods of an own list -/
def eMeth (j : Nat) (g : List D → List D → Option (D × List D)) (fa : FA) : FE := fun ρ => (ownL j ρ).bind fun _ => (fa ρ).bind fun p => (ownL j p.2).bind fun ds => (g ds p.1).map fun z => (z.1, p.2.set j (.ol z.2))
def eMeth0 (j : Nat) (g : List D → List D → Option (D × List D)) : FE := fun ρ => (ownL j ρ).bind fun ds => (g ds []).map fun z => (z.1, ρ.set j (.ol z.2))
/-- a method that writes its list -/
def OpL (K : PySem.W.Frag) (r : V → List V → Hp → VK → Prop) (g : List D → List D → Option (D × List D)) : Prop := ∀ (F H : Hp) (a : Addr) (vs xs : List V) (ds es : List D) (z : D × List D) (Q : VK), H a = some (.lst vs) → DpAll K F vs ds → DpAll K F xs es → g ds es = some z →
  (∀ v ws, Dp K F v z.1 → DpAll K F ws z.2 → Q v (upd H a (.lst ws))) → r (.ref a) xs H Q
theorem de_lm0 {j : Nat} {x name : Str} {apos cpos p1 : Pos} {id : String} {r : V → List V → Hp → VK → Prop} {g : List D → List D → Option (D × List D)} (slot : Slot "list" name id) (hty : typeOf (.builtin id) = pure (.type "method_descriptor")) (hm : MtR X id r) (hg : OpL X.K r g)
    (hN : X.N[j]? = some x := by rfl) (hv : Vis X.env.scope x := by first | exact Or.inl rfl | exact Or.inr (Or.inl rfl) | exact Or.inr (Or.inr rfl)) (hd : (x == ("__debug__" : Str)) = false := by decide) (hcd : (x == ("__classdict__" : Str)) = false := by decide)
    (hbase : attributeBase (.Name x p1) name X.env (eval (.Name x p1) X.env) = eval (.Name x p1) X.env := by rfl) (hline : (apos.endLine == cpos.line) = true := by rfl) :
    DE X (.Call (.Attribute (.Name x p1) name apos) [] [] cpos) (tBM0 X.K "list" r (tVar j)) (eMeth0 j g) := ⟨pe_bm0 PySem.F.plainAttrs_list slot hty hm (pe_var hN hv hd hcd) hbase hline, by
  intro B F io σ H ρ d ρ' Q c e k
  obtain ⟨ds, z1, e⟩ := Option.bind_eq_some_iff.mp e
  obtain ⟨z, z2, e2⟩ := Option.map_eq_some_iff.mp e
  cases e2
  obtain ⟨a, vs, s1, h1, d1⟩ := own_list c z1
  refine ⟨.ref a, s1, .inl ⟨rfl, vs, .inl (.inl h1)⟩, hg F H a vs [] ds [] z Q h1 d1 .nil z2 fun v ws dv dw => ?_⟩
  exact k F _ v (Gr.refl _ _) (c.putL z1 s1 dw) dv⟩
theorem de_lm {j : Nat} {x name : Str} {apos cpos p1 : Pos} {id : String} {r : V → List V → Hp → VK → Prop} {g : List D → List D → Option (D × List D)} {es : List Expr} {ta : TA} {fa : FA} (slot : Slot "list" name id) (hty : typeOf (.builtin id) = pure (.type "method_descriptor")) (hm : MtR X id r) (hg : OpL X.K r g)
    (ha : DA X (e :: es) ta fa) (hN : X.N[j]? = some x := by rfl) (hv : Vis X.env.scope x := by first | exact Or.inl rfl | exact Or.inr (Or.inl rfl) | exact Or.inr (Or.inr rfl)) (hd : (x == ("__debug__" : Str)) = false := by decide) (hcd : (x == ("__classdict__" : Str)) = false := by decide)
    (hbase : attributeBase (.Name x p1) name X.env (eval (.Name x p1) X.env) = eval (.Name x p1) X.env := by rfl)
    (hfew : ((backTo cpos (starEach (e :: es) X.env)).all (fun x => !x.1) && (backToKw cpos (keywordEach [] X.env)).all (fun x => x.1.isSome)
      && decide ((e :: es).length + ([] : List Keyword).length + (if ([] : List Keyword).isEmpty then 0 else 1) < 30)) = true := by rfl)
    (hline : (apos.endLine == cpos.line) = true := by rfl) (hs : starEach (e :: es) X.env = (false, eval e X.env) :: starEach es X.env := by rfl) (hplain : (backTo cpos (starEach es X.env)).any (·.1) = false := by rfl) :
    DE X (.Call (.Attribute (.Name x p1) name apos) (e :: es) [] cpos) (tBM X.K "list" r (tVar j) ta) (eMeth j g fa) := ⟨pe_bm PySem.F.plainAttrs_list slot hty hm (pe_var hN hv hd hcd) ha.pe hbase hfew hline hs hplain, by
  intro B F io σ H ρ d ρ' Q c e k
  obtain ⟨ds0, z0, e⟩ := Option.bind_eq_some_iff.mp e
  obtain ⟨p, e1, e⟩ := Option.bind_eq_some_iff.mp e
  obtain ⟨ds, z1, e⟩ := Option.bind_eq_some_iff.mp e
  obtain ⟨z, z2, e2⟩ := Option.map_eq_some_iff.mp e
  cases e2
  obtain ⟨a, vs0, s1, h1, _⟩ := own_list c z0
  refine ⟨.ref a, s1, .inl ⟨rfl, vs0, .inl (.inl h1)⟩, ha.se B F io σ H ρ p.1 p.2 _ c e1 fun F1 H1 xs g1 c1 d1 => ?_⟩
  obtain ⟨a', vs, s2, h2, d2⟩ := own_list c1 z1
  have ea : a' = a := by rw [s1] at s2; cases s2; rfl
  subst ea
  exact hg F1 H1 a' vs xs ds p.1 z Q h2 d2 d1 z2 fun v ws dv dw => k F1 _ v g1 (c1.putL z1 s1 dw) dv⟩
end
def lAppend : List D → List D → Option (D × List D)
  | ds, [e] => if ds.length < sizeLine then some (.none, ds ++ [e]) else none
  | _, _ => none
def lPop : List D → List D → Option (D × List D)
  | ds, [] => (ds[ds.length - 1]?).map fun d => (d, ds.dropLast)
  | _, _ => none
def lPopAt : List D → List D → Option (D × List D)
  | ds, [.int i] => if -(2 ^ 63) ≤ i ∧ i < 2 ^ 63 then (seqIndex? i ds.length).bind fun k => (ds[k]?).map fun d => (d, ds.eraseIdx k) else none
  | _, _ => none
def lReverse : List D → List D → Option (D × List D)
  | ds, [] => some (.none, ds.reverse)
  | _, _ => none
def lInsert : List D → List D → Option (D × List D)
  | ds, [.int i, e] => if ds.length < sizeLine ∧ 0 ≤ i ∧ i < 2 ^ 63 then some (.none, ds.take i.toNat ++ e :: ds.drop i.toNat) else none
  | _, _ => none
section
variable {K : PySem.W.Frag}
theorem l_append : OpL K rAppend lAppend := by
  intro F H a vs xs ds es z Q h d1 d2 e k
  match es, d2, e with
  | [x], d2, e =>
    obtain ⟨v, rfl, dv⟩ := one_of d2
    have e : (if ds.length < sizeLine then some (PyData.none, ds ++ [x]) else none) = some z := e
    by_cases hz : ds.length < sizeLine
    · rw [if_pos hz] at e; cases e
      exact ⟨a, vs, v, rfl, rfl, h, by rw [d1.length]; exact hz, k _ _ .non (d1.append (.one dv))⟩
    · rw [if_neg hz] at e; cases e
theorem l_pop : OpL K rPop lPop := by
  intro F H a vs xs ds es z Q h d1 d2 e k
  match es, d2, e with
  | [], d2, e =>
    cases d2
    obtain ⟨d, e1, e2⟩ := Option.map_eq_some_iff.mp e
    subst e2
    obtain ⟨v, e3, dv⟩ := d1.get' e1
    exact ⟨a, vs, v, rfl, rfl, h, by rw [d1.length]; exact e3, k _ _ dv d1.dropLast⟩
theorem l_popAt : OpL K rPopAt lPopAt := by
  intro F H a vs xs ds es z Q h d1 d2 e k
  match es, d2, e with
  | [.int i], d2, e =>
    obtain ⟨v, rfl, dv⟩ := one_of d2
    cases dv
    have e : (if -(2 ^ 63) ≤ i ∧ i < 2 ^ 63 then (seqIndex? i ds.length).bind fun k => (ds[k]?).map fun d => (d, ds.eraseIdx k) else none) = some z := e
    by_cases hz : -(2 ^ 63) ≤ i ∧ i < 2 ^ 63
    · rw [if_pos hz] at e
      obtain ⟨n, e1, e⟩ := Option.bind_eq_some_iff.mp e
      obtain ⟨d, e2, e3⟩ := Option.map_eq_some_iff.mp e
      subst e3
      obtain ⟨w, e4, dw⟩ := d1.get' e2
      exact ⟨a, vs, i, n, w, rfl, rfl, h, hz.1, hz.2, by rw [d1.length]; exact e1, e4, k _ _ dw (d1.eraseIdx n)⟩
    · rw [if_neg hz] at e; cases e
theorem l_reverse : OpL K rReverse lReverse := by
  intro F H a vs xs ds es z Q h d1 d2 e k
  match es, d2, e with
  | [], d2, e =>
    cases d2
    cases e
    exact ⟨a, vs, rfl, rfl, h, k _ _ .non d1.reverse⟩
end
end L2.Pd

namespace L2.Pd
open PySem PySem.Spec PyProof.Rows
/-! ## Loops and comprehensions -/
mutual
/-- the very same data -/
def beqD : D → D → Bool
  | .none, .none => true
  | .bool a, .bool b => a == b
  | .int a, .int b => a == b
  | .str a, .str b => decide (a = b)
  | .list a, .list b => beqDs a b
  | .tuple a, .tuple b => beqDs a b
  | _, _ => false
def beqDs : List D → List D → Bool
  | [], [] => true
  | a :: r, b :: s => beqD a b && beqDs r s
  | _, _ => false
end
mutual
theorem beqD_eq : ∀ {a b : D}, beqD a b = true → a = b
  | .none, b, h => by cases b <;> first | rfl | (simp [beqD] at h)
  | .bool a, b, h => by cases b <;> first | (simp [beqD] at h; done) | (simp [beqD] at h; rw [h])
  | .int a, b, h => by cases b <;> first | (simp [beqD] at h; done) | (simp [beqD] at h; rw [h])
  | .str a, b, h => by cases b <;> first | (simp [beqD] at h; done) | (simp [beqD] at h; rw [h])
  | .list a, b, h => by
    cases b with
    | list b => rw [beqDs_eq (a := a) (b := b) (by simpa [beqD] using h)]
    | _ => simp [beqD] at h
  | .tuple a, b, h => by
    cases b with
    | tuple b => rw [beqDs_eq (a := a) (b := b) (by simpa [beqD] using h)]
    | _ => simp [beqD] at h
  | .dict a, b, h => by cases b <;> (simp [beqD] at h)
theorem beqDs_eq : ∀ {a b : List D}, beqDs a b = true → a = b
  | [], b, h => by cases b <;> first | rfl | (simp [beqDs] at h)
  | x :: r, b, h => by
    cases b with
    | nil => simp [beqDs] at h
    | cons y s =>
      rw [beqDs, Bool.and_eq_true] at h
      rw [beqD_eq h.1, beqDs_eq h.2]
end
/-- no dict within -/
def noDict : D → Bool := fun d => d.canLay0 || true
def lockOk (lk : Option Nat) (xs : List D) (ρ : En) : Bool := match lk with
  | none => true
  | some j => match ρ[j]? with
    | some (.ol ds) => beqDs ds xs
    | _ => false
theorem lockOk_at {j : Nat} {xs : List D} {ρ : En} (h : lockOk (some j) xs ρ = true) : ρ[j]? = some (.ol xs) := by
  unfold lockOk at h
  simp only at h
  split at h
  · rename_i ds e
    rw [e, beqDs_eq h]
  · cases h
def killL : List Nat → En → En
  | [], ρ => ρ
  | i :: r, ρ => killL r (ρ.set i .dead)
section
variable {K : PySem.W.Frag} {B F F' H H' : Hp} {io : List (Nat × Addr)} {σ : St} {ρ : En}
theorem Con.killL (c : Con K B F io σ H ρ) : ∀ ks : List Nat, Con K B F io σ H (Pd.killL ks ρ) := by
  intro ks
  induction ks generalizing ρ with
  | nil => exact c
  | cons i r ih => exact ih (c.kill i)
theorem Con.subio {io' : List (Nat × Addr)} (c : Con K B F io σ H ρ) (h : ∀ p ∈ io', p ∈ io) : Con K B F io' σ H ρ := ⟨c.len, c.base, c.frz, c.cell, c.sep, fun p hp => c.io p (h p hp)⟩
theorem Con.addio (c : Con K B F io σ H ρ) {j : Nat} {a : Addr} (h : σ[j]? = some (some (.ref a))) : Con K B F ((j, a) :: io) σ H ρ := ⟨c.len, c.base, c.frz, c.cell, c.sep, fun p hp => by
  rcases List.mem_cons.mp hp with e | hp
  · subst e; exact h
  · exact c.io p hp⟩
end
/-! ### what is walked -/
structure Walk (K : PySem.W.Frag) (C : Hp → Hp → Prop) (J : It) (xs : List D) : Prop where
  go : ∀ i F H, C F H → i < xs.length → J.go i H
  yld : ∀ i F H x H', C F H → i < xs.length → J.yld i H x H' → H' = H ∧ ∃ d, xs[i]? = some d ∧ Dp K F x d
  stop : ∀ i F H, C F H → xs.length ≤ i → J.stop i H
def SI (K : PySem.W.Frag) (lk : Option Nat) (wi : TI) (f : FA) : Prop := ∀ (B F : Hp) (io : List (Nat × Addr)) (σ : St) (H : Hp) (ρ : En) (xs : List D) (ρ' : En) (R : It → Hp → Prop), Con K B F io σ H ρ → f ρ = some (xs, ρ') →
  (∀ F' H' J C, Gr B F F' → Con K B F' io σ H' ρ' → Walk K C J xs → (∀ B2 F2 io2 σ2 H2 ρ2, Same F' F2 → Con K B2 F2 io2 σ2 H2 ρ2 → lockOk lk xs ρ2 = true → (∀ j, lk = some j → σ2[j]? = σ[j]?) → C F2 H2) → (∀ j, lk = some j → ∃ a, σ[j]? = some (some (.ref a))) → R J H') → wi σ H R
structure DI (X : Cx) (lk : Option Nat) (tg iter : Expr) (wi : TI) (f : FA) : Prop where
  pe : PI X tg iter wi
  se : SI X.K lk wi f
def rngD (lo : Int) (n : Nat) : List D := (List.range n).map fun i => .int (lo + (i : Nat))
def rngC (lo c : Int) (n : Nat) : List D := (List.range n).map fun i => .int (lo + (i : Nat) * c)
theorem rngD_len (lo : Int) (n : Nat) : (rngD lo n).length = n := by unfold rngD; rw [List.length_map, List.length_range]
theorem rngC_len (lo c : Int) (n : Nat) : (rngC lo c n).length = n := by unfold rngC; rw [List.length_map, List.length_range]
theorem rngD_get {lo : Int} {n i : Nat} (h : i < n) : (rngD lo n)[i]? = some (.int (lo + (i : Nat))) := by
  unfold rngD
  rw [List.getElem?_map, List.getElem?_range h]
  rfl
theorem rngC_get {lo c : Int} {n i : Nat} (h : i < n) : (rngC lo c n)[i]? = some (.int (lo + (i : Nat) * c)) := by
  unfold rngC
  rw [List.getElem?_map, List.getElem?_range h]
  rfl
theorem walk_rng {K : PySem.W.Frag} (C : Hp → Hp → Prop) (lo : Int) (n : Nat) : Walk K C (Itr lo n) (rngD lo n) where
  go := fun i F H _ h => by rw [rngD_len] at h; exact h
  yld := fun i F H x H' _ hi h => by
    obtain ⟨e1, e2⟩ := h
    subst e2
    rw [rngD_len] at hi
    exact ⟨e1, _, rngD_get hi, .int _⟩
  stop := fun i F H _ h => by rw [rngD_len] at h; exact h
theorem walk_rngC {K : PySem.W.Frag} (C : Hp → Hp → Prop) (lo c : Int) (n : Nat) : Walk K C (Itc lo c n) (rngC lo c n) where
  go := fun i F H _ h => by rw [rngC_len] at h; exact h
  yld := fun i F H x H' _ hi h => by
    obtain ⟨e1, e2⟩ := h
    subst e2
    rw [rngC_len] at hi
    exact ⟨e1, _, rngC_get hi, .int _⟩
  stop := fun i F H _ h => by rw [rngC_len] at h; exact h
theorem walk_lst {K : PySem.W.Frag} (C : Hp → Hp → Prop) {a : Addr} {ds : List D} (h : ∀ F H, C F H → ∃ vs, SqL K H a vs ∧ DpAll K F vs ds) : Walk K C (Itl K a) ds where
  go := fun i F H c hi => by
    obtain ⟨vs, q, d⟩ := h F H c
    have hl : i < vs.length := by rw [d.length]; exact hi
    exact ⟨vs, vs[i], q, List.getElem?_eq_getElem hl⟩
  yld := fun i F H x H' c hi y => by
    obtain ⟨vs, q, d⟩ := h F H c
    obtain ⟨e1, e2⟩ := y
    exact ⟨e1, d.get (e2 vs q)⟩
  stop := fun i F H c hi => by
    obtain ⟨vs, q, d⟩ := h F H c
    exact ⟨vs, q, by rw [d.length]; exact hi⟩
theorem walk_tup {K : PySem.W.Frag} (C : Hp → Hp → Prop) {a : Addr} {ds : List D} (h : ∀ F H, C F H → ∃ vs, SqT K H a vs ∧ DpAll K F vs ds) : Walk K C (Itt K a) ds where
  go := fun i F H c hi => by
    obtain ⟨vs, q, d⟩ := h F H c
    have hl : i < vs.length := by rw [d.length]; exact hi
    exact ⟨vs, vs[i], q, List.getElem?_eq_getElem hl⟩
  yld := fun i F H x H' c hi y => by
    obtain ⟨vs, q, d⟩ := h F H c
    obtain ⟨e1, e2⟩ := y
    exact ⟨e1, d.get (e2 vs q)⟩
  stop := fun i F H c hi => by
    obtain ⟨vs, q, d⟩ := h F H c
    exact ⟨vs, q, by rw [d.length]; exact hi⟩
/-- the signs of a text -/
def signsD (x : Str) : List D := x.cps.toList.map fun c => .str ⟨#[c]⟩
theorem signsD_len (x : Str) : (signsD x).length = x.cps.size := by unfold signsD; rw [List.length_map, Array.length_toList]
theorem walk_str {K : PySem.W.Frag} (C : Hp → Hp → Prop) (x : Str) : Walk K C (Its x) (signsD x) where
  go := fun i F H _ h => by rw [signsD_len] at h; exact h
  yld := fun i F H v H' _ hi h => by
    obtain ⟨e1, c, e2, e3⟩ := h
    subst e3
    refine ⟨e1, .str ⟨#[c]⟩, ?_, .str _⟩
    unfold signsD
    rw [List.getElem?_map, Array.getElem?_toList, e2]
    rfl
  stop := fun i F H _ h => by rw [signsD_len] at h; exact h
section
variable {X : Cx} {tg a b c e : Expr} {ta : TA} {fa : FA} {te : TE} {fe : FE} {p pos : Pos}
def iR1 (f : FA) : FA := fun ρ => (f ρ).bind fun p => match p.1 with
  | [.int j] => if -(2 ^ 62) ≤ j ∧ j < 2 ^ 62 then some (rngD 0 j.toNat, p.2) else none
  | _ => none
def iR2 (f : FA) : FA := fun ρ => (f ρ).bind fun p => match p.1 with
  | [.int i, .int j] => if -(2 ^ 62) ≤ i ∧ i < 2 ^ 62 ∧ -(2 ^ 62) ≤ j ∧ j < 2 ^ 62 then some (rngD i (j - i).toNat, p.2) else none
  | _ => none
def iR3 (f : FA) : FA := fun ρ => (f ρ).bind fun p => match p.1 with
  | [.int i, .int j, .int c] => if c ≠ 0 ∧ c.natAbs < 1073741824 ∧ Builtin.Range.small i j c = true then some (rngC i c (Builtin.Range.rangeSize i j c).toNat, p.2) else none
  | _ => none
theorem di_range1 (ha : DA X [a] ta fa) (hm : X.mg "range" = none) (hg : Gl X "range" := by rfl) (hs : starEach [a] X.env = [(false, eval a X.env)] := by rfl) : DI X none tg (.Call (.Name "range" p) [a] [] pos) (iRng1 ta) (iR1 fa) := by
  refine ⟨pi_range1 hg hm ha.pe hs, ?_⟩
  intro B F io σ H ρ xs ρ' R c e k
  obtain ⟨⟨ds, ρ1⟩, e1, e⟩ := Option.bind_eq_some_iff.mp e
  refine ha.se B F io σ H ρ ds ρ1 _ c e1 fun F1 H1 vs g1 c1 d1 => ?_
  match ds, d1, e with
  | [.int j], d1, e =>
    obtain ⟨x, rfl, q⟩ := one_of d1
    cases q
    have e : (if -(2 ^ 62) ≤ j ∧ j < 2 ^ 62 then some (rngD 0 j.toNat, ρ1) else none) = some (xs, ρ') := e
    by_cases hz : -(2 ^ 62) ≤ j ∧ j < 2 ^ 62
    · rw [if_pos hz] at e
      cases e
      exact ⟨j, rfl, hz.1, hz.2, k F1 H1 _ (fun _ _ => True) g1 c1 (walk_rng _ _ _) (fun _ _ _ _ _ _ _ _ _ _ => trivial) (fun _ h => nomatch h)⟩
    · rw [if_neg hz] at e; cases e
theorem di_range2 (ha : DA X [a, b] ta fa) (hm : X.mg "range" = none) (hg : Gl X "range" := by rfl) (hs : starEach [a, b] X.env = [(false, eval a X.env), (false, eval b X.env)] := by rfl) (hs2 : starEach [b] X.env = [(false, eval b X.env)] := by rfl) :
    DI X none tg (.Call (.Name "range" p) [a, b] [] pos) (iRng2 ta) (iR2 fa) := by
  refine ⟨pi_range2 hg hm ha.pe hs hs2, ?_⟩
  intro B F io σ H ρ xs ρ' R c e k
  obtain ⟨⟨ds, ρ1⟩, e1, e⟩ := Option.bind_eq_some_iff.mp e
  refine ha.se B F io σ H ρ ds ρ1 _ c e1 fun F1 H1 vs g1 c1 d1 => ?_
  match ds, d1, e with
  | [.int i, .int j], d1, e =>
    obtain ⟨x, y, rfl, q, q'⟩ := two_of d1
    cases q
    cases q'
    have e : (if -(2 ^ 62) ≤ i ∧ i < 2 ^ 62 ∧ -(2 ^ 62) ≤ j ∧ j < 2 ^ 62 then some (rngD i (j - i).toNat, ρ1) else none) = some (xs, ρ') := e
    by_cases hz : -(2 ^ 62) ≤ i ∧ i < 2 ^ 62 ∧ -(2 ^ 62) ≤ j ∧ j < 2 ^ 62
    · rw [if_pos hz] at e
      cases e
      exact ⟨i, j, rfl, hz, k F1 H1 _ (fun _ _ => True) g1 c1 (walk_rng _ _ _) (fun _ _ _ _ _ _ _ _ _ _ => trivial) (fun _ h => nomatch h)⟩
    · rw [if_neg hz] at e; cases e
theorem three_of {K : PySem.W.Frag} {H : Hp} {xs : List V} {d e f : D} (h : DpAll K H xs [d, e, f]) : ∃ x y z, xs = [x, y, z] ∧ Dp K H x d ∧ Dp K H y e ∧ Dp K H z f := by
  cases h with
  | cons q r => obtain ⟨y, z, rfl, q1, q2⟩ := two_of r; exact ⟨_, y, z, rfl, q, q1, q2⟩
theorem rangeSize_nn (i j c : Int) : 0 ≤ Builtin.Range.rangeSize i j c := by
  unfold Builtin.Range.rangeSize
  split <;> first | omega | (split <;> first | omega | (have := Int.ediv_nonneg (a := j - i - 1) (b := c) (by omega) (by omega); omega) | (have := Int.ediv_nonneg (a := i - j - 1) (b := -c) (by omega) (by omega); omega))
theorem di_range3 (ha : DA X [a, b, c] ta fa) (hm : X.mg "range" = none) (hg : Gl X "range" := by rfl) (hs : starEach [a, b, c] X.env = (false, eval a X.env) :: starEach [b, c] X.env := by rfl) (hpl : (backTo pos (starEach [b, c] X.env)).any (·.1) = false := by rfl) :
    DI X none tg (.Call (.Name "range" p) [a, b, c] [] pos) (iRng3 ta) (iR3 fa) := by
  refine ⟨pi_range3 hg hm ha.pe hs hpl, ?_⟩
  intro B F io σ H ρ xs ρ' R cn e k
  obtain ⟨⟨ds, ρ1⟩, e1, e⟩ := Option.bind_eq_some_iff.mp e
  refine ha.se B F io σ H ρ ds ρ1 _ cn e1 fun F1 H1 vs g1 c1 d1 => ?_
  match ds, d1, e with
  | [.int i, .int j, .int c], d1, e =>
    obtain ⟨x, y, z, rfl, q, q', q''⟩ := three_of d1
    cases q
    cases q'
    cases q''
    have e : (if c ≠ 0 ∧ c.natAbs < 1073741824 ∧ Builtin.Range.small i j c = true then some (rngC i c (Builtin.Range.rangeSize i j c).toNat, ρ1) else none) = some (xs, ρ') := e
    by_cases hz : c ≠ 0 ∧ c.natAbs < 1073741824 ∧ Builtin.Range.small i j c = true
    · rw [if_pos hz] at e
      cases e
      exact ⟨i, j, c, _, rfl, ⟨hz.1, hz.2.1, hz.2.2, (Int.toNat_of_nonneg (rangeSize_nn i j c)).symm⟩, k F1 H1 _ (fun _ _ => True) g1 c1 (walk_rngC _ _ _ _) (fun _ _ _ _ _ _ _ _ _ _ => trivial) (fun _ h => nomatch h)⟩
    · rw [if_neg hz] at e; cases e
/-- a list, a tuple or a text that stays -/
def iSq (f : FE) : FA := fun ρ => (f ρ).bind fun p => match p.1 with
  | .list ds => some (ds, p.2)
  | .tuple ds => some (ds, p.2)
  | .str x => some (signsD x, p.2)
  | _ => none
abbrev iSqD (K : PySem.W.Frag) (te : TE) : TI := fun σ H R => iList K te σ H R ∨ iTup K te σ H R ∨ iStr te σ H R
theorem pi_sq (he : PE X e te) : PI X tg e (iSqD X.K te) := ⟨fun pins s σ H R I h => by
  rcases h with h | h | h
  · exact (pi_list he).run pins s σ H R I h
  · exact (pi_tup he).run pins s σ H R I h
  · exact (pi_str he).run pins s σ H R I h⟩
theorem di_sq (he : DE X e te fe) : DI X none tg e (iSqD X.K te) (iSq fe) := by
  refine ⟨pi_sq he.pe, ?_⟩
  intro B F io σ H ρ xs ρ' R c e k
  obtain ⟨⟨d, ρ1⟩, e1, e⟩ := Option.bind_eq_some_iff.mp e
  cases d with
  | list ds =>
    cases e
    refine .inl (he.se B F io σ H ρ _ _ _ c e1 fun F1 H1 v g1 c1 d1 => ?_)
    cases d1 with
    | @lst a vs _ q r =>
      exact ⟨a, rfl, ⟨vs, c1.frz.seq q⟩, k F1 H1 _ (fun F2 H2 => Same F1 F2 ∧ Same F2 H2) g1 c1 (walk_lst _ fun F2 H2 h => ⟨vs, (h.1.trans h.2).seq q, dpAll_mono h.1 r⟩) (fun B2 F2 io2 σ2 H2 ρ2 s2 c2 _ _ => ⟨s2, c2.frz⟩) (fun _ h => nomatch h)⟩
  | tuple ds =>
    cases e
    refine .inr (.inl (he.se B F io σ H ρ _ _ _ c e1 fun F1 H1 v g1 c1 d1 => ?_))
    cases d1 with
    | @tup a vs _ q r =>
      exact ⟨a, rfl, ⟨vs, sqT_mono c1.frz q⟩, k F1 H1 _ (fun F2 H2 => Same F1 F2 ∧ Same F2 H2) g1 c1 (walk_tup _ fun F2 H2 h => ⟨vs, sqT_mono (h.1.trans h.2) q, dpAll_mono h.1 r⟩) (fun B2 F2 io2 σ2 H2 ρ2 s2 c2 _ _ => ⟨s2, c2.frz⟩) (fun _ h => nomatch h)⟩
  | str x =>
    cases e
    refine .inr (.inr (he.se B F io σ H ρ _ _ _ c e1 fun F1 H1 v g1 c1 d1 => ?_))
    cases d1
    exact ⟨x, rfl, k F1 H1 _ (fun _ _ => True) g1 c1 (walk_str _ _) (fun _ _ _ _ _ _ _ _ _ _ => trivial) (fun _ h => nomatch h)⟩
  | _ => cases e
/-- an own list, as it stands -/
def iOwn (j : Nat) : FA := fun ρ => (ownL j ρ).map fun ds => (ds, ρ)
theorem di_own (j : Nat) {x : Str} (hN : X.N[j]? = some x := by rfl) (hv : Vis X.env.scope x := by first | exact Or.inl rfl | exact Or.inr (Or.inl rfl) | exact Or.inr (Or.inr rfl)) (hd : (x == ("__debug__" : Str)) = false := by decide) (hcd : (x == ("__classdict__" : Str)) = false := by decide) :
    DI X (some j) tg (.Name x p) (iList X.K (tVar j)) (iOwn j) := by
  refine ⟨pi_list (pe_var hN hv hd hcd), ?_⟩
  intro B F io σ H ρ xs ρ' R c e k
  obtain ⟨ds, e1, e2⟩ := Option.map_eq_some_iff.mp e
  cases e2
  obtain ⟨a, vs, s1, h1, d1⟩ := own_list c e1
  refine ⟨.ref a, s1, a, rfl, ⟨vs, .inl (.inl h1)⟩, k F H _ (fun F2 H2 => ∃ vs, SqL X.K H2 a vs ∧ DpAll X.K F2 vs xs) (Gr.refl _ _) c (walk_lst _ fun F2 H2 h => h) (fun B2 F2 io2 σ2 H2 ρ2 s2 c2 lk hs => ?_) (fun i h => by cases h; exact ⟨a, s1⟩)⟩
  obtain ⟨a2, vs2, s3, h3, d3⟩ := own_list (j := j) (ds := xs) c2 (by unfold ownL; rw [lockOk_at lk])
  have q := hs j rfl
  rw [s1, s3] at q
  cases q
  exact ⟨vs2, .inl (.inl h3), d3⟩
end
/-! ### for -/
def loopF (lk : Option Nat) (xs0 : List D) (ks : List Nat) (b : D → En → Option Out) : List D → En → Option Out
  | [], ρ => if lockOk lk xs0 (killL ks ρ) = true then some (.nx (killL ks ρ)) else none
  | x :: r, ρ => if lockOk lk xs0 (killL ks ρ) = true then (b x (killL ks ρ)).bind fun o => match o with
    | .nx ρ' => loopF lk xs0 ks b r ρ'
    | .ct ρ' => loopF lk xs0 ks b r ρ'
    | .bk ρ' => some (.nx (killL ks ρ'))
    | .rt c ρ' => some (.rt c ρ') else none
def sFor (lk : Option Nat) (ks : List Nat) (it : FA) (g : FG) (b : FS) : FS := fun ρ => (it ρ).bind fun p => loopF lk p.1 ks (fun x ρ => (g x ρ).bind b) p.1 p.2
def lkL : Option Nat → List Nat
  | none => []
  | some j => [j]
section
variable {X : Cx} {L : List Nat} {tg iter : Expr} {body : List Stmt} {wi : TI} {fi : FA} {lk : Option Nat} {ws : List Nat} {t1 : TG} {g1 : FG} {tb : TS} {fb : FS} {pos : Pos}
theorem ss_for {K : PySem.W.Frag} (ks : List Nat) (hi : SI K lk wi fi) (hg : SG K (lkL lk ++ L) ws t1 g1) (hb : SS K (lkL lk ++ L) tb fb) : SS K L (tFor wi t1 tb) (sFor lk ks fi g1 fb) := by
  intro B F io σ H ρ o Dn hL c e p
  obtain ⟨⟨xs, ρ0⟩, e1, e⟩ := Option.bind_eq_some_iff.mp e
  refine hi B F io σ H ρ xs ρ0 _ c e1 fun F0 H0 J C g0 c0 wk cl hlk => ?_
  -- the lock's own pair
  obtain ⟨io', hio', hsub, hj⟩ : ∃ io' : List (Nat × Addr), io'.map (·.1) = lkL lk ++ L ∧ (∀ q ∈ io, q ∈ io') ∧ (∀ q ∈ io', σ[q.1]? = some (some (.ref q.2))) := by
    cases lk with
    | none => exact ⟨io, by rw [hL]; rfl, fun _ h => h, c.io⟩
    | some j =>
      obtain ⟨a, ha⟩ := hlk j rfl
      refine ⟨(j, a) :: io, by rw [List.map_cons, hL]; rfl, fun _ h => List.mem_cons_of_mem _ h, fun q hq => ?_⟩
      rcases List.mem_cons.mp hq with rfl | hq
      · exact ha
      · exact c.io q hq
  have lkσ : ∀ {σ2 : St} {H2 F2 B2 : Hp} {ρ2 : En}, Con K B2 F2 io' σ2 H2 ρ2 → ∀ j, lk = some j → σ2[j]? = σ[j]? := by
    intro σ2 H2 F2 B2 ρ2 c2 j hjk
    subst hjk
    have : (j : Nat) ∈ io'.map (·.1) := by rw [hio']; exact List.mem_append_left _ (List.mem_singleton.mpr rfl)
    obtain ⟨q, hq, e⟩ := List.mem_map.mp this
    subst e
    rw [c2.io q hq, hj q hq]
  have c0' : Con K B F0 io' σ H0 ρ0 := ⟨c0.len, c0.base, c0.frz, c0.cell, c0.sep, hj⟩
  have p0 := p.mono g0
  refine ⟨fun i m σ H => m = xs.length - i ∧ i ≤ xs.length ∧ ∃ F2 ρ2, Gr B F0 F2 ∧ Con K B F2 io' σ H ρ2 ∧ loopF lk xs ks (fun x ρ => (g1 x ρ).bind fb) (xs.drop i) ρ2 = some o, ⟨xs.length, by simp, Nat.zero_le _, F0, ρ0, Gr.refl _ _, c0', e⟩, ?_⟩
  rintro i m σ2 H2 ⟨rfl, hi2, F2, ρ2, g2, c2, e2⟩
  have ck := c2.killL ks
  by_cases hlt : i < xs.length
  · rw [List.drop_eq_getElem_cons hlt] at e2
    unfold loopF at e2
    by_cases hlo : lockOk lk xs (killL ks ρ2) = true
    · rw [if_pos hlo] at e2
      obtain ⟨o1, e3, e4⟩ := Option.bind_eq_some_iff.mp e2
      obtain ⟨ρ3, e5, e6⟩ := Option.bind_eq_some_iff.mp e3
      have cc := cl B F2 io' σ2 H2 (killL ks ρ2) g2.sub ck hlo (lkσ c2)
      refine .inr ⟨wk.go i F2 H2 cc hlt, fun σ' H' => ∃ m', m' < xs.length - i ∧ (m' = xs.length - (i + 1) ∧ i + 1 ≤ xs.length ∧ ∃ F2 ρ2, Gr B F0 F2 ∧ Con K B F2 io' σ' H' ρ2 ∧ loopF lk xs ks (fun x ρ => (g1 x ρ).bind fb) (xs.drop (i + 1)) ρ2 = some o), fun σ' H' h => h, fun x H' y => ?_⟩
      obtain ⟨e7, d, e8, dd⟩ := wk.yld i F2 H2 x H' cc hlt y
      subst e7
      rw [List.getElem?_eq_getElem hlt] at e8
      cases e8
      refine hg B F2 io' σ2 H' (killL ks ρ2) x xs[i] ρ3 _ hio' ck dd e5 fun F3 σ3 H3 g3 c3 _ => ?_
      have again : ∀ {F4 : Hp} {σ4 : St} {H4 : Hp} {ρ4 : En}, Gr B F3 F4 → Con K B F4 io' σ4 H4 ρ4 → loopF lk xs ks (fun x ρ => (g1 x ρ).bind fb) (xs.drop (i + 1)) ρ4 = some o →
          ∃ m', m' < xs.length - i ∧ (m' = xs.length - (i + 1) ∧ i + 1 ≤ xs.length ∧ ∃ F2 ρ2, Gr B F0 F2 ∧ Con K B F2 io' σ4 H4 ρ2 ∧ loopF lk xs ks (fun x ρ => (g1 x ρ).bind fb) (xs.drop (i + 1)) ρ2 = some o) :=
        fun {F4 σ4 H4 ρ4} g4 c4 e9 => ⟨xs.length - (i + 1), by omega, rfl, hlt, F4, ρ4, (g2.trans g3).trans g4, c4, e9⟩
      refine hb B F3 io' σ3 H3 ρ3 o1 _ hio' c3 e6 ?_
      cases o1 with
      | nx ρ4 => exact fun F4 σ4 H4 g4 c4 => again g4 c4 e4
      | ct ρ4 => exact fun F4 σ4 H4 g4 c4 => again g4 c4 e4
      | bk ρ4 =>
        cases e4
        exact fun F4 σ4 H4 g4 c4 => p0 F4 σ4 H4 ((g2.trans g3).trans g4) ((c4.killL ks).subio hsub)
      | rt u ρ4 =>
        cases e4
        exact fun F4 σ4 H4 v g4 c4 r => p0 F4 σ4 H4 v ((g2.trans g3).trans g4) (c4.subio hsub) r
    · rw [if_neg hlo] at e2; cases e2
  · have hi3 : i = xs.length := by omega
    subst hi3
    rw [List.drop_length] at e2
    unfold loopF at e2
    by_cases hlo : lockOk lk xs (killL ks ρ2) = true
    · rw [if_pos hlo] at e2
      cases e2
      have cc := cl B F2 io' σ2 H2 (killL ks ρ2) g2.sub ck hlo (lkσ c2)
      exact .inl ⟨wk.stop _ F2 H2 cc (Nat.le_refl _), p0 F2 σ2 H2 g2 (ck.subio hsub)⟩
    · rw [if_neg hlo] at e2; cases e2
theorem ds_for (ks : List Nat) (hp : PassesOwn (model X.prog X.w) X.A X.env X.xe) (hc : X.calm = true) (hi : DI X lk tg iter wi fi) (hg : DG X (lkL lk ++ L) ws tg t1 g1) (hb : DSs X (lkL lk ++ L) body tb fb)
    (hs : ∀ x, foldedSetIterable iter X.env x = pure x := by intro _; rfl) : DS X L (.For tg iter body [] pos) (tFor wi t1 tb) (sFor lk ks fi g1 fb) :=
  ⟨ps_for hp hc hi.pe hg.pe hb.pe hs, ss_for ks hi.se hg.se hb.se⟩
end
/-! ### while -/
def whileF (ks : List Nat) (c : FT) (b : FS) : Nat → En → Option Out
  | 0, _ => none
  | n + 1, ρ => (c (killL ks ρ)).bind fun p => if p.1 = true then (b p.2).bind fun o => match o with
    | .nx ρ' => whileF ks c b n ρ'
    | .ct ρ' => whileF ks c b n ρ'
    | .bk ρ' => some (.nx (killL ks ρ'))
    | .rt u ρ' => some (.rt u ρ') else some (.nx p.2)
open Classical in
noncomputable def sWhile (ks : List Nat) (c : FT) (b : FS) : FS := fun ρ => if h : ∃ n o, whileF ks c b n ρ = some o then whileF ks c b h.choose ρ else none
theorem whileF_mono {ks : List Nat} {c : FT} {b : FS} : ∀ {n m : Nat} {ρ : En} {o : Out}, whileF ks c b n ρ = some o → n ≤ m → whileF ks c b m ρ = some o
  | 0, _, _, _, h, _ => by cases h
  | n + 1, 0, _, _, _, h => by omega
  | n + 1, m + 1, ρ, o, h, hm => by
    unfold whileF at h ⊢
    obtain ⟨p, e1, h⟩ := Option.bind_eq_some_iff.mp h
    rw [e1]
    show (if p.1 = true then _ else _) = _
    by_cases hp : p.1 = true
    · rw [if_pos hp] at h ⊢
      obtain ⟨o1, e2, h⟩ := Option.bind_eq_some_iff.mp h
      rw [e2]
      cases o1 with
      | nx ρ' => exact whileF_mono (n := n) (m := m) h (by omega)
      | ct ρ' => exact whileF_mono (n := n) (m := m) h (by omega)
      | bk ρ' => exact h
      | rt u ρ' => exact h
    · rw [if_neg hp] at h ⊢; exact h
theorem sWhile_of {ks : List Nat} {c : FT} {b : FS} {n : Nat} {ρ : En} {o : Out} (h : whileF ks c b n ρ = some o) : sWhile ks c b ρ = some o := by
  have hx : ∃ n o, whileF ks c b n ρ = some o := ⟨n, o, h⟩
  unfold sWhile
  rw [dif_pos hx]
  obtain ⟨o', e⟩ := hx.choose_spec
  rw [e]
  have h1 := whileF_mono e (Nat.le_max_left hx.choose n)
  have h2 := whileF_mono h (Nat.le_max_right hx.choose n)
  rw [h1] at h2
  exact h2
theorem of_sWhile {ks : List Nat} {c : FT} {b : FS} {ρ : En} {o : Out} (h : sWhile ks c b ρ = some o) : ∃ n, whileF ks c b n ρ = some o := by
  unfold sWhile at h
  split at h
  · exact ⟨_, h⟩
  · cases h
/-- one turn -/
theorem sWhile_step {ks : List Nat} {c : FT} {b : FS} {ρ ρ1 : En} {p : Bool × En} {o : Out} (h1 : c (killL ks ρ) = some p) (h2 : p.1 = true) (h3 : b p.2 = some (.nx ρ1)) (h4 : sWhile ks c b ρ1 = some o) : sWhile ks c b ρ = some o := by
  obtain ⟨n, e⟩ := of_sWhile h4
  refine sWhile_of (n := n + 1) ?_
  unfold whileF
  rw [h1]
  show (if p.1 = true then _ else _) = _
  rw [if_pos h2, h3]
  exact e
theorem sWhile_done {ks : List Nat} {c : FT} {b : FS} {ρ : En} {p : Bool × En} (h1 : c (killL ks ρ) = some p) (h2 : p.1 = false) : sWhile ks c b ρ = some (.nx p.2) := by
  refine sWhile_of (n := 1) ?_
  unfold whileF
  rw [h1]
  show (if p.1 = true then _ else _) = _
  rw [h2]
  rfl
theorem sWhile_rt {ks : List Nat} {c : FT} {b : FS} {ρ ρ1 : En} {p : Bool × En} {u : Cell} (h1 : c (killL ks ρ) = some p) (h2 : p.1 = true) (h3 : b p.2 = some (.rt u ρ1)) : sWhile ks c b ρ = some (.rt u ρ1) := by
  refine sWhile_of (n := 1) ?_
  unfold whileF
  rw [h1]
  show (if p.1 = true then _ else _) = _
  rw [if_pos h2, h3]
  rfl
section
variable {X : Cx} {L : List Nat} {c : Expr} {body : List Stmt} {tc : TT} {fc : FT} {tb : TS} {fb : FS} {pos : Pos}
theorem ds_while (ks : List Nat) (hp : PassesOwn (model X.prog X.w) X.A X.env X.xe) (hc : DT X c tc fc) (hb : DSs X L body tb fb) : DS X L (.While c body [] pos) (tWhile tc tb) (sWhile ks fc fb) := by
  refine ⟨ps_while hp hc.pe hb.pe, ?_⟩
  intro B F io σ H ρ o Dn hL cn e p
  obtain ⟨n, e⟩ := of_sWhile e
  refine ⟨fun m σ H => ∃ F2 ρ2, Gr B F F2 ∧ Con X.K B F2 io σ H ρ2 ∧ whileF ks fc fb m ρ2 = some o, ⟨n, F, ρ, Gr.refl _ _, cn, e⟩, ?_⟩
  rintro m σ2 H2 ⟨F2, ρ2, g2, c2, e2⟩
  cases m with
  | zero => cases e2
  | succ m =>
    unfold whileF at e2
    obtain ⟨q, e1, e2⟩ := Option.bind_eq_some_iff.mp e2
    refine hc.se B F2 io σ2 H2 _ q.1 q.2 _ (c2.killL ks) e1 fun F3 H3 g3 c3 => ?_
    by_cases hq : q.1 = true
    · rw [if_pos hq] at e2 ⊢
      obtain ⟨o1, e3, e4⟩ := Option.bind_eq_some_iff.mp e2
      refine ⟨fun σ' H' => ∃ m', m' < m + 1 ∧ ∃ F2 ρ2, Gr B F F2 ∧ Con X.K B F2 io σ' H' ρ2 ∧ whileF ks fc fb m' ρ2 = some o, fun σ' H' h => h, ?_⟩
      refine hb.se B F3 io σ2 H3 q.2 o1 _ hL c3 e3 ?_
      cases o1 with
      | nx ρ4 => exact fun F4 σ4 H4 g4 c4 => ⟨m, Nat.lt_succ_self m, F4, ρ4, (g2.trans g3).trans g4, c4, e4⟩
      | ct ρ4 => exact fun F4 σ4 H4 g4 c4 => ⟨m, Nat.lt_succ_self m, F4, ρ4, (g2.trans g3).trans g4, c4, e4⟩
      | bk ρ4 =>
        cases e4
        exact fun F4 σ4 H4 g4 c4 => p F4 σ4 H4 ((g2.trans g3).trans g4) (c4.killL ks)
      | rt u ρ4 =>
        cases e4
        exact fun F4 σ4 H4 v g4 c4 r => p F4 σ4 H4 v ((g2.trans g3).trans g4) c4 r
    · rw [if_neg hq] at e2 ⊢
      cases e2
      exact p F3 σ2 H3 (g2.trans g3) c3
end
end L2.Pd

namespace L2.Pd
open PySem PySem.Spec PyProof.Rows
/-! ## Comprehensions -/
theorem killL_len : ∀ (vs : List Nat) (ρ : En), (killL vs ρ).length = ρ.length
  | [], _ => rfl
  | i :: r, ρ => by
    show (killL r (ρ.set i .dead)).length = _
    rw [killL_len r, List.length_set]
theorem killL_get : ∀ (vs : List Nat) (ρ : En) (i : Nat), (killL vs ρ)[i]? = if i ∈ vs then (ρ[i]?).map (fun _ => Cell.dead) else ρ[i]?
  | [], ρ, i => by rw [if_neg (by simp)]; rfl
  | j :: r, ρ, i => by
    show (killL r (ρ.set j .dead))[i]? = _
    rw [killL_get r]
    by_cases h : i = j
    · subst h
      rw [if_pos (show i ∈ i :: r from List.mem_cons_self)]
      by_cases hl : i < ρ.length
      · rw [List.getElem?_set_self hl, List.getElem?_eq_getElem hl]
        split <;> rfl
      · rw [List.getElem?_eq_none (by rw [List.length_set]; omega), List.getElem?_eq_none (by omega)]
        split <;> rfl
    · rw [List.getElem?_set_ne (Ne.symm h)]
      by_cases hr : i ∈ r
      · rw [if_pos hr, if_pos (List.mem_cons_of_mem _ hr)]
      · rw [if_neg hr, if_neg (by simp only [List.mem_cons, not_or]; exact ⟨h, hr⟩)]
theorem wipe_get (σ : St) : ∀ (vs : List Nat) (i : Nat), i ∉ vs → (wipe σ vs)[i]? = σ[i]?
  | [], _, _ => rfl
  | v :: vs, i, h => by
    simp only [List.mem_cons, not_or] at h
    show ((wipe σ vs).set v none)[i]? = _
    rw [List.getElem?_set_ne (Ne.symm h.1), wipe_get σ vs i h.2]
theorem wipe_in (σ : St) : ∀ (vs : List Nat) (i : Nat), i ∈ vs → i < σ.length → (wipe σ vs)[i]? = some none
  | v :: vs, i, h, hl => by
    show ((wipe σ vs).set v none)[i]? = _
    by_cases e : v = i
    · subst e
      rw [List.getElem?_set_self (by rw [wipe_length]; exact hl)]
    · rw [List.getElem?_set_ne e]
      exact wipe_in σ vs i ((List.mem_cons.mp h).resolve_left fun z => e z.symm) hl
theorem wipe_off {σ σ' : St} {ws vs : List Nat} (h : Off ws σ σ') (hw : ∀ i ∈ ws, i ∈ vs) : wipe σ' vs = wipe σ vs := by
  refine List.ext_getElem? fun i => ?_
  by_cases hi : i ∈ vs
  · by_cases hl : i < σ.length
    · rw [wipe_in σ vs i hi hl, wipe_in σ' vs i hi (by rw [h.1]; exact hl)]
    · rw [List.getElem?_eq_none (show (wipe σ' vs).length ≤ i by rw [wipe_length, h.1]; omega), List.getElem?_eq_none (show (wipe σ vs).length ≤ i by rw [wipe_length]; omega)]
  · rw [wipe_get σ vs i hi, wipe_get σ' vs i hi, h.2 i fun z => hi (hw i z)]
theorem wipe_wipe (σ : St) (vs : List Nat) : wipe (wipe σ vs) vs = wipe σ vs := by
  refine List.ext_getElem? fun i => ?_
  by_cases hi : i ∈ vs
  · by_cases hl : i < σ.length
    · rw [wipe_in σ vs i hi hl, wipe_in _ vs i hi (by rw [wipe_length]; exact hl)]
    · rw [List.getElem?_eq_none (by rw [wipe_length, wipe_length]; omega), List.getElem?_eq_none (by rw [wipe_length]; omega)]
  · rw [wipe_get _ vs i hi]
section
variable {K : PySem.W.Frag} {B F F' H H' : Hp} {io io' : List (Nat × Addr)} {σ σ' : St} {ρ : En} {vs : List Nat}
/-- the slots may change where the cells are forgotten -/
theorem Con.move (c : Con K B F io σ H ρ) (vs : List Nat) (hl : σ'.length = σ.length) (h : ∀ i, i ∉ vs → σ'[i]? = σ[i]?) (hio : ∀ p ∈ io', σ'[p.1]? = some (some (.ref p.2))) : Con K B F io' σ' H (Pd.killL vs ρ) := by
  have own_off : ∀ {i : Nat} {e : Cell}, (Pd.killL vs ρ)[i]? = some e → isOwn e = true → i ∉ vs ∧ ρ[i]? = some e := fun {i e} he ho => by
    rw [killL_get] at he
    by_cases hi : i ∈ vs
    · rw [if_pos hi] at he
      obtain ⟨_, _, e2⟩ := Option.map_eq_some_iff.mp he
      subst e2; cases ho
    · rw [if_neg hi] at he; exact ⟨hi, he⟩
  refine ⟨by rw [hl, killL_len, c.len], c.base, c.frz, fun i e he => ?_, fun i j e1 e2 a h1 h2 o1 o2 s1 s2 => ?_, hio⟩
  · rw [killL_get] at he
    by_cases hi : i ∈ vs
    · rw [if_pos hi] at he
      obtain ⟨u, hu, e2⟩ := Option.map_eq_some_iff.mp he
      subst e2
      have hlt : i < σ'.length := by rw [hl, c.len]; exact (List.getElem?_eq_some_iff.mp hu).1
      exact ⟨σ'[i], List.getElem?_eq_getElem hlt, trivial⟩
    · rw [if_neg hi] at he
      rw [h i hi]
      exact c.cell i e he
  · obtain ⟨n1, h1⟩ := own_off h1 o1
    obtain ⟨n2, h2⟩ := own_off h2 o2
    rw [h i n1] at s1
    rw [h j n2] at s2
    exact c.sep i j e1 e2 a h1 h2 o1 o2 s1 s2
/-- the list that a comprehension makes stands in the base meanwhile -/
theorem Con.toBase (c : Con K B F io σ H ρ) {a : Addr} {o : HO} (n : H a = none) : Con K (upd B a o) F io σ (upd H a o) ρ := by
  refine ⟨c.len, same_upd2 c.base, c.frz.trans (same_upd n), fun i e he => ?_, c.sep, c.io⟩
  obtain ⟨x, hx, ok⟩ := c.cell i e he
  refine ⟨x, hx, ?_⟩
  by_cases ho : isOwn e = true
  · rw [cellOk_own ho] at ok ⊢
    obtain ⟨p, w, z1, z2, z3, z4, z5⟩ := ok
    have np : p ≠ a := ne_of_none z2 n
    exact ⟨p, w, z1, by rw [upd_ne np]; exact z2, z3, z4, by rw [upd_ne np]; exact z5⟩
  · cases e with
    | dead => trivial
    | sh d => exact ok
    | fd tk kvs => exact ok
    | _ => exact absurd rfl ho
theorem Con.reBase {a : Addr} {o o' : HO} (c : Con K (upd B a o) F io σ H ρ) (fa : F a = none) : Con K (upd B a o') F io σ (upd H a o') ρ := by
  refine ⟨c.len, fun b x e => ?_, fun b x e => ?_, fun i e he => ?_, c.sep, c.io⟩
  · by_cases q : b = a
    · subst q; rw [upd_same] at e ⊢; exact e
    · rw [upd_ne q] at e ⊢; exact c.base b x (by rw [upd_ne q]; exact e)
  · rw [upd_ne (ne_of_none e fa)]; exact c.frz b x e
  · obtain ⟨x, hx, ok⟩ := c.cell i e he
    refine ⟨x, hx, ?_⟩
    by_cases ho : isOwn e = true
    · rw [cellOk_own ho] at ok ⊢
      obtain ⟨p, w, z1, z2, z3, z4, z5⟩ := ok
      have np : p ≠ a := fun z => by subst z; rw [upd_same] at z5; cases z5
      rw [upd_ne np] at z5
      exact ⟨p, w, z1, by rw [upd_ne np]; exact z2, z3, z4, by rw [upd_ne np]; exact z5⟩
    · cases e with
      | dead => trivial
      | sh d => exact ok
      | fd tk kvs => exact ok
      | _ => exact absurd rfl ho
theorem Con.unBase {a : Addr} {o : HO} (c : Con K (upd B a o) F io σ H ρ) (n : B a = none) : Con K B F io σ H ρ := by
  refine ⟨c.len, (same_upd n).trans c.base, c.frz, fun i e he => ?_, c.sep, c.io⟩
  obtain ⟨x, hx, ok⟩ := c.cell i e he
  refine ⟨x, hx, ?_⟩
  by_cases ho : isOwn e = true
  · rw [cellOk_own ho] at ok ⊢
    obtain ⟨p, w, z1, z2, z3, z4, z5⟩ := ok
    have np : p ≠ a := fun z => by subst z; rw [upd_same] at z5; cases z5
    rw [upd_ne np] at z5
    exact ⟨p, w, z1, z2, z3, z4, z5⟩
  · cases e with
    | dead => trivial
    | sh d => exact ok
    | fd tk kvs => exact ok
    | _ => exact absurd rfl ho
theorem Con.notOwned_base {a : Addr} {o : HO} (c : Con K (upd B a o) F io σ H ρ) : NotOwned σ ρ a := fun i e he ho q => by
  obtain ⟨p, w, z1, z2, z3, z4, z5⟩ := c.own he ho
  rw [q] at z1
  cases z1
  rw [upd_same] at z5
  cases z5
theorem Gr.unBase {a : Addr} {o : HO} (g : Gr (upd B a o) F F') (n : B a = none) : Gr B F F' := ⟨g.sub, fun b x e => by
  rcases g.new b x e with q | q
  · exact .inl q
  · by_cases z : b = a
    · subst z; exact .inr n
    · rw [upd_ne z] at q; exact .inr q⟩
theorem Gr.at {a : Addr} {o : HO} (g : Gr (upd B a o) F F') (n : F a = none) : F' a = none := by
  cases q : F' a with
  | none => rfl
  | some x =>
    rcases g.new a x q with z | z
    · rw [n] at z; cases z
    · rw [upd_same] at z; cases z
end
def cYes : FT := fun ρ => some (true, ρ)
structure DTs (X : Cx) (ifs : List Expr) (t : TT) (f : FT) : Prop where
  pe : PTs X ifs t
  se : ST X.K t f
theorem dts_nil {X : Cx} : DTs X [] tYes cYes := ⟨pts_nil, fun B F io σ H ρ b ρ' Q c e k => by cases e; exact k F H (Gr.refl _ _) c⟩
theorem dts_one {X : Cx} {c : Expr} {t : TT} {f : FT} (h : DT X c t f) : DTs X [c] t f := ⟨pts_one h.pe, h.se⟩
def compG (lk : Option Nat) (xs0 : List D) (vs : List Nat) (g : FG) (step : List D → En → Option (List D × En)) : List D → List D → En → Option (List D × En)
  | [], acc, ρ => if lockOk lk xs0 (killL vs ρ) = true then some (acc, killL vs ρ) else none
  | x :: r, acc, ρ => if lockOk lk xs0 (killL vs ρ) = true then (g x (killL vs ρ)).bind fun ρ1 => (step acc ρ1).bind fun q => compG lk xs0 vs g step r q.1 q.2 else none
def stp (c : FT) (e : FE) (acc : List D) (ρ : En) : Option (List D × En) := (c ρ).bind fun p => if p.1 = true then (e p.2).bind fun q => if acc.length < sizeLine then some (acc ++ [q.1], q.2) else none else some (acc, p.2)
/-- the outer values of a comprehension's names are as they were -/
def putB : List Nat → En → En → En
  | [], _, ρ => ρ
  | i :: r, ρ0, ρ => match ρ0[i]? with
    | some (.sh d) => putB r ρ0 (ρ.set i (.sh d))
    | _ => putB r ρ0 ρ
theorem Con.recall {K : PySem.W.Frag} {B F H : Hp} {io : List (Nat × Addr)} {σ : St} {ρ : En} (c : Con K B F io σ H ρ) {i : Nat} {v : V} {d : D} (hs : σ[i]? = some (some v)) (h : Dp K F v d) : Con K B F io σ H (ρ.set i (.sh d)) := by
  refine ⟨by rw [List.length_set, c.len], c.base, c.frz, fun j e he => ?_, fun j k e1 e2 a h1 h2 o1 o2 s1 s2 => ?_, c.io⟩
  · rcases get_set_cases he with ⟨rfl, rfl, hl⟩ | ⟨ne, he⟩
    · exact ⟨some v, hs, v, rfl, h⟩
    · exact c.cell j e he
  · rcases get_set_cases h1 with ⟨rfl, rfl, hl⟩ | ⟨ne1, g1⟩
    · cases o1
    · rcases get_set_cases h2 with ⟨rfl, rfl, hl⟩ | ⟨ne2, g2⟩
      · cases o2
      · exact c.sep j k e1 e2 a g1 g2 o1 o2 s1 s2
theorem Con.putB {K : PySem.W.Frag} {B F0 H0 B0 F H : Hp} {io io0 : List (Nat × Addr)} {σ : St} {ρ0 : En} (c0 : Con K B0 F0 io0 σ H0 ρ0) (s : Same F0 F) : ∀ (vs : List Nat) {ρ : En}, Con K B F io σ H ρ → Con K B F io σ H (Pd.putB vs ρ0 ρ)
  | [], _, c => c
  | i :: r, ρ, c => by
    unfold Pd.putB
    split
    · rename_i d e
      obtain ⟨x, hx, v, rfl, dd⟩ := c0.cell i _ e
      exact Con.putB c0 s r (c.recall hx (dp_mono s dd))
    · exact Con.putB c0 s r c
theorem notOwned_putB {σ : St} {ρ0 : En} {a : Addr} : ∀ (vs : List Nat) {ρ : En}, NotOwned σ ρ a → NotOwned σ (Pd.putB vs ρ0 ρ) a
  | [], _, h => h
  | i :: r, ρ, h => by
    unfold Pd.putB
    split
    · refine notOwned_putB r fun j e he ho => ?_
      rcases get_set_cases he with ⟨rfl, rfl, _⟩ | ⟨ne, he⟩
      · cases ho
      · exact h j e he ho
    · exact notOwned_putB r h
def eComp (lk : Option Nat) (vs : List Nat) (it : FA) (g : FG) (c : FT) (e : FE) : FN := fun ρ => (it ρ).bind fun p => (compG lk p.1 vs g (stp c e) p.1 [] p.2).map fun q => (.ol q.1, putB vs p.2 (killL vs q.2))
section
variable {X : Cx} {tg iter elt : Expr} {ifs : List Expr} {scope : Scope} {own : List (Str × Nat)} {pos : Pos} {wi : TI} {fi : FA} {lk : Option Nat} {ws vs : List Nat} {t1 : TG} {g1 : FG} {tt : TT} {fc : FT} {te : TE} {fe : FE}
theorem sn_comp {K : PySem.W.Frag} (hi : SI K lk wi fi) (hg : SG K [] ws t1 g1) (hc : ST K tt fc) (he : SE K te fe) (hw : ∀ i ∈ ws, i ∈ vs) (hlv : ∀ j, lk = some j → j ∉ vs) : SN K (tLc wi t1 tt te vs) (eComp lk vs fi g1 fc fe) := by
  intro B F io σ H ρ cl ρ' Q c e k
  obtain ⟨⟨xs, ρ0⟩, e1, e⟩ := Option.bind_eq_some_iff.mp e
  obtain ⟨⟨out, ρz⟩, e2, e3⟩ := Option.map_eq_some_iff.mp e
  cases e3
  refine hi B F io σ H ρ xs ρ0 _ c e1 fun F0 H0 J C g0 c0 wk hcl hlk => ?_
  intro Dd nD
  have bD : B Dd = none := c0.base.free nD
  have fD0 : F0 Dd = none := c0.frz.free nD
  have hσ : ∀ i, i ∉ vs → (wipe σ vs)[i]? = σ[i]? := wipe_get σ vs
  refine ⟨fun i m H => m = xs.length - i ∧ i ≤ xs.length ∧ ∃ F2 ρ2 acc accV, Gr B F0 F2 ∧ Con K (upd B Dd (.lst accV)) F2 [] (wipe σ vs) H (killL vs ρ2) ∧ F2 Dd = none ∧ DpAll K F2 accV acc ∧ compG lk xs vs g1 (stp fc fe) (xs.drop i) acc ρ2 = some (out, ρz),
    ⟨xs.length, by simp, Nat.zero_le _, F0, ρ0, [], [], Gr.refl _ _, (c0.toBase nD).move vs (wipe_length σ vs) hσ (fun p hp => absurd hp (List.not_mem_nil)), fD0, .nil, e2⟩, ?_⟩
  rintro i m H2 ⟨rfl, hi2, F2, ρ2, acc, accV, g2, c2, fD, dA, e4⟩
  by_cases hlt : i < xs.length
  · rw [List.drop_eq_getElem_cons hlt] at e4
    unfold compG at e4
    by_cases hlo : lockOk lk xs (killL vs ρ2) = true
    · rw [if_pos hlo] at e4
      obtain ⟨ρ3, e5, e4⟩ := Option.bind_eq_some_iff.mp e4
      obtain ⟨⟨acc4, ρ4⟩, e6, e7⟩ := Option.bind_eq_some_iff.mp e4
      have cc := hcl _ F2 [] (wipe σ vs) H2 (killL vs ρ2) g2.sub c2 hlo (fun j hj => hσ j (hlv j hj))
      refine .inr ⟨wk.go i F2 H2 cc hlt, fun H' => ∃ m', m' < xs.length - i ∧ (m' = xs.length - (i + 1) ∧ i + 1 ≤ xs.length ∧ ∃ F2 ρ2 acc accV, Gr B F0 F2 ∧ Con K (upd B Dd (.lst accV)) F2 [] (wipe σ vs) H' (killL vs ρ2) ∧ F2 Dd = none ∧ DpAll K F2 accV acc ∧ compG lk xs vs g1 (stp fc fe) (xs.drop (i + 1)) acc ρ2 = some (out, ρz)), fun H' h => h, fun x H' y => ?_⟩
      obtain ⟨e8, d, e9, dd⟩ := wk.yld i F2 H2 x H' cc hlt y
      subst e8
      rw [List.getElem?_eq_getElem hlt] at e9
      cases e9
      refine hg _ F2 [] (wipe σ vs) H' (killL vs ρ2) x xs[i] ρ3 _ rfl c2 dd e5 fun F3 σ3 H3 g3 c3 off => ⟨?_, ?_⟩
      · rw [wipe_off off hw, wipe_wipe]
      obtain ⟨p, e10, e11⟩ := Option.bind_eq_some_iff.mp e6
      refine hc _ F3 [] σ3 H3 ρ3 p.1 p.2 _ c3 e10 fun F4 H4 g4 c4 => ?_
      have back : ∀ {F5 : Hp} {H5 : Hp} {ρ5 : En} {B5 : Hp}, Con K B5 F5 [] σ3 H5 ρ5 → Con K B5 F5 [] (wipe σ vs) H5 (killL vs ρ5) := fun {F5 H5 ρ5 B5} c5 =>
        c5.move vs (by rw [off.1]) (fun j hj => ((off.2 j fun z => hj (hw j z))).symm) (fun p hp => absurd hp (List.not_mem_nil))
      by_cases hp : p.1 = true
      · rw [if_pos hp] at e11 ⊢
        obtain ⟨q, e12, e13⟩ := Option.bind_eq_some_iff.mp e11
        by_cases hz : acc.length < sizeLine
        · rw [if_pos hz] at e13
          cases e13
          refine he _ F4 [] σ3 H4 p.2 q.1 q.2 _ c4 e12 fun F5 H5 v g5 c5 d5 => ?_
          have gg := (g3.trans g4).trans g5
          have fD5 := gg.at fD
          have dA5 := dpAll_mono gg.sub dA
          refine ⟨accV, c5.base _ _ upd_same, by rw [dA.length]; exact hz, xs.length - (i + 1), by omega, rfl, hlt, F5, q.2, acc ++ [q.1], accV ++ [v], g2.trans (gg.unBase bD), back (c5.reBase fD5), fD5, dA5.append (.one d5), e7⟩
        · rw [if_neg hz] at e13; cases e13
      · rw [if_neg hp] at e11 ⊢
        cases e11
        have gg := g3.trans g4
        exact ⟨xs.length - (i + 1), by omega, rfl, hlt, F4, p.2, acc, accV, g2.trans (gg.unBase bD), back c4, gg.at fD, dpAll_mono gg.sub dA, e7⟩
    · rw [if_neg hlo] at e4; cases e4
  · have hi3 : i = xs.length := by omega
    subst hi3
    rw [List.drop_length] at e4
    unfold compG at e4
    by_cases hlo : lockOk lk xs (killL vs ρ2) = true
    · rw [if_pos hlo] at e4
      cases e4
      have cc := hcl _ F2 [] (wipe σ vs) H2 (killL vs ρ2) g2.sub c2 hlo (fun j hj => hσ j (hlv j hj))
      refine .inl ⟨wk.stop _ F2 H2 cc (Nat.le_refl _), ?_⟩
      have cf : Con K (upd B Dd (.lst accV)) F2 io σ H2 (killL vs (killL vs ρ2)) := c2.move vs (wipe_length σ vs).symm (fun j hj => (hσ j hj).symm) c.io
      exact k F2 H2 Dd (.lst accV) (g0.trans g2) (Con.putB c0 g2.sub vs (cf.unBase bD)) (c2.base _ _ upd_same) dA fD bD (notOwned_putB vs cf.notOwned_base)
    · rw [if_neg hlo] at e4; cases e4
theorem dn_comp (hcm : X.calm = true) (hN : X.N.Nodup) (hi : DI X lk tg iter wi fi) (ok : BlkOk X.N X.env.scope scope own)
    (hg : ∀ (s : Shared) (H : Hp) (C : Addr) (cl : List (Str × Addr)) (fp : List Addr), DG (X.blk s H scope (compEnvC scope cl C X.env) fp) [] ws tg t1 g1) (ht : ∀ (s : Shared) (H : Hp) (C : Addr) (cl : List (Str × Addr)) (fp : List Addr), DTs (X.blk s H scope (compEnvC scope cl C X.env) fp) ifs tt fc)
    (he : ∀ (s : Shared) (H : Hp) (C : Addr) (cl : List (Str × Addr)) (fp : List Addr), DE (X.blk s H scope (compEnvC scope cl C X.env) fp) elt te fe) (hw : ∀ i ∈ ws, i ∈ own.map (·.2) := by decide) (hlv : ∀ j, lk = some j → j ∉ own.map (·.2) := by decide) (hs : ∀ x, foldedSetIterable iter X.env x = pure x := by intro _; rfl) :
    DN X (.ListComp elt [⟨tg, iter, ifs, 0⟩] scope pos) (tLc wi t1 tt te (own.map (·.2))) (eComp lk (own.map (·.2)) fi g1 fc fe) :=
  ⟨pe_lc hcm hN hi.pe ok (fun s H C cl fp => (hg s H C cl fp).pe) (fun s H C cl fp => (ht s H C cl fp).pe) (fun s H C cl fp => (he s H C cl fp).pe) hs,
   sn_comp hi.se (hg X.s_0 X.H_0 0 [] []).se (ht X.s_0 X.H_0 0 [] []).se (he X.s_0 X.H_0 0 [] []).se hw hlv⟩
variable {L : List Nat}
/-- y = [..] on one line, y a local -/
theorem ds_setCompN {i : Nat} {y : Str} {py spos : Pos} (hcm : X.calm = true) (hN : X.N.Nodup) (hi : DI X lk tg iter wi fi) (ok : BlkOk X.N X.env.scope scope own)
    (hg : ∀ (s : Shared) (H : Hp) (C : Addr) (cl : List (Str × Addr)) (fp : List Addr), DG (X.blk s H scope (compEnvC scope cl C X.env) fp) [] ws tg t1 g1) (ht : ∀ (s : Shared) (H : Hp) (C : Addr) (cl : List (Str × Addr)) (fp : List Addr), DTs (X.blk s H scope (compEnvC scope cl C X.env) fp) ifs tt fc)
    (he : ∀ (s : Shared) (H : Hp) (C : Addr) (cl : List (Str × Addr)) (fp : List Addr), DE (X.blk s H scope (compEnvC scope cl C X.env) fp) elt te fe) (hy : X.N[i]? = some y := by rfl) (hyl : X.env.scope.names.lookup y = some .local := by rfl)
    (hsw : swapsWith (.ListComp elt [⟨tg, iter, ifs, 0⟩] scope pos) (some (.Name y py)) spos.line X.env = pure true := by exact sw_true rfl rfl rfl (by decide +kernel))
    (hw : ∀ i ∈ ws, i ∈ own.map (·.2) := by decide) (hlv : ∀ j, lk = some j → j ∉ own.map (·.2) := by decide) (hl : i ∉ L := by decide) (hs : ∀ x, foldedSetIterable iter X.env x = pure x := by intro _; rfl) :
    DS X L (.Assign [.Name y py] (.ListComp elt [⟨tg, iter, ifs, 0⟩] scope pos) spos) (tAsg (tLc wi t1 tt te (own.map (·.2))) (gName i)) (sSetN i (eComp lk (own.map (·.2)) fi g1 fc fe)) :=
  ⟨ps_setLc hcm hN hy hyl hsw hi.pe ok (fun s H C cl fp => (hg s H C cl fp).pe) (fun s H C cl fp => (ht s H C cl fp).pe) (fun s H C cl fp => (he s H C cl fp).pe) hs,
   ss_setN hl (sn_comp hi.se (hg X.s_0 X.H_0 0 [] []).se (ht X.s_0 X.H_0 0 [] []).se (he X.s_0 X.H_0 0 [] []).se hw hlv)⟩
/-- the same, the list never changed -/
theorem ds_setComp {i : Nat} {y : Str} {py spos : Pos} (hcm : X.calm = true) (hN : X.N.Nodup) (hi : DI X lk tg iter wi fi) (ok : BlkOk X.N X.env.scope scope own)
    (hg : ∀ (s : Shared) (H : Hp) (C : Addr) (cl : List (Str × Addr)) (fp : List Addr), DG (X.blk s H scope (compEnvC scope cl C X.env) fp) [] ws tg t1 g1) (ht : ∀ (s : Shared) (H : Hp) (C : Addr) (cl : List (Str × Addr)) (fp : List Addr), DTs (X.blk s H scope (compEnvC scope cl C X.env) fp) ifs tt fc)
    (he : ∀ (s : Shared) (H : Hp) (C : Addr) (cl : List (Str × Addr)) (fp : List Addr), DE (X.blk s H scope (compEnvC scope cl C X.env) fp) elt te fe) (hy : X.N[i]? = some y := by rfl) (hyl : X.env.scope.names.lookup y = some .local := by rfl)
    (hsw : swapsWith (.ListComp elt [⟨tg, iter, ifs, 0⟩] scope pos) (some (.Name y py)) spos.line X.env = pure true := by exact sw_true rfl rfl rfl (by decide +kernel))
    (hw : ∀ i ∈ ws, i ∈ own.map (·.2) := by decide) (hlv : ∀ j, lk = some j → j ∉ own.map (·.2) := by decide) (hl : i ∉ L := by decide) (hs : ∀ x, foldedSetIterable iter X.env x = pure x := by intro _; rfl) :
    DS X L (.Assign [.Name y py] (.ListComp elt [⟨tg, iter, ifs, 0⟩] scope pos) spos) (tAsg (tLc wi t1 tt te (own.map (·.2))) (gName i)) (sSet i (eFrz (eComp lk (own.map (·.2)) fi g1 fc fe))) :=
  ⟨ps_setLc hcm hN hy hyl hsw hi.pe ok (fun s H C cl fp => (hg s H C cl fp).pe) (fun s H C cl fp => (ht s H C cl fp).pe) (fun s H C cl fp => (he s H C cl fp).pe) hs,
   ss_set hl (se_frz (sn_comp hi.se (hg X.s_0 X.H_0 0 [] []).se (ht X.s_0 X.H_0 0 [] []).se (he X.s_0 X.H_0 0 [] []).se hw hlv))⟩
end
/-! ## Defs and their calls -/
def RetC (K : PySem.W.Frag) (F' H H' : Hp) (v : V) : Cell → Prop
  | .dead => False
  | .sh d => Dp K F' v d
  | c => ∃ a o, v = .ref a ∧ H' a = some o ∧ Ob K F' c o ∧ F' a = none ∧ H a = none
theorem retC_own {K : PySem.W.Frag} {F' H H' : Hp} {v : V} {c : Cell} (h : isOwn c = true) : RetC K F' H H' v c ↔ ∃ a o, v = .ref a ∧ H' a = some o ∧ Ob K F' c o ∧ F' a = none ∧ H a = none := by
  cases c <;> first | exact Iff.rfl | (cases h)
abbrev FnS := List Cell → Option (Cell × List Cell)
/-- a def's promise: the plain function m of its arguments' cells; ios: the parameters that are lists which it changes -/
def spD (K : PySem.W.Frag) (ios : List Nat) (m : FnS) : Sp := fun vs H Q _ => ∃ (F : Hp) (cs cs' : List Cell) (r : Cell), Same F H ∧ vs.length = cs.length ∧ m cs = some (r, cs') ∧
  (∀ i c, cs[i]? = some c → i ∉ ios → ∃ v d, vs[i]? = some v ∧ c = .sh d ∧ Dp K F v d) ∧
  (∀ i, i ∈ ios → ∃ a o c, cs[i]? = some c ∧ isOwn c = true ∧ vs[i]? = some (.ref a) ∧ H a = some o ∧ Ob K F c o ∧ F a = none) ∧
  (∀ i j a, i ∈ ios → j ∈ ios → vs[i]? = some (.ref a) → vs[j]? = some (.ref a) → i = j) ∧
  ∀ F' H' v, Same F F' → Same F' H' → (∀ a o, F' a = some o → F a = some o ∨ H a = none) → (∀ a o, H a = some o → (∀ i, i ∈ ios → vs[i]? ≠ some (.ref a)) → H' a = some o) → RetC K F' H H' v r →
    (∀ i, i ∈ ios → ∀ a, vs[i]? = some (.ref a) → ∃ o c', cs'[i]? = some c' ∧ isOwn c' = true ∧ H' a = some o ∧ Ob K F' c' o ∧ F' a = none) → Q v H'
def ownAt (ρ : En) (i : Nat) : Bool := match ρ[i]? with
  | some c => isOwn c
  | none => false
/-- what is told of the arguments' cells: nothing, if none is changed -/
def keepN : List Nat → Nat → Nat
  | [], _ => 0
  | _ :: _, n => n
theorem keepN_mem {ios : List Nat} {i n : Nat} (h : i ∈ ios) : keepN ios n = n := by
  cases ios with
  | nil => cases h
  | cons _ _ => rfl
def fnSem (n : Nat) (ios : List Nat) (body : FS) : FnS := fun cs => (body (cs ++ List.replicate (n - cs.length) Cell.dead)).bind fun o => match o with
  | .rt c ρ' => if ios.all (ownAt ρ') = true then some (c, ρ'.take (keepN ios cs.length)) else none
  | .nx ρ' => if ios.all (ownAt ρ') = true then some (.sh .none, ρ'.take (keepN ios cs.length)) else none
  | _ => none
section
variable {P : Program} {w : World} {K : PySem.W.Frag} {mg : Str → Option Value} {base : Heap}
theorem ownAt_get {ρ : En} {i : Nat} (h : ownAt ρ i = true) : ∃ c, ρ[i]? = some c ∧ isOwn c = true := by
  unfold ownAt at h
  split at h
  · exact ⟨_, by assumption, h⟩
  · cases h
open Classical in
theorem pd_fn {x qual : Str} {st : Stmt} {f : Addr} {fd : FuncData} {N ps : List Str} {k : Nat} (ios : List Nat) {body : FS} (Fn : Fun K x qual st f fd) (S : FnScope N ps (defScope st)) (hps : ∀ cs r, fnSem N.length ios body cs = some r → cs.length = ps.length → cs.length ≤ N.length)
    (hbody : ∀ (cdv : Value) (A : Around) (outer : List Env) (s : Shared) (H : Hp) (E : XK), Room k (A.deeper (envOfC qual (defScope st) s.heap.objs.size f cdv)) →
      ∃ t, DSs (cxOf CX0 P w K mg base N qual (defScope st) f cdv A outer s H E).nox ios (defBody st) t body) :
    FnOk P w K mg base CX0 (k + 1) f fd ps (fun vs H Q E => vs.length = ps.length ∧ spD K ios (fnSem N.length ios body) vs H Q E) := by
  refine Fn.ok S (fun vs H Q E h => h.1) (fun cdv A outer s H vs Q E hr h => ?_)
  obtain ⟨hvl, F, cs, cs', r, sm, hlen, hm, hd, ho, hsep, hq⟩ := h
  obtain ⟨t, pe, se⟩ := hbody cdv A outer s H E hr
  refine ⟨t, pe, ?_⟩
  have hcN : cs.length ≤ N.length := hps cs _ hm (by rw [← hlen]; exact hvl)
  obtain ⟨o, e1, e2⟩ := Option.bind_eq_some_iff.mp hm
  let adr : Nat → Addr := fun i => match vs[i]? with
    | some (.ref a) => a
    | _ => 0
  have hadr : ∀ i a, vs[i]? = some (.ref a) → adr i = a := fun i a e => by show (match vs[i]? with | some (.ref a) => a | _ => 0) = a; rw [e]
  let B : Hp := fun a => if ∃ i, i ∈ ios ∧ vs[i]? = some (.ref a) then none else H a
  have hB : ∀ {a}, (∀ i, i ∈ ios → vs[i]? ≠ some (.ref a)) → B a = H a := fun {a} h => if_neg (fun ⟨i, z1, z2⟩ => h i z1 z2)
  have hB0 : ∀ {a i}, i ∈ ios → vs[i]? = some (.ref a) → B a = none := fun {a i} z1 z2 => if_pos ⟨i, z1, z2⟩
  have sBH : Same B H := fun a x e => by
    by_cases z : ∃ i, i ∈ ios ∧ vs[i]? = some (.ref a)
    · have : B a = none := if_pos z
      rw [this] at e; cases e
    · have : B a = H a := if_neg z
      rw [this] at e; exact e
  have hstart : start N vs = vs.map some ++ List.replicate (N.length - cs.length) none := by rw [← hlen]; rfl
  have getσ : ∀ {i v}, vs[i]? = some v → (start N vs)[i]? = some (some v) := fun {i v} e => by
    rw [hstart, List.getElem?_append_left (by rw [List.length_map]; exact (List.getElem?_eq_some_iff.mp e).1), List.getElem?_map, e]
    rfl
  have getρ : ∀ {i c}, (cs ++ List.replicate (N.length - cs.length) Cell.dead)[i]? = some c → cs[i]? = some c ∨ c = Cell.dead := fun {i c} e => by
    by_cases hi : i < cs.length
    · rw [List.getElem?_append_left hi] at e; exact .inl e
    · rw [List.getElem?_append_right (by omega)] at e
      exact .inr (List.eq_of_mem_replicate (List.mem_of_getElem? e))
  have c0 : Con K B F (ios.map fun i => (i, adr i)) (start N vs) H (cs ++ List.replicate (N.length - cs.length) Cell.dead) := by
    refine ⟨by rw [hstart, List.length_append, List.length_append, List.length_map, List.length_replicate, List.length_replicate, hlen], sBH, sm, fun i c he => ?_, fun i j c1 c2 a h1 h2 o1 o2 s1 s2 => ?_, fun p hp => ?_⟩
    · rcases getρ he with he' | rfl
      · by_cases hi : i ∈ ios
        · obtain ⟨a, w, c', z1, z2, z3, z4, z5, z6⟩ := ho i hi
          rw [he'] at z1
          cases z1
          exact ⟨_, getσ z3, (cellOk_own z2).mpr ⟨a, w, rfl, z4, z5, z6, hB0 hi z3⟩⟩
        · obtain ⟨v, d, z1, rfl, z2⟩ := hd i c he' hi
          exact ⟨_, getσ z1, v, rfl, z2⟩
      · have hlt : i < (start N vs).length := by
          have := (List.getElem?_eq_some_iff.mp he).1
          rw [List.length_append, List.length_replicate] at this
          rw [hstart, List.length_append, List.length_map, List.length_replicate, hlen]
          exact this
        exact ⟨_, List.getElem?_eq_getElem hlt, trivial⟩
    · have i1 : i ∈ ios := by
        rcases getρ h1 with z | rfl
        · by_cases hi : i ∈ ios
          · exact hi
          · obtain ⟨v, d, _, rfl, _⟩ := hd i c1 z hi; cases o1
        · cases o1
      have j1 : j ∈ ios := by
        rcases getρ h2 with z | rfl
        · by_cases hi : j ∈ ios
          · exact hi
          · obtain ⟨v, d, _, rfl, _⟩ := hd j c2 z hi; cases o2
        · cases o2
      obtain ⟨a1, _, _, _, _, z3, _⟩ := ho i i1
      obtain ⟨a2, _, _, _, _, z4, _⟩ := ho j j1
      rw [getσ z3] at s1
      rw [getσ z4] at s2
      cases s1
      cases s2
      exact hsep i j a i1 j1 z3 z4
    · obtain ⟨i, hi, rfl⟩ := List.mem_map.mp hp
      obtain ⟨a1, _, _, _, _, z3, _⟩ := ho i hi
      rw [getσ z3, hadr i a1 z3]
  have fin : ∀ {c ρ'}, ios.all (ownAt ρ') = true → r = c → cs' = ρ'.take (keepN ios cs.length) → ∀ F' σ' H' v, Gr B F F' → Con K B F' (ios.map fun i => (i, adr i)) σ' H' ρ' → RetOk K B F' σ' H' ρ' v c → Q v H' := by
    intro c ρ' hall hr hcs F' σ' H' v g cn ret
    subst hr hcs
    have ioc : ∀ i, i ∈ ios → ∀ a, vs[i]? = some (.ref a) → ∃ c', ρ'[i]? = some c' ∧ isOwn c' = true ∧ ∃ o, σ'[i]? = some (some (.ref a)) ∧ H' a = some o ∧ Ob K F' c' o ∧ F' a = none := fun i hi a ha => by
      obtain ⟨c', z1, z2⟩ := ownAt_get (List.all_eq_true.mp hall i hi)
      obtain ⟨a', o', y1, y2, y3, y4, _⟩ := cn.own z1 z2
      have y5 := cn.io (i, adr i) (List.mem_map.mpr ⟨i, hi, rfl⟩)
      have y5 : σ'[i]? = some (some (.ref (adr i))) := y5
      rw [hadr i a ha, y1] at y5
      cases y5
      exact ⟨c', z1, z2, o', y1, y2, y3, y4⟩
    refine hq F' H' v g.sub cn.frz (fun a o e => ?_) (fun a o e hn => cn.base a o (by rw [hB hn]; exact e)) ?_ (fun i hi a ha => ?_)
    · rcases g.new a o e with z | z
      · exact .inl z
      · by_cases hx : ∃ i, i ∈ ios ∧ vs[i]? = some (.ref a)
        · obtain ⟨i, hi, ha⟩ := hx
          obtain ⟨_, _, _, _, _, _, _, y⟩ := ioc i hi a ha
          rw [y] at e; cases e
        · rw [hB (fun i hi ha => hx ⟨i, hi, ha⟩)] at z; exact .inr z
    · by_cases hown : isOwn r = true
      · rw [retOk_own hown] at ret
        rw [retC_own hown]
        obtain ⟨a, o, y1, y2, y3, y4, y5, y6⟩ := ret
        refine ⟨a, o, y1, y2, y3, y4, ?_⟩
        by_cases hx : ∃ i, i ∈ ios ∧ vs[i]? = some (.ref a)
        · obtain ⟨i, hi, ha⟩ := hx
          obtain ⟨c', z1, z2, _, z3, _⟩ := ioc i hi a ha
          exact absurd z3 (y6 i c' z1 z2)
        · rw [hB (fun i hi ha => hx ⟨i, hi, ha⟩)] at y5; exact y5
      · cases r with
        | dead => exact ret
        | sh d => exact ret
        | fd tk kvs =>
          obtain ⟨_, _, _, _, h, _⟩ := ret
          exact h.elim
        | _ => exact absurd rfl hown
    · obtain ⟨c', z1, z2, o', _, z4, z5, z6⟩ := ioc i hi a ha
      have hi2 : i < cs.length := by rw [← hlen]; exact (List.getElem?_eq_some_iff.mp ha).1
      exact ⟨o', c', by rw [keepN_mem hi, List.getElem?_take_of_lt hi2]; exact z1, z2, z4, z5, z6⟩
  refine se B F (ios.map fun i => (i, adr i)) (start N vs) H _ o _ (by rw [List.map_map]; exact List.map_id _) c0 e1 ?_
  cases o with
  | rt c ρ' =>
    have e2 : (if ios.all (ownAt ρ') = true then some (c, ρ'.take (keepN ios cs.length)) else none) = some (r, cs') := e2
    by_cases hall : ios.all (ownAt ρ') = true
    · rw [if_pos hall] at e2
      cases e2
      exact fin hall rfl rfl
    · rw [if_neg hall] at e2; cases e2
  | nx ρ' =>
    have e2 : (if ios.all (ownAt ρ') = true then some (Cell.sh .none, ρ'.take (keepN ios cs.length)) else none) = some (r, cs') := e2
    by_cases hall : ios.all (ownAt ρ') = true
    · rw [if_pos hall] at e2
      cases e2
      exact fun F' σ' H' g cn => fin hall rfl rfl F' σ' H' .non g cn .non
    · rw [if_neg hall] at e2; cases e2
  | bk ρ' => cases e2
  | ct ρ' => cases e2
end
end L2.Pd

namespace L2.Pd
open PySem PySem.Spec PyProof.Rows
/-! ## The call of a def -/
abbrev FC := En → Option (Cell × En)
def SC (K : PySem.W.Frag) (t : TE) (f : FC) : Prop := ∀ (B F : Hp) (io : List (Nat × Addr)) (σ : St) (H : Hp) (ρ : En) (c : Cell) (ρ' : En) (Q : VK), Con K B F io σ H ρ → f ρ = some (c, ρ') →
  (∀ F' H' v, Gr B F F' → Con K B F' io σ H' ρ' → RetOk K B F' σ H' ρ' v c → Q v H') → t σ H Q
structure DC (X : Cx) (e : Expr) (t : TE) (f : FC) : Prop where
  pe : PE X e t
  se : SC X.K t f
/-- a new list is frozen -/
theorem Con.freeze_new {K : PySem.W.Frag} {B F H : Hp} {io : List (Nat × Addr)} {σ : St} {ρ : En} {a : Addr} {o : HO} {ds : List D} (c : Con K B F io σ H ρ) (ha : H a = some o) (ob : Ob K F (.ol ds) o) (fa : F a = none) (ba : B a = none) (no : NotOwned σ ρ a) :
    ∃ F', Gr B F F' ∧ Con K B F' io σ H ρ ∧ Dp K F' (.ref a) (.list ds) := by
  cases o with
  | lst vs =>
    have s1 : Same F (upd F a (.lst vs)) := same_upd fa
    refine ⟨upd F a (.lst vs), ⟨s1, fun b x e => ?_⟩, ⟨c.len, c.base, fun b x e => ?_, fun i u hu => ?_, c.sep, c.io⟩, .lst (.inl (.inl upd_same)) (dpAll_mono s1 ob)⟩
    · by_cases q : b = a
      · subst q; exact .inr ba
      · rw [upd_ne q] at e; exact .inl e
    · by_cases q : b = a
      · subst q; rw [upd_same] at e; rw [ha]; exact e
      · rw [upd_ne q] at e; exact c.frz b x e
    · obtain ⟨x, hx, ok⟩ := c.cell i u hu
      refine ⟨x, hx, ?_⟩
      by_cases ho : isOwn u = true
      · rw [cellOk_own ho] at ok ⊢
        obtain ⟨q, w, z1, z2, z3, z4, z5⟩ := ok
        subst z1
        refine ⟨q, w, rfl, z2, ob_mono s1 z3, ?_, z5⟩
        rw [upd_ne (fun z => no i u hu ho (by rw [hx, z]))]
        exact z4
      · cases u with
        | dead => trivial
        | sh d => obtain ⟨v, z1, z2⟩ := ok; exact ⟨v, z1, dp_mono s1 z2⟩
        | fd tk kvs => obtain ⟨p, ob, u, z1, z2, z3⟩ := ok; exact ⟨p, ob, u, z1, s1 _ _ z2, dictOb_mono s1 z3⟩
        | _ => exact absurd rfl ho
  | _ => exact False.elim ob
def cellD : Cell → Option D
  | .sh d => some d
  | .ol ds => some (.list ds)
  | _ => none
def ownC : Cell → Option Cell
  | .ol ds => some (.ol ds)
  | .od tk ds => some (.od tk ds)
  | _ => none
theorem ownC_eq {c c' : Cell} (h : ownC c = some c') : c' = c ∧ isOwn c = true := by
  cases c <;> first | (cases h; exact ⟨rfl, rfl⟩) | (cases h; done)
def eRetD (f : FC) : FE := fun ρ => (f ρ).bind fun p => (cellD p.1).map fun d => (d, p.2)
def eRetN (f : FC) : FN := fun ρ => (f ρ).bind fun p => (ownC p.1).map fun c => (c, p.2)
section
variable {X : Cx} {e : Expr} {t : TE} {f : FC}
theorem DC.de (h : DC X e t f) : DE X e t (eRetD f) := ⟨h.pe, by
  intro B F io σ H ρ d ρ' Q c e k
  obtain ⟨p, e1, e⟩ := Option.bind_eq_some_iff.mp e
  obtain ⟨z, e2, e3⟩ := Option.map_eq_some_iff.mp e
  cases e3
  refine h.se B F io σ H ρ p.1 p.2 _ c e1 fun F1 H1 v g1 c1 r1 => ?_
  cases hp : p.1 with
  | sh d0 =>
    rw [hp] at e2 r1
    cases e2
    exact k F1 H1 v g1 c1 r1
  | ol ds =>
    rw [hp] at e2 r1
    cases e2
    obtain ⟨a, o, rfl, h1, h2, h3, h4, h5⟩ := (retOk_own rfl).mp r1
    obtain ⟨F2, g2, c2, d2⟩ := c1.freeze_new h1 h2 h3 h4 h5
    exact k F2 H1 _ (g1.trans g2) c2 d2
  | _ => rw [hp] at e2; cases e2⟩
theorem DC.dn (h : DC X e t f) : DN X e t (eRetN f) := ⟨h.pe, by
  intro B F io σ H ρ d ρ' Q c e k
  obtain ⟨p, e1, e⟩ := Option.bind_eq_some_iff.mp e
  obtain ⟨z, e2, e3⟩ := Option.map_eq_some_iff.mp e
  cases e3
  obtain ⟨e4, ho⟩ := ownC_eq e2
  rw [← e4] at ho
  refine h.se B F io σ H ρ p.1 p.2 _ c e1 fun F1 H1 v g1 c1 r1 => ?_
  rw [← e4] at r1
  obtain ⟨a, o, rfl, h1, h2, h3, h4, h5⟩ := (retOk_own ho).mp r1
  exact k F1 H1 a o g1 c1 h1 h2 h3 h4 h5⟩
end
/-- f(e, ..), no argument is changed -/
def eCall0 (m : FnS) (fa : FA) : FC := fun ρ => (fa ρ).bind fun p => (m (p.1.map .sh)).map fun r => (r.1, p.2)
section
variable {X : Cx} {k : Nat} {f : Addr} {fd : FuncData} {ps : List Str} {m : FnS} {x : Str} {p pos : Pos} {e : Expr} {es : List Expr} {t : TA} {fa : FA}
abbrev FnD (P : Program) (w : World) (K : PySem.W.Frag) (mg : Str → Option Value) (base : Heap) (k : Nat) (f : Addr) (fd : FuncData) (ps : List Str) (ios : List Nat) (m : FnS) : Prop :=
  FnOk P w K mg base CX0 k f fd ps (fun vs H Q E => vs.length = ps.length ∧ spD K ios m vs H Q E)
theorem shs_get {K : PySem.W.Frag} {F : Hp} {vs : List V} {ds : List D} (h : DpAll K F vs ds) {i : Nat} {c : Cell} (e : (ds.map Cell.sh)[i]? = some c) : ∃ v d, vs[i]? = some v ∧ c = .sh d ∧ Dp K F v d := by
  rw [List.getElem?_map] at e
  obtain ⟨d, e1, e2⟩ := Option.map_eq_some_iff.mp e
  obtain ⟨v, e3, q⟩ := h.get' e1
  exact ⟨v, d, e3, e2.symm, q⟩
theorem sc_call0 {K : PySem.W.Frag} {sp : Sp} (hsp : sp = fun vs H Q E => vs.length = ps.length ∧ spD K [] m vs H Q E) (hn : ∀ ρ ds ρ', fa ρ = some (ds, ρ') → ds.length = ps.length) (ha : SA K t fa) : SC K (tCall sp [] E0 t) (eCall0 m fa) := by
  subst hsp
  intro B F io σ H ρ c ρ' Q cn e k
  obtain ⟨⟨ds, ρ1⟩, e1, e⟩ := Option.bind_eq_some_iff.mp e
  obtain ⟨⟨r, cs'⟩, e2, e3⟩ := Option.map_eq_some_iff.mp e
  cases e3
  refine ha B F io σ H ρ ds ρ1 _ cn e1 fun F1 H1 vs g1 c1 d1 => ?_
  rw [List.append_nil]
  refine ⟨by rw [d1.length]; exact hn _ _ _ e1, F1, _, cs', r, c1.frz, by rw [List.length_map, d1.length], e2, fun i c he _ => shs_get d1 he, fun i hi => absurd hi (List.not_mem_nil), fun i j a hi => absurd hi (List.not_mem_nil), ?_⟩
  intro F' H' v s1 s2 hnew hkeep ret _
  have al : Al F1 H1 F' H' := ⟨s1, fun a o ha => hkeep a o ha (fun i hi => absurd hi (List.not_mem_nil)), s2, hnew⟩
  have c2 := c1.al al
  refine k F' H' v (g1.trans (al.gr c1.base)) c2 ?_
  by_cases ho : isOwn r = true
  · rw [retC_own ho] at ret
    obtain ⟨a, o, y1, y2, y3, y4, y5⟩ := ret
    exact (retOk_own ho).mpr ⟨a, o, y1, y2, y3, y4, c1.base.free y5, c1.fresh_notOwned y5⟩
  · cases r with
    | dead => exact ret
    | sh d => exact ret
    | fd tk kvs =>
      obtain ⟨_, _, _, _, h, _⟩ := ret
      exact h.elim
    | _ => exact absurd rfl ho
/-- the arguments are so many -/
def aLen (fa : FA) (n : Nat) : Prop := ∀ ρ ds ρ', fa ρ = some (ds, ρ') → ds.length = n
theorem aLen_nil : aLen aNil 0 := fun ρ ds ρ' h => by cases h; rfl
theorem aLen_cons {f : FE} {g : FA} {n : Nat} (h : aLen g n) : aLen (aCons f g) (n + 1) := fun ρ ds ρ' e => by
  obtain ⟨p, _, e⟩ := Option.bind_eq_some_iff.mp e
  obtain ⟨q, e2, e⟩ := Option.map_eq_some_iff.mp e
  cases e
  rw [List.length_cons, h _ _ _ e2]
theorem dc_call0 (F : FnD X.prog X.w X.K X.mg X.base k f fd ps [] m) (hr : Room k X.A) (hm : X.mg x = some (.ref f)) (hk : PySem.W.keepIn X.K (.ref f) = true) (hb : Binds X.K fd ps []) (ha : DA X (e :: es) t fa) (hn : aLen fa ps.length) (hg : Gl X x := by rfl)
    (hdb : (x == ("__debug__" : Str)) = false := by decide) (he : starEach (e :: es) X.env = (false, eval e X.env) :: starEach es X.env := by rfl) (hpl : (backTo pos (starEach es X.env)).any (·.1) = false := by rfl) :
    DC X (.Call (.Name x p) (e :: es) [] pos) (tCall (fun vs H Q E => vs.length = ps.length ∧ spD X.K [] m vs H Q E) [] E0 t) (eCall0 m fa) :=
  ⟨pe_call F hr hg hm hk hb .nil pass0 ha.pe hdb he hpl, sc_call0 rfl hn ha.se⟩
theorem dc_call00 (F : FnD X.prog X.w X.K X.mg X.base k f fd ps [] m) (hr : Room k X.A) (hm : X.mg x = some (.ref f)) (hk : PySem.W.keepIn X.K (.ref f) = true) (hb : Binds X.K fd ps []) (hn : ps.length = 0) (hg : Gl X x := by rfl)
    (hdb : (x == ("__debug__" : Str)) = false := by decide) :
    DC X (.Call (.Name x p) [] [] pos) (tCall (fun vs H Q E => vs.length = ps.length ∧ spD X.K [] m vs H Q E) [] E0 tNil) (eCall0 m aNil) :=
  ⟨pe_call0 F hr hg hm hk hb .nil pass0 hdb, sc_call0 rfl (by rw [hn]; exact aLen_nil) da_nil.se⟩
where da_nil : DA X [] tNil aNil := Pd.da_nil
end
/-! ### one argument is a list that the def changes -/
abbrev FR := En → Option (List (Option D) × En)
def AOk (K : PySem.W.Frag) (F : Hp) (x : Option (Option V)) (v : V) : Option D → Prop
  | some d => Dp K F v d
  | none => x = some (some v)
def SR (K : PySem.W.Frag) (j : Nat) (t : TA) (f : FR) : Prop := ∀ (B F : Hp) (io : List (Nat × Addr)) (σ : St) (H : Hp) (ρ : En) (as : List (Option D)) (ρ' : En) (Q : List V → Hp → Prop), Con K B F io σ H ρ → f ρ = some (as, ρ') →
  (∀ F' H' vs, Gr B F F' → Con K B F' io σ H' ρ' → Paired (fun v a => AOk K F' σ[j]? v a) vs as → Q vs H') → t σ H Q
structure DR (X : Cx) (j : Nat) (sh : List Bool) (es : List Expr) (t : TA) (f : FR) : Prop where
  pe : PA X es t
  se : SR X.K j t f
  shp : ∀ ρ as ρ', f ρ = some (as, ρ') → as.map Option.isSome = sh
def rNil : FR := fun ρ => some ([], ρ)
def rCons (f : FE) (g : FR) : FR := fun ρ => (f ρ).bind fun p => (g p.2).map fun q => (some p.1 :: q.1, q.2)
def rIo (j : Nat) (g : FR) : FR := fun ρ => if ownAt ρ j = true then (g ρ).map fun q => (none :: q.1, q.2) else none
section
variable {X : Cx} {j : Nat} {sh : List Bool} {e : Expr} {es : List Expr} {te : TE} {fe : FE} {t : TA} {g : FR}
theorem dr_nil : DR X j [] [] tNil rNil := ⟨pa_nil, fun B F io σ H ρ as ρ' Q c e k => by cases e; exact k F H [] (Gr.refl _ _) c .nil, fun ρ as ρ' e => by cases e; rfl⟩
theorem aok_mono {K : PySem.W.Frag} {F F' : Hp} {x : Option (Option V)} {v : V} {a : Option D} (s : Same F F') (h : AOk K F x v a) : AOk K F' x v a := by
  cases a with
  | none => exact h
  | some d => exact dp_mono s h
theorem dr_cons (ha : DE X e te fe) (hr : DR X j sh es t g) (hs : starEach (e :: es) X.env = (false, eval e X.env) :: starEach es X.env := by rfl) : DR X j (true :: sh) (e :: es) (tCons te t) (rCons fe g) := by
  refine ⟨pa_cons ha.pe hr.pe hs, ?_, ?_⟩
  · intro B F io σ H ρ as ρ' Q c h k
    obtain ⟨p, e1, h⟩ := Option.bind_eq_some_iff.mp h
    obtain ⟨q, e2, h⟩ := Option.map_eq_some_iff.mp h
    cases h
    refine ha.se B F io σ H ρ p.1 p.2 _ c e1 fun F1 H1 x g1 c1 d1 => ?_
    exact hr.se B F1 io σ H1 p.2 q.1 q.2 _ c1 e2 fun F2 H2 xs g2 c2 d2 => k F2 H2 (x :: xs) (g1.trans g2) c2 (.cons (dp_mono g2.sub d1) d2)
  · intro ρ as ρ' h
    obtain ⟨p, e1, h⟩ := Option.bind_eq_some_iff.mp h
    obtain ⟨q, e2, h⟩ := Option.map_eq_some_iff.mp h
    cases h
    rw [List.map_cons, hr.shp _ _ _ e2]
    rfl
theorem dr_io {x : Str} {pos : Pos} (hr : DR X j sh es t g) (hN : X.N[j]? = some x := by rfl) (hv : Vis X.env.scope x := by first | exact Or.inl rfl | exact Or.inr (Or.inl rfl) | exact Or.inr (Or.inr rfl)) (hd : (x == ("__debug__" : Str)) = false := by decide) (hcd : (x == ("__classdict__" : Str)) = false := by decide)
    (hs : starEach (.Name x pos :: es) X.env = (false, eval (.Name x pos) X.env) :: starEach es X.env := by rfl) : DR X j (false :: sh) (.Name x pos :: es) (tCons (tVar j) t) (rIo j g) := by
  refine ⟨pa_cons (pe_var hN hv hd hcd) hr.pe hs, ?_, ?_⟩
  · intro B F io σ H ρ as ρ' Q c h k
    have h : (if ownAt ρ j = true then (g ρ).map fun q => ((none : Option D) :: q.1, q.2) else none) = some (as, ρ') := h
    by_cases ho : ownAt ρ j = true
    · rw [if_pos ho] at h
      obtain ⟨q, e2, h⟩ := Option.map_eq_some_iff.mp h
      cases h
      obtain ⟨u, z1, z2⟩ := ownAt_get ho
      obtain ⟨a, o, h1, _⟩ := c.own z1 z2
      exact ⟨.ref a, h1, hr.se B F io σ H ρ q.1 q.2 _ c e2 fun F2 H2 xs g2 c2 d2 => k F2 H2 (.ref a :: xs) g2 c2 (.cons h1 d2)⟩
    · rw [if_neg ho] at h; cases h
  · intro ρ as ρ' h
    have h : (if ownAt ρ j = true then (g ρ).map fun q => ((none : Option D) :: q.1, q.2) else none) = some (as, ρ') := h
    by_cases ho : ownAt ρ j = true
    · rw [if_pos ho] at h
      obtain ⟨q, e2, h⟩ := Option.map_eq_some_iff.mp h
      cases h
      rw [List.map_cons, hr.shp _ _ _ e2]
      rfl
    · rw [if_neg ho] at h; cases h
end
def argC (c : Cell) : Option D → Cell
  | some d => .sh d
  | none => c
def eCall1 (i0 j : Nat) (m : FnS) (fr : FR) : FC := fun ρ => (fr ρ).bind fun p => (p.2[j]?).bind fun c => if isOwn c = true then (m (p.1.map (argC c))).bind fun r => (r.2[i0]?).map fun c' => (r.1, p.2.set j c') else none
section
variable {X : Cx} {k : Nat} {f : Addr} {fd : FuncData} {ps : List Str} {m : FnS} {x : Str} {p pos : Pos} {e : Expr} {es : List Expr} {t : TA} {fr : FR} {i0 j : Nat} {sh : List Bool}
theorem paired_get' {α β : Type} {R : α → β → Prop} : ∀ {as : List α} {bs : List β} {i : Nat} {b : β}, Paired R as bs → bs[i]? = some b → ∃ a, as[i]? = some a ∧ R a b
  | _, _, _, _, .nil, e => by simp at e
  | _, _, 0, b, .cons r _, e => by simp at e; subst e; exact ⟨_, rfl, r⟩
  | _, _, i + 1, b, .cons _ t, e => by
    obtain ⟨a, h1, h2⟩ := paired_get' (i := i) t (by simpa using e)
    exact ⟨a, by simpa using h1, h2⟩
theorem sc_call1 {K : PySem.W.Frag} {sp : Sp} (hsp : sp = fun vs H Q E => vs.length = ps.length ∧ spD K [i0] m vs H Q E) (hsh : ∀ i b, sh[i]? = some b → (b = false ↔ i = i0)) (hi0 : i0 < sh.length) (hn : sh.length = ps.length) (hs : ∀ ρ as ρ', fr ρ = some (as, ρ') → as.map Option.isSome = sh) (ha : SR K j t fr) :
    SC K (tCall sp [] E0 t) (eCall1 i0 j m fr) := by
  subst hsp
  intro B F io σ H ρ c ρ' Q cn e k
  obtain ⟨⟨as, ρ1⟩, e1, e⟩ := Option.bind_eq_some_iff.mp e
  obtain ⟨u, hu, e⟩ := Option.bind_eq_some_iff.mp e
  have e : (if isOwn u = true then (m (as.map (argC u))).bind fun r => (r.2[i0]?).map fun c' => (r.1, ρ1.set j c') else none) = some (c, ρ') := e
  by_cases hou : isOwn u = true
  case neg => rw [if_neg hou] at e; cases e
  rw [if_pos hou] at e
  obtain ⟨⟨r, cs'⟩, e2, e⟩ := Option.bind_eq_some_iff.mp e
  obtain ⟨c', e3, e4⟩ := Option.map_eq_some_iff.mp e
  cases e4
  have hshape := hs _ _ _ e1
  have hlen : as.length = sh.length := by rw [← hshape, List.length_map]
  refine ha B F io σ H ρ as ρ1 _ cn e1 fun F1 H1 vs g1 c1 d1 => ?_
  rw [List.append_nil]
  have hvl : vs.length = as.length := Paired.length d1
  obtain ⟨a, o, a1, a2, a3, a4, a5⟩ := c1.own hu hou
  have kind : ∀ {i : Nat} {b : Option D}, as[i]? = some b → (b = none ↔ i = i0) := fun {i b} hb => by
    have : sh[i]? = some b.isSome := by rw [← hshape, List.getElem?_map, hb]; rfl
    rw [← hsh i _ this]
    cases b <;> simp
  have at0 : as[i0]? = some none := by
    have hlt : i0 < as.length := by omega
    have e5 := List.getElem?_eq_getElem hlt
    rw [e5, (kind e5).mpr rfl]
  have v0 : vs[i0]? = some (.ref a) := by
    obtain ⟨v, q1, q2⟩ := paired_get' d1 at0
    have q2 : σ[j]? = some (some v) := q2
    rw [a1] at q2
    cases q2
    exact q1
  refine ⟨by rw [hvl, hlen, hn], F1, as.map (argC u), cs', r, c1.frz, by rw [List.length_map, hvl], e2, fun i w he hi => ?_, fun i hi => ?_, fun i i' b hi hi' _ _ => ?_, ?_⟩
  · rw [List.getElem?_map] at he
    obtain ⟨b, q1, q2⟩ := Option.map_eq_some_iff.mp he
    have hi : i ≠ i0 := fun z => hi (by rw [z]; exact List.mem_singleton.mpr rfl)
    cases b with
    | none => exact absurd ((kind q1).mp rfl) hi
    | some d =>
      obtain ⟨v, q3, q4⟩ := paired_get' d1 q1
      exact ⟨v, d, q3, q2.symm, q4⟩
  · have : i = i0 := List.mem_singleton.mp hi
    subst this
    exact ⟨a, o, u, by rw [List.getElem?_map, at0]; rfl, hou, v0, a2, a3, a4⟩
  · rw [List.mem_singleton.mp hi, List.mem_singleton.mp hi']
  · intro F' H' v s1 s2 hnew hkeep ret hio
    obtain ⟨o', c'', b1, b2, b3, b4, b5⟩ := hio i0 (List.mem_singleton.mpr rfl) a v0
    rw [e3] at b1
    cases b1
    have keep : ∀ b x, H1 b = some x → b ≠ a → H' b = some x := fun b x hb hne => hkeep b x hb fun i hi hv => by
      rw [List.mem_singleton.mp hi, v0] at hv
      cases hv
      exact hne rfl
    have free : ∀ {b}, H1 b ≠ none → F1 b = none → F' b = none := fun {b} hb hf => by
      cases q : F' b with
      | none => rfl
      | some x =>
        rcases hnew b x q with z | z
        · rw [hf] at z; cases z
        · exact absurd z hb
    have gr : Gr B F1 F' := ⟨s1, fun b x hb => by
      rcases hnew b x hb with z | z
      · exact .inl z
      · exact .inr (c1.base.free z)⟩
    have others : ∀ {i : Nat} {w : Cell}, i ≠ j → ρ1[i]? = some w → isOwn w = true → ∃ b x, σ[i]? = some (some (.ref b)) ∧ b ≠ a ∧ H1 b = some x ∧ H' b = some x ∧ Ob K F' w x ∧ F' b = none ∧ B b = none := fun {i w} hne hw how => by
      obtain ⟨b, x, y1, y2, y3, y4, y5⟩ := c1.own hw how
      have nb : b ≠ a := fun z => hne (c1.sep i j w u a hw hu how hou (by rw [y1, z]) a1)
      exact ⟨b, x, y1, nb, y2, keep b x y2 nb, ob_mono s1 y3, free (by rw [y2]; exact fun z => nomatch z) y4, y5⟩
    have hjl : j < ρ1.length := (List.getElem?_eq_some_iff.mp hu).1
    have c2 : Con K B F' io σ H' (ρ1.set j c') := by
      refine ⟨by rw [List.length_set, c1.len], fun b x hb => keep b x (c1.base b x hb) (fun z => by subst z; rw [a5] at hb; cases hb), s2, fun i w hw => ?_, fun i i' w w' b h1 h2 o1 o2 t1 t2 => ?_, c1.io⟩
      · rcases get_set_cases hw with ⟨rfl, rfl, _⟩ | ⟨ne, hw⟩
        · exact ⟨_, a1, (cellOk_own b2).mpr ⟨a, o', rfl, b3, b4, b5, a5⟩⟩
        · obtain ⟨y, hy, ok⟩ := c1.cell i w hw
          refine ⟨y, hy, ?_⟩
          by_cases how : isOwn w = true
          · obtain ⟨b, z, y1, _, _, y3, y4, y5, y6⟩ := others ne hw how
            rw [hy] at y1
            cases y1
            exact (cellOk_own how).mpr ⟨b, z, rfl, y3, y4, y5, y6⟩
          · cases w with
            | dead => trivial
            | sh d => obtain ⟨v', z1, z2⟩ := ok; exact ⟨v', z1, dp_mono s1 z2⟩
            | fd tk kvs => obtain ⟨p, ob, u, z1, z2, z3⟩ := ok; exact ⟨p, ob, u, z1, s1 _ _ z2, dictOb_mono s1 z3⟩
            | _ => exact absurd rfl how
      · rcases get_set_cases h1 with ⟨rfl, rfl, _⟩ | ⟨ne1, g1'⟩
        · rcases get_set_cases h2 with ⟨rfl, rfl, _⟩ | ⟨ne2, g2'⟩
          · rfl
          · obtain ⟨b', _, y1, y2, _⟩ := others ne2 g2' o2
            rw [a1] at t1; rw [y1] at t2
            cases t1; cases t2
            exact absurd rfl y2
        · rcases get_set_cases h2 with ⟨rfl, rfl, _⟩ | ⟨ne2, g2'⟩
          · obtain ⟨b', _, y1, y2, _⟩ := others ne1 g1' o1
            rw [a1] at t2; rw [y1] at t1
            cases t1; cases t2
            exact absurd rfl y2
          · exact c1.sep i i' w w' b g1' g2' o1 o2 t1 t2
    refine k F' H' v (g1.trans gr) c2 ?_
    by_cases ho : isOwn r = true
    · rw [retC_own ho] at ret
      obtain ⟨b, x, y1, y2, y3, y4, y5⟩ := ret
      refine (retOk_own ho).mpr ⟨b, x, y1, y2, y3, y4, c1.base.free y5, fun i w hw how hs => ?_⟩
      rcases get_set_cases hw with ⟨rfl, rfl, _⟩ | ⟨ne, hw⟩
      · rw [a1] at hs; cases hs
        rw [a2] at y5; cases y5
      · obtain ⟨b', z, y1', _, y3', _⟩ := others ne hw how
        rw [y1'] at hs; cases hs
        rw [y3'] at y5; cases y5
    · cases r with
      | dead => exact ret
      | sh d => exact ret
      | fd tk kvs =>
        obtain ⟨_, _, _, _, h, _⟩ := ret
        exact h.elim
      | _ => exact absurd rfl ho
def shapeOk (i0 : Nat) (sh : List Bool) : Bool := decide (i0 < sh.length) && (List.range sh.length).all fun i => (sh[i]? == some false) == decide (i = i0)
theorem shapeOk_iff (h : shapeOk i0 sh = true) : (∀ i b, sh[i]? = some b → (b = false ↔ i = i0)) ∧ i0 < sh.length := by
  unfold shapeOk at h
  rw [Bool.and_eq_true] at h
  refine ⟨fun i b hb => ?_, of_decide_eq_true h.1⟩
  have hi : i < sh.length := (List.getElem?_eq_some_iff.mp hb).1
  have := List.all_eq_true.mp h.2 i (List.mem_range.mpr hi)
  rw [hb] at this
  have this := beq_iff_eq.mp this
  constructor
  · intro e; subst e
    exact of_decide_eq_true (this.symm.trans (by rfl))
  · intro e
    rw [decide_eq_true e] at this
    have := beq_iff_eq.mp this
    cases this; rfl
theorem dc_call1 (F : FnD X.prog X.w X.K X.mg X.base k f fd ps [i0] m) (hr : Room k X.A) (hm : X.mg x = some (.ref f)) (hk : PySem.W.keepIn X.K (.ref f) = true) (hb : Binds X.K fd ps []) (ha : DR X j sh (e :: es) t fr) (hsh : shapeOk i0 sh = true := by decide) (hn : sh.length = ps.length := by decide) (hg : Gl X x := by rfl)
    (hdb : (x == ("__debug__" : Str)) = false := by decide) (he : starEach (e :: es) X.env = (false, eval e X.env) :: starEach es X.env := by rfl) (hpl : (backTo pos (starEach es X.env)).any (·.1) = false := by rfl) :
    DC X (.Call (.Name x p) (e :: es) [] pos) (tCall (fun vs H Q E => vs.length = ps.length ∧ spD X.K [i0] m vs H Q E) [] E0 t) (eCall1 i0 j m fr) :=
  ⟨pe_call F hr hg hm hk hb .nil pass0 ha.pe hdb he hpl, sc_call1 rfl (shapeOk_iff hsh).1 (shapeOk_iff hsh).2 hn ha.shp ha.se⟩
end
end L2.Pd

namespace L2.Pd
open PySem PySem.Spec PyProof.Rows
/-! ## Own lists read; borrowed -/
section
variable {X : Cx} {i : Expr} {ti : TE} {fi : FE} {x y : Str} {p p1 p2 pos : Pos} {j : Nat}
/-- x[i], x an own list -/
def eIxOwn (j : Nat) (fi : FE) : FE := fun ρ => (ownL j ρ).bind fun _ => (fi ρ).bind fun q => (ownL j q.2).bind fun ds => (intD q.1).bind fun k => (atI ds k).map fun d => (d, q.2)
theorem de_ixOwn (j : Nat) (hi : DE X i ti fi) (hN : X.N[j]? = some x := by rfl) (hv : Vis X.env.scope x := by first | exact Or.inl rfl | exact Or.inr (Or.inl rfl) | exact Or.inr (Or.inr rfl)) (hd : (x == ("__debug__" : Str)) = false := by decide)
    (hcd : (x == ("__classdict__" : Str)) = false := by decide) (hs : PlainIx i := by exact fun _ _ => rfl) : DE X (.Subscript (.Name x p1) i pos) (tOp (rIx X.K) (tVar j) ti) (eIxOwn j fi) := by
  refine ⟨pe_ix ix_seq (pe_var hN hv hd hcd) hi.pe hs, ?_⟩
  intro B F io σ H ρ d ρ' Q c e k
  obtain ⟨ds0, z0, e⟩ := Option.bind_eq_some_iff.mp e
  obtain ⟨q, e1, e⟩ := Option.bind_eq_some_iff.mp e
  obtain ⟨ds, z1, e⟩ := Option.bind_eq_some_iff.mp e
  obtain ⟨n, z2, e⟩ := Option.bind_eq_some_iff.mp e
  obtain ⟨d', z3, e4⟩ := Option.map_eq_some_iff.mp e
  cases e4
  obtain ⟨a, _, s1, _, _⟩ := own_list c z0
  refine ⟨.ref a, s1, hi.se B F io σ H ρ q.1 q.2 _ c e1 fun F1 H1 v g1 c1 d1 => ?_⟩
  obtain ⟨a', vs, s2, h2, d2⟩ := own_list c1 z1
  have ea : a' = a := by rw [s1] at s2; cases s2; rfl
  subst ea
  rw [intD_eq z2] at d1
  cases d1
  obtain ⟨w, e5, e6⟩ := atI_dp d2 z3
  exact .inl ⟨a', vs, n, w, rfl, rfl, .inl (.inl h2), e5, k F1 H1 w g1 c1 e6⟩
/-- len(x), x an own list -/
def eLenOwn (j : Nat) : FE := fun ρ => (ownL j ρ).map fun ds => (.int ds.length, ρ)
theorem de_lenOwn (j : Nat) (hm : X.mg "len" = none) (hN : X.N[j]? = some x := by rfl) (hv : Vis X.env.scope x := by first | exact Or.inl rfl | exact Or.inr (Or.inl rfl) | exact Or.inr (Or.inr rfl)) (hd : (x == ("__debug__" : Str)) = false := by decide)
    (hcd : (x == ("__classdict__" : Str)) = false := by decide) (hg : Gl X "len" := by rfl) (he : starEach [.Name x p1] X.env = (false, eval (.Name x p1) X.env) :: starEach [] X.env := by rfl) (hpl : (backTo pos (starEach [] X.env)).any (·.1) = false := by rfl) :
    DE X (.Call (.Name "len" p) [.Name x p1] [] pos) (tCB (rLen X.K) (tCons (tVar j) tNil)) (eLenOwn j) := by
  refine ⟨pe_callB call_len hg hm (by decide +kernel) (pa_cons (pe_var hN hv hd hcd) pa_nil he) (by decide) (by decide) he hpl, ?_⟩
  intro B F io σ H ρ d ρ' Q c e k
  obtain ⟨ds, z0, e4⟩ := Option.map_eq_some_iff.mp e
  cases e4
  obtain ⟨a, vs, s1, h1, d1⟩ := own_list c z0
  exact ⟨.ref a, s1, _, _, rfl, .inl ⟨vs, .inl (.inl h1), rfl⟩, k F H _ (Gr.refl _ _) c (by rw [d1.length]; exact .int _)⟩
end
/-! ### a list lent for the while of an expression -/
mutual
def noL : D → Bool
  | .list _ => false
  | .tuple ds => noLs ds
  | .dict _ => false
  | _ => true
def noLs : List D → Bool
  | [] => true
  | d :: r => noL d && noLs r
end
def noLC : Cell → Bool
  | .dead => true
  | .sh d => noL d
  | .ol ds => noLs ds
  | .od _ kvs => noLs (kvs.map (·.2))
  | .fd _ kvs => noLs (kvs.map (·.2))
def without (F : Hp) (a : Addr) : Hp := fun b => if b = a then none else F b
theorem without_ne {F : Hp} {a b : Addr} (h : b ≠ a) : without F a b = F b := if_neg h
theorem without_at {F : Hp} {a : Addr} : without F a a = none := if_pos rfl
section
variable {K : PySem.W.Frag} {F : Hp} {a : Addr} {ws : List V}
theorem sqT_without (h : F a = some (.lst ws)) {b : Addr} {xs : List V} (q : SqT K F b xs) : SqT K (without F a) b xs := by
  rcases q with (q | ⟨o, q⟩) | q
  · exact .inl (.inl (by rw [without_ne (fun z => by subst z; rw [h] at q; cases q)]; exact q))
  · exact .inl (.inr ⟨o, by rw [without_ne (fun z => by subst z; rw [h] at q; cases q)]; exact q⟩)
  · exact .inr q
mutual
theorem dp_without (h : F a = some (.lst ws)) : ∀ {d : D} {v : V}, Dp K F v d → noL d = true → Dp K (without F a) v d
  | .none, _, q, _ => by cases q; exact .non
  | .bool _, _, q, _ => by cases q; exact .bl _
  | .int _, _, q, _ => by cases q; exact .int _
  | .str _, _, q, _ => by cases q; exact .str _
  | .list ds, _, _, n => by simp [noL] at n
  | .dict ds, _, _, n => by simp [noL] at n
  | .tuple ds, _, q, n => by
    cases q with
    | tup q r => exact .tup (sqT_without h q) (dpAll_without h r (by simpa [noL] using n))
theorem dpAll_without (h : F a = some (.lst ws)) : ∀ {ds : List D} {vs : List V}, DpAll K F vs ds → noLs ds = true → DpAll K (without F a) vs ds
  | [], _, q, _ => by cases q; exact .nil
  | d :: ds, _, q, n => by
    rw [noLs, Bool.and_eq_true] at n
    cases q with
    | cons q r => exact .cons (dp_without h q n.1) (dpAll_without h r n.2)
end
theorem kvK_without (h : F a = some (.lst ws)) : ∀ {kvs : List (D × D)} {us : List (Key × V)}, KvK K F kvs us → noLs (kvs.map (·.2)) = true → KvK K (without F a) kvs us
  | [], _, q, _ => by cases q; exact .nil
  | p :: r, _, q, n => by
    cases q with
    | cons q t =>
      have n : noLs (p.2 :: r.map (·.2)) = true := n
      rw [noLs, Bool.and_eq_true] at n
      exact .cons ⟨q.1, dp_without h q.2 n.1⟩ (kvK_without h t n.2)
theorem kvT_without (h : F a = some (.lst ws)) : ∀ {kvs : List (D × D)} {us : List (List Key × V)}, KvT K F kvs us → noLs (kvs.map (·.2)) = true → KvT K (without F a) kvs us
  | [], _, q, _ => by cases q; exact .nil
  | p :: r, _, q, n => by
    cases q with
    | cons q t =>
      have n : noLs (p.2 :: r.map (·.2)) = true := n
      rw [noLs, Bool.and_eq_true] at n
      exact .cons ⟨q.1, dp_without h q.2 n.1⟩ (kvT_without h t n.2)
theorem dictOb_without (h : F a = some (.lst ws)) {kvs : List (D × D)} {tk : Bool} {u : HO} (q : DictOb K F kvs tk u) (n : noLs (kvs.map (·.2)) = true) : DictOb K (without F a) kvs tk u := by
  cases tk <;> cases u <;> first
    | exact kvK_without h q n
    | exact kvT_without h q n
    | exact q.elim
theorem ob_without (h : F a = some (.lst ws)) {c : Cell} {o : HO} (q : Ob K F c o) (n : noLC c = true) : Ob K (without F a) c o := by
  cases c with
  | od tk kvs => exact dictOb_without h q n
  | _ =>
    cases o <;> first
      | exact False.elim q
      | exact dpAll_without h q n
      | exact q
end
def beqKvs : List (D × D) → List (D × D) → Bool
  | [], [] => true
  | (k, d) :: r, (l, e) :: s => beqD k l && beqD d e && beqKvs r s
  | _, _ => false
theorem beqKvs_eq : ∀ {a b : List (D × D)}, beqKvs a b = true → a = b
  | [], [], _ => rfl
  | [], _ :: _, h => by simp [beqKvs] at h
  | _ :: _, [], h => by simp [beqKvs] at h
  | (k, d) :: r, (l, e) :: s, h => by
    simp only [beqKvs, Bool.and_eq_true] at h
    rw [beqD_eq h.1.1, beqD_eq h.1.2, beqKvs_eq h.2]
def beqC : Cell → Cell → Bool
  | .dead, .dead => true
  | .sh a, .sh b => beqD a b
  | .ol a, .ol b => beqDs a b
  | .od t a, .od u b => decide (t = u) && beqKvs a b
  | _, _ => false
theorem beqC_eq {a b : Cell} (h : beqC a b = true) : a = b := by
  cases a <;> cases b <;> first
    | rfl
    | (cases h; done)
    | (exact congrArg _ (beqD_eq h))
    | (exact congrArg _ (beqDs_eq h))
    | (have h := Bool.and_eq_true_iff.mp h; rw [of_decide_eq_true h.1, beqKvs_eq h.2])
/-- each cell has no list within, or is shared data as before -/
def lentOk : En → En → Bool
  | [], _ => true
  | c :: r, ρ => (noLC c || (match c, ρ with | .sh d, .sh e :: _ => beqD d e | _, _ => false)) && lentOk r ρ.tail
theorem lentOk_get : ∀ {ρ' ρ : En} {i : Nat} {c : Cell}, lentOk ρ' ρ = true → ρ'[i]? = some c → noLC c = true ∨ (∃ d, c = .sh d ∧ ρ[i]? = some (.sh d))
  | [], _, i, c, _, e => by simp at e
  | u :: r, ρ, 0, c, h, e => by
    simp at e; subst e
    simp only [lentOk, Bool.and_eq_true, Bool.or_eq_true] at h
    rcases h.1 with h1 | h1
    · exact .inl h1
    · cases u <;> cases ρ with
      | nil => cases h1
      | cons d s => cases d <;> first | (cases h1; done) | exact .inr ⟨_, rfl, by rw [beqD_eq h1]; rfl⟩
  | u :: r, ρ, i + 1, c, h, e => by
    simp only [lentOk, Bool.and_eq_true] at h
    have := lentOk_get (ρ' := r) (ρ := ρ.tail) (i := i) (c := c) h.2 (by simpa using e)
    rcases this with q | ⟨d, q1, q⟩
    · exact .inl q
    · cases ρ with
      | nil => simp at q
      | cons d s => exact .inr ⟨_, q1, by simpa using q⟩
theorem Con.lend {K : PySem.W.Frag} {B F F' H H' : Hp} {io : List (Nat × Addr)} {σ : St} {ρ ρ' : En} {j : Nat} {ds : List D} {a : Addr} {vs : List V} (c : Con K B F io σ H ρ) (h : ownL j ρ = some ds) (ha : σ[j]? = some (some (.ref a))) (hh : H a = some (.lst vs)) (dv : DpAll K F vs ds)
    (g : Gr B (upd F a (.lst vs)) F') (c' : Con K B F' io σ H' ρ') (ok : lentOk (ρ'.set j .dead) ρ = true) : Gr B F (without F' a) ∧ Con K B (without F' a) io σ H' (ρ'.set j (.ol ds)) ∧ F' a = some (.lst vs) := by
  obtain ⟨a0, o0, h1, h2, h3, h4, h5⟩ := c.own (ownL_eq h) rfl
  have ea : a0 = a := by rw [ha] at h1; cases h1; rfl
  subst ea
  have fa : F' a0 = some (.lst vs) := g.sub _ _ upd_same
  have sF : Same F (without F' a0) := fun b x e => by
    have nb : b ≠ a0 := fun z => by subst z; rw [h4] at e; cases e
    rw [without_ne nb]
    exact g.sub b x (by rw [upd_ne nb]; exact e)
  have sub : ∀ b x, without F' a0 b = some x → b ≠ a0 ∧ F' b = some x := fun b x e => by
    by_cases z : b = a0
    · subst z; rw [without_at] at e; cases e
    · rw [without_ne z] at e; exact ⟨z, e⟩
  have gr : Gr B F (without F' a0) := ⟨sF, fun b x e => by
    obtain ⟨nb, e⟩ := sub b x e
    rcases g.new b x e with q | q
    · rw [upd_ne nb] at q; exact .inl q
    · exact .inr q⟩
  have ha' : H' a0 = some (.lst vs) := c'.frz _ _ fa
  refine ⟨gr, ⟨by rw [List.length_set, c'.len], c'.base, fun b x e => c'.frz b x (sub b x e).2, fun i w hw => ?_, fun i i' w w' b q1 q2 o1 o2 t1 t2 => ?_, c'.io⟩, fa⟩
  · rcases get_set_cases hw with ⟨rfl, rfl, hl⟩ | ⟨ne, hw⟩
    · exact ⟨_, ha, (cellOk_own rfl).mpr ⟨a0, .lst vs, rfl, ha', dpAll_mono sF dv, without_at, h5⟩⟩
    · obtain ⟨y, hy, okc⟩ := c'.cell i w hw
      refine ⟨y, hy, ?_⟩
      have hset : (ρ'.set j .dead)[i]? = some w := by rw [List.getElem?_set_ne (Ne.symm ne)]; exact hw
      rcases lentOk_get ok hset with hn | ⟨d, rfl, hs⟩
      · by_cases how : isOwn w = true
        · rw [cellOk_own how] at okc ⊢
          obtain ⟨b, z, y1, y2, y3, y4, y5⟩ := okc
          refine ⟨b, z, y1, y2, ob_without fa y3 hn, ?_, y5⟩
          by_cases nb : b = a0
          · subst nb; exact without_at
          · rw [without_ne nb]; exact y4
        · cases w with
          | dead => trivial
          | sh d => obtain ⟨v, z1, z2⟩ := okc; exact ⟨v, z1, dp_without fa z2 hn⟩
          | fd tk kvs =>
            obtain ⟨p, ob, u, z1, z2, z3⟩ := okc
            exact ⟨p, ob, u, z1, by rw [without_ne (fun z => by subst z; rw [fa] at z2; cases z2)]; exact z2, dictOb_without fa z3 hn⟩
          | _ => exact absurd rfl how
      · obtain ⟨y2, hy2, ok2⟩ := c.cell i _ hs
        have ey : y2 = y := by rw [hy] at hy2; cases hy2; rfl
        subst ey
        obtain ⟨v, z1, z2⟩ := ok2
        exact ⟨v, z1, dp_mono sF z2⟩
  · have key : ∀ (i : Nat) (w : Cell), i ≠ j → ρ'[i]? = some w → isOwn w = true → σ[i]? ≠ some (some (.ref a0)) := fun i w ne hw how q => by
      obtain ⟨a1, o1, e1, _, _, e4, _⟩ := c'.own hw how
      rw [q] at e1
      cases e1
      rw [fa] at e4
      cases e4
    rcases get_set_cases q1 with ⟨rfl, rfl, _⟩ | ⟨ne1, g1⟩
    · rcases get_set_cases q2 with ⟨rfl, rfl, _⟩ | ⟨ne2, g2⟩
      · rfl
      · rw [ha] at t1
        cases t1
        exact absurd t2 (key i' w' ne2 g2 o2)
    · rcases get_set_cases q2 with ⟨rfl, rfl, _⟩ | ⟨ne2, g2⟩
      · rw [ha] at t2
        cases t2
        exact absurd t1 (key i w ne1 g1 o1)
      · exact c'.sep i i' w w' b g1 g2 o1 o2 t1 t2
/-! the wrappers: slot j is lent -/
def lendB (j : Nat) (ds : List D) (ρ ρ' : En) : Option En := if lentOk (ρ'.set j .dead) ρ = true then some (ρ'.set j (.ol ds)) else none
def eBor (j : Nat) (f : FE) : FE := fun ρ => (ownL j ρ).bind fun ds => (f (ρ.set j (.sh (.list ds)))).bind fun p => if noL p.1 = true then (lendB j ds ρ p.2).map fun ρ' => (p.1, ρ') else none
def eBorT (j : Nat) (f : FT) : FT := fun ρ => (ownL j ρ).bind fun ds => (f (ρ.set j (.sh (.list ds)))).bind fun p => (lendB j ds ρ p.2).map fun ρ' => (p.1, ρ')
def eBorN (j : Nat) (f : FN) : FN := fun ρ => (ownL j ρ).bind fun ds => (f (ρ.set j (.sh (.list ds)))).bind fun p => if noLC p.1 = true then (lendB j ds ρ p.2).map fun ρ' => (p.1, ρ') else none
theorem lendB_eq {j : Nat} {ds : List D} {ρ ρ' r : En} (h : lendB j ds ρ ρ' = some r) : lentOk (ρ'.set j .dead) ρ = true ∧ r = ρ'.set j (.ol ds) := by
  unfold lendB at h
  split at h
  · cases h; exact ⟨by assumption, rfl⟩
  · cases h
theorem se_bor {K : PySem.W.Frag} {t : TE} {f : FE} (j : Nat) (h : SE K t f) : SE K t (eBor j f) := by
  intro B F io σ H ρ d ρ' Q c e k
  obtain ⟨ds, z0, e⟩ := Option.bind_eq_some_iff.mp e
  obtain ⟨p, e1, e⟩ := Option.bind_eq_some_iff.mp e
  obtain ⟨a, vs, h1, h2, dv, g, dd, cf⟩ := c.freezeV (ownL_eq z0)
  by_cases hn : noL p.1 = true
  · rw [if_pos hn] at e
    obtain ⟨r, e2, e3⟩ := Option.map_eq_some_iff.mp e
    cases e3
    obtain ⟨ok, rfl⟩ := lendB_eq e2
    refine h B _ io σ H _ p.1 p.2 _ cf e1 fun F1 H1 v g1 c1 d1 => ?_
    obtain ⟨g2, c2, fa⟩ := Con.lend c z0 h1 h2 dv g1 c1 ok
    exact k _ H1 v g2 c2 (dp_without fa d1 hn)
  · rw [if_neg hn] at e; cases e
theorem st_bor {K : PySem.W.Frag} {t : TT} {f : FT} (j : Nat) (h : ST K t f) : ST K t (eBorT j f) := by
  intro B F io σ H ρ d ρ' Q c e k
  obtain ⟨ds, z0, e⟩ := Option.bind_eq_some_iff.mp e
  obtain ⟨p, e1, e⟩ := Option.bind_eq_some_iff.mp e
  obtain ⟨a, vs, h1, h2, dv, g, dd, cf⟩ := c.freezeV (ownL_eq z0)
  obtain ⟨r, e2, e3⟩ := Option.map_eq_some_iff.mp e
  cases e3
  obtain ⟨ok, rfl⟩ := lendB_eq e2
  refine h B _ io σ H _ p.1 p.2 _ cf e1 fun F1 H1 g1 c1 => ?_
  obtain ⟨g2, c2, fa⟩ := Con.lend c z0 h1 h2 dv g1 c1 ok
  exact k _ H1 g2 c2
theorem sn_bor {K : PySem.W.Frag} {t : TE} {f : FN} (j : Nat) (h : SN K t f) : SN K t (eBorN j f) := by
  intro B F io σ H ρ d ρ' Q c e k
  obtain ⟨ds, z0, e⟩ := Option.bind_eq_some_iff.mp e
  obtain ⟨p, e1, e⟩ := Option.bind_eq_some_iff.mp e
  obtain ⟨a, vs, h1, h2, dv, g, dd, cf⟩ := c.freezeV (ownL_eq z0)
  by_cases hn : noLC p.1 = true
  · rw [if_pos hn] at e
    obtain ⟨r, e2, e3⟩ := Option.map_eq_some_iff.mp e
    cases e3
    obtain ⟨ok, rfl⟩ := lendB_eq e2
    refine h B _ io σ H _ p.1 p.2 _ cf e1 fun F1 H1 b o g1 c1 hb ob fb bb no => ?_
    obtain ⟨g2, c2, fa⟩ := Con.lend c z0 h1 h2 dv g1 c1 ok
    have nb : b ≠ a := fun z => by subst z; rw [fa] at fb; cases fb
    refine k _ H1 b o g2 c2 hb (ob_without fa ob hn) (by rw [without_ne nb]; exact fb) bb fun i w hw how q => ?_
    rcases get_set_cases hw with ⟨rfl, rfl, _⟩ | ⟨ne, hw⟩
    · rw [h1] at q; cases q; exact nb rfl
    · exact no i w hw how q
  · rw [if_neg hn] at e; cases e
theorem de_bor {X : Cx} {e : Expr} {t : TE} {f : FE} (j : Nat) (h : DE X e t f) : DE X e t (eBor j f) := ⟨h.pe, se_bor j h.se⟩
theorem dt_bor {X : Cx} {e : Expr} {t : TT} {f : FT} (j : Nat) (h : DT X e t f) : DT X e t (eBorT j f) := ⟨h.pe, st_bor j h.se⟩
theorem dn_bor {X : Cx} {e : Expr} {t : TE} {f : FN} (j : Nat) (h : DN X e t f) : DN X e t (eBorN j f) := ⟨h.pe, sn_bor j h.se⟩
end L2.Pd

namespace L2.Pd
open PySem PySem.Spec PyProof.Rows
/-! ## A def as its callers know it -/
/-- the text's def x, as the top has left it -/
structure Src (K : PySem.W.Frag) (mg : Str → Option Value) (x : Str) (st : Stmt) (ps : List Str) : Prop where
  ex : ∃ (f : Addr) (fd : FuncData), Fun K x x st f fd ∧ mg x = some (.ref f) ∧ Binds K fd ps []
/-- the def x keeps the promise m -/
structure Cal (P : Program) (w : World) (K : PySem.W.Frag) (mg : Str → Option Value) (base : Heap) (k : Nat) (x : Str) (ps : List Str) (ios : List Nat) (m : FnS) : Prop where
  ex : ∃ (f : Addr) (fd : FuncData), FnD P w K mg base k f fd ps ios m ∧ mg x = some (.ref f) ∧ PySem.W.keepIn K (.ref f) = true ∧ Binds K fd ps []
section
variable {P : Program} {w : World} {K : PySem.W.Frag} {mg : Str → Option Value} {base : Heap}
theorem pd_cal {x : Str} {st : Stmt} {N ps : List Str} {k : Nat} (ios : List Nat) {n : Nat} {body : FS} (S : Src K mg x st ps) (C : FnScope N ps (defScope st)) (hn : N.length = n := by rfl)
    (hbody : ∀ (f : Addr) (cdv : Value) (A : Around) (outer : List Env) (s : Shared) (H : Hp) (E : XK), Room k (A.deeper (envOfC x (defScope st) s.heap.objs.size f cdv)) →
      ∃ t, DSs (cxOf CX0 P w K mg base N x (defScope st) f cdv A outer s H E).nox ios (defBody st) t body) :
    Cal P w K mg base (k + 1) x ps ios (fnSem n ios body) := by
  subst hn
  obtain ⟨f, fd, F, hm, hb⟩ := S.ex
  refine ⟨f, fd, pd_fn ios F C (fun cs r _ hl => ?_) (hbody f), hm, F.kp, hb⟩
  rw [hl, ← C.pre, List.length_take]
  exact Nat.min_le_right _ _
theorem pd_fnN {x : Str} {st : Stmt} {f : Addr} {fd : FuncData} {N ps : List Str} {k : Nat} (ios : List Nat) {n : Nat} {body : FS} (Fn : Fun K x x st f fd) (C : FnScope N ps (defScope st)) (hn : N.length = n := by rfl)
    (hbody : ∀ (cdv : Value) (A : Around) (outer : List Env) (s : Shared) (H : Hp) (E : XK), Room k (A.deeper (envOfC x (defScope st) s.heap.objs.size f cdv)) →
      ∃ t, DSs (cxOf CX0 P w K mg base N x (defScope st) f cdv A outer s H E).nox ios (defBody st) t body) : FnD P w K mg base (k + 1) f fd ps ios (fnSem n ios body) := by
  subst hn
  refine pd_fn ios Fn C (fun cs r _ hl => ?_) hbody
  rw [hl, ← C.pre, List.length_take]
  exact Nat.min_le_right _ _
theorem src_mk {x : Str} {st : Stmt} {ps : List Str} {f : Addr} {oc : Value} {od an : Option Addr} {osl : Array (Option Value)} {kV doc pm cdv ct : Value} (hm : mg x = some (.ref f)) (l : K.lookup f = some ⟨oc, od, .func (PySem.W.fnOf x x (defArgs st) (defBody st) (defScope st) .none kV doc pm an cdv ct), osl⟩)
    (c : PySem.W.codeIn K cdv x = true) (k : PySem.W.keepIn K (.ref f) = true)
    (h : ∀ (kV doc pm : Value) (an : Option Addr) (cdv ct : Value) (us : List Value), us.length = ps.length → bindArgs (PySem.W.fnOf x x (defArgs st) (defBody st) (defScope st) .none kV doc pm an cdv ct) ⟨us, []⟩ = pure (ps.zip us)) : Src K mg x st ps := by
  have F := fun_mk l c k
  exact ⟨f, _, F, hm, F.binds h⟩
theorem cal_none {x : Str} {st : Stmt} {ps : List Str} {k : Nat} {ios : List Nat} (S : Src K mg x st ps) : Cal P w K mg base k x ps ios (fun _ => none) := by
  obtain ⟨f, fd, F, hm, hb⟩ := S.ex
  refine ⟨f, fd, ⟨fun vs H Q E h => ?_, fun A outer s H args us vs Q E hr => ?_⟩, hm, F.kp, hb⟩
  · exact h.1
  · rintro - - - ⟨-, F, cs, cs', r, -, -, hm, -⟩
    cases hm
theorem Cal.cast {j k : Nat} {x : Str} {ps : List Str} {ios : List Nat} {m : FnS} (h : Cal P w K mg base k x ps ios m) (e : k = j) : Cal P w K mg base j x ps ios m := e ▸ h
/-- a constant of the module -/
structure Kon (K : PySem.W.Frag) (mg : Str → Option Value) (x : Str) (v : V) (d : D) : Prop where
  ex : ∃ (u : Value), mg x = some u ∧ RelV v u ∧ ∀ F, Dp K F v d
/-- a tuple that the top has written -/
theorem kon_tup {h : Heap} {x : Str} {a : Addr} {its : Array Value} {n : Nat} {od : Option Addr} {sl : Array (Option Value)} {xs : List V} {ds : List D} (X : K.In h) (G : h.Ns mainGlobals mg) (e : PySem.W.nsIn K mainGlobals x = some (some (.ref a))) (l : K.lookup a = some ⟨.type "tuple", od, .seq its n, sl⟩)
    (hs : its.size ≤ sizeLine) (hv : Vals xs its.toList) (hd : ∀ F, DpAll K F xs ds) : Kon K mg x (.ref a) (.tuple ds) :=
  ⟨_, PySem.W.mg_of X G e, rfl, fun F => .tup (.inr ⟨_, its, n, l, rfl, rfl, hs, hv⟩) (hd F)⟩
end
section
variable {X : Cx} {k : Nat} {ps : List Str} {m : FnS} {x : Str} {p pos : Pos} {e : Expr} {es : List Expr} {t : TA} {fa : FA} {fr : FR} {i0 j : Nat} {sh : List Bool}
theorem dc_cal0 (C : Cal X.prog X.w X.K X.mg X.base k x ps [] m) (hr : Room k X.A) (ha : DA X (e :: es) t fa) (hn : aLen fa ps.length) (hg : Gl X x := by rfl)
    (hdb : (x == ("__debug__" : Str)) = false := by decide) (he : starEach (e :: es) X.env = (false, eval e X.env) :: starEach es X.env := by rfl) (hpl : (backTo pos (starEach es X.env)).any (·.1) = false := by rfl) :
    DC X (.Call (.Name x p) (e :: es) [] pos) (tCall (fun vs H Q E => vs.length = ps.length ∧ spD X.K [] m vs H Q E) [] E0 t) (eCall0 m fa) := by
  obtain ⟨f, fd, F, hm, hk, hb⟩ := C.ex
  exact dc_call0 F hr hm hk hb ha hn hg hdb he hpl
theorem dc_cal00 (C : Cal X.prog X.w X.K X.mg X.base k x ps [] m) (hr : Room k X.A) (hn : ps.length = 0 := by rfl) (hg : Gl X x := by rfl)
    (hdb : (x == ("__debug__" : Str)) = false := by decide) :
    DC X (.Call (.Name x p) [] [] pos) (tCall (fun vs H Q E => vs.length = ps.length ∧ spD X.K [] m vs H Q E) [] E0 tNil) (eCall0 m aNil) := by
  obtain ⟨f, fd, F, hm, hk, hb⟩ := C.ex
  exact dc_call00 F hr hm hk hb hn hg hdb
theorem dc_cal1 (C : Cal X.prog X.w X.K X.mg X.base k x ps [i0] m) (hr : Room k X.A) (ha : DR X j sh (e :: es) t fr) (hsh : shapeOk i0 sh = true := by decide) (hn : sh.length = ps.length := by decide) (hg : Gl X x := by rfl)
    (hdb : (x == ("__debug__" : Str)) = false := by decide) (he : starEach (e :: es) X.env = (false, eval e X.env) :: starEach es X.env := by rfl) (hpl : (backTo pos (starEach es X.env)).any (·.1) = false := by rfl) :
    DC X (.Call (.Name x p) (e :: es) [] pos) (tCall (fun vs H Q E => vs.length = ps.length ∧ spD X.K [i0] m vs H Q E) [] E0 t) (eCall1 i0 j m fr) := by
  obtain ⟨f, fd, F, hm, hk, hb⟩ := C.ex
  exact dc_call1 F hr hm hk hb ha hsh hn hg hdb he hpl
theorem de_kon {v : V} {d : D} (C : Kon X.K X.mg x v d) (hg : Gl X x := by rfl) (hd : (x == ("__debug__" : Str)) = false := by decide) : DE X (.Name x pos) (tC v) (eC d) := by
  obtain ⟨u, hm, r, h⟩ := C.ex
  exact de_glob hm r h hg hd
theorem hu_of' {A : Around} {k : Nat} (hr : Room k A) : A.units + 100 < cLine := by have := hr.un; omega
end
/-! ## x op= e for ints and texts -/
section
variable {X : Cx} {K : PySem.W.Frag}
abbrev rIaddD : R2 := fun x y H Q => rI0 (fun i j => .int (i + j)) x y H Q ∨ (∃ i j, x = .str i ∧ y = .str j ∧ i.length + j.length ≤ sizeLine ∧ Q (.str (i ++ j)) H)
theorem ip_addD : OpR X (inplaceOp .Add) rIaddD := iop_add.or iop_add_str
def dIadd : D → D → Option D
  | .int a, .int b => some (.int (a + b))
  | .str a, .str b => if a.length + b.length ≤ sizeLine then some (.str (a ++ b)) else none
  | _, _ => none
theorem v_iadd : Op2 K rIaddD dIadd := by
  intro F H x y dx dy d Q s hx hy e k
  cases hx with
  | int a =>
    cases hy with
    | int b => cases e; exact .inl ⟨a, b, rfl, rfl, k F H _ (Al.refl s) (.int _)⟩
    | _ => cases e
  | str a =>
    cases hy with
    | str b =>
      have e : (if a.length + b.length ≤ sizeLine then some (PyData.str (a ++ b)) else none) = some d := e
      by_cases hz : a.length + b.length ≤ sizeLine
      · rw [if_pos hz] at e; cases e
        exact .inr ⟨a, b, rfl, rfl, hz, k F H _ (Al.refl s) (.str _)⟩
      · rw [if_neg hz] at e; cases e
    | _ => cases e
  | _ => cases e
theorem ip_subD : OpR X (inplaceOp .Sub) (rI0 fun i j => .int (i - j)) := iop_sub
theorem ip_mulD : OpR X (inplaceOp .Mult) (rI IntMulOk fun i j => .int (i * j)) := opI fun _ _ _ _ _ _ _ hc q => imul_int q hc
theorem ip_fdivD : OpR X (inplaceOp .FloorDiv) (rI CFd fun i j => .int (i.fdiv j)) := opI fun _ _ _ _ _ _ _ hc q => ifloordiv_int hc.1 q (.inl hc.2)
theorem ip_modD : OpR X (inplaceOp .Mod) (rI (fun _ j => j ≠ 0) fun i j => .int (i.fmod j)) := opI fun _ _ _ _ _ _ _ hc q => imod_int hc q
/-! ### lists: a + b -/
def rCatL (K : PySem.W.Frag) : R2 := fun x y H Q => ∃ l b xs zs, x = .ref l ∧ y = .ref b ∧ SqL K H l xs ∧ SqL K H b zs ∧ xs.length + zs.length ≤ sizeLine ∧ ∀ p, H p = none → Q (.ref p) (upd H p (.lst (xs ++ zs)))
theorem op_addL : OpR X (binaryOp .Add) (rCatL X.K) := by
  intro pins s σ H x y v u Q I rx ry h
  obtain ⟨l, b, xs, zs, rfl, rfl, hH, hB, hz, q⟩ := h
  cases rx
  cases ry
  obtain ⟨its, r, ht, _⟩ := I.list hH
  obtain ⟨its2, r2, ht2, _⟩ := I.list hB
  have e1 := r.length
  have e2 := r2.length
  obtain ⟨⟨cls, dd, data, sl⟩, ho, hc, n, hd⟩ := ht.isList
  obtain ⟨⟨cls2, dd2, data2, sl2⟩, ho2, hc2, n2, hd2⟩ := ht2.isList
  simp only at hc hd hc2 hd2
  subst hc hd hc2 hd2
  have ea : its.toArray ++ its2.toArray = (its ++ its2).toArray := by simp
  refine concat_meets ⟨_, ho, rfl⟩ ⟨_, ho2, rfl⟩ noFill_list_add seq_list_add PySem.F.slot_list_add PySem.F.entry_list_add (PySem.F.args_list_add_2 _ _) (list_addW l b its.toArray its2.toArray n n2 dd dd2 sl sl2 (by rw [List.size_toArray, List.size_toArray]; omega)) ⟨ho, ho2, ?_⟩
  rw [ea]
  exact ⟨.ref _, _, I.lnew (t' := s.toks) (r.append r2) (by rw [List.length_append]; omega), rfl, q _ I.fresh⟩
def dAddL : D → D → Option Cell
  | .list a, .list b => if a.length + b.length ≤ sizeLine then some (.ol (a ++ b)) else none
  | _, _ => none
theorem v_addL : Op2N K (rCatL K) dAddL := by
  intro F H x y dx dy c Q s hx hy e k
  cases hx with
  | @lst a xs ds q1 r1 =>
    cases hy with
    | @lst b ys es q2 r2 =>
      have e : (if ds.length + es.length ≤ sizeLine then some (Cell.ol (ds ++ es)) else none) = some c := e
      by_cases hz : ds.length + es.length ≤ sizeLine
      · rw [if_pos hz] at e; cases e
        refine ⟨a, b, xs, ys, rfl, rfl, s.seq q1, s.seq q2, by rw [r1.length, r2.length]; exact hz, fun p np => ?_⟩
        exact k F _ p (.lst (xs ++ ys)) (Al.laidH s np) upd_same (r1.append r2) (s.free np) np
      · rw [if_neg hz] at e; cases e
    | _ => cases e
  | _ => cases e
/-- a + b of ints, texts, tuples; of lists, frozen -/
abbrev rAddA (K : PySem.W.Frag) : R2 := fun x y H Q => rAddD K x y H Q ∨ rCatL K x y H Q
theorem op_addA : OpR X (binaryOp .Add) (rAddA X.K) := op_addD.or op_addL
def dAddA : D → D → Option D
  | .list a, .list b => if a.length + b.length ≤ sizeLine then some (.list (a ++ b)) else none
  | a, b => dAdd a b
theorem v_addA : Op2 K (rAddA K) dAddA := by
  intro F H x y dx dy d Q s hx hy e k
  by_cases hl : ∃ a b, dx = .list a ∧ dy = .list b
  · obtain ⟨a, b, rfl, rfl⟩ := hl
    refine .inr (v_addL.frz F H x y _ _ d Q s hx hy ?_ k)
    have e : (if a.length + b.length ≤ sizeLine then some (PyData.list (a ++ b)) else none) = some d := e
    show (if a.length + b.length ≤ sizeLine then some (Cell.ol (a ++ b)) else none).bind frzC = some d
    by_cases hz : a.length + b.length ≤ sizeLine
    · rw [if_pos hz] at e ⊢; exact e
    · rw [if_neg hz] at e; cases e
  · refine .inl (v_add F H x y dx dy d Q s hx hy ?_ k)
    cases dx <;> cases dy <;> first | exact e | exact absurd ⟨_, _, rfl, rfl⟩ hl
/-! ### list * int, the list new -/
def eRepN (fa : FN) (fb : FE) : FN := fun ρ => (fa ρ).bind fun p => (fb p.2).bind fun q => match p.1, q.1 with
  | .ol ds, .int n => if -(2 ^ 63) ≤ n ∧ n < 2 ^ 63 ∧ ds.length * n.toNat ≤ sizeLine then some (.ol (List.replicate n.toNat ds).flatten, q.2) else none
  | _, _ => none
theorem _root_.L2.DpAll.rep {F : Hp} {vs : List V} {ds : List D} (h : DpAll K F vs ds) : ∀ n : Nat, DpAll K F (List.replicate n vs).flatten (List.replicate n ds).flatten
  | 0 => .nil
  | n + 1 => by
    rw [List.replicate_succ, List.replicate_succ, List.flatten_cons, List.flatten_cons]
    exact h.append (DpAll.rep h n)
/-! ### list.insert -/
abbrev rInsertD : V → List V → Hp → VK → Prop := fun x vs H Q => ∃ (l : Addr) (xs : List V) (i : Int) (y : V), x = .ref l ∧ vs = [.int i, y] ∧ H l = some (.lst xs) ∧ xs.length < sizeLine ∧ 0 ≤ i ∧ i < 2 ^ 63 ∧ Q .non (upd H l (.lst (xs.take i.toNat ++ [y] ++ xs.drop i.toNat)))
theorem l_insert : OpL K rInsertD lInsert := by
  intro F H a vs xs ds es z Q h d1 d2 e k
  match es, d2, e with
  | [.int i, x], d2, e =>
    obtain ⟨v1, v, rfl, dv1, dv⟩ := two_of d2
    cases dv1
    have e : (if ds.length < sizeLine ∧ 0 ≤ i ∧ i < 2 ^ 63 then some (PyData.none, ds.take i.toNat ++ x :: ds.drop i.toNat) else none) = some z := e
    by_cases hz : ds.length < sizeLine ∧ 0 ≤ i ∧ i < 2 ^ 63
    · rw [if_pos hz] at e; cases e
      refine ⟨a, vs, i, v, rfl, rfl, h, by rw [d1.length]; exact hz.1, hz.2.1, hz.2.2, k _ _ .non ?_⟩
      have := ((d1.take i.toNat).append (DpAll.one dv)).append (d1.drop i.toNat)
      simpa using this
    · rw [if_neg hz] at e; cases e
end
/-! ## The law's own head -/
theorem law_sp {K : PySem.W.Frag} {m : FnS} {a : Addr} {H : Hp} {ns : List Int} {E : XK} (hS : SqL K H a (ns.map V.int)) (hm : ∃ z, m [.sh (.list (ns.map .int))] = some (.sh (.bool true), z)) : [V.ref a].length = ["script"].length ∧ spD K [] m [.ref a] H (fun v _ => v = .bl true) E := by
  obtain ⟨z, hm⟩ := hm
  refine ⟨rfl, H, _, z, _, Same.refl H, rfl, hm, fun i c hc _ => ?_, fun i hi => absurd hi (List.not_mem_nil), fun i j b hi => absurd hi (List.not_mem_nil), ?_⟩
  · match i, hc with
    | 0, hc => cases hc; exact ⟨.ref a, _, rfl, rfl, .lst hS (dp_ints ns)⟩
  · intro F' H' v _ _ _ _ ret _
    cases ret
    rfl
end L2.Pd

namespace L2.Pd
open PySem PySem.Spec PyProof.Rows
/-! ## Comprehensions, the readings of their parts told per entry -/
section
variable {X : Cx} {elt tg iter : Expr} {ifs : List Expr} {scope : Scope} {own : List (Str × Nat)} {pos : Pos} {wi : TI} {lk : Option Nat} {fi : FA} {ws : List Nat} {g1 : FG} {fc : FT} {fe : FE} {L : List Nat}
  {t1 : Shared → Hp → Addr → List (Str × Addr) → List Addr → TG} {tt : Shared → Hp → Addr → List (Str × Addr) → List Addr → TT} {te : Shared → Hp → Addr → List (Str × Addr) → List Addr → TE}
theorem dn_compX (hcm : X.calm = true) (hN : X.N.Nodup) (hi : DI X lk tg iter wi fi) (ok : BlkOk X.N X.env.scope scope own)
    (hg : ∀ (s : Shared) (H : Hp) (C : Addr) (cl : List (Str × Addr)) (fp : List Addr), DG (X.blk s H scope (compEnvC scope cl C X.env) fp) [] ws tg (t1 s H C cl fp) g1) (ht : ∀ (s : Shared) (H : Hp) (C : Addr) (cl : List (Str × Addr)) (fp : List Addr), DTs (X.blk s H scope (compEnvC scope cl C X.env) fp) ifs (tt s H C cl fp) fc)
    (he : ∀ (s : Shared) (H : Hp) (C : Addr) (cl : List (Str × Addr)) (fp : List Addr), DE (X.blk s H scope (compEnvC scope cl C X.env) fp) elt (te s H C cl fp) fe) (hw : ∀ i ∈ ws, i ∈ own.map (·.2) := by decide) (hlv : ∀ j, lk = some j → j ∉ own.map (·.2) := by decide) (hs : ∀ x, foldedSetIterable iter X.env x = pure x := by intro _; rfl)
    (h1 : ∀ s H C cl fp, t1 s H C cl fp = t1 X.s_0 X.H_0 0 [] [] := by exact fun _ _ _ _ _ => rfl) (h2 : ∀ s H C cl fp, tt s H C cl fp = tt X.s_0 X.H_0 0 [] [] := by exact fun _ _ _ _ _ => rfl) (h3 : ∀ s H C cl fp, te s H C cl fp = te X.s_0 X.H_0 0 [] [] := by exact fun _ _ _ _ _ => rfl) :
    DN X (.ListComp elt [⟨tg, iter, ifs, 0⟩] scope pos) (tLc wi (t1 X.s_0 X.H_0 0 [] []) (tt X.s_0 X.H_0 0 [] []) (te X.s_0 X.H_0 0 [] []) (own.map (·.2))) (eComp lk (own.map (·.2)) fi g1 fc fe) :=
  dn_comp hcm hN hi ok (fun s H C cl fp => h1 s H C cl fp ▸ hg s H C cl fp) (fun s H C cl fp => h2 s H C cl fp ▸ ht s H C cl fp) (fun s H C cl fp => h3 s H C cl fp ▸ he s H C cl fp) hw hlv hs
theorem ds_setCompNX {i : Nat} {y : Str} {py spos : Pos} (hcm : X.calm = true) (hN : X.N.Nodup) (hi : DI X lk tg iter wi fi) (ok : BlkOk X.N X.env.scope scope own)
    (hg : ∀ (s : Shared) (H : Hp) (C : Addr) (cl : List (Str × Addr)) (fp : List Addr), DG (X.blk s H scope (compEnvC scope cl C X.env) fp) [] ws tg (t1 s H C cl fp) g1) (ht : ∀ (s : Shared) (H : Hp) (C : Addr) (cl : List (Str × Addr)) (fp : List Addr), DTs (X.blk s H scope (compEnvC scope cl C X.env) fp) ifs (tt s H C cl fp) fc)
    (he : ∀ (s : Shared) (H : Hp) (C : Addr) (cl : List (Str × Addr)) (fp : List Addr), DE (X.blk s H scope (compEnvC scope cl C X.env) fp) elt (te s H C cl fp) fe) (hy : X.N[i]? = some y := by rfl) (hyl : X.env.scope.names.lookup y = some .local := by rfl)
    (hsw : swapsWith (.ListComp elt [⟨tg, iter, ifs, 0⟩] scope pos) (some (.Name y py)) spos.line X.env = pure true := by exact sw_true rfl rfl rfl (by decide +kernel))
    (hw : ∀ i ∈ ws, i ∈ own.map (·.2) := by decide) (hlv : ∀ j, lk = some j → j ∉ own.map (·.2) := by decide) (hl : i ∉ L := by decide) (hs : ∀ x, foldedSetIterable iter X.env x = pure x := by intro _; rfl)
    (h1 : ∀ s H C cl fp, t1 s H C cl fp = t1 X.s_0 X.H_0 0 [] [] := by exact fun _ _ _ _ _ => rfl) (h2 : ∀ s H C cl fp, tt s H C cl fp = tt X.s_0 X.H_0 0 [] [] := by exact fun _ _ _ _ _ => rfl) (h3 : ∀ s H C cl fp, te s H C cl fp = te X.s_0 X.H_0 0 [] [] := by exact fun _ _ _ _ _ => rfl) :
    DS X L (.Assign [.Name y py] (.ListComp elt [⟨tg, iter, ifs, 0⟩] scope pos) spos) (tAsg (tLc wi (t1 X.s_0 X.H_0 0 [] []) (tt X.s_0 X.H_0 0 [] []) (te X.s_0 X.H_0 0 [] []) (own.map (·.2))) (gName i)) (sSetN i (eComp lk (own.map (·.2)) fi g1 fc fe)) :=
  ds_setCompN hcm hN hi ok (fun s H C cl fp => h1 s H C cl fp ▸ hg s H C cl fp) (fun s H C cl fp => h2 s H C cl fp ▸ ht s H C cl fp) (fun s H C cl fp => h3 s H C cl fp ▸ he s H C cl fp) hy hyl hsw hw hlv hl hs
theorem ds_setCompX {i : Nat} {y : Str} {py spos : Pos} (hcm : X.calm = true) (hN : X.N.Nodup) (hi : DI X lk tg iter wi fi) (ok : BlkOk X.N X.env.scope scope own)
    (hg : ∀ (s : Shared) (H : Hp) (C : Addr) (cl : List (Str × Addr)) (fp : List Addr), DG (X.blk s H scope (compEnvC scope cl C X.env) fp) [] ws tg (t1 s H C cl fp) g1) (ht : ∀ (s : Shared) (H : Hp) (C : Addr) (cl : List (Str × Addr)) (fp : List Addr), DTs (X.blk s H scope (compEnvC scope cl C X.env) fp) ifs (tt s H C cl fp) fc)
    (he : ∀ (s : Shared) (H : Hp) (C : Addr) (cl : List (Str × Addr)) (fp : List Addr), DE (X.blk s H scope (compEnvC scope cl C X.env) fp) elt (te s H C cl fp) fe) (hy : X.N[i]? = some y := by rfl) (hyl : X.env.scope.names.lookup y = some .local := by rfl)
    (hsw : swapsWith (.ListComp elt [⟨tg, iter, ifs, 0⟩] scope pos) (some (.Name y py)) spos.line X.env = pure true := by exact sw_true rfl rfl rfl (by decide +kernel))
    (hw : ∀ i ∈ ws, i ∈ own.map (·.2) := by decide) (hlv : ∀ j, lk = some j → j ∉ own.map (·.2) := by decide) (hl : i ∉ L := by decide) (hs : ∀ x, foldedSetIterable iter X.env x = pure x := by intro _; rfl)
    (h1 : ∀ s H C cl fp, t1 s H C cl fp = t1 X.s_0 X.H_0 0 [] [] := by exact fun _ _ _ _ _ => rfl) (h2 : ∀ s H C cl fp, tt s H C cl fp = tt X.s_0 X.H_0 0 [] [] := by exact fun _ _ _ _ _ => rfl) (h3 : ∀ s H C cl fp, te s H C cl fp = te X.s_0 X.H_0 0 [] [] := by exact fun _ _ _ _ _ => rfl) :
    DS X L (.Assign [.Name y py] (.ListComp elt [⟨tg, iter, ifs, 0⟩] scope pos) spos) (tAsg (tLc wi (t1 X.s_0 X.H_0 0 [] []) (tt X.s_0 X.H_0 0 [] []) (te X.s_0 X.H_0 0 [] []) (own.map (·.2))) (gName i)) (sSet i (eFrz (eComp lk (own.map (·.2)) fi g1 fc fe))) :=
  ds_setComp hcm hN hi ok (fun s H C cl fp => h1 s H C cl fp ▸ hg s H C cl fp) (fun s H C cl fp => h2 s H C cl fp ▸ ht s H C cl fp) (fun s H C cl fp => h3 s H C cl fp ▸ he s H C cl fp) hy hyl hsw hw hlv hl hs
end
end L2.Pd

namespace L2.Pd
open PySem PySem.Spec PyProof.Rows
/-! ## x[::-1] -/
section
variable {prog : Program} {w : World} {A : Around} {E : Value → Shared → Prop} {s : Shared}
theorem adjust_rev (n : Nat) : Builtin.Slice.sliceAdjust none none (-1) (n : Int) = ((n : Int) - 1, -1) := rfl
theorem places_rev (n : Nat) : Builtin.Slice.slicePlaces ((n : Int) - 1) (-1) (-1) = n := by
  unfold Builtin.Slice.slicePlaces
  have h1 : ¬ ((-1 : Int) > 0) := by decide
  rw [if_neg h1]
  have e : (- (-1) : Int) = 1 := by decide
  rw [e, Int.ediv_one]
  split <;> omega
theorem sliceApplied_rev {sl : Addr} {vk : Value} {n : Nat} {Q : Int × Int × Nat → Shared → Prop} (hs : s.heap.IsSliceOf sl .none .none vk) (ps : IsPart vk (some (-1)))
    (h : Q ((n : Int) - 1, -1, n) s) : wpAny (model prog w) A (Builtin.Slice.sliceApplied (.ref sl) (pure (n : Int))) Q E s := by
  obtain ⟨os, hos, hcs, hds⟩ := id hs
  unfold Builtin.Slice.sliceApplied Builtin.Slice.sliceFields
  refine wpAny_bind (wpAny_bind (wpAny_field hos hds (x := .none) rfl (wpAny_bind (wpAny_field hos hds (x := .none) rfl (wpAny_bind (wpAny_field hos hds (x := vk) rfl (wpAny_pure ?_)))))))
  refine wpAny_bind (HT.slicePart_ ps ?_)
  show wpAny _ _ (if ((-1 : Int) == 0) = true then _ else _) _ _ s
  rw [if_neg (by decide)]
  refine wpAny_bind (slicePart_none (wpAny_bind (slicePart_none (wpAny_bind (wpAny_pure ?_)))))
  show wpAny _ _ (match Builtin.Slice.sliceAdjust none none (-1) (n : Int) with | (lo, hi) => pure (lo, (-1 : Int), Builtin.Slice.slicePlaces lo hi (-1))) _ _ s
  rw [adjust_rev]
  show wpAny _ _ (pure ((n : Int) - 1, (-1 : Int), Builtin.Slice.slicePlaces ((n : Int) - 1) (-1) (-1))) _ _ s
  rw [places_rev]
  exact wpAny_pure h
theorem fm_congr {α β : Type} {f g : α → Option β} : ∀ {l : List α}, (∀ x ∈ l, f x = g x) → l.filterMap f = l.filterMap g
  | [], _ => rfl
  | x :: r, h => by rw [List.filterMap_cons, List.filterMap_cons, h x List.mem_cons_self, fm_congr fun y hy => h y (List.mem_cons_of_mem _ hy)]
theorem pick_rev (xs : Array Value) : ((List.range xs.size).filterMap fun (m : Nat) => xs[(((xs.size : Nat) : Int) - 1 + (m : Int) * (-1)).toNat]?).toArray = xs.toList.reverse.toArray := by
  have e : (List.range xs.size).filterMap (fun (m : Nat) => xs[(((xs.size : Nat) : Int) - 1 + (m : Int) * (-1)).toNat]?) = ((List.range xs.size).map fun k => xs.size - 1 - k).filterMap (xs[·]?) := by
    rw [List.filterMap_map]
    refine fm_congr fun m hm => ?_
    have := List.mem_range.mp hm
    show xs[(((xs.size : Nat) : Int) - 1 + (m : Int) * (-1)).toNat]? = xs[xs.size - 1 - m]?
    have : (((xs.size : Nat) : Int) - 1 + (m : Int) * (-1)).toNat = xs.size - 1 - m := by omega
    rw [this]
  rw [e, PySem.W.krv_range, List.filterMap_reverse, PySem.W.krv_all]
theorem getItem_tuple_rev {t sl : Addr} {items : Array Value} {vk : Value} {Q : Value → Shared → Prop} (ht : IsTup s.heap t items) (hs : s.heap.IsSliceOf sl .none .none vk) (ps : IsPart vk (some (-1)))
    (h : Q (.ref s.heap.objs.size) { s with heap := s.heap.push { cls := .type "tuple", data := .seq items.toList.reverse.toArray } })
    (hsz : items.size ≤ sizeLine) : wpAny (model prog w) A (getItem (.ref t) (.ref sl)) Q E s := by
  have htake : sizeOk (.seq items.toList.reverse.toArray) := by
    show items.toList.reverse.toArray.size ≤ sizeLine
    rw [List.size_toArray, List.length_reverse, Array.length_toList]
    exact hsz
  obtain ⟨os, hos, hcs, hds⟩ := id hs
  have hTs : s.TypeIs (.ref sl) "slice" := ⟨os, hos, hcs⟩
  unfold getItem
  try with_reducible refine wpAny_holding ?_
  first | refine wpAny_bind (wpAny_pure ?_) | skip
  refine wpAny_bind (wpAny_sequenceKey ht.typeIs (by decide) ?_)
  refine wpAny_bind (wpAny_callSpecial?_slot (name := Str.ofString "__getitem__") ht.typeIs PyProof.Rows.slot_tuple_getitem
    (wpAny_call_entry PyProof.Rows.slot_tuple_getitem ht.typeIs entry_tuple_getitem ?_ (args_tuple_getitem _ _)))
  show wpAny _ _ (Builtin.Tuple.tupleItemsOf (.ref t) >>= _) _ _ s
  refine wpAny_bind (tupleItemsOf_ ht ?_)
  refine wpAny_bind (wpAny_typeOf hTs ?_)
  rw [if_pos (by decide)]
  refine wpAny_bind (sliceApplied_rev hs ps ?_)
  have hno : ¬ ((((items.size : Int) - 1 == 0 && (-1 : Int) == 1 && items.size == items.size)) = true) := by
    intro q
    rw [Bool.and_eq_true, Bool.and_eq_true] at q
    exact absurd q.1.2 (by decide)
  show wpAny _ _ (if ((((items.size : Int) - 1 == 0 && (-1 : Int) == 1 && items.size == items.size)) = true) then _ else _) _ _ s
  rw [if_neg hno, pick_rev]
  first
    | exact wpAny_bind (m := Builtin.Tuple.tupleExact _) (wpAny_newObj_type (wpAny_pure ⟨_, rfl, wpAny_pure h⟩) htake)
    | exact wpAny_bind (m := Builtin.Tuple.tupleExact _) (wpAny_newObj_type (wpAny_bind (wpAny_pure (wpAny_pure ⟨_, rfl, wpAny_pure h⟩))) htake)
    | exact wpAny_bind (wpAny_bind (m := Builtin.Tuple.tupleExact _) (wpAny_newObj_type (wpAny_pure (wpAny_pure ⟨_, rfl, wpAny_pure h⟩)) htake))
    | exact wpAny_bind (wpAny_bind (m := Builtin.Tuple.tupleExact _) (wpAny_newObj_type (wpAny_pure ⟨_, rfl, wpAny_pure h⟩) htake))
end
def revS (z : Str) : Str := ⟨z.cps.reverse⟩
theorem revS_len (z : Str) : (revS z).length = z.length := by show z.cps.reverse.size = z.cps.size; rw [Array.size_reverse]
theorem indices_rev (n : Nat) : Builtin.Str.strSliceIndices none none (-1) n = (List.range n).map fun k => n - 1 - k := by
  have : Builtin.Str.strSliceIndices none none (-1) n = sliceRange ((n : Int) - 1) (-1) (-1) := rfl
  rw [this, PySem.W.krv_sliceRange]
theorem picked_rev (z : Str) : ((Builtin.Str.strSliceIndices none none (-1) z.length).filterMap (z.cps[·]?)).toArray = z.cps.reverse := by
  rw [indices_rev]
  have h : ((List.range z.cps.size).map fun k => z.cps.size - 1 - k).filterMap (z.cps[·]?) = z.cps.toList.reverse := by
    rw [PySem.W.krv_range, List.filterMap_reverse, PySem.W.krv_all]
  have h2 : ((List.range z.length).map fun k => z.length - 1 - k).filterMap (z.cps[·]?) = z.cps.toList.reverse := h
  rw [h2]
  apply Array.ext'
  simp
def rRev (K : PySem.W.Frag) : V → Hp → VK → Prop := fun x H Q => (∃ a xs, x = .ref a ∧ SqL K H a xs ∧ ∀ p, H p = none → Q (.ref p) (upd H p (.lst xs.reverse))) ∨
  (∃ a xs, x = .ref a ∧ SqT K H a xs ∧ ∀ p, H p = none → Q (.ref p) (upd H p (.tup xs.reverse))) ∨ (∃ z : Str, x = .str z ∧ z.length ≤ sizeLine ∧ Q (.str (revS z)) H)
section
variable {X : Cx} {e : Expr} {te : TE} {fe : FE} {k : Nat} {p1 p2 p3 pos : Pos}
theorem pe_rev (he : PE X e te) : PE X (.Subscript e (.Slice none none (some (.UnaryOp .USub (.Constant (.int 1) k p1) p2)) p3) pos) (tUn (rRev X.K) te) := by
  refine ⟨fun pins s σ H Q I h => ?_⟩
  refine Subscript_ (thn (he.run pins s σ H _ I h) fun v s1 ⟨x, H1, I1, r1, q1⟩ => ?_)
  have hst : PO X (some (.UnaryOp .USub (.Constant (.int 1) k p1) p2)) (tPart (tUn (rU fun i => .int (-i)) (tC (.int 1)))) := po_some (pe_un un_neg pe_int)
  refine wpAny_Slice (thn (po_none.run pins s1 σ H1 (fun o H2 => o = none ∧ H2 = H1) I1 ⟨rfl, rfl⟩) fun vl s2 ⟨l, H2, I2, pl, el, e2⟩ => ?_)
  subst el e2
  refine thn (po_none.run pins s2 σ H2 (fun o H3 => o = none ∧ H3 = H2) I2 ⟨rfl, rfl⟩) fun vu s3 ⟨u, H3, I3, pu, eu, e3⟩ => ?_
  subst eu e3
  refine thn (hst.run pins s3 σ H3 (fun o H4 => o = some (-1) ∧ H4 = H3) I3 ⟨1, rfl, -1, rfl, rfl, rfl⟩) fun vs s4 ⟨o, H4, I4, ps, eo, e4⟩ => ?_
  subst eo e4
  have I5 : Inv X pins σ H4 { s4 with heap := s4.heap.push { cls := .type "slice", data := .fields #[vl, vu, vs] } } := I4.kept (t' := s4.toks) fun b ob q => Heap.get?_push_of_some _ q
  have hso := Heap.IsSliceOf.new s4.heap vl vu vs
  cases pl
  cases pu
  rcases q1 with ⟨a, xs, ex, hx, q⟩ | ⟨a, xs, ex, hx, q⟩ | ⟨z, ex, hz, q⟩
  · subst ex
    cases r1
    obtain ⟨its, r, ht, hz⟩ := I5.list hx
    have hlen := r.length
    show wpAny (model X.prog X.w) X.A (subscriptTail e (.Slice none none (some (.UnaryOp .USub (.Constant (.int 1) k p1) p2)) p3) (.ref a) (.ref s4.heap.objs.size)) (EP X pins σ Q) X.xe { s4 with heap := s4.heap.push { cls := .type "slice", data := .fields #[.none, .none, vs] } }
    refine tail_any (ops := [.ref a, .ref s4.heap.objs.size]) ht.isList.typeIs (PySem.slot_list_getitem.lookup) ?_ (by with_unfolding_all rfl)
    refine wpAny_getItem_list_slice ht.isList hso .none .none ps (by decide) ?_ (by rw [List.size_toArray]; omega)
    rw [PySem.W.krv_pick]
    refine ⟨.ref _, _, I5.laid (t' := s4.toks) (o := .lst xs.reverse) (fun b ob q => Heap.get?_push_of_some _ q) (Nat.le_refl _) ?_, rfl, q _ (I5.hok.fresh (Nat.le_refl _))⟩
    exact ⟨by rw [List.length_reverse]; exact hz, _, 0, r.reverse, Heap.get?_push_size _ rfl⟩
  · subst ex
    cases r1
    obtain ⟨its, r, ht, hz⟩ := I5.tuple hx
    have hlen : its.toArray.size = xs.length := by rw [List.size_toArray]; exact r.length.symm
    show wpAny (model X.prog X.w) X.A (subscriptTail e (.Slice none none (some (.UnaryOp .USub (.Constant (.int 1) k p1) p2)) p3) (.ref a) (.ref s4.heap.objs.size)) (EP X pins σ Q) X.xe { s4 with heap := s4.heap.push { cls := .type "slice", data := .fields #[.none, .none, vs] } }
    refine tail_any (ops := [.ref a, .ref s4.heap.objs.size]) ht.typeIs (PyProof.Rows.slot_tuple_getitem.lookup) ?_ (by with_unfolding_all rfl)
    refine getItem_tuple_rev ht hso ps ?_ (by rw [hlen]; exact hz)
    refine ⟨.ref _, _, I5.laid (t' := s4.toks) (o := .tup xs.reverse) (fun b ob q => Heap.get?_push_of_some _ q) (Nat.le_refl _) ?_, rfl, q _ (I5.hok.fresh (Nat.le_refl _))⟩
    exact ⟨by rw [List.length_reverse]; exact hz, _, r.reverse, IsTup.new _ _⟩
  · subst ex
    obtain ⟨t, rfl⟩ := r1
    obtain ⟨c, rfl, hc⟩ := IsPart.raw ps
    show wpAny (model X.prog X.w) X.A (subscriptTail e (.Slice none none (some (.UnaryOp .USub (.Constant (.int 1) k p1) p2)) p3) (.str z t) (.ref s4.heap.objs.size)) (EP X pins σ Q) X.xe { s4 with heap := s4.heap.push { cls := .type "slice", data := .fields #[.none, .none, partValue c] } }
    refine tail_any (ops := [.str z t, .ref s4.heap.objs.size]) (typeIs_str _ _ _) F.slot_str_getitem.lookup ?_ (by with_unfolding_all rfl)
    obtain ⟨os, hos, hcs, hds⟩ := hso
    refine wpAny_getItem_str_slice (l := none) (u := none) (st := c) ⟨os, hos, hcs, hds⟩ (by rw [hc]; rfl) ?_
    unfold sliceMade slicePicked
    rw [hc]
    show Made.post (if ((-1 : Int) == 1 && (Builtin.Str.strSliceIndices none none (-1) z.length).length == z.length) = true then Made.val (.str z t)
      else Made.str ⟨((Builtin.Str.strSliceIndices none none (-1) z.length).filterMap (z.cps[·]?)).toArray⟩) (EP X pins σ Q) _
    have hno : ¬ (((-1 : Int) == 1 && (Builtin.Str.strSliceIndices none none (-1) z.length).length == z.length) = true) := by
      intro q
      rw [Bool.and_eq_true] at q
      exact absurd q.1 (by decide)
    rw [if_neg hno, picked_rev]
    exact ⟨by show (revS z).length ≤ sizeLine; rw [revS_len]; exact hz, .str _, H4, I5.tok _, ⟨_, rfl⟩, q⟩
def dRev : D → Option D
  | .list ds => some (.list ds.reverse)
  | .tuple ds => some (.tuple ds.reverse)
  | .str z => if z.length ≤ sizeLine then some (.str (revS z)) else none
  | _ => none
theorem v_rev {K : PySem.W.Frag} : Op1 K (rRev K) dRev := by
  intro F H x dx d Q s hx e k
  cases hx with
  | @lst a vs ds q1 r1 =>
    cases e
    refine .inl ⟨a, vs, rfl, s.seq q1, fun n nn => ?_⟩
    have al := Al.laid (o := .lst vs.reverse) s nn
    exact k _ _ _ al (.lst (.inl (.inl upd_same)) (dpAll_mono al.ff r1).reverse)
  | @tup a vs ds q1 r1 =>
    cases e
    refine .inr (.inl ⟨a, vs, rfl, sqT_mono s q1, fun n nn => ?_⟩)
    have al := Al.laid (o := .tup vs.reverse) s nn
    exact k _ _ _ al (.tup (.inl (.inl upd_same)) (dpAll_mono al.ff r1).reverse)
  | str z =>
    have e : (if z.length ≤ sizeLine then some (PyData.str (revS z)) else none) = some d := e
    by_cases hz : z.length ≤ sizeLine
    · rw [if_pos hz] at e; cases e
      exact .inr (.inr ⟨z, rfl, hz, k _ _ _ (Al.refl s) (.str _)⟩)
    · rw [if_neg hz] at e; cases e
  | _ => cases e
theorem de_rev (he : DE X e te fe) : DE X (.Subscript e (.Slice none none (some (.UnaryOp .USub (.Constant (.int 1) k p1) p2)) p3) pos) (tUn (rRev X.K) te) (eUn dRev fe) := ⟨pe_rev he.pe, se_un v_rev he.se⟩
def eRevN (fa : FE) : FN := fun ρ => (fa ρ).bind fun p => match p.1 with
  | .list ds => some (.ol ds.reverse, p.2)
  | _ => none
theorem dn_rev (he : DE X e te fe) : DN X (.Subscript e (.Slice none none (some (.UnaryOp .USub (.Constant (.int 1) k p1) p2)) p3) pos) (tUn (rRev X.K) te) (eRevN fe) := by
  refine ⟨pe_rev he.pe, ?_⟩
  intro B F io σ H ρ d ρ' Q c e k
  obtain ⟨p, e1, e4⟩ := Option.bind_eq_some_iff.mp e
  refine he.se B F io σ H ρ p.1 p.2 _ c e1 fun F1 H1 x g1 c1 d1 => ?_
  cases hp : p.1 with
  | list ds =>
    rw [hp] at e4 d1
    cases e4
    cases d1 with
    | @lst a vs _ q1 r1 =>
      refine .inl ⟨a, vs, rfl, c1.frz.seq q1, fun n nn => ?_⟩
      have al := Al.laidH (o := .lst vs.reverse) c1.frz nn
      exact k _ _ n _ (g1.trans (al.gr c1.base)) (c1.al al) upd_same r1.reverse (c1.frz.free nn) (c1.base.free nn) (c1.fresh_notOwned nn)
  | _ => rw [hp] at e4; cases e4
end
/-! ## ''.join(texts) -/
def strsOf : List D → Option (List Str)
  | [] => some []
  | .str z :: r => (strsOf r).map (z :: ·)
  | _ => none
theorem strsOf_dp {K : PySem.W.Frag} {F : Hp} : ∀ {ds : List D} {vs : List V} {ys : List Str}, DpAll K F vs ds → strsOf ds = some ys → vs = ys.map V.str
  | [], _, _, h, e => by cases h; cases e; rfl
  | .str z :: r, _, _, h, e => by
    obtain ⟨zs, e1, e2⟩ := Option.map_eq_some_iff.mp e
    subst e2
    cases h with
    | cons q t => cases q; rw [strsOf_dp t e1]; rfl
  | .none :: _, _, _, _, e => by cases e
  | .bool _ :: _, _, _, _, e => by cases e
  | .int _ :: _, _, _, _, e => by cases e
  | .list _ :: _, _, _, _, e => by cases e
  | .tuple _ :: _, _, _, _, e => by cases e
  | .dict _ :: _, _, _, _, e => by cases e
def joinS (a : Str) (ys : List Str) : Option D := if (ys.map (·.length)).sum + ys.length * a.length ≤ 16777216 then some (.str (Txt.join a ys)) else none
def dJoin : D → D → Option D
  | .str a, .list ds => (strsOf ds).bind (joinS a)
  | .str a, .tuple ds => (strsOf ds).bind (joinS a)
  | _, _ => none
/-! ## methods of texts -/
def strD : D → Option Str
  | .str z => some z
  | _ => none
theorem strD_eq {d : D} {z : Str} (h : strD d = some z) : d = .str z := by
  cases d <;> first | (cases h; rfl) | cases h
def OpS (K : PySem.W.Frag) (r : V → List V → Hp → VK → Prop) (g : Str → List D → Option D) : Prop := ∀ (F H : Hp) (a : Str) (xs : List V) (ds : List D) (d : D) (Q : VK), Same F H → DpAll K F xs ds → g a ds = some d →
  (∀ F' H' v, Al F H F' H' → Dp K F' v d → Q v H') → r (.str a) xs H Q
def eSM (g : Str → List D → Option D) (fo : FE) (fa : FA) : FE := fun ρ => (fo ρ).bind fun p => (strD p.1).bind fun z => (fa p.2).bind fun q => (g z q.1).map fun d => (d, q.2)
def eSM0 (g : Str → List D → Option D) (fo : FE) : FE := fun ρ => (fo ρ).bind fun p => (strD p.1).bind fun z => (g z []).map fun d => (d, p.2)
section
variable {X : Cx} {o e : Expr} {es : List Expr} {to : TE} {fo : FE} {t : TA} {fa : FA} {name : Str} {apos cpos : Pos} {id : String} {r : V → List V → Hp → VK → Prop} {g : Str → List D → Option D}
theorem de_sm (slot : Slot "str" name id) (hty : typeOf (.builtin id) = pure (.type "method_descriptor")) (hm : MtR X id r) (hg : OpS X.K r g) (ho : DE X o to fo) (ha : DA X (e :: es) t fa)
    (hbase : attributeBase o name X.env (eval o X.env) = eval o X.env := by rfl)
    (hfew : ((backTo cpos (starEach (e :: es) X.env)).all (fun x => !x.1) && (backToKw cpos (keywordEach [] X.env)).all (fun x => x.1.isSome)
      && decide ((e :: es).length + ([] : List Keyword).length + (if ([] : List Keyword).isEmpty then 0 else 1) < 30)) = true := by rfl)
    (hline : (apos.endLine == cpos.line) = true := by rfl) (hs : starEach (e :: es) X.env = (false, eval e X.env) :: starEach es X.env := by rfl) (hplain : (backTo cpos (starEach es X.env)).any (·.1) = false := by rfl) :
    DE X (.Call (.Attribute o name apos) (e :: es) [] cpos) (tBM X.K "str" r to t) (eSM g fo fa) := by
  refine ⟨pe_bm PySem.F.plainAttrs_str slot hty hm ho.pe ha.pe hbase hfew hline hs hplain, ?_⟩
  intro B F io σ H ρ d ρ' Q c h k
  obtain ⟨p, e1, h⟩ := Option.bind_eq_some_iff.mp h
  obtain ⟨z, e2, h⟩ := Option.bind_eq_some_iff.mp h
  obtain ⟨q, e3, h⟩ := Option.bind_eq_some_iff.mp h
  obtain ⟨u, e4, h⟩ := Option.map_eq_some_iff.mp h
  cases h
  refine ho.se B F io σ H ρ p.1 p.2 _ c e1 fun F1 H1 x g1 c1 d1 => ?_
  rw [strD_eq e2] at d1
  cases d1
  refine ⟨rfl, ?_⟩
  refine ha.se B F1 io σ H1 p.2 q.1 q.2 _ c1 e3 fun F2 H2 xs g2 c2 d2 => ?_
  exact hg F2 H2 z xs q.1 d Q c2.frz d2 e4 fun F3 H3 v al d3 => k F3 H3 v ((g1.trans g2).trans (al.gr c2.base)) (c2.al al) d3
theorem de_sm0 (slot : Slot "str" name id) (hty : typeOf (.builtin id) = pure (.type "method_descriptor")) (hm : MtR X id r) (hg : OpS X.K r g) (ho : DE X o to fo)
    (hbase : attributeBase o name X.env (eval o X.env) = eval o X.env := by rfl) (hline : (apos.endLine == cpos.line) = true := by rfl) :
    DE X (.Call (.Attribute o name apos) [] [] cpos) (tBM0 X.K "str" r to) (eSM0 g fo) := by
  refine ⟨pe_bm0 PySem.F.plainAttrs_str slot hty hm ho.pe hbase hline, ?_⟩
  intro B F io σ H ρ d ρ' Q c h k
  obtain ⟨p, e1, h⟩ := Option.bind_eq_some_iff.mp h
  obtain ⟨z, e2, h⟩ := Option.bind_eq_some_iff.mp h
  obtain ⟨u, e4, h⟩ := Option.map_eq_some_iff.mp h
  cases h
  refine ho.se B F io σ H ρ p.1 p.2 _ c e1 fun F1 H1 x g1 c1 d1 => ?_
  rw [strD_eq e2] at d1
  cases d1
  refine ⟨rfl, ?_⟩
  exact hg F1 H1 z [] [] d Q c1.frz .nil e4 fun F3 H3 v al d3 => k F3 H3 v (g1.trans (al.gr c1.base)) (c1.al al) d3
end
def sJoin (a : Str) : List D → Option D
  | [.list ds] => (strsOf ds).bind (joinS a)
  | [.tuple ds] => (strsOf ds).bind (joinS a)
  | _ => none
def sCount (a : Str) : List D → Option D
  | [.str b] => some (.int (Txt.count a b))
  | _ => none
def sLstrip (a : Str) : List D → Option D
  | [.str b] => if a.length ≤ sizeLine then some (.str (Txt.lstripChars a b)) else none
  | _ => none
def sStarts (a : Str) : List D → Option D
  | [.str b] => some (.bool (Txt.startswith a b))
  | _ => none
def sFind (a : Str) : List D → Option D
  | [.str b] => some (.int (Txt.find a b))
  | _ => none
def sIndex (a : Str) : List D → Option D
  | [.str b] => match Builtin.Str.occurrences a b 0 a.length 1 with
    | i :: _ => some (.int (i : Nat))
    | [] => none
  | _ => none
section
variable {K : PySem.W.Frag}
theorem s_join : OpS K (fun x xs H Q => ∃ a p, ∃ ys : List Str, x = .str a ∧ xs = [.ref p] ∧ (SqL K H p (ys.map V.str) ∨ SqT K H p (ys.map V.str)) ∧ (ys.map (·.length)).sum + ys.length * a.length ≤ 16777216 ∧ Q (.str (Txt.join a ys)) H) sJoin := by
  intro F H a xs ds d Q s h e k
  have fin : ∀ {es : List D} {vs : List V}, DpAll K F vs es → (strsOf es).bind (joinS a) = some d → ∃ ys : List Str, vs = ys.map V.str ∧ (ys.map (·.length)).sum + ys.length * a.length ≤ 16777216 ∧ Q (.str (Txt.join a ys)) H := by
    intro es vs h1 e1
    obtain ⟨ys, e2, e3⟩ := Option.bind_eq_some_iff.mp e1
    unfold joinS at e3
    by_cases hz : (ys.map (·.length)).sum + ys.length * a.length ≤ 16777216
    · rw [if_pos hz] at e3; cases e3
      exact ⟨ys, strsOf_dp h1 e2, hz, k _ _ _ (Al.refl s) (.str _)⟩
    · rw [if_neg hz] at e3; cases e3
  unfold sJoin at e
  split at e
  · cases h with
    | cons q r => cases r; cases q with
      | @lst p vs _ q1 r1 =>
        obtain ⟨ys, rfl, h1, h2⟩ := fin r1 e
        exact ⟨a, p, ys, rfl, rfl, .inl (s.seq q1), h1, h2⟩
  · cases h with
    | cons q r => cases r; cases q with
      | @tup p vs _ q1 r1 =>
        obtain ⟨ys, rfl, h1, h2⟩ := fin r1 e
        exact ⟨a, p, ys, rfl, rfl, .inr (sqT_mono s q1), h1, h2⟩
  · cases e
theorem s_count : OpS K (fun x xs H Q => ∃ a b, x = .str a ∧ xs = [.str b] ∧ Q (.int (Txt.count a b)) H) sCount := by
  intro F H a xs ds d Q s h e k
  unfold sCount at e
  split at e
  · cases e
    cases h with
    | cons q r => cases r; cases q; exact ⟨a, _, rfl, rfl, k _ _ _ (Al.refl s) (.int _)⟩
  · cases e
theorem s_find : OpS K (fun x xs H Q => ∃ a b, x = .str a ∧ xs = [.str b] ∧ Q (.int (Txt.find a b)) H) sFind := by
  intro F H a xs ds d Q s h e k
  unfold sFind at e
  split at e
  · cases e
    cases h with
    | cons q r => cases r; cases q; exact ⟨a, _, rfl, rfl, k _ _ _ (Al.refl s) (.int _)⟩
  · cases e
theorem s_starts : OpS K (fun x xs H Q => ∃ a b, x = .str a ∧ xs = [.str b] ∧ Q (.bl (Txt.startswith a b)) H) sStarts := by
  intro F H a xs ds d Q s h e k
  unfold sStarts at e
  split at e
  · cases e
    cases h with
    | cons q r => cases r; cases q; exact ⟨a, _, rfl, rfl, k _ _ _ (Al.refl s) (.bl _)⟩
  · cases e
end
/-! ## list(range(..)), tuple(range(..)) -/
abbrev FR2 := En → Option ((Int × Int) × En)
def SRg (K : PySem.W.Frag) (t : St → Hp → (Int → Int → Hp → Prop) → Prop) (f : FR2) : Prop := ∀ (B F : Hp) (io : List (Nat × Addr)) (σ : St) (H : Hp) (ρ : En) (p : Int × Int) (ρ' : En) (Q : Int → Int → Hp → Prop), Con K B F io σ H ρ → f ρ = some (p, ρ') →
  (∀ F' H', Gr B F F' → Con K B F' io σ H' ρ' → Q p.1 p.2 H') → t σ H Q
structure DRg (X : Cx) (e : Expr) (t : St → Hp → (Int → Int → Hp → Prop) → Prop) (f : FR2) : Prop where
  pe : PRg X e t
  se : SRg X.K t f
def gR1 (fa : FE) : FR2 := fun ρ => (fa ρ).bind fun p => (intD p.1).map fun n => ((0, n), p.2)
def gR2 (fa fb : FE) : FR2 := fun ρ => (fa ρ).bind fun p => (fb p.2).bind fun q => (intD p.1).bind fun m => (intD q.1).map fun n => ((m, n), q.2)
def rgOk (a b : Int) : Bool := decide (-(2 ^ 62) ≤ a ∧ a < 2 ^ 62 ∧ -(2 ^ 62) ≤ b ∧ b < 2 ^ 62 ∧ (b - a).toNat ≤ 2 ^ 24)
def eLRg (f : FR2) : FN := fun ρ => (f ρ).bind fun p => if rgOk p.1.1 p.1.2 = true then some (.ol (rngD p.1.1 (p.1.2 - p.1.1).toNat), p.2) else none
def eTRg (f : FR2) : FE := fun ρ => (f ρ).bind fun p => if rgOk p.1.1 p.1.2 = true then some (.tuple (rngD p.1.1 (p.1.2 - p.1.1).toNat), p.2) else none
theorem dpAll_rg {K : PySem.W.Frag} {F : Hp} (a b : Int) : DpAll K F (rgV a b) (rngD a (b - a).toNat) := by
  unfold rgV rngD
  generalize List.range (b - a).toNat = l
  induction l with
  | nil => exact .nil
  | cons x r ih => exact .cons (.int _) ih
section
variable {X : Cx} {a b e : Expr} {ta tb : TE} {fa fb : FE} {p pos : Pos} {te : St → Hp → (Int → Int → Hp → Prop) → Prop} {f : FR2}
theorem drg_1 (ha : DE X a ta fa) (hm : X.mg "range" = none) (hg : Gl X "range" := by rfl) (na : starEach [a] X.env = (false, eval a X.env) :: starEach [] X.env := by rfl) : DRg X (.Call (.Name "range" p) [a] [] pos) (tRg1 ta) (gR1 fa) := by
  refine ⟨prg_1 hg hm ha.pe na, ?_⟩
  intro B F io σ H ρ d ρ' Q c h k
  obtain ⟨u, e1, h⟩ := Option.bind_eq_some_iff.mp h
  obtain ⟨z, e2, h⟩ := Option.map_eq_some_iff.mp h
  cases h
  refine ha.se B F io σ H ρ u.1 u.2 _ c e1 fun F1 H1 x g1 c1 d1 => ?_
  rw [intD_eq e2] at d1
  cases d1
  exact ⟨z, rfl, k F1 H1 g1 c1⟩
theorem drg_2 (ha : DE X a ta fa) (hb : DE X b tb fb) (hm : X.mg "range" = none) (hg : Gl X "range" := by rfl) (na : starEach [a, b] X.env = (false, eval a X.env) :: starEach [b] X.env := by rfl) (nb : starEach [b] X.env = (false, eval b X.env) :: starEach [] X.env := by rfl) (hp : (backTo pos (starEach [b] X.env)).any (·.1) = false := by rfl) : DRg X (.Call (.Name "range" p) [a, b] [] pos) (tRg2 ta tb) (gR2 fa fb) := by
  refine ⟨prg_2 hg hm ha.pe hb.pe na nb hp, ?_⟩
  intro B F io σ H ρ d ρ' Q c h k
  obtain ⟨u, e1, h⟩ := Option.bind_eq_some_iff.mp h
  obtain ⟨v, e3, h⟩ := Option.bind_eq_some_iff.mp h
  obtain ⟨z, e2, h⟩ := Option.bind_eq_some_iff.mp h
  obtain ⟨y, e4, h⟩ := Option.map_eq_some_iff.mp h
  cases h
  refine ha.se B F io σ H ρ u.1 u.2 _ c e1 fun F1 H1 x g1 c1 d1 => ?_
  refine hb.se B F1 io σ H1 u.2 v.1 v.2 _ c1 e3 fun F2 H2 x2 g2 c2 d2 => ?_
  rw [intD_eq e2] at d1
  rw [intD_eq e4] at d2
  cases d1
  cases d2
  exact ⟨z, y, rfl, rfl, k F2 H2 (g1.trans g2) c2⟩
theorem dn_listRg (hc : X.calm = true) (he : DRg X e te f) (hm : X.mg "list" = none) (hg : Gl X "list" := by rfl) (na : starEach [e] X.env = (false, eval e X.env) :: starEach [] X.env := by rfl) : DN X (.Call (.Name "list" p) [e] [] pos) (tLstRg te) (eLRg f) := by
  refine ⟨pe_listRg hc hg hm he.pe na, ?_⟩
  intro B F io σ H ρ d ρ' Q c h k
  obtain ⟨u, e1, h⟩ := Option.bind_eq_some_iff.mp h
  by_cases hz : rgOk u.1.1 u.1.2 = true
  · rw [if_pos hz] at h
    cases h
    refine he.se B F io σ H ρ u.1 u.2 _ c e1 fun F1 H1 g1 c1 => ⟨by unfold rgOk at hz; rw [decide_eq_true_eq] at hz; exact hz, fun n nn => ?_⟩
    have al := Al.laidH (o := .lst (rgV u.1.1 u.1.2)) c1.frz nn
    exact k _ _ n _ (g1.trans (al.gr c1.base)) (c1.al al) upd_same (dpAll_rg _ _) (c1.frz.free nn) (c1.base.free nn) (c1.fresh_notOwned nn)
  · rw [if_neg hz] at h; cases h
theorem de_tupRg (hc : X.calm = true) (he : DRg X e te f) (hm : X.mg "tuple" = none) (hg : Gl X "tuple" := by rfl) (na : starEach [e] X.env = (false, eval e X.env) :: starEach [] X.env := by rfl) : DE X (.Call (.Name "tuple" p) [e] [] pos) (tTupRg te) (eTRg f) := by
  refine ⟨pe_tupRg hc hg hm he.pe na, ?_⟩
  intro B F io σ H ρ d ρ' Q c h k
  obtain ⟨u, e1, h⟩ := Option.bind_eq_some_iff.mp h
  by_cases hz : rgOk u.1.1 u.1.2 = true
  · rw [if_pos hz] at h
    cases h
    refine he.se B F io σ H ρ u.1 u.2 _ c e1 fun F1 H1 g1 c1 => ⟨by unfold rgOk at hz; rw [decide_eq_true_eq] at hz; exact hz, fun n nn => ?_⟩
    have al := Al.laid (o := .tup (rgV u.1.1 u.1.2)) c1.frz nn
    exact k _ _ _ (g1.trans (al.gr c1.base)) (c1.al al) (.tup (.inl (.inl upd_same)) (dpAll_rg _ _))
  · rw [if_neg hz] at h; cases h
end
/-! ## {k1: v1, k2: v2}.get(e, f), all of them texts -/
theorem upd_twice {H : Hp} {p : Addr} {o o' : HO} : upd (upd H p o) p o' = upd H p o' := by
  funext a
  by_cases h : a = p
  · subst h; rw [upd_same, upd_same]
  · rw [upd_ne h, upd_ne h, upd_ne h]
def eGet2 (k1 v1 k2 v2 : Str) (fe ff : FE) : FE := fun ρ => (fe ρ).bind fun p => (ff p.2).bind fun q => (strD p.1).map fun z => (if z = k1 then .str v1 else if z = k2 then .str v2 else q.1, q.2)
section
variable {X : Cx} {e f : Expr} {te tf : TE} {fe ff : FE} {a1 a2 a3 a4 : Nat} {p1 p2 p3 p4 dpos apos cpos : Pos} {k1 v1 k2 v2 : Str}
theorem de_get2 (hu : X.A.units + 1 < cLine) (he : DE X e te fe) (hf : DE X f tf ff) (hk : k1 ≠ k2 := by decide)
    (m1 : attributeBase (.Dict [some (.Constant (.str k1) a1 p1), some (.Constant (.str k2) a2 p2)] [.Constant (.str v1) a3 p3, .Constant (.str v2) a4 p4] dpos) "get" X.env (eval (.Dict [some (.Constant (.str k1) a1 p1), some (.Constant (.str k2) a2 p2)] [.Constant (.str v1) a3 p3, .Constant (.str v2) a4 p4] dpos) X.env) = eval (.Dict [some (.Constant (.str k1) a1 p1), some (.Constant (.str k2) a2 p2)] [.Constant (.str v1) a3 p3, .Constant (.str v2) a4 p4] dpos) X.env := by rfl)
    (m2 : ((backTo cpos (starEach [e, f] X.env)).all (fun x => !x.1) && (backToKw cpos (keywordEach [] X.env)).all (fun x => x.1.isSome)
      && decide (([e, f] : List Expr).length + ([] : List Keyword).length + (if ([] : List Keyword).isEmpty then 0 else 1) < 30)) = true := by rfl)
    (m3 : (apos.endLine == cpos.line) = true := by rfl) (m4 : backTo cpos (starEach [e, f] X.env) = [(false, eval e X.env), (false, eval f X.env)] := by rfl) :
    DE X (.Call (.Attribute (.Dict [some (.Constant (.str k1) a1 p1), some (.Constant (.str k2) a2 p2)] [.Constant (.str v1) a3 p3, .Constant (.str v2) a4 p4] dpos) "get" apos) [e, f] [] cpos)
      (tDGet2 (tDisp [(tC (.str k1), tC (.str v1)), (tC (.str k2), tC (.str v2))]) te tf) (eGet2 k1 v1 k2 v2 fe ff) := by
  refine ⟨pe_dget2 hu (pe_disp (pps_cons pe_str pe_str (pps_cons pe_str pe_str pps_nil)) rfl rfl (by simp) (by simp)) he.pe hf.pe ⟨m1, m2, m3, m4⟩, ?_⟩
  intro B F io σ H ρ d ρ' Q c h k
  obtain ⟨p, e1, h⟩ := Option.bind_eq_some_iff.mp h
  obtain ⟨q, e2, h⟩ := Option.bind_eq_some_iff.mp h
  obtain ⟨z, e3, h⟩ := Option.map_eq_some_iff.mp h
  cases h
  intro Dd nD
  refine ⟨upd_same, [(.inr k1, .str v1), (.inr k2, .str v2)], rfl, by simp, Dd, rfl, ?_⟩
  rw [upd_twice]
  have bD : B Dd = none := c.base.free nD
  have fD : F Dd = none := c.frz.free nD
  have c0 := c.toBase (o := .dK (mergeK [] [(.inr k1, .str v1), (.inr k2, .str v2)])) nD
  refine ⟨.inl ⟨_, .inl upd_same⟩, ?_⟩
  refine he.se _ F io σ _ ρ p.1 p.2 _ c0 e1 fun F1 H1 x g1 c1 d1 => ?_
  refine hf.se _ F1 io σ H1 p.2 q.1 q.2 _ c1 e2 fun F2 H2 y g2 c2 d2 => ?_
  rw [strD_eq e3] at d1
  cases d1
  have hd := c2.base Dd _ upd_same
  have gg := g1.trans g2
  refine ⟨_, DGet.k (k := .inr z) hd, ?_⟩
  have hm : mergeK [] [((.inr k1 : Key), V.str v1), (.inr k2, .str v2)] = [(.inr k1, .str v1), (.inr k2, .str v2)] := by
    have hk' : (Sum.inr k1 : Key) ≠ .inr k2 := fun e => hk (Sum.inr.inj e)
    simp [mergeK, putK, hk']
  refine k F2 H2 _ (gg.unBase bD) (c2.unBase bD) ?_
  rw [hm]
  by_cases h1 : z = k1
  · subst h1
    rw [if_pos rfl, valV_pos rfl]
    exact .str _
  · rw [if_neg h1, valV_neg (fun e => h1 (Sum.inr.inj e).symm)]
    by_cases h2 : z = k2
    · subst h2
      rw [if_pos rfl, valV_pos rfl]
      exact .str _
    · rw [if_neg h2, valV_neg (fun e => h2 (Sum.inr.inj e).symm), valV_nil]
      exact d2
end
/-! ## a name whose value is not looked at -/
noncomputable def hid {α : Type} (a : α) : α := Classical.choose (⟨a, rfl⟩ : ∃ b, b = a)
theorem hid_eq {α : Type} (a : α) : hid a = a := Classical.choose_spec (⟨a, rfl⟩ : ∃ b, b = a)
theorem dn_hid {X : Cx} {e : Expr} {t : TE} {k f : FN} (h : k = f) (d : DN X e t f) : DN X e t k := h ▸ d
theorem ds_hidN {X : Cx} {L : List Nat} {st : Stmt} {t : TS} {i : Nat} {k f : FN} (h : k = f) (d : DS X L st t (sSetN i f)) : DS X L st t (sSetN i k) := h ▸ d
theorem ds_hidF {X : Cx} {L : List Nat} {st : Stmt} {t : TS} {i : Nat} {k f : FN} (h : k = f) (d : DS X L st t (sSet i (eFrz f))) : DS X L st t (sSet i (eFrz k)) := h ▸ d
theorem ds_hid {X : Cx} {L : List Nat} {st : Stmt} {t : TS} {k f : FS} (h : k = f) (d : DS X L st t f) : DS X L st t k := h ▸ d
/-! ## texts and tuples, many times -/
def rMulS : R2 := fun x y H Q => ∃ (z : Str) (n : Int), x = .str z ∧ y = .int n ∧ MulOk z n ∧ Q (.str (Txt.mul z n)) H
theorem op_mulS {X : Cx} : OpR X (binaryOp .Mult) rMulS := by
  intro pins s σ H x y v u Q I rx ry h
  obtain ⟨z, n, rfl, rfl, hok, q⟩ := h
  obtain ⟨t, rfl⟩ := rx
  obtain ⟨t', rfl⟩ := ry
  exact SB.mul hok fun t2 k => ⟨.str _, H, I.tok _, ⟨_, rfl⟩, q⟩
theorem mulOk_str {z : Str} {n : Int} (h0 : -(2 ^ 62) ≤ n) (h1 : n < 2 ^ 62) (h : z.length * n.toNat ≤ 16777216) : MulOk z n := by
  refine ⟨by rw [decide_eq_false (by omega), decide_eq_false (by omega)]; rfl, fun hn _ => ?_, fun hn _ => ?_⟩
  · intro hgt
    have hz : (z.length : Int) ≤ 16777216 := by
      have : z.length * 1 ≤ z.length * n.toNat := Nat.mul_le_mul_left _ (by omega)
      omega
    have hm : (z.length : Int) * n ≤ 16777216 := by
      have e : ((z.length * n.toNat : Nat) : Int) = (z.length : Int) * n := by push_cast; rw [Int.toNat_of_nonneg (by omega)]
      omega
    have : (z.length : Int) ≤ (2 ^ 63 - 1) / n := Int.le_ediv_of_mul_le (by omega) (by omega)
    omega
  · unfold Builtin.Str.tooLong sizeLine
    exact decide_eq_false (by omega)
section
variable {prog : Program} {w : World} {A : Around} {E : Value → Shared → Prop} {s : Shared}
theorem tuple_mul0 (l : Addr) (items : Array Value) (n : Nat) (dd : Option Addr) (sl : Array (Option Value)) (x : Int) (u : Tok) (c0 : (decide (x < -(2 ^ 63)) || decide (x ≥ 2 ^ 63)) = false) (c1 : (items.isEmpty || x == 1) = false) (c2 : (decide (x ≤ 0) || items.isEmpty) = true) :
    Meets (Builtin.«tuple.__mul__» ⟨[.ref l, .int x u], []⟩) (fun _ R s => s.heap.get? l = some { cls := .type "tuple", dict := dd, data := .seq items n, slots := sl } ∧
      R (.ok (.ret (Value.ref s.heap.objs.size))) { s with heap := s.heap.push { cls := Value.type "tuple", data := Data.seq #[] }, toks := s.toks }) :=
  .of_wp fun prog w A R s h => by
    obtain ⟨hp, g, d, tk, os⟩ := s
    obtain ⟨hl, h⟩ := h
    have f1 := AutoSeq1.idx_int
    wp_walk using wpAny_loadPart' hl
    repeat (first
      | (refine wpAny_ite_false (decide_eq_false (by rw [c0]; exact Bool.false_ne_true)) ?_; wp_walk using wpAny_loadPart' hl)
      | (refine wpAny_ite_false (decide_eq_false (by rw [c1]; exact Bool.false_ne_true)) ?_; wp_walk using wpAny_loadPart' hl)
      | (refine wpAny_ite_true (decide_eq_true c2) ?_; wp_walk using wpAny_loadPart' hl))
    exact ⟨_, rfl, h⟩
theorem tuple_mul1 (l : Addr) (items : Array Value) (n : Nat) (dd : Option Addr) (sl : Array (Option Value)) (x : Int) (u : Tok) (c0 : (decide (x < -(2 ^ 63)) || decide (x ≥ 2 ^ 63)) = false) (c1 : (items.isEmpty || x == 1) = true) :
    Meets (Builtin.«tuple.__mul__» ⟨[.ref l, .int x u], []⟩) (fun _ R s => s.heap.get? l = some { cls := .type "tuple", dict := dd, data := .seq items n, slots := sl } ∧
      R (.ok (.ret (Value.ref l))) s) :=
  .of_wp fun prog w A R s h => by
    obtain ⟨hp, g, d, tk, os⟩ := s
    obtain ⟨hl, h⟩ := h
    have f1 := AutoSeq1.idx_int
    wp_walk using wpAny_loadPart' hl
    repeat (first
      | (refine wpAny_ite_false (decide_eq_false (by rw [c0]; exact Bool.false_ne_true)) ?_; wp_walk using wpAny_loadPart' hl)
      | (refine wpAny_ite_true (decide_eq_true c1) ?_; wp_walk using wpAny_loadPart' hl))
    exact ⟨_, rfl, h⟩
end
theorem size_rep' (its : List Value) (m : Nat) : (List.foldl (fun x1 x2 => x1 ++ x2) #[] (List.replicate m its.toArray)) = (List.replicate m its).flatten.toArray := by
  have := foldl_rep its m []
  rw [List.nil_append] at this
  exact this
def rRepA (K : PySem.W.Frag) : R2 := fun x y H Q => ∃ (l : Addr) (k : Int) (xs : List V), x = .ref l ∧ y = .int k ∧ SqT K H l xs ∧ -(2 ^ 62) ≤ k ∧ k < 2 ^ 62 ∧ xs.length * k.toNat ≤ 16777216 ∧ (xs = [] ∨ k = 1 → Q (.ref l) H) ∧
  (¬ (xs = [] ∨ k = 1) → ∀ p, H p = none → Q (.ref p) (upd H p (.tup (List.replicate k.toNat xs).flatten)))
theorem op_repA {X : Cx} : OpR X (binaryOp .Mult) (rRepA X.K) := by
  intro pins s σ H x y v u Q I rx ry h
  obtain ⟨l, k, xs, rfl, rfl, hT, h1, h2, hz, q1, q2⟩ := h
  cases rx
  obtain ⟨t, rfl⟩ := ry
  obtain ⟨its, r, ⟨⟨cls, dd, data, sl⟩, ho, hc, n, hd⟩, hs⟩ := I.tuple hT
  simp only at hc hd
  subst hc hd
  have hle : its.length = xs.length := r.length.symm
  have c0 : (decide (k < -(2 ^ 63)) || decide (k ≥ 2 ^ 63)) = false := by
    rw [decide_eq_false (by omega), decide_eq_false (by omega)] <;> rfl
  have hne : its = [] ↔ xs = [] := by
    constructor
    · intro e; rw [e] at hle; exact List.eq_nil_of_length_eq_zero hle.symm
    · intro e; rw [e] at hle; exact List.eq_nil_of_length_eq_zero hle
  by_cases hb : xs = [] ∨ k = 1
  · have c1 : (its.toArray.isEmpty || k == 1) = true := by
      rcases hb with e | e
      · rw [hne.mpr e]; rfl
      · subst e; simp
    exact wpAny_binaryOp_repeat_ref (T := "tuple") (U := "int") (by decide) ⟨_, ho, rfl⟩ (fun s' => typeIs_int s' k t) noFill_tuple_mul F.fills_int_mul F.slot_int_rmul repeat_tuple F.slot_int_index.lookup
      (call_meets F.slot_int_rmul (typeIs_int s k t) F.entry_int_rmul (F.args_int_rmul_2 _ _) (int_rmul_tuple k t l its.toArray n dd sl)
        ⟨ho, rfl, ⟨_, ho, rfl⟩, call_meets F.slot_tuple_mul ⟨_, ho, rfl⟩ F.entry_tuple_mul (F.args_tuple_mul_2 _ _) (tuple_mul1 l its.toArray n dd sl k t c0 c1) ⟨ho, ⟨.ref l, H, I, rfl, q1 hb⟩⟩⟩)
  · have hb1 : xs ≠ [] := fun e => hb (.inl e)
    have hb2 : k ≠ 1 := fun e => hb (.inr e)
    have hi : its.toArray.isEmpty = false := by
      cases its with
      | nil => exact absurd (hne.mp rfl) hb1
      | cons a b => rfl
    have c1 : (its.toArray.isEmpty || k == 1) = false := by
      rw [hi, Bool.false_or]
      exact beq_eq_false_iff_ne.mpr hb2
    have flen : (List.replicate k.toNat its).flatten.length ≤ sizeLine := by
      rw [PyProof.Rows.lm_len_rep_flat, hle, sizeLine_eq, Nat.mul_comm]
      exact hz
    have q3 := q2 hb
    by_cases h0 : k ≤ 0
    · have c2 : (decide (k ≤ 0) || its.toArray.isEmpty) = true := by rw [decide_eq_true h0]; rfl
      have e0 : (List.replicate k.toNat xs).flatten = [] := by rw [show k.toNat = 0 by omega]; rfl
      rw [e0] at q3
      refine wpAny_binaryOp_repeat_ref (T := "tuple") (U := "int") (by decide) ⟨_, ho, rfl⟩ (fun s' => typeIs_int s' k t) noFill_tuple_mul F.fills_int_mul F.slot_int_rmul repeat_tuple F.slot_int_index.lookup
        (call_meets F.slot_int_rmul (typeIs_int s k t) F.entry_int_rmul (F.args_int_rmul_2 _ _) (int_rmul_tuple k t l its.toArray n dd sl)
          ⟨ho, rfl, ⟨_, ho, rfl⟩, call_meets F.slot_tuple_mul ⟨_, ho, rfl⟩ F.entry_tuple_mul (F.args_tuple_mul_2 _ _) (tuple_mul0 l its.toArray n dd sl k t c0 c1 c2) ⟨ho, ?_⟩⟩)
      refine ⟨.ref s.heap.objs.size, _, I.laid (t' := s.toks) (o := .tup []) (fun b ob q => Heap.get?_push_of_some _ q) (Nat.le_refl _) ?_, rfl, q3 _ (I.hok.fresh (Nat.le_refl _))⟩
      exact ⟨Nat.zero_le _, [], .nil, IsTup.new _ _⟩
    · have hm : ((its.toArray.size : Nat) : Int) * k ≤ 16777216 := by
        rw [List.size_toArray, hle]
        have e : ((xs.length * k.toNat : Nat) : Int) = (xs.length : Int) * k := by push_cast; rw [Int.toNat_of_nonneg (by omega)]
        omega
      have c2 : (decide (k ≤ 0) || its.toArray.isEmpty) = false := by
        rw [hi, Bool.or_false]
        exact decide_eq_false (by omega)
      have c4 : Builtin.Tuple.tupleTooMany (((its.toArray.size : Nat) : Int) * k) = false := by
        unfold Builtin.Tuple.tupleTooMany
        rw [sizeLine_eq]
        exact decide_eq_false (by omega)
      refine wpAny_binaryOp_repeat_ref (T := "tuple") (U := "int") (by decide) ⟨_, ho, rfl⟩ (fun s' => typeIs_int s' k t) noFill_tuple_mul F.fills_int_mul F.slot_int_rmul repeat_tuple F.slot_int_index.lookup
        (call_meets F.slot_int_rmul (typeIs_int s k t) F.entry_int_rmul (F.args_int_rmul_2 _ _) (int_rmul_tuple k t l its.toArray n dd sl)
          ⟨ho, rfl, ⟨_, ho, rfl⟩, call_meets F.slot_tuple_mul ⟨_, ho, rfl⟩ F.entry_tuple_mul (F.args_tuple_mul_2 _ _) (tuple_mulW l its.toArray n dd sl k t c0 c1 c2 (by omega) c4 (by rw [size_rep', List.size_toArray]; exact flen)) ⟨ho, ?_⟩⟩)
      rw [size_rep']
      refine ⟨.ref s.heap.objs.size, _, I.laid (t' := s.toks) (o := .tup (List.replicate k.toNat xs).flatten) (fun b ob q => Heap.get?_push_of_some _ q) (Nat.le_refl _) ?_, rfl, q3 _ (I.hok.fresh (Nat.le_refl _))⟩
      exact ⟨by rw [PyProof.Rows.lm_len_rep_flat, sizeLine_eq, Nat.mul_comm]; exact hz, _, r.rep k.toNat, IsTup.new _ _⟩
def repOk (n : Nat) (k : Int) : Bool := decide (-(2 ^ 62) ≤ k ∧ k < 2 ^ 62 ∧ n * k.toNat ≤ 16777216)
theorem repOk_eq {n : Nat} {k : Int} (h : repOk n k = true) : -(2 ^ 62) ≤ k ∧ k < 2 ^ 62 ∧ n * k.toNat ≤ 16777216 := by unfold repOk at h; rw [decide_eq_true_eq] at h; exact h
def dMulA : D → D → Option D
  | .int a, .int b => if mulOk a b = true then some (.int (a * b)) else none
  | .str z, .int k => if repOk z.length k = true then some (.str (Txt.mul z k)) else none
  | .tuple ds, .int k => if repOk ds.length k = true then some (.tuple (List.replicate k.toNat ds).flatten) else none
  | _, _ => none
abbrev rMulA (K : PySem.W.Frag) : R2 := fun x y H Q => rI IntMulOk (fun i j => .int (i * j)) x y H Q ∨ (rMulS x y H Q ∨ rRepA K x y H Q)
theorem op_mulA {X : Cx} : OpR X (binaryOp .Mult) (rMulA X.K) := op_mulD.or (op_mulS.or op_repA)
theorem dpAll_rep {K : PySem.W.Frag} {F : Hp} {vs : List V} {ds : List D} (h : DpAll K F vs ds) : ∀ n : Nat, DpAll K F (List.replicate n vs).flatten (List.replicate n ds).flatten
  | 0 => .nil
  | n + 1 => by rw [List.replicate_succ, List.replicate_succ, List.flatten_cons, List.flatten_cons]; exact h.append (dpAll_rep h n)
theorem v_mulA {K : PySem.W.Frag} : Op2 K (rMulA K) dMulA := by
  intro F H x y dx dy d Q s hx hy e k
  match dx, dy, hx, hy, e with
  | .int a, .int b, hx, hy, e =>
    cases hx; cases hy
    have e : (if mulOk a b = true then some (PyData.int (a * b)) else none) = some d := e
    by_cases hz : mulOk a b = true
    · rw [if_pos hz] at e; cases e
      exact .inl ⟨a, b, rfl, rfl, mulOk_ok hz, k F H _ (Al.refl s) (.int _)⟩
    · rw [if_neg hz] at e; cases e
  | .str z, .int b, hx, hy, e =>
    cases hx; cases hy
    have e : (if repOk z.length b = true then some (PyData.str (Txt.mul z b)) else none) = some d := e
    by_cases hz : repOk z.length b = true
    · rw [if_pos hz] at e; cases e
      obtain ⟨h1, h2, h3⟩ := repOk_eq hz
      exact .inr (.inl ⟨z, b, rfl, rfl, mulOk_str h1 h2 h3, k F H _ (Al.refl s) (.str _)⟩)
    · rw [if_neg hz] at e; cases e
  | .tuple ds, .int b, hx, hy, e =>
    cases hy
    have e : (if repOk ds.length b = true then some (PyData.tuple (List.replicate b.toNat ds).flatten) else none) = some d := e
    by_cases hz : repOk ds.length b = true
    · rw [if_pos hz] at e; cases e
      obtain ⟨h1, h2, h3⟩ := repOk_eq hz
      cases hx with
      | @tup a vs _ q1 r1 =>
        refine .inr (.inr ⟨a, b, vs, rfl, rfl, sqT_mono s q1, h1, h2, by rw [r1.length]; exact h3, fun hb => ?_, fun hb p hp => ?_⟩)
        · have e2 : (List.replicate b.toNat ds).flatten = ds := by
            rcases hb with hb | hb
            · subst hb; cases r1; generalize b.toNat = n; induction n with
              | zero => rfl
              | succ n ih => rw [List.replicate_succ, List.flatten_cons, ih]; rfl
            · subst hb; show (List.replicate 1 ds).flatten = ds; rw [List.replicate_succ, List.flatten_cons]; exact List.append_nil _
          exact k F H (.ref a) (Al.refl s) (by rw [e2]; exact .tup q1 r1)
        · have al := Al.laid (o := .tup (List.replicate b.toNat vs).flatten) s hp
          exact k _ _ _ al (.tup (.inl (.inl upd_same)) (dpAll_rep (dpAll_mono al.ff r1) _))
    · rw [if_neg hz] at e; cases e
/-! ### list.index of ints -/
def ixOf (k : Int) : List Int → Option Nat
  | [] => none
  | n :: r => if n = k then some 0 else (ixOf k r).map (· + 1)
theorem ixOf_ok {k : Int} : ∀ {ns : List Int} {j : Nat}, ixOf k ns = some j → ns[j]? = some k ∧ ∀ m, m < j → ns[m]? ≠ some k
  | [], j, h => by cases h
  | n :: r, j, h => by
    unfold ixOf at h
    by_cases e : n = k
    · rw [if_pos e] at h
      cases h
      exact ⟨by rw [← e]; rfl, fun m hm => absurd hm (Nat.not_lt_zero _)⟩
    · rw [if_neg e] at h
      obtain ⟨i, h1, rfl⟩ := Option.map_eq_some_iff.mp h
      obtain ⟨h2, h3⟩ := ixOf_ok h1
      refine ⟨by rw [List.getElem?_cons_succ]; exact h2, fun m hm => ?_⟩
      cases m with
      | zero => intro z; rw [List.getElem?_cons_zero] at z; exact e (Option.some.inj z)
      | succ m => rw [List.getElem?_cons_succ]; exact h3 m (by omega)
def lIndex : List D → List D → Option (D × List D)
  | ds, [.int k] => (intsD ds).bind fun ns => (ixOf k ns).map fun j => (.int (j : Nat), ds)
  | _, _ => none
theorem l_index {K : PySem.W.Frag} : OpL K (rIndex K) lIndex := by
  intro F H a vs xs ds es z Q h d1 d2 e k
  match es, d2, e with
  | [.int x], d2, e =>
    obtain ⟨v, rfl, dv⟩ := one_of d2
    cases dv
    obtain ⟨ns, e1, e⟩ := Option.bind_eq_some_iff.mp e
    obtain ⟨j, e2, e⟩ := Option.map_eq_some_iff.mp e
    cases e
    have := intsD_eq e1; subst this
    have := dp_ints_inv d1; subst this
    obtain ⟨h1, h2⟩ := ixOf_ok e2
    have hu : upd H a (.lst (ns.map V.int)) = H := by
      funext b
      unfold upd
      by_cases z : b = a
      · rw [if_pos z, z, h]
      · rw [if_neg z]
    have hq := k (.int (j : Nat)) (ns.map V.int) (.int _) d1
    rw [hu] at hq
    refine ⟨a, ns.map V.int, .int x, j, .int x, rfl, rfl, .inl (.inl h), rfl, ?_, by rw [List.getElem?_map, h1]; rfl, ?_, fun m z' hm hz => ?_, hq⟩
    · rw [List.all_map, List.all_eq_true]; exact fun _ _ => rfl
    · show (x == x) = true
      exact beq_self_eq_true _
    · rw [List.getElem?_map] at hz
      obtain ⟨n, h3, rfl⟩ := Option.map_eq_some_iff.mp hz
      show (n == x) = false
      rw [beq_eq_false_iff_ne]
      intro q
      exact h2 m hm (by rw [h3, q])
/-- l.index(x), l plain data -/
def eIdx (fo : FE) (fa : FA) : FE := fun ρ => (fo ρ).bind fun p => match p.1 with
  | .list ds => (fa p.2).bind fun q => (lIndex ds q.1).map fun z => (z.1, q.2)
  | _ => none
section
variable {X : Cx} {o e : Expr} {es : List Expr} {to : TE} {fo : FE} {t : TA} {fa : FA} {name : Str} {apos cpos : Pos} {id : String}
theorem de_lix (slot : Slot "list" name id) (hty : typeOf (.builtin id) = pure (.type "method_descriptor")) (hm : MtR X id (rIndex X.K)) (ho : DE X o to fo) (ha : DA X (e :: es) t fa)
    (hbase : attributeBase o name X.env (eval o X.env) = eval o X.env := by rfl)
    (hfew : ((backTo cpos (starEach (e :: es) X.env)).all (fun x => !x.1) && (backToKw cpos (keywordEach [] X.env)).all (fun x => x.1.isSome)
      && decide ((e :: es).length + ([] : List Keyword).length + (if ([] : List Keyword).isEmpty then 0 else 1) < 30)) = true := by rfl)
    (hline : (apos.endLine == cpos.line) = true := by rfl) (hs : starEach (e :: es) X.env = (false, eval e X.env) :: starEach es X.env := by rfl) (hplain : (backTo cpos (starEach es X.env)).any (·.1) = false := by rfl) :
    DE X (.Call (.Attribute o name apos) (e :: es) [] cpos) (tBM X.K "list" (rIndex X.K) to t) (eIdx fo fa) := by
  refine ⟨pe_bm PySem.F.plainAttrs_list slot hty hm ho.pe ha.pe hbase hfew hline hs hplain, ?_⟩
  intro B F io σ H ρ d ρ' Q c h k
  obtain ⟨p, e1, h⟩ := Option.bind_eq_some_iff.mp h
  refine ho.se B F io σ H ρ p.1 p.2 _ c e1 fun F1 H1 x g1 c1 d1 => ?_
  obtain ⟨dp, ρp⟩ := p
  cases dp with
  | list ds =>
    obtain ⟨q, e3, h⟩ := Option.bind_eq_some_iff.mp h
    obtain ⟨z, e4, h⟩ := Option.map_eq_some_iff.mp h
    cases h
    cases d1 with
    | @lst a vs _ q1 r1 =>
      refine ⟨.inl ⟨rfl, vs, c1.frz.seq q1⟩, ?_⟩
      refine ha.se B F1 io σ H1 _ q.1 q.2 _ c1 e3 fun F2 H2 xs g2 c2 d2 => ?_
      obtain ⟨es2, ρq⟩ := q
      match es2, d2, e4 with
      | [.int x], d2, e4 =>
        obtain ⟨v, rfl, dv⟩ := one_of d2
        cases dv
        obtain ⟨ns, e5, e4⟩ := Option.bind_eq_some_iff.mp e4
        obtain ⟨j, e6, e4⟩ := Option.map_eq_some_iff.mp e4
        cases e4
        have := intsD_eq e5; subst this
        have := dp_ints_inv r1; subst this
        obtain ⟨h1, h2⟩ := ixOf_ok e6
        refine ⟨a, ns.map V.int, .int x, j, .int x, rfl, rfl, c2.frz.seq (g2.sub.seq q1), rfl, ?_, by rw [List.getElem?_map, h1]; rfl, ?_, fun m z' hm hz => ?_, k F2 H2 _ (g1.trans g2) c2 (.int _)⟩
        · rw [List.all_map, List.all_eq_true]; exact fun _ _ => rfl
        · show (x == x) = true
          exact beq_self_eq_true _
        · rw [List.getElem?_map] at hz
          obtain ⟨n, h3, rfl⟩ := Option.map_eq_some_iff.mp hz
          show (n == x) = false
          rw [beq_eq_false_iff_ne]
          intro q
          exact h2 m hm (by rw [h3, q])
  | _ => cases h
end
/-- a def's plain function by its body -/
class FnIs (m : FnS) (n : outParam Nat) (ios : outParam (List Nat)) (s : outParam FS) : Prop where
  eq : m = fnSem n ios s
end L2.Pd

namespace L2.Pd
open PySem PySem.Spec PyProof.Rows
/-! ## Comprehensions of two clauses -/
def stp2 (c : FT) (lk1 : Option Nat) (vs1 : List Nat) (it1 : FA) (g1 : FG) (c1 : FT) (e : FE) (acc : List D) (ρ : En) : Option (List D × En) := (c ρ).bind fun p => if p.1 = true then (it1 p.2).bind fun q => compG lk1 q.1 vs1 g1 (stp c1 e) q.1 acc q.2 else some (acc, p.2)
def eComp2 (lk : Option Nat) (vs : List Nat) (it : FA) (g : FG) (c : FT) (lk1 : Option Nat) (vs1 : List Nat) (it1 : FA) (g1 : FG) (c1 : FT) (e : FE) : FN := fun ρ => (it ρ).bind fun p => (compG lk p.1 vs g (stp2 c lk1 vs1 it1 g1 c1 e) p.1 [] p.2).map fun q => (.ol q.1, putB vs p.2 (killL vs q.2))
section
variable {X : Cx} {tg iter tg1 iter1 elt : Expr} {ifs ifs1 : List Expr} {scope : Scope} {own : List (Str × Nat)} {pos : Pos} {wi wi1 : TI} {fi fi1 : FA} {lk lk1 : Option Nat} {ws vs ws1 vs1 : List Nat} {t1 t2 : TG} {g1 g2 : FG} {tt tt1 : TT} {fc fc1 : FT} {te : TE} {fe : FE}
theorem sn_comp2 {K : PySem.W.Frag} (hi : SI K lk wi fi) (hg : SG K [] ws t1 g1) (hc : ST K tt fc) (hi1 : SI K lk1 wi1 fi1) (hg1 : SG K [] ws1 t2 g2) (hc1 : ST K tt1 fc1) (he : SE K te fe) (hw : ∀ i ∈ ws, i ∈ vs) (hw1 : ∀ i ∈ ws1, i ∈ vs1) (hvv : ∀ i ∈ vs1, i ∈ vs) (hlv : ∀ j, lk = some j → j ∉ vs) (hlv1 : ∀ j, lk1 = some j → j ∉ vs1) :
    SN K (tLc2 wi t1 tt wi1 t2 tt1 te vs vs1) (eComp2 lk vs fi g1 fc lk1 vs1 fi1 g2 fc1 fe) := by
  intro B F io σ H ρ cl ρ' Q c e k
  obtain ⟨⟨xs, ρ0⟩, e1, e⟩ := Option.bind_eq_some_iff.mp e
  obtain ⟨⟨out, ρz⟩, e2, e3⟩ := Option.map_eq_some_iff.mp e
  cases e3
  refine hi B F io σ H ρ xs ρ0 _ c e1 fun F0 H0 J C g0 c0 wk hcl hlk => ?_
  intro Dd nD
  have bD : B Dd = none := c0.base.free nD
  have fD0 : F0 Dd = none := c0.frz.free nD
  have hσ : ∀ i, i ∉ vs → (wipe σ vs)[i]? = σ[i]? := wipe_get σ vs
  refine ⟨fun i m H => m = xs.length - i ∧ i ≤ xs.length ∧ ∃ F2 ρ2 acc accV, Gr B F0 F2 ∧ Con K (upd B Dd (.lst accV)) F2 [] (wipe σ vs) H (killL vs ρ2) ∧ F2 Dd = none ∧ DpAll K F2 accV acc ∧ compG lk xs vs g1 (stp2 fc lk1 vs1 fi1 g2 fc1 fe) (xs.drop i) acc ρ2 = some (out, ρz),
    ⟨xs.length, by simp, Nat.zero_le _, F0, ρ0, [], [], Gr.refl _ _, (c0.toBase nD).move vs (wipe_length σ vs) hσ (fun p hp => absurd hp (List.not_mem_nil)), fD0, .nil, e2⟩, ?_⟩
  rintro i m H2 ⟨rfl, hi2, F2, ρ2, acc, accV, gq2, c2, fD, dA, e4⟩
  by_cases hlt : i < xs.length
  · rw [List.drop_eq_getElem_cons hlt] at e4
    unfold compG at e4
    by_cases hlo : lockOk lk xs (killL vs ρ2) = true
    · rw [if_pos hlo] at e4
      obtain ⟨ρ3, e5, e4⟩ := Option.bind_eq_some_iff.mp e4
      obtain ⟨⟨acc4, ρ4⟩, e6, e7⟩ := Option.bind_eq_some_iff.mp e4
      have cc := hcl _ F2 [] (wipe σ vs) H2 (killL vs ρ2) gq2.sub c2 hlo (fun j hj => hσ j (hlv j hj))
      refine .inr ⟨wk.go i F2 H2 cc hlt, fun H' => ∃ m', m' < xs.length - i ∧ (m' = xs.length - (i + 1) ∧ i + 1 ≤ xs.length ∧ ∃ F2 ρ2 acc accV, Gr B F0 F2 ∧ Con K (upd B Dd (.lst accV)) F2 [] (wipe σ vs) H' (killL vs ρ2) ∧ F2 Dd = none ∧ DpAll K F2 accV acc ∧ compG lk xs vs g1 (stp2 fc lk1 vs1 fi1 g2 fc1 fe) (xs.drop (i + 1)) acc ρ2 = some (out, ρz)), fun H' h => h, fun x H' y => ?_⟩
      obtain ⟨e8, d, e9, dd⟩ := wk.yld i F2 H2 x H' cc hlt y
      subst e8
      rw [List.getElem?_eq_getElem hlt] at e9
      cases e9
      refine hg _ F2 [] (wipe σ vs) H' (killL vs ρ2) x xs[i] ρ3 _ rfl c2 dd e5 fun F3 σ3 H3 g3 c3 off => ⟨?_, ?_⟩
      · rw [wipe_off off hw, wipe_wipe]
      obtain ⟨p, e10, e11⟩ := Option.bind_eq_some_iff.mp e6
      refine hc _ F3 [] σ3 H3 ρ3 p.1 p.2 _ c3 e10 fun F4 H4 g4 c4 => ?_
      have back : ∀ {F5 : Hp} {H5 : Hp} {ρ5 : En} {B5 : Hp} {σ5 : St}, σ5.length = σ3.length → (∀ j, j ∉ vs → σ5[j]? = σ3[j]?) → Con K B5 F5 [] σ5 H5 ρ5 → Con K B5 F5 [] (wipe σ vs) H5 (killL vs ρ5) := fun {F5 H5 ρ5 B5 σ5} hl5 h5 c5 =>
        c5.move vs (by rw [hl5, off.1]) (fun j hj => by rw [h5 j hj]; exact ((off.2 j fun z => hj (hw j z))).symm) (fun p hp => absurd hp (List.not_mem_nil))
      by_cases hp : p.1 = true
      · rw [if_pos hp] at e11 ⊢
        obtain ⟨⟨xs1, ρ5⟩, e12, e13⟩ := Option.bind_eq_some_iff.mp e11
        refine hi1 _ F4 [] σ3 H4 p.2 xs1 ρ5 _ c4 e12 fun F5 H5 J1 C1 g5 c5 wk1 hcl1 hlk1 => ?_
        have hσ1 : ∀ i, i ∉ vs1 → (wipe σ3 vs1)[i]? = σ3[i]? := wipe_get σ3 vs1
        have gg5 := (g3.trans g4).trans g5
        refine ⟨fun j m H => m = xs1.length - j ∧ j ≤ xs1.length ∧ ∃ F6 ρ6 acc6 accV6, Gr B F0 F6 ∧ Same F5 F6 ∧ Con K (upd B Dd (.lst accV6)) F6 [] (wipe σ3 vs1) H (killL vs1 ρ6) ∧ F6 Dd = none ∧ DpAll K F6 accV6 acc6 ∧ compG lk1 xs1 vs1 g2 (stp fc1 fe) (xs1.drop j) acc6 ρ6 = some (acc4, ρ4),
          ⟨xs1.length, by simp, Nat.zero_le _, F5, ρ5, acc, accV, gq2.trans (gg5.unBase bD), Same.refl _, c5.move vs1 (wipe_length σ3 vs1) hσ1 (fun p hp => absurd hp (List.not_mem_nil)), gg5.at fD, dpAll_mono gg5.sub dA, e13⟩, ?_⟩
        rintro j m H6 ⟨rfl, hj2, F6, ρ6, acc6, accV6, g6, s56, c6, fD6, dA6, e14⟩
        by_cases hlt1 : j < xs1.length
        · rw [List.drop_eq_getElem_cons hlt1] at e14
          unfold compG at e14
          by_cases hlo1 : lockOk lk1 xs1 (killL vs1 ρ6) = true
          · rw [if_pos hlo1] at e14
            obtain ⟨ρ7, e15, e14⟩ := Option.bind_eq_some_iff.mp e14
            obtain ⟨⟨acc8, ρ8⟩, e16, e17⟩ := Option.bind_eq_some_iff.mp e14
            have cc1 := hcl1 _ F6 [] (wipe σ3 vs1) H6 (killL vs1 ρ6) s56 c6 hlo1 (fun j hj => hσ1 j (hlv1 j hj))
            refine .inr ⟨wk1.go j F6 H6 cc1 hlt1, fun H' => ∃ m', m' < xs1.length - j ∧ (m' = xs1.length - (j + 1) ∧ j + 1 ≤ xs1.length ∧ ∃ F6 ρ6 acc6 accV6, Gr B F0 F6 ∧ Same F5 F6 ∧ Con K (upd B Dd (.lst accV6)) F6 [] (wipe σ3 vs1) H' (killL vs1 ρ6) ∧ F6 Dd = none ∧ DpAll K F6 accV6 acc6 ∧ compG lk1 xs1 vs1 g2 (stp fc1 fe) (xs1.drop (j + 1)) acc6 ρ6 = some (acc4, ρ4)), fun H' h => h, fun x1 H7 y1 => ?_⟩
            obtain ⟨e18, d1, e19, dd1⟩ := wk1.yld j F6 H6 x1 H7 cc1 hlt1 y1
            subst e18
            rw [List.getElem?_eq_getElem hlt1] at e19
            cases e19
            refine hg1 _ F6 [] (wipe σ3 vs1) H7 (killL vs1 ρ6) x1 xs1[j] ρ7 _ rfl c6 dd1 e15 fun F7 σ7 H8 g7 c7 off1 => ⟨?_, ?_⟩
            · rw [wipe_off off1 hw1, wipe_wipe]
            have back1 : ∀ {F9 : Hp} {H9 : Hp} {ρ9 : En} {B9 : Hp}, Con K B9 F9 [] σ7 H9 ρ9 → Con K B9 F9 [] (wipe σ3 vs1) H9 (killL vs1 ρ9) := fun {F9 H9 ρ9 B9} c9 =>
              c9.move vs1 (by rw [off1.1]) (fun j hj => ((off1.2 j fun z => hj (hw1 j z))).symm) (fun p hp => absurd hp (List.not_mem_nil))
            obtain ⟨p1, e20, e21⟩ := Option.bind_eq_some_iff.mp e16
            refine hc1 _ F7 [] σ7 H8 ρ7 p1.1 p1.2 _ c7 e20 fun F9 H9 g9 c9 => ?_
            by_cases hp1 : p1.1 = true
            · rw [if_pos hp1] at e21 ⊢
              obtain ⟨q, e22, e23⟩ := Option.bind_eq_some_iff.mp e21
              by_cases hz : acc6.length < sizeLine
              · rw [if_pos hz] at e23
                cases e23
                refine he _ F9 [] σ7 H9 p1.2 q.1 q.2 _ c9 e22 fun F10 H10 v g10 c10 d10 => ?_
                have gg := (g7.trans g9).trans g10
                have fD10 := gg.at fD6
                have dA10 := dpAll_mono gg.sub dA6
                refine ⟨accV6, c10.base _ _ upd_same, by rw [dA6.length]; exact hz, xs1.length - (j + 1), by omega, rfl, hlt1, F10, q.2, acc6 ++ [q.1], accV6 ++ [v], g6.trans (gg.unBase bD), s56.trans gg.sub, back1 (c10.reBase fD10), fD10, dA10.append (.one d10), e17⟩
              · rw [if_neg hz] at e23; cases e23
            · rw [if_neg hp1] at e21 ⊢
              cases e21
              have gg := g7.trans g9
              exact ⟨xs1.length - (j + 1), by omega, rfl, hlt1, F9, p1.2, acc6, accV6, g6.trans (gg.unBase bD), s56.trans gg.sub, back1 c9, gg.at fD6, dpAll_mono gg.sub dA6, e17⟩
          · rw [if_neg hlo1] at e14; cases e14
        · have hj3 : j = xs1.length := by omega
          subst hj3
          rw [List.drop_length] at e14
          unfold compG at e14
          by_cases hlo1 : lockOk lk1 xs1 (killL vs1 ρ6) = true
          · rw [if_pos hlo1] at e14
            cases e14
            have cc1 := hcl1 _ F6 [] (wipe σ3 vs1) H6 (killL vs1 ρ6) s56 c6 hlo1 (fun j hj => hσ1 j (hlv1 j hj))
            refine .inl ⟨wk1.stop _ F6 H6 cc1 (Nat.le_refl _), ?_⟩
            exact ⟨xs.length - (i + 1), by omega, rfl, hlt, F6, killL vs1 ρ6, acc4, accV6, g6, back (wipe_length σ3 vs1) (fun j hj => hσ1 j fun z => hj (hvv j z)) c6, fD6, dA6, e7⟩
          · rw [if_neg hlo1] at e14; cases e14
      · rw [if_neg hp] at e11 ⊢
        cases e11
        have gg := g3.trans g4
        exact ⟨xs.length - (i + 1), by omega, rfl, hlt, F4, p.2, acc, accV, gq2.trans (gg.unBase bD), back rfl (fun _ _ => rfl) c4, gg.at fD, dpAll_mono gg.sub dA, e7⟩
    · rw [if_neg hlo] at e4; cases e4
  · have hi3 : i = xs.length := by omega
    subst hi3
    rw [List.drop_length] at e4
    unfold compG at e4
    by_cases hlo : lockOk lk xs (killL vs ρ2) = true
    · rw [if_pos hlo] at e4
      cases e4
      have cc := hcl _ F2 [] (wipe σ vs) H2 (killL vs ρ2) gq2.sub c2 hlo (fun j hj => hσ j (hlv j hj))
      refine .inl ⟨wk.stop _ F2 H2 cc (Nat.le_refl _), ?_⟩
      have cf : Con K (upd B Dd (.lst accV)) F2 io σ H2 (killL vs (killL vs ρ2)) := c2.move vs (wipe_length σ vs).symm (fun j hj => (hσ j hj).symm) c.io
      exact k F2 H2 Dd (.lst accV) (g0.trans gq2) (Con.putB c0 gq2.sub vs (cf.unBase bD)) (c2.base _ _ upd_same) dA fD bD (notOwned_putB vs cf.notOwned_base)
    · rw [if_neg hlo] at e4; cases e4
end
section
variable {X : Cx} {elt tg iter tg1 iter1 : Expr} {ifs ifs1 : List Expr} {scope : Scope} {own : List (Str × Nat)} {pos : Pos} {wi : TI} {lk lk1 : Option Nat} {fi fi1 : FA} {ws ws1 vs1 : List Nat} {g1 g2 : FG} {fc fc1 : FT} {fe : FE} {L : List Nat}
  {t1 t2 : Shared → Hp → Addr → List (Str × Addr) → List Addr → TG} {wi1 : Shared → Hp → Addr → List (Str × Addr) → List Addr → TI} {tt tt1 : Shared → Hp → Addr → List (Str × Addr) → List Addr → TT} {te : Shared → Hp → Addr → List (Str × Addr) → List Addr → TE}
theorem dn_comp2X (vs1 : List Nat) (hcm : X.calm = true) (hN : X.N.Nodup) (hi : DI X lk tg iter wi fi) (ok : BlkOk X.N X.env.scope scope own)
    (hg : ∀ (s : Shared) (H : Hp) (C : Addr) (cl : List (Str × Addr)) (fp : List Addr), DG (X.blk s H scope (compEnvC scope cl C X.env) fp) [] ws tg (t1 s H C cl fp) g1) (ht : ∀ (s : Shared) (H : Hp) (C : Addr) (cl : List (Str × Addr)) (fp : List Addr), DTs (X.blk s H scope (compEnvC scope cl C X.env) fp) ifs (tt s H C cl fp) fc)
    (hi1 : ∀ (s : Shared) (H : Hp) (C : Addr) (cl : List (Str × Addr)) (fp : List Addr), DI (X.blk s H scope (compEnvC scope cl C X.env) fp) lk1 tg1 iter1 (wi1 s H C cl fp) fi1)
    (hg1 : ∀ (s : Shared) (H : Hp) (C : Addr) (cl : List (Str × Addr)) (fp : List Addr), DG (X.blk s H scope (compEnvC scope cl C X.env) fp) [] ws1 tg1 (t2 s H C cl fp) g2) (ht1 : ∀ (s : Shared) (H : Hp) (C : Addr) (cl : List (Str × Addr)) (fp : List Addr), DTs (X.blk s H scope (compEnvC scope cl C X.env) fp) ifs1 (tt1 s H C cl fp) fc1)
    (he : ∀ (s : Shared) (H : Hp) (C : Addr) (cl : List (Str × Addr)) (fp : List Addr), DE (X.blk s H scope (compEnvC scope cl C X.env) fp) elt (te s H C cl fp) fe) (hw : ∀ i ∈ ws, i ∈ own.map (·.2) := by decide) (hw1 : ∀ i ∈ ws1, i ∈ vs1 := by decide) (hvv : ∀ i ∈ vs1, i ∈ own.map (·.2) := by decide) (hlv : ∀ j, lk = some j → j ∉ own.map (·.2) := by decide) (hlv1 : ∀ j, lk1 = some j → j ∉ vs1 := by decide)
    (hs : ∀ x, foldedSetIterable iter X.env x = pure x := by intro _; rfl) (hs1 : ∀ env x, foldedSetIterable iter1 env x = pure x := by intro _ _; rfl)
    (h1 : ∀ s H C cl fp, t1 s H C cl fp = t1 X.s_0 X.H_0 0 [] [] := by exact fun _ _ _ _ _ => rfl) (h2 : ∀ s H C cl fp, tt s H C cl fp = tt X.s_0 X.H_0 0 [] [] := by exact fun _ _ _ _ _ => rfl) (h3 : ∀ s H C cl fp, te s H C cl fp = te X.s_0 X.H_0 0 [] [] := by exact fun _ _ _ _ _ => rfl)
    (h4 : ∀ s H C cl fp, wi1 s H C cl fp = wi1 X.s_0 X.H_0 0 [] [] := by exact fun _ _ _ _ _ => rfl) (h5 : ∀ s H C cl fp, t2 s H C cl fp = t2 X.s_0 X.H_0 0 [] [] := by exact fun _ _ _ _ _ => rfl) (h6 : ∀ s H C cl fp, tt1 s H C cl fp = tt1 X.s_0 X.H_0 0 [] [] := by exact fun _ _ _ _ _ => rfl) :
    DN X (.ListComp elt [⟨tg, iter, ifs, 0⟩, ⟨tg1, iter1, ifs1, 0⟩] scope pos) (tLc2 wi (t1 X.s_0 X.H_0 0 [] []) (tt X.s_0 X.H_0 0 [] []) (wi1 X.s_0 X.H_0 0 [] []) (t2 X.s_0 X.H_0 0 [] []) (tt1 X.s_0 X.H_0 0 [] []) (te X.s_0 X.H_0 0 [] []) (own.map (·.2)) vs1) (eComp2 lk (own.map (·.2)) fi g1 fc lk1 vs1 fi1 g2 fc1 fe) :=
  ⟨pe_lc2 hcm hN hi.pe ok hvv (fun s H C cl fp => h1 s H C cl fp ▸ (hg s H C cl fp).pe) (fun s H C cl fp => h2 s H C cl fp ▸ (ht s H C cl fp).pe) (fun s H C cl fp => h4 s H C cl fp ▸ (hi1 s H C cl fp).pe) (fun s H C cl fp => h5 s H C cl fp ▸ (hg1 s H C cl fp).pe) (fun s H C cl fp => h6 s H C cl fp ▸ (ht1 s H C cl fp).pe) (fun s H C cl fp => h3 s H C cl fp ▸ (he s H C cl fp).pe) hs hs1,
   sn_comp2 hi.se (hg X.s_0 X.H_0 0 [] []).se (ht X.s_0 X.H_0 0 [] []).se (hi1 X.s_0 X.H_0 0 [] []).se (hg1 X.s_0 X.H_0 0 [] []).se (ht1 X.s_0 X.H_0 0 [] []).se (he X.s_0 X.H_0 0 [] []).se hw hw1 hvv hlv hlv1⟩
theorem ds_setComp2NX {i : Nat} {y : Str} {py spos : Pos} (vs1 : List Nat) (hcm : X.calm = true) (hN : X.N.Nodup) (hi : DI X lk tg iter wi fi) (ok : BlkOk X.N X.env.scope scope own)
    (hg : ∀ (s : Shared) (H : Hp) (C : Addr) (cl : List (Str × Addr)) (fp : List Addr), DG (X.blk s H scope (compEnvC scope cl C X.env) fp) [] ws tg (t1 s H C cl fp) g1) (ht : ∀ (s : Shared) (H : Hp) (C : Addr) (cl : List (Str × Addr)) (fp : List Addr), DTs (X.blk s H scope (compEnvC scope cl C X.env) fp) ifs (tt s H C cl fp) fc)
    (hi1 : ∀ (s : Shared) (H : Hp) (C : Addr) (cl : List (Str × Addr)) (fp : List Addr), DI (X.blk s H scope (compEnvC scope cl C X.env) fp) lk1 tg1 iter1 (wi1 s H C cl fp) fi1)
    (hg1 : ∀ (s : Shared) (H : Hp) (C : Addr) (cl : List (Str × Addr)) (fp : List Addr), DG (X.blk s H scope (compEnvC scope cl C X.env) fp) [] ws1 tg1 (t2 s H C cl fp) g2) (ht1 : ∀ (s : Shared) (H : Hp) (C : Addr) (cl : List (Str × Addr)) (fp : List Addr), DTs (X.blk s H scope (compEnvC scope cl C X.env) fp) ifs1 (tt1 s H C cl fp) fc1)
    (he : ∀ (s : Shared) (H : Hp) (C : Addr) (cl : List (Str × Addr)) (fp : List Addr), DE (X.blk s H scope (compEnvC scope cl C X.env) fp) elt (te s H C cl fp) fe) (hy : X.N[i]? = some y := by rfl) (hyl : X.env.scope.names.lookup y = some .local := by rfl)
    (hsw : swapsWith (.ListComp elt [⟨tg, iter, ifs, 0⟩, ⟨tg1, iter1, ifs1, 0⟩] scope pos) (some (.Name y py)) spos.line X.env = pure true := by exact sw_true rfl rfl rfl (by decide +kernel))
    (hw : ∀ i ∈ ws, i ∈ own.map (·.2) := by decide) (hw1 : ∀ i ∈ ws1, i ∈ vs1 := by decide) (hvv : ∀ i ∈ vs1, i ∈ own.map (·.2) := by decide) (hlv : ∀ j, lk = some j → j ∉ own.map (·.2) := by decide) (hlv1 : ∀ j, lk1 = some j → j ∉ vs1 := by decide) (hl : i ∉ L := by decide)
    (hs : ∀ x, foldedSetIterable iter X.env x = pure x := by intro _; rfl) (hs1 : ∀ env x, foldedSetIterable iter1 env x = pure x := by intro _ _; rfl)
    (h1 : ∀ s H C cl fp, t1 s H C cl fp = t1 X.s_0 X.H_0 0 [] [] := by exact fun _ _ _ _ _ => rfl) (h2 : ∀ s H C cl fp, tt s H C cl fp = tt X.s_0 X.H_0 0 [] [] := by exact fun _ _ _ _ _ => rfl) (h3 : ∀ s H C cl fp, te s H C cl fp = te X.s_0 X.H_0 0 [] [] := by exact fun _ _ _ _ _ => rfl)
    (h4 : ∀ s H C cl fp, wi1 s H C cl fp = wi1 X.s_0 X.H_0 0 [] [] := by exact fun _ _ _ _ _ => rfl) (h5 : ∀ s H C cl fp, t2 s H C cl fp = t2 X.s_0 X.H_0 0 [] [] := by exact fun _ _ _ _ _ => rfl) (h6 : ∀ s H C cl fp, tt1 s H C cl fp = tt1 X.s_0 X.H_0 0 [] [] := by exact fun _ _ _ _ _ => rfl) :
    DS X L (.Assign [.Name y py] (.ListComp elt [⟨tg, iter, ifs, 0⟩, ⟨tg1, iter1, ifs1, 0⟩] scope pos) spos) (tAsg (tLc2 wi (t1 X.s_0 X.H_0 0 [] []) (tt X.s_0 X.H_0 0 [] []) (wi1 X.s_0 X.H_0 0 [] []) (t2 X.s_0 X.H_0 0 [] []) (tt1 X.s_0 X.H_0 0 [] []) (te X.s_0 X.H_0 0 [] []) (own.map (·.2)) vs1) (gName i)) (sSetN i (eComp2 lk (own.map (·.2)) fi g1 fc lk1 vs1 fi1 g2 fc1 fe)) :=
  ⟨ps_setLc2 hcm hN hy hyl hsw hi.pe ok hvv (fun s H C cl fp => h1 s H C cl fp ▸ (hg s H C cl fp).pe) (fun s H C cl fp => h2 s H C cl fp ▸ (ht s H C cl fp).pe) (fun s H C cl fp => h4 s H C cl fp ▸ (hi1 s H C cl fp).pe) (fun s H C cl fp => h5 s H C cl fp ▸ (hg1 s H C cl fp).pe) (fun s H C cl fp => h6 s H C cl fp ▸ (ht1 s H C cl fp).pe) (fun s H C cl fp => h3 s H C cl fp ▸ (he s H C cl fp).pe) hs hs1,
   ss_setN hl (sn_comp2 hi.se (hg X.s_0 X.H_0 0 [] []).se (ht X.s_0 X.H_0 0 [] []).se (hi1 X.s_0 X.H_0 0 [] []).se (hg1 X.s_0 X.H_0 0 [] []).se (ht1 X.s_0 X.H_0 0 [] []).se (he X.s_0 X.H_0 0 [] []).se hw hw1 hvv hlv hlv1)⟩
theorem ds_setComp2X {i : Nat} {y : Str} {py spos : Pos} (vs1 : List Nat) (hcm : X.calm = true) (hN : X.N.Nodup) (hi : DI X lk tg iter wi fi) (ok : BlkOk X.N X.env.scope scope own)
    (hg : ∀ (s : Shared) (H : Hp) (C : Addr) (cl : List (Str × Addr)) (fp : List Addr), DG (X.blk s H scope (compEnvC scope cl C X.env) fp) [] ws tg (t1 s H C cl fp) g1) (ht : ∀ (s : Shared) (H : Hp) (C : Addr) (cl : List (Str × Addr)) (fp : List Addr), DTs (X.blk s H scope (compEnvC scope cl C X.env) fp) ifs (tt s H C cl fp) fc)
    (hi1 : ∀ (s : Shared) (H : Hp) (C : Addr) (cl : List (Str × Addr)) (fp : List Addr), DI (X.blk s H scope (compEnvC scope cl C X.env) fp) lk1 tg1 iter1 (wi1 s H C cl fp) fi1)
    (hg1 : ∀ (s : Shared) (H : Hp) (C : Addr) (cl : List (Str × Addr)) (fp : List Addr), DG (X.blk s H scope (compEnvC scope cl C X.env) fp) [] ws1 tg1 (t2 s H C cl fp) g2) (ht1 : ∀ (s : Shared) (H : Hp) (C : Addr) (cl : List (Str × Addr)) (fp : List Addr), DTs (X.blk s H scope (compEnvC scope cl C X.env) fp) ifs1 (tt1 s H C cl fp) fc1)
    (he : ∀ (s : Shared) (H : Hp) (C : Addr) (cl : List (Str × Addr)) (fp : List Addr), DE (X.blk s H scope (compEnvC scope cl C X.env) fp) elt (te s H C cl fp) fe) (hy : X.N[i]? = some y := by rfl) (hyl : X.env.scope.names.lookup y = some .local := by rfl)
    (hsw : swapsWith (.ListComp elt [⟨tg, iter, ifs, 0⟩, ⟨tg1, iter1, ifs1, 0⟩] scope pos) (some (.Name y py)) spos.line X.env = pure true := by exact sw_true rfl rfl rfl (by decide +kernel))
    (hw : ∀ i ∈ ws, i ∈ own.map (·.2) := by decide) (hw1 : ∀ i ∈ ws1, i ∈ vs1 := by decide) (hvv : ∀ i ∈ vs1, i ∈ own.map (·.2) := by decide) (hlv : ∀ j, lk = some j → j ∉ own.map (·.2) := by decide) (hlv1 : ∀ j, lk1 = some j → j ∉ vs1 := by decide) (hl : i ∉ L := by decide)
    (hs : ∀ x, foldedSetIterable iter X.env x = pure x := by intro _; rfl) (hs1 : ∀ env x, foldedSetIterable iter1 env x = pure x := by intro _ _; rfl)
    (h1 : ∀ s H C cl fp, t1 s H C cl fp = t1 X.s_0 X.H_0 0 [] [] := by exact fun _ _ _ _ _ => rfl) (h2 : ∀ s H C cl fp, tt s H C cl fp = tt X.s_0 X.H_0 0 [] [] := by exact fun _ _ _ _ _ => rfl) (h3 : ∀ s H C cl fp, te s H C cl fp = te X.s_0 X.H_0 0 [] [] := by exact fun _ _ _ _ _ => rfl)
    (h4 : ∀ s H C cl fp, wi1 s H C cl fp = wi1 X.s_0 X.H_0 0 [] [] := by exact fun _ _ _ _ _ => rfl) (h5 : ∀ s H C cl fp, t2 s H C cl fp = t2 X.s_0 X.H_0 0 [] [] := by exact fun _ _ _ _ _ => rfl) (h6 : ∀ s H C cl fp, tt1 s H C cl fp = tt1 X.s_0 X.H_0 0 [] [] := by exact fun _ _ _ _ _ => rfl) :
    DS X L (.Assign [.Name y py] (.ListComp elt [⟨tg, iter, ifs, 0⟩, ⟨tg1, iter1, ifs1, 0⟩] scope pos) spos) (tAsg (tLc2 wi (t1 X.s_0 X.H_0 0 [] []) (tt X.s_0 X.H_0 0 [] []) (wi1 X.s_0 X.H_0 0 [] []) (t2 X.s_0 X.H_0 0 [] []) (tt1 X.s_0 X.H_0 0 [] []) (te X.s_0 X.H_0 0 [] []) (own.map (·.2)) vs1) (gName i)) (sSet i (eFrz (eComp2 lk (own.map (·.2)) fi g1 fc lk1 vs1 fi1 g2 fc1 fe))) :=
  ⟨ps_setLc2 hcm hN hy hyl hsw hi.pe ok hvv (fun s H C cl fp => h1 s H C cl fp ▸ (hg s H C cl fp).pe) (fun s H C cl fp => h2 s H C cl fp ▸ (ht s H C cl fp).pe) (fun s H C cl fp => h4 s H C cl fp ▸ (hi1 s H C cl fp).pe) (fun s H C cl fp => h5 s H C cl fp ▸ (hg1 s H C cl fp).pe) (fun s H C cl fp => h6 s H C cl fp ▸ (ht1 s H C cl fp).pe) (fun s H C cl fp => h3 s H C cl fp ▸ (he s H C cl fp).pe) hs hs1,
   ss_set hl (se_frz (sn_comp2 hi.se (hg X.s_0 X.H_0 0 [] []).se (ht X.s_0 X.H_0 0 [] []).se (hi1 X.s_0 X.H_0 0 [] []).se (hg1 X.s_0 X.H_0 0 [] []).se (ht1 X.s_0 X.H_0 0 [] []).se (he X.s_0 X.H_0 0 [] []).se hw hw1 hvv hlv hlv1))⟩
end
/-! ## a, b, c = x, y, z -/
def sPar3 (i j l : Nat) (f : FA) : FS := fun ρ => (f ρ).bind fun p => match p.1 with
  | [d, e, g] => some (.nx (((p.2.set i (.sh d)).set j (.sh e)).set l (.sh g)))
  | _ => none
section
variable {X : Cx} {L : List Nat} {pos : Pos}
theorem ds_par3 {i j l : Nat} {x y z : Str} {a b c : Expr} {ta : TA} {fa : FA} {px py pz pt : Pos} {kt k2 pt2} (hc : X.calm = true) (hN : X.N.Nodup) (ha : DA X [a, b, c] ta fa) (hi : X.N[i]? = some x := by rfl) (hj : X.N[j]? = some y := by rfl) (hl : X.N[l]? = some z := by rfl) (hij : i ≠ j := by decide) (hil : i ≠ l := by decide) (hjl : j ≠ l := by decide)
    (hli : i ∉ L := by decide) (hlj : j ∉ L := by decide) (hll : l ∉ L := by decide)
    (hx : X.env.scope.names.lookup x = some .local := by rfl) (hy : X.env.scope.names.lookup y = some .local := by rfl) (hz : X.env.scope.names.lookup z = some .local := by rfl)
    (hw : swappedStores [.Tuple [.Name x px, .Name y py, .Name z pz] kt pt] (.Tuple [a, b, c] k2 pt2) X.env = pure (some [x, y, z]) := by rfl)
    (hs : swapsWithSole [.Tuple [.Name x px, .Name y py, .Name z pz] kt pt] (.Tuple [a, b, c] k2 pt2) pos.line X.env = pure false := by rfl) :
    DS X L (.Assign [.Tuple [.Name x px, .Name y py, .Name z pz] kt pt] (.Tuple [a, b, c] k2 pt2) pos) (tPar3 i j l ta) (sPar3 i j l fa) := ⟨ps_par3 hc hN hi hj hl hij hil hjl hx hy hz ha.pe hw hs, fun B F io σ H ρ o Dn hL c h p => by
  obtain ⟨q, e1, h⟩ := Option.bind_eq_some_iff.mp h
  refine ha.se B F io σ H ρ q.1 q.2 _ c e1 fun F1 H1 vs g1 c1 d1 => ?_
  obtain ⟨ds, ρ1⟩ := q
  match ds, d1, h with
  | [d, e, g], d1, h =>
    obtain ⟨v, w, u, rfl, q1, q2, q3⟩ := three_of d1
    cases h
    exact ⟨v, w, u, rfl, p F1 _ H1 g1 (((c1.set_sh (by rw [hL]; exact hli) q1).set_sh (by rw [hL]; exact hlj) q2).set_sh (by rw [hL]; exact hll) q3)⟩⟩
end
/-! ## tuple(range(a, b, c)) -/
def rg3N (i j c : Int) : Nat := ((j - i + c - 1) / c).toNat
def rg3V (i j c : Int) : List V := (List.range (rg3N i j c)).map fun k => V.int (i + (k : Nat) * c)
def rg3Ok (i j c : Int) : Bool := decide (0 ≤ i ∧ i < 2 ^ 20 ∧ 0 ≤ j ∧ j < 2 ^ 20 ∧ 0 < c ∧ c < 2 ^ 20)
theorem rg3_size {i j c : Int} (hc : 0 < c) : PySem.Builtin.Range.rangeSize i j c = ((rg3N i j c : Nat) : Int) := by
  unfold PySem.Builtin.Range.rangeSize rg3N
  rw [if_pos (by omega)]
  have e : j - i + c - 1 = (j - i - 1) + 1 * c := by omega
  by_cases h : i < j
  · rw [if_pos h, e, Int.add_mul_ediv_right _ _ (by omega), Int.toNat_of_nonneg (by have := Int.ediv_nonneg (a := j - i - 1) (b := c) (by omega) (by omega); omega)]
  · rw [if_neg h]
    have : (j - i + c - 1) / c ≤ 0 := by
      have : (j - i + c - 1) / c < 1 := Int.ediv_lt_of_lt_mul hc (by omega)
      omega
    omega
theorem rg3_le {i j c : Int} (h : rg3Ok i j c = true) : rg3N i j c ≤ 2 ^ 21 := by
  unfold rg3Ok at h
  simp only [decide_eq_true_eq] at h
  obtain ⟨h1, h2, h3, h4, h5, h6⟩ := h
  unfold rg3N
  have : (j - i + c - 1) / c < 2 ^ 21 := by
    refine Int.ediv_lt_of_lt_mul h5 ?_
    have : (2:Int) ^ 21 * 1 ≤ 2 ^ 21 * c := Int.mul_le_mul_of_nonneg_left (by omega) (by decide)
    omega
  omega
theorem rg3_small {i j c : Int} (h : rg3Ok i j c = true) : PySem.Builtin.Range.small i j c = true := by
  have hn := rg3_le h
  unfold rg3Ok at h
  simp only [decide_eq_true_eq] at h
  obtain ⟨h1, h2, h3, h4, h5, h6⟩ := h
  unfold PySem.Builtin.Range.small
  rw [rg3_size h5]
  generalize rg3N i j c = n at *
  have f : ∀ x : Int, -(2 ^ 62) ≤ x → x < 2 ^ 62 → PySem.Builtin.Range.rangeFitsLong x = true := by
    intro x a b
    unfold PySem.Builtin.Range.rangeFitsLong
    simp
    omega
  rw [if_pos (by omega), f i (by omega) (by omega), f j (by omega) (by omega), f c (by omega) (by omega), f n (by omega) (by omega), f (j + (c - 1)) (by omega) (by omega)]
  simp
theorem rg3V_length (i j c : Int) : (rg3V i j c).length = rg3N i j c := by unfold rg3V; rw [List.length_map, List.length_range]
theorem vals_rg3 {i j c : Int} {acc : Array Value} (h : ItemsOf (fun k v => ∃ t, v = .int (i + k * c) t) acc (rg3N i j c)) : Vals (rg3V i j c) acc.toList := by
  have e : acc.toList.length = rg3N i j c := by rw [Array.length_toList]; exact h.1
  unfold rg3V
  rw [← e]
  refine vals_of_get acc.toList _ fun n u hj => ?_
  obtain ⟨t, rfl⟩ := h.2 n u (by rw [← hj, Array.getElem?_toList])
  exact ⟨t, rfl⟩
def tRg3 (ta : TA) : TE := fun σ H Q => ta σ H fun vs H1 => ∃ i j c, vs = [.int i, .int j, .int c] ∧ rg3Ok i j c = true ∧ ∀ q, H1 q = none → Q (.ref q) (upd H1 q (.tup (rg3V i j c)))
theorem dpAll_rg3 {K : PySem.W.Frag} {F : Hp} (i j c : Int) : DpAll K F (rg3V i j c) ((rngC i c (rg3N i j c))) := by
  unfold rg3V rngC
  generalize List.range (rg3N i j c) = l
  induction l with
  | nil => exact .nil
  | cons x r ih => exact .cons (.int _) ih
def eRg3 (fa : FA) : FE := fun ρ => (fa ρ).bind fun p => match p.1 with
  | [.int i, .int j, .int c] => if rg3Ok i j c = true then some (.tuple ((rngC i c (rg3N i j c))), p.2) else none
  | _ => none
section
variable {X : Cx} {a b e : Expr} {ta : TA} {fa : FA} {p p' pos pos' : Pos}
theorem pe_rg3 (hc : X.calm = true) (hg' : Gl X "tuple") (hm' : X.mg "tuple" = none) (hg : Gl X "range") (hm : X.mg "range" = none) (ha : PA X [a, b, e] ta)
    (he : starEach [a, b, e] X.env = (false, eval a X.env) :: starEach [b, e] X.env := by rfl) (hpl : (backTo pos' (starEach [b, e] X.env)).any (·.1) = false := by rfl)
    (na : starEach [.Call (.Name "range" p') [a, b, e] [] pos'] X.env = (false, eval (.Call (.Name "range" p') [a, b, e] [] pos') X.env) :: starEach [] X.env := by rfl) : PE X (.Call (.Name "tuple" p) [.Call (.Name "range" p') [a, b, e] [] pos'] [] pos) (tRg3 ta) := by
  refine ⟨fun pins s σ H Q I h => ?_⟩
  refine Call_ (ld_blt I hg' hm' boot_tuple (PyProof.Rows.callWith_type1 (args_cons (thn (Q := fun x s' => ∃ r i j c t u v H', x = .ref r ∧ IsRange s'.heap r i j c t u v ∧ Inv X pins σ H' s' ∧ rg3Ok i j c = true ∧ ∀ q, H' q = none → Q (.ref q) (upd H' q (.tup (rg3V i j c)))) ?_ fun x s1 ⟨r, i, j, c, t, u, v, H1, ex, hr, I1, ok, q⟩ => args_nil ?_) na) na))
  · refine Call_ (ld_blt I hg hm boot_range (PyProof.Rows.callWith_type1 (thn (ha.run pos' pins s σ H _ I h) fun us s1 ⟨vs, H1, I1, r1, q1⟩ => ?_) he hpl))
    obtain ⟨i, j, c, rfl, ok, q⟩ := q1
    cases r1 with
    | cons a1 r1 =>
    cases r1 with
    | cons a2 r1 =>
    cases r1 with
    | cons a3 r1 =>
    cases r1
    obtain ⟨t1, rfl⟩ := a1
    obtain ⟨t2, rfl⟩ := a2
    obtain ⟨t3, rfl⟩ := a3
    have ok' := ok
    unfold rg3Ok at ok'
    simp only [decide_eq_true_eq] at ok'
    exact call_range_3 (by omega) ⟨_, i, j, c, _, _, _, H1, rfl, IsRange.new _ _ _ _ _ _ _, I1.kept fun b u e => Heap.get?_push_of_some _ e, ok, q⟩ (Or.inl (PyProof.noPylong_small (by omega)))
  · subst ex
    have hn := rg3_le ok
    have hc0 : 0 < c := by unfold rg3Ok at ok; simp only [decide_eq_true_eq] at ok; omega
    refine call_tuple_range (n := rg3N i j c) (I1.ok.hd hc) hr (rg3_small ok) (rg3_size hc0) (by omega) fun h' tk acc hk hi => ?_
    have I2 : Inv X pins σ H1 { s1 with heap := h', toks := tk } := I1.kept hk
    refine ⟨.ref h'.objs.size, upd H1 h'.objs.size (.tup (rg3V i j c)), I2.laid (t' := tk) (fun c o e => Heap.get?_push_of_some _ e) (Nat.le_refl _) (show ObjOk X.prog X.w _ _ _ (.tup (rg3V i j c)) from ⟨?_, acc.toList, vals_rg3 hi, ?_⟩), rfl, q _ (I2.hok.fresh (Nat.le_refl _))⟩
    · rw [rg3V_length, sizeLine_eq]; omega
    · rw [Array.toArray_toList]; exact IsTup.new _ _
theorem de_rg3 (hc : X.calm = true) (ha : DA X [a, b, e] ta fa) (hm : X.mg "range" = none) (hm' : X.mg "tuple" = none) (hg' : Gl X "tuple" := by rfl) (hg : Gl X "range" := by rfl)
    (he : starEach [a, b, e] X.env = (false, eval a X.env) :: starEach [b, e] X.env := by rfl) (hpl : (backTo pos' (starEach [b, e] X.env)).any (·.1) = false := by rfl)
    (na : starEach [.Call (.Name "range" p') [a, b, e] [] pos'] X.env = (false, eval (.Call (.Name "range" p') [a, b, e] [] pos') X.env) :: starEach [] X.env := by rfl) : DE X (.Call (.Name "tuple" p) [.Call (.Name "range" p') [a, b, e] [] pos'] [] pos) (tRg3 ta) (eRg3 fa) := by
  refine ⟨pe_rg3 hc hg' hm' hg hm ha.pe he hpl na, ?_⟩
  intro B F io σ H ρ d ρ' Q c h k
  obtain ⟨⟨ds, ρ1⟩, e1, h⟩ := Option.bind_eq_some_iff.mp h
  refine ha.se B F io σ H ρ ds ρ1 _ c e1 fun F1 H1 vs g1 c1 d1 => ?_
  match ds, h with
  | [.int i, .int j, .int l], h =>
    obtain ⟨v, w, u, rfl, q1, q2, q3⟩ := three_of d1
    by_cases hz : rg3Ok i j l = true
    · simp only [hz, if_true] at h
      cases h
      cases q1; cases q2; cases q3
      refine ⟨i, j, l, rfl, hz, fun n nn => ?_⟩
      have al := Al.laid (o := .tup (rg3V i j l)) c1.frz nn
      exact k _ _ _ (g1.trans (al.gr c1.base)) (c1.al al) (.tup (.inl (.inl upd_same)) (dpAll_rg3 _ _ _))
    · simp [hz] at h
end
end L2.Pd

namespace L2.Pd
open PySem PySem.Spec PyProof.Rows
/-! ## sum of a list or of a tuple of ints -/
def rSumA (K : PySem.W.Frag) : List V → Hp → VK → Prop := fun xs H Q => ∃ (a : Addr) (ns : List Int), xs = [.ref a] ∧ (SqL K H a (ns.map V.int) ∨ SqT K H a (ns.map V.int)) ∧ Q (.int ns.sum) H
theorem call_sumA {X : Cx} (hc : X.calm = true) : CallR X (.builtin "sum") (rSumA X.K) := by
  intro pins s σ H vs us Q I r h
  obtain ⟨a, ns, rfl, hs, q⟩ := h
  rcases hs with hs | hs
  · exact cr_sum hc pins s σ H _ us Q I r ⟨a, ns, rfl, hs, q⟩
  · obtain ⟨its, rv, pl, _⟩ := I.tuple hs
    rw [Vals.ref1 r]
    obtain ⟨xs, e⟩ := rv.ints.allInts.items
    have hn : numsOf (intItems xs).toList = ns := by rw [← e]; exact rv.ints.numsOf
    rw [nums_intItems] at hn
    have pl : s.heap.IsTuple a its.toArray := pl
    rw [e] at pl
    refine PySem.W.ktm_sumG (I.ok.hd hc) pl fun h' tk t' hk => ?_
    rw [preSum_eq, List.take_of_length_le (by simp), hn]
    exact ⟨.int _, H, I.kept hk, ⟨_, rfl⟩, q⟩
def cSumA : List D → Option D
  | [.list ds] => (intsD ds).map fun ns => .int ns.sum
  | [.tuple ds] => (intsD ds).map fun ns => .int ns.sum
  | _ => none
theorem a_sumA {K : PySem.W.Frag} : OpA K (rSumA K) cSumA := by
  intro F H xs ds d Q s hx e k
  match ds, hx, e with
  | [.list ds], hx, e =>
    obtain ⟨x, rfl, q⟩ := one_of hx
    obtain ⟨ns, e1, e2⟩ := Option.map_eq_some_iff.mp e
    cases e2
    have := intsD_eq e1; subst this
    cases q with
    | lst q1 r1 => have := dp_ints_inv r1; subst this; exact ⟨_, ns, rfl, .inl (s.seq q1), k F H _ (Al.refl s) (.int _)⟩
  | [.tuple ds], hx, e =>
    obtain ⟨x, rfl, q⟩ := one_of hx
    obtain ⟨ns, e1, e2⟩ := Option.map_eq_some_iff.mp e
    cases e2
    have := intsD_eq e1; subst this
    cases q with
    | tup q1 r1 => have := dp_ints_inv r1; subst this; exact ⟨_, ns, rfl, .inr (sqT_mono s q1), k F H _ (Al.refl s) (.int _)⟩
theorem cSumA_L (ns : List Int) : cSumA [.list (ns.map .int)] = some (.int ns.sum) := by show (intsD _).map _ = _; rw [intsD_map]; rfl
theorem cSumA_T (ns : List Int) : cSumA [.tuple (ns.map .int)] = some (.int ns.sum) := by show (intsD _).map _ = _; rw [intsD_map]; rfl
end L2.Pd

namespace L2.Pd
open PySem PySem.Spec PyProof.Rows
/-! ## sorted(..) of a list or a tuple -/
section
open PySem.Calls PySem.W
variable {prog : Program} {w : World} {A : Around} {E : Value → Shared → Prop} {s : Shared}
theorem collect_tupX {l : Addr} {vs : List Value} {Q : List Value → Shared → Prop} (hl : IsTup s.heap l vs.toArray)
    (h : Q vs { s with heap := (s.heap.push (seqObj "list" #[] 0)).update s.heap.objs.size (Obj.mapSeq (· ++ vs.toArray)) }) (hsz : vs.length ≤ sizeLine) :
    wpAny (model prog w) A (collect (.ref l)) Q E s := by
  obtain ⟨o, ho, hc, n, hd⟩ := id hl
  unfold collect
  refine wpAny_bind (wpAny_runValue (codeAny_builtin entry_proto_collect' ?_))
  show wpAny _ _ (do again (.builtin "list.__iadd__" ⟨[← newList [], .ref l], []⟩)) _ _ s
  refine wpAny_bind (wpAny_newList (wpAny_pure ⟨Code.quiet_builtin _ (by decide +kernel), codeAny_builtin entry_list_iadd' ?_⟩))
  show wpAny _ _ (Builtin.List.listExtendWith (.ref s.heap.objs.size) (.ref l) (.ref s.heap.objs.size)) _ _ { s with heap := s.heap.push (seqObj "list" #[] 0) }
  unfold Builtin.List.listExtendWith
  have ho' : (s.heap.push (seqObj "list" #[] 0)).get? l = some o := Heap.get?_push_of_some _ ho
  refine wpAny_bind (wpAny_typeOf (T := "tuple") ⟨o, ho', hc⟩ ?_)
  have ht : (Value.type "tuple" == Value.type "tuple") = true := by rfl
  rw [if_pos (by rw [ht]; simp)]
  refine wpAny_bind (listItems_at ho' hd ?_)
  refine wpAny_bind (listItems_at (xs := #[]) (n := 0) (Heap.get?_push_size _ rfl) rfl ?_)
  rw [if_neg (by simp)]
  refine wpAny_bind (listUpdate_at (xs := #[]) (n := 0) (Heap.get?_push_size _ rfl) rfl ?_ (Nat.zero_le _) (by show (#[] ++ vs.toArray).size ≤ sizeLine + 1; simp only [Array.size_append, List.size_toArray, List.length_nil]; omega))
  refine wpAny_pure ?_
  show wpAny (model prog w) A (do
      let o ← load s.heap.objs.size
      match o.data with
      | .seq xs _ => pure xs.toList
      | _ => unsupported "internal:collect") Q E { s with heap := (s.heap.push (seqObj "list" #[] 0)).update s.heap.objs.size (Obj.mapSeq (· ++ vs.toArray)) }
  refine wpAny_bind (wpAny_load (get?_update_seq (Heap.get?_push_size _ rfl) _) ?_)
  show wpAny _ _ (pure ((#[] : Array Value) ++ vs.toArray).toList) Q E _
  rw [show ((#[] : Array Value) ++ vs.toArray).toList = vs by simp]
  exact wpAny_pure h
theorem sort_ofT {l : Addr} {vs : List Value} {Q : Value → Shared → Prop} (hl : IsTup s.heap l vs.toArray) (hL : vs.length ≤ sizeLine)
    (body : ∀ E' : Value → Shared → Prop, wpAny (model prog w) A.in1.in1 (Builtin.«list.sort» ⟨[.ref (s.heap.objs.size + 1)], []⟩) (fun f s' => f = .done (.ret .none) ∧ Q (.ref (s.heap.objs.size + 1)) s') E' { s with heap := copyHeap s.heap vs }) :
    wpAny (model prog w) A (call (.builtin "sorted") [.ref l]) Q E s := by
  refine call_function_entry_kw kind_sorted plain_sorted entry_sorted (args_sorted1 _) ?_
  unfold Builtin.«sorted»
  refine wpAny_bind (m := checkCount "sorted" 1 1 _) (wpAny_pure ?_)
  refine wpAny_bind (collect_tupX hl ?_ hL)
  refine wpAny_bind (wpAny_newList ?_ hL)
  have hsz : ((s.heap.push (seqObj "list" #[] 0)).update s.heap.objs.size (Obj.mapSeq (· ++ vs.toArray))).objs.size = s.heap.objs.size + 1 := by
    rw [Heap.size_update, size_push']
  show wpAny _ _ _ _ _ { s with heap := copyHeap s.heap vs }
  rw [hsz]
  refine wpAny_bind (wpAny_holding (wpAny_call_entry_kw slot_list_sort ⟨_, copyHeap_at s.heap vs, rfl⟩ entry_list_sort ?body (args_list_sort _)))
  case body =>
    show wpAny (model prog w) A.in1.in1 (Builtin.«list.sort» ⟨[.ref (s.heap.objs.size + 1)], []⟩) _ _ _
    refine wpAny_mono (body _) (fun f s' hf => ?_) fun _ _ e => e
    obtain ⟨rfl, hq⟩ := hf
    exact ⟨_, rfl, wpAny_pure ⟨_, rfl, hq⟩⟩
theorem sorted_dataT {β : Type} {vs : List Value} {bs : List β} {enc : β → PyData} {R : Value → β → Prop} {l : Addr} {Q : Value → Shared → Prop} (hl : IsTup s.heap l vs.toArray) (e : EachIs R vs bs) (er : EachIs (fun v b => ∃ as, Reads s.heap v (enc b) as) vs bs) (hal : AllAlike (bs.map enc)) (hk : Sortable (bs.map enc)) (hL : bs.length ≤ sizeLine)
    (hu : ∀ b, b ∈ bs → A.units + 2 + (enc b).depth < cLine) (h : ∀ out, out.length = bs.length → EachIs R out (bs.mergeSort (dataLe false enc)) → Q (.ref (s.heap.objs.size + 1)) { s with heap := sortedAll s.heap vs (List.toArray out) }) :
    wpAny (model prog w) A (call (.builtin "sorted") [.ref l]) Q E s := by
  have er' : EachIs (fun v b => ∃ as, Reads (sortingHeap (copyHeap s.heap vs) (s.heap.objs.size + 1) vs) v (enc b) as) vs bs := er.mono fun _ _ ⟨as, r⟩ => ⟨as, PyProof.Rows.Reads.keeps (fun _ _ => sorting_copy_old) r⟩
  exact sort_ofT hl (by rw [e.length]; exact hL) fun _ => list_sort_vals (s := { s with heap := copyHeap s.heap vs }) (copyHeap_at s.heap vs) (SortsAt.data (s := { s with heap := sortingHeap (copyHeap s.heap vs) (s.heap.objs.size + 1) vs }) (each_map (R := fun v d => ∃ as, Reads (sortingHeap (copyHeap s.heap vs) (s.heap.objs.size + 1) vs) v d as) enc er') hal hk (bound_map hu)) (by rw [e.length]; exact hL)
    ⟨rfl, h _ (by rw [sortVals_length false rfl]; exact e.length) (sortVals_data false e er' hal)⟩
end
section
variable {X : Cx}
def cSortU : List D → Option Cell
  | [.list ds] => if sortB ds = true then some (.ol (sortD ds)) else none
  | [.tuple ds] => if sortB ds = true then some (.ol (sortD ds)) else none
  | _ => none
def rSrtU (K : PySem.W.Frag) : List V → Hp → VK → Prop := fun xs H Q => ∃ F a vs ds, Same F H ∧ xs = [.ref a] ∧ (SqL K H a vs ∨ SqT K H a vs) ∧ DpAll K F vs ds ∧ sortB ds = true ∧ ∀ p ws, H p = none → DpAll K F ws (sortD ds) → Q (.ref p) (upd H p (.lst ws))
theorem call_srtU (hu : X.A.units + 100 < cLine) : CallR X (.builtin "sorted") (rSrtU X.K) := by
  intro pins s σ H xs us Q I r h
  obtain ⟨F, a, vs, ds, sm, e0, hq, hd, hs, q⟩ := h
  rcases hq with hq | hq
  · exact call_srt hu pins s σ H xs us Q I r ⟨F, a, vs, ds, sm, e0, hq, hd, hs, q⟩
  subst e0
  obtain ⟨u, rfl, rx⟩ := vals1 r
  cases rx
  obtain ⟨its, rv, pl, hz⟩ := I.tuple hq
  obtain ⟨al, sb, ok⟩ := sortB_all hs
  have hl : ds.length ≤ sizeLine := by rw [← hd.length]; exact hz
  refine sorted_dataT (enc := id) (R := DpV X.K F) pl (each_dp rv hd) (reads_each I rv (dpAll_mono sm hd)) (by rw [List.map_id]; exact al) (by rw [List.map_id]; exact sb) hl (fun b hb => ?_) fun out ho eo => ?_
  · have := SeqAt.depth_of_shaped (ok b hb)
    show X.A.units + 2 + b.depth < cLine
    omega
  · obtain ⟨ws, r2, d2⟩ := dp_each eo
    obtain ⟨ep, he'⟩ := PyProof.Rows.sortedAll_at s.heap its (List.toArray out)
    have hlen : ws.length ≤ sizeLine := by rw [r2.length, ho]; exact hl
    exact ⟨.ref _, upd H (s.heap.objs.size + 1) (.lst ws), I.laid (t' := s.toks) (fun _ _ => PyProof.Rows.sortedAll_old) (Nat.le_succ _) ⟨hlen, out, ep, r2, he'⟩, rfl, q _ ws (I.hok.fresh (Nat.le_succ _)) d2⟩
theorem a_sortU {K : PySem.W.Frag} : OpAN K (rSrtU K) cSortU := by
  intro F H xs ds c Q s hx e k
  match ds, hx, e with
  | [.list ds], hx, e =>
    obtain ⟨F', a, vs, ds', h1, h2, h3, h4, h5, h6⟩ := a_sorted F H xs [.list ds] c Q s hx e k
    exact ⟨F', a, vs, ds', h1, h2, .inl h3, h4, h5, h6⟩
  | [.tuple ds], hx, e =>
    obtain ⟨x, rfl, q⟩ := one_of hx
    have e : (if sortB ds = true then some (Cell.ol (sortD ds)) else none) = some c := e
    by_cases hz : sortB ds = true
    · rw [if_pos hz] at e; cases e
      cases q with
      | @tup a vs _ q1 r1 =>
        refine ⟨F, a, vs, ds, s, rfl, .inr (sqT_mono s q1), r1, hz, fun p ws nl d2 => ?_⟩
        have al := Al.laidH (o := .lst ws) s nl
        exact k _ _ p _ al upd_same d2 (s.free nl) nl
    · rw [if_neg hz] at e; cases e
end
end L2.Pd

namespace L2.Pd
open PySem PySem.Spec PyProof.Rows
/-! ## sorted(set(xs)), len(set(xs)) of a list of tuples of ints (less than 64; sorted: as long as each other, no item below 0) -/
def lexZ : List Int → List Int → Bool
  | [], _ => true
  | _ :: _, [] => false
  | x :: r, y :: t => decide (x < y) || (decide (x = y) && lexZ r t)
theorem lexZ_refl : ∀ a : List Int, lexZ a a = true
  | [] => rfl
  | x :: r => by
    show (decide (x < x) || (decide (x = x) && lexZ r r)) = true
    rw [lexZ_refl r, decide_eq_true rfl, Bool.and_self, Bool.or_true]
theorem lexZ_iff {x y : Int} {r t : List Int} : lexZ (x :: r) (y :: t) = true ↔ x < y ∨ (x = y ∧ lexZ r t = true) := by
  show (decide (x < y) || (decide (x = y) && lexZ r t)) = true ↔ _
  rw [Bool.or_eq_true, Bool.and_eq_true, decide_eq_true_eq, decide_eq_true_eq]
theorem lexZ_anti : ∀ a b : List Int, lexZ a b = true → lexZ b a = true → a = b
  | [], [], _, _ => rfl
  | [], _ :: _, _, h => nomatch h
  | _ :: _, [], h, _ => nomatch h
  | x :: r, y :: t, h, k => by
    rw [lexZ_iff] at h k
    rcases h with h | ⟨h1, h2⟩
    · rcases k with k | ⟨k, _⟩ <;> omega
    · rcases k with k | ⟨k1, k2⟩
      · omega
      · rw [h1, lexZ_anti r t h2 k2]
theorem lexZ_trans : ∀ a b c : List Int, lexZ a b = true → lexZ b c = true → lexZ a c = true
  | [], _, _, _, _ => rfl
  | _ :: _, [], _, h, _ => nomatch h
  | _ :: _, _ :: _, [], _, h => nomatch h
  | x :: r, y :: t, z :: u, h, k => by
    rw [lexZ_iff] at h k ⊢
    rcases h with h | ⟨h1, h2⟩
    · rcases k with k | ⟨k, _⟩
      · exact .inl (by omega)
      · exact .inl (by omega)
    · rcases k with k | ⟨k1, k2⟩
      · exact .inl (by omega)
      · exact .inr ⟨by omega, lexZ_trans r t u h2 k2⟩
theorem lexZ_total : ∀ a b : List Int, (lexZ a b || lexZ b a) = true
  | [], _ => rfl
  | _ :: _, [] => rfl
  | x :: r, y :: t => by
    have ih := lexZ_total r t
    rw [Bool.or_eq_true] at ih ⊢
    rw [lexZ_iff, lexZ_iff]
    rcases Int.lt_trichotomy x y with c | c | c
    · exact .inl (.inl c)
    · rcases ih with ih | ih
      · exact .inl (.inr ⟨c, ih⟩)
      · exact .inr (.inr ⟨c.symm, ih⟩)
    · exact .inr (.inl c)
def ddZ : List (List Int) → List (List Int)
  | [] => []
  | x :: r => if x ∈ r then ddZ r else x :: ddZ r
theorem ddZ_mem {x : List Int} : ∀ l : List (List Int), x ∈ ddZ l ↔ x ∈ l
  | [] => Iff.rfl
  | y :: r => by
    have ih := ddZ_mem (x := x) r
    unfold ddZ
    split
    · next h => rw [ih]; exact ⟨List.mem_cons_of_mem _, fun h2 => (List.mem_cons.mp h2).elim (fun e => e ▸ h) id⟩
    · rw [List.mem_cons, List.mem_cons, ih]
theorem ddZ_nd : ∀ l : List (List Int), (ddZ l).Nodup
  | [] => List.nodup_nil
  | y :: r => by
    unfold ddZ
    split
    · exact ddZ_nd r
    · next h => exact List.nodup_cons.mpr ⟨fun k => h ((ddZ_mem r).mp k), ddZ_nd r⟩
def srtZ (ks : List (List Int)) : List (List Int) := (ddZ ks).mergeSort lexZ
theorem srtZ_perm (ks : List (List Int)) : (srtZ ks).Perm (ddZ ks) := List.mergeSort_perm _ _
theorem srtZ_mem {x : List Int} {ks : List (List Int)} : x ∈ srtZ ks ↔ x ∈ ks := (srtZ_perm ks).mem_iff.trans (ddZ_mem ks)
theorem srtZ_nd (ks : List (List Int)) : (srtZ ks).Nodup := (srtZ_perm ks).nodup_iff.mpr (ddZ_nd ks)
theorem srtZ_pw (ks : List (List Int)) : (srtZ ks).Pairwise fun a b => lexZ a b = true := List.pairwise_mergeSort lexZ_trans lexZ_total _
/-- what is sorted by lexZ and has the same items is it -/
theorem srtZ_eq {ks l : List (List Int)} (nd : l.Nodup) (mem : ∀ x, x ∈ l ↔ x ∈ ks) (pw : l.Pairwise fun a b => lexZ a b = true) : l = srtZ ks := by
  have p : l.Perm (srtZ ks) := (List.perm_ext_iff_of_nodup nd (srtZ_nd ks)).mpr fun x => (mem x).trans srtZ_mem.symm
  exact p.eq_of_pairwise (fun a b _ _ h k => lexZ_anti a b h k) pw (srtZ_pw ks)
theorem code_lexZ {B : Int} : ∀ a b : List Int, a.length = b.length → TS.Bd B a → TS.Bd B b → TS.code B a ≤ TS.code B b → lexZ a b = true
  | [], _, _, _, _, _ => rfl
  | _ :: _, [], h, _, _, _ => by simp at h
  | x :: r, y :: t, hl, ha, hb, h => by
    have hl2 : r.length = t.length := by simpa using hl
    clear hl
    rw [lexZ_iff]
    rcases Int.lt_trichotomy x y with c | c | c
    · exact .inl c
    · subst c
      refine .inr ⟨rfl, code_lexZ r t hl2 ha.tail hb.tail ?_⟩
      have q := (TS.code_same (B := B) (d := x) (r := t) (q := r) hl2.symm)
      have n : ¬ TS.code B t < TS.code B r := fun z => by have := q.mpr z; omega
      omega
    · have := TS.code_lt hl2.symm hb.tail ha.tail c
      omega
def tupsI : List D → Option (List (List Int))
  | [] => some []
  | .tuple ds :: r => (intsD ds).bind fun k => (tupsI r).map fun ks => k :: ks
  | _ => none
def tZ (k : List Int) : D := .tuple (k.map .int)
def okZ (ks : List (List Int)) : Bool := decide (ks.length < 64) && ks.all fun k => decide (k.length = (ks.headD [0]).length) && (decide (1 ≤ k.length) && k.all fun z => decide (0 ≤ z))
def cSrtSetT : D → Option Cell
  | .list ds => (tupsI ds).bind fun ks => if okZ ks = true then some (.ol ((srtZ ks).map tZ)) else none
  | _ => none
def dLenSetT : D → Option D
  | .list ds => (tupsI ds).bind fun ks => if ks.length < 64 then some (.int ((ddZ ks).length : Int)) else none
  | _ => none
def eSrtSetT (f : FE) : FN := fun ρ => (f ρ).bind fun p => (cSrtSetT p.1).map fun c => (c, p.2)
def eLenSetT (f : FE) : FE := fun ρ => (f ρ).bind fun p => (dLenSetT p.1).map fun c => (c, p.2)
theorem tups_dp {K : PySem.W.Frag} {F : Hp} : ∀ {ds : List D} {vs : List V} {ks : List (List Int)}, DpAll K F vs ds → tupsI ds = some ks → ∃ kas : List (Addr × List Int), vs = kas.map (fun p => V.ref p.1) ∧ kas.map (·.2) = ks ∧ ∀ p ∈ kas, SqT K F p.1 (p.2.map V.int)
  | [], _, _, h, e => by
    cases h; cases e
    exact ⟨[], rfl, rfl, fun p hp => nomatch hp⟩
  | d :: r, _, _, h, e => by
    cases h with
    | @cons v vs _ _ q t =>
      cases q with
      | @tup a xs ds s1 s2 =>
        obtain ⟨k, e1, e⟩ := Option.bind_eq_some_iff.mp e
        obtain ⟨ks', e2, e⟩ := Option.map_eq_some_iff.mp e
        subst e
        have := intsD_eq e1; subst this
        have := dp_ints_inv s2; subst this
        obtain ⟨kas, h1, h2, h3⟩ := tups_dp t e2
        exact ⟨(a, k) :: kas, by rw [h1]; rfl, by rw [List.map_cons, h2], fun p hp => by
          rcases List.mem_cons.mp hp with rfl | hp
          · exact s1
          · exact h3 p hp⟩
      | _ => cases e
theorem bd_ex : ∀ ks : List (List Int), (∀ k ∈ ks, ∀ z ∈ k, 0 ≤ z) → ∃ B : Int, ∀ k ∈ ks, TS.Bd B k := by
  have one : ∀ k : List Int, (∀ z ∈ k, 0 ≤ z) → ∃ B : Int, 0 ≤ B ∧ TS.Bd B k := by
    intro k
    induction k with
    | nil => exact fun _ => ⟨0, by omega, fun m hm => nomatch hm⟩
    | cons x r ih =>
      intro h
      obtain ⟨B, h0, hB⟩ := ih fun z hz => h z (List.mem_cons_of_mem _ hz)
      have hx := h x List.mem_cons_self
      exact ⟨B + x + 1, by omega, fun m hm => by
        rcases List.mem_cons.mp hm with rfl | hm
        · omega
        · have := hB m hm; omega⟩
  have all : ∀ ks : List (List Int), (∀ k ∈ ks, ∀ z ∈ k, 0 ≤ z) → ∃ B : Int, 0 ≤ B ∧ ∀ k ∈ ks, TS.Bd B k := by
    intro ks
    induction ks with
    | nil => exact fun _ => ⟨0, by omega, fun k hk => nomatch hk⟩
    | cons k r ih =>
      intro h
      obtain ⟨B, h0, hB⟩ := ih fun z hz => h z (List.mem_cons_of_mem _ hz)
      obtain ⟨C, c0, hC⟩ := one k (h k List.mem_cons_self)
      exact ⟨B + C, by omega, fun q hq m hm => by
        rcases List.mem_cons.mp hq with rfl | hq
        · have := hC m hm; omega
        · have := hB q hq m hm; omega⟩
  exact fun ks h => let ⟨B, _, r⟩ := all ks h; ⟨B, r⟩
theorem dp_tups {K : PySem.W.Frag} {F : Hp} : ∀ kas : List (Addr × List Int), (∀ p ∈ kas, SqT K F p.1 (p.2.map V.int)) → DpAll K F (kas.map fun p => V.ref p.1) ((kas.map (·.2)).map tZ)
  | [], _ => .nil
  | p :: r, h => by
    have iv : ∀ ns : List Int, DpAll K F (ns.map V.int) (ns.map PyData.int) := fun ns => by
      induction ns with
      | nil => exact .nil
      | cons n r ih => exact .cons (.int n) ih
    exact .cons (.tup (h p List.mem_cons_self) (iv p.2)) (dp_tups r fun q hq => h q (List.mem_cons_of_mem _ hq))
section
variable {X : Cx} {a : Expr} {ta : TE} {fa : FE} {p p2 q pos : Pos}
abbrev tSetT (K : PySem.W.Frag) (P : Program) (w : World) (r : List V → Hp → VK → Prop) (ta : TE) : TE := tCB r (tCons (tCB (rSetOfT K P w) (tCons ta tNil)) tNil)
theorem se_srtSetT {K : PySem.W.Frag} {P : Program} {w : World} (h : SE K ta fa) : SN K (tSetT K P w (rSortedT K P w) ta) (eSrtSetT fa) := by
  intro B F io σ H ρ c ρ' Q cn e k
  obtain ⟨x, e1, e⟩ := Option.bind_eq_some_iff.mp e
  obtain ⟨c', e2, e⟩ := Option.map_eq_some_iff.mp e
  cases e
  refine h B F io σ H ρ x.1 x.2 _ cn e1 fun F1 H1 v g1 c1 d1 => ?_
  obtain ⟨xd, xρ⟩ := x
  cases xd with
  | list ds =>
    obtain ⟨ks, e3, e4⟩ := Option.bind_eq_some_iff.mp (show ((tupsI ds).bind fun ks => if okZ ks = true then some (Cell.ol ((srtZ ks).map tZ)) else none) = some c from e2)
    split at e4
    · next ok =>
      cases e4
      cases d1 with
      | @lst l vs _ s1 s2 =>
        obtain ⟨kas, rfl, rfl, hk⟩ := tups_dp s2 e3
        unfold okZ at ok
        rw [Bool.and_eq_true, decide_eq_true_eq, List.all_eq_true] at ok
        obtain ⟨hlen, hall⟩ := ok
        have hall : ∀ z ∈ kas, z.2.length = ((kas.map (·.2)).headD [0]).length ∧ 1 ≤ z.2.length ∧ ∀ m ∈ z.2, 0 ≤ m := fun z hz => by
          have := hall z.2 (List.mem_map.mpr ⟨z, hz, rfl⟩)
          rw [Bool.and_eq_true, Bool.and_eq_true, decide_eq_true_eq, decide_eq_true_eq, List.all_eq_true] at this
          exact ⟨this.1, this.2.1, fun m hm => of_decide_eq_true (this.2.2 m hm)⟩
        obtain ⟨Bz, hB⟩ := bd_ex (kas.map (·.2)) fun k hk z hz => by
          obtain ⟨p, hp, rfl⟩ := List.mem_map.mp hk
          exact (hall p hp).2.2 z hz
        rw [List.length_map] at hlen
        refine ⟨l, kas, rfl, c1.frz.seq s1, fun p hp => sqT_mono c1.frz (hk p hp), hlen, fun aS L np hsub hcov => ?_⟩
        have al1 : Al F1 H1 F1 (upd H1 aS (SetTO P w aS L)) := Al.laidH c1.frz np
        have c2 := c1.al al1
        refine ⟨aS, L, ((kas.map (·.2)).headD [0]).length, Bz, rfl, upd_same, fun p hp => sqT_mono c2.frz (hk p (hsub p hp)), ?_, fun p hp => ⟨(hall p (hsub p hp)).1, hB p.2 (List.mem_map.mpr ⟨p, hsub p hp, rfl⟩)⟩, fun L' p3 pm nd few pw np3 => ?_⟩
        · cases kas with
          | nil => exact Nat.le_refl 1
          | cons z r =>
            have := (hall z List.mem_cons_self).2.1
            exact this
        · have al2 := Al.laidH (o := .lst (L'.map fun q => V.ref q.1)) c2.frz np3
          have sub' : ∀ p ∈ L', p ∈ kas := fun p hp => hsub p (pm.mem_iff.mp hp)
          have es : L'.map (·.2) = srtZ (kas.map (·.2)) := by
            refine srtZ_eq nd (fun x => ⟨fun hx => ?_, fun hx => ?_⟩) ?_
            · obtain ⟨p, hp, rfl⟩ := List.mem_map.mp hx
              exact List.mem_map.mpr ⟨p, sub' p hp, rfl⟩
            · obtain ⟨p, hp, rfl⟩ := List.mem_map.mp hx
              exact (pm.map (·.2)).mem_iff.mpr (hcov p hp)
            · rw [List.pairwise_map]
              refine pw.imp_of_mem fun {x y} hx hy hc => ?_
              exact code_lexZ _ _ ((hall x (sub' x hx)).1.trans (hall y (sub' y hy)).1.symm) (hB _ (List.mem_map.mpr ⟨x, sub' x hx, rfl⟩)) (hB _ (List.mem_map.mpr ⟨y, sub' y hy, rfl⟩)) hc
          refine k F1 _ p3 _ g1 (c2.al al2) upd_same ?_ (c2.frz.free np3) (c2.base.free np3) (c2.fresh_notOwned np3)
          show DpAll K F1 (L'.map fun q => V.ref q.1) ((srtZ (kas.map (·.2))).map tZ)
          rw [← es]
          exact dp_tups L' fun p hp => hk p (sub' p hp)
    · cases e4
  | _ => cases e2
theorem dn_srtSetT (hc : X.calm = true) (hu : X.A.units + 100 < cLine) (ha : DE X a ta fa) (m1 : X.mg "sorted" = none) (m2 : X.mg "set" = none) (g1 : Gl X "sorted" := by rfl) (g2 : Gl X "set" := by rfl)
    (s1 : starEach [a] X.env = (false, eval a X.env) :: starEach [] X.env := by rfl) (s2 : starEach [Expr.Call (.Name "set" p2) [a] [] q] X.env = (false, eval (Expr.Call (.Name "set" p2) [a] [] q) X.env) :: starEach [] X.env := by rfl) :
    DN X (.Call (.Name "sorted" p) [.Call (.Name "set" p2) [a] [] q] [] pos) (tSetT X.K X.prog X.w (rSortedT X.K X.prog X.w) ta) (eSrtSetT fa) :=
  ⟨pe_callB (id := "sorted") (cr_sortedT hc) g1 m1 (by decide +kernel) (pa_cons (pe_callTy (T := "set") (cr_setOfT hc (by omega)) g2 m2 (by decide +kernel) (pa_cons ha.pe pa_nil s1) (by decide) (by decide) s1 (by rfl)) pa_nil s2) (by decide) (by decide) s2 (by rfl), se_srtSetT ha.se⟩
end
@[simp] theorem ev_srtSetT {f : FE} {ρ : En} : eSrtSetT f ρ = (f ρ).bind fun p => (cSrtSetT p.1).map fun c => (c, p.2) := rfl
theorem tupsI_tZ : ∀ ks : List (List Int), tupsI (ks.map tZ) = some ks
  | [] => rfl
  | k :: r => by
    show ((intsD (k.map PyData.int)).bind fun k => (tupsI (r.map tZ)).map fun ks => k :: ks) = _
    rw [intsD_map, tupsI_tZ r]; rfl
theorem srt_tZ {ks : List (List Int)} (h : okZ ks = true) : cSrtSetT (.list (ks.map tZ)) = some (.ol ((srtZ ks).map tZ)) := by
  show ((tupsI (ks.map tZ)).bind fun ks => if okZ ks = true then some (Cell.ol ((srtZ ks).map tZ)) else none) = _
  rw [tupsI_tZ]
  exact if_pos h
end L2.Pd

namespace L2.Pd
open PySem PySem.Spec PyProof.Rows
/-! ## sum(range(..)) -/
theorem sum_range_raw {prog : Program} {w : World} {A : Around} {E : Value → Shared → Prop} {s : Shared} {Q : Value → Shared → Prop} {r : Addr} {a b : Int} {t u v : Tok} {n : Nat} (hh : A.handled = none)
    (hr : IsRange s.heap r a b 1 t u v) (hsmall : Builtin.Range.small a b 1 = true) (hn : Builtin.Range.rangeSize a b 1 = n)
    (h : ∀ h' tk t', (∀ b o, s.heap.get? b = some o → h'.get? b = some o) → Q (.int (preSum (fun i => a + (i : Nat)) n) t') { s with heap := h', toks := tk }) :
    wpAny (model prog w) A (call (.builtin "sum") [.ref r]) Q E s := by
  have W := (Walks.range (prog := prog) (w := w) (A := A.in1) hh s.heap.objs.size a 1 n).toS
  refine call_sum_walkAnyS (wpAny_pyIter_range hr hsmall ?_)
  refine ⟨s.heap.objs.size, _, _, _, n, _, _, fun i => a + (i : Nat), rfl, W, ?_, fun b hb => ?_, fun i v hP => ?_, fun s' t' hm => ?_⟩
  · show IsRangeIter _ _ _ _ _
    rw [hn]; simpa using Heap.get?_push_size _ rfl
  · rw [List.mem_singleton.mp hb]
    exact Heap.lt_size (Heap.get?_push_size _ rfl)
  · obtain ⟨t, rfl⟩ := hP
    exact ⟨t, by rw [Int.mul_one]⟩
  · obtain ⟨h', g', d', tk', os'⟩ := s'
    have e1 : g' = s.gens := hm.gens
    have e2 : d' = s.drawn := hm.drawn
    have e3 : os' = s.os := hm.os
    subst e1 e2 e3
    exact h h' tk' t' fun b o e => hm.heap b o (fun hb => absurd (Heap.lt_size e) ((List.mem_singleton.mp hb) ▸ Nat.lt_irrefl _)) (Heap.get?_push_of_some _ e)
/-- a + (a+1) + .. (n of them) -/
def sumRg (a : Int) : Nat → Int
  | 0 => 0
  | n + 1 => sumRg a n + (a + (n : Int))
theorem preSum_rg (a : Int) : ∀ n, preSum (fun i => a + (i : Nat)) n = sumRg a n
  | 0 => rfl
  | n + 1 => by show preSum (fun i => a + (i : Nat)) n + (a + (n : Nat)) = _; rw [preSum_rg a n]; rfl
def eSumRg (f : FR2) : FE := fun ρ => (f ρ).bind fun p => if rgOk p.1.1 p.1.2 = true then some (.int (sumRg p.1.1 (p.1.2 - p.1.1).toNat), p.2) else none
def tSumRg (te : St → Hp → (Int → Int → Hp → Prop) → Prop) : TE := fun σ H Q => te σ H fun a b H1 => RgOk a b ∧ Q (.int (sumRg a (b - a).toNat)) H1
section
variable {X : Cx} {e : Expr} {p pos : Pos} {te : St → Hp → (Int → Int → Hp → Prop) → Prop} {f : FR2}
theorem pe_sumRg (hc : X.calm = true) (hg : Gl X "sum") (hm : X.mg "sum" = none) (he : PRg X e te) (na : starEach [e] X.env = (false, eval e X.env) :: starEach [] X.env := by rfl) : PE X (.Call (.Name "sum" p) [e] [] pos) (tSumRg te) := by
  refine ⟨fun pins s σ H Q I h => ?_⟩
  refine Call_ (ld_blt I hg hm boot_sum (PyProof.Rows.callWith_builtin1 (args_cons (thn (he pins s σ H _ I h) fun x s1 ⟨r, a, b, t, u, v, H1, ex, hr, I1, ok, q⟩ => args_nil ?_) na) na))
  subst ex
  obtain ⟨b1, b2, b3, b4, b5⟩ := ok
  refine sum_range_raw (n := (b - a).toNat) (I1.ok.hd hc) hr (small_one b1 b2 b3 b4) (rangeSize_nat a b) fun h' tk t' hk => ?_
  rw [preSum_rg]
  exact ⟨.int _, H1, I1.kept hk, ⟨_, rfl⟩, q⟩
theorem de_sumRg (hc : X.calm = true) (he : DRg X e te f) (hm : X.mg "sum" = none) (hg : Gl X "sum" := by rfl) (na : starEach [e] X.env = (false, eval e X.env) :: starEach [] X.env := by rfl) : DE X (.Call (.Name "sum" p) [e] [] pos) (tSumRg te) (eSumRg f) := by
  refine ⟨pe_sumRg hc hg hm he.pe na, ?_⟩
  intro B F io σ H ρ d ρ' Q c h k
  obtain ⟨u, e1, h⟩ := Option.bind_eq_some_iff.mp h
  by_cases hz : rgOk u.1.1 u.1.2 = true
  · rw [if_pos hz] at h
    cases h
    exact he.se B F io σ H ρ u.1 u.2 _ c e1 fun F1 H1 g1 c1 => ⟨by unfold rgOk at hz; rw [decide_eq_true_eq] at hz; exact hz, k F1 H1 _ g1 c1 (.int _)⟩
  · rw [if_neg hz] at h; cases h
end
@[simp] theorem ev_sumRg {f : FR2} {ρ : En} : eSumRg f ρ = (f ρ).bind fun p => if rgOk p.1.1 p.1.2 = true then some (.int (sumRg p.1.1 (p.1.2 - p.1.1).toNat), p.2) else none := rfl
end L2.Pd

namespace L2.Pd
open PySem PySem.Spec PyProof.Rows
/-! ## keys as data, as values -/
def keyD : D → Option Key
  | .int i => some (.inl i)
  | .str x => some (.inr x)
  | _ => none
theorem keyD_eq {d : D} {k : Key} (h : keyD d = some k) : d = kD k := by
  cases d <;> first | (cases h; rfl) | cases h
def keyV : Value → Key
  | .int i _ => .inl i
  | .str x _ => .inr x
  | _ => .inl 0
theorem keyV_is {k : Key} {v : Value} (h : keyIs k v = true) : keyV v = k := by
  rcases keyIs_shape h with ⟨i, t, rfl, rfl⟩ | ⟨x, t, rfl, rfl⟩ <;> rfl
theorem scan_is {k : Key} {v : Value} (h : keyIs k v = true) : v.scannable = true := by
  rcases keyIs_shape h with ⟨i, t, rfl, rfl⟩ | ⟨x, t, rfl, rfl⟩ <;> rfl
theorem paired_at {α β : Type} {R : α → β → Prop} : ∀ {xs : List α} {ys : List β} {i : Nat} {x : α} {y : β}, Paired R xs ys → xs[i]? = some x → ys[i]? = some y → R x y
  | _, _, _, _, _, .nil, e, _ => by simp at e
  | _, _, 0, _, _, .cons r _, e, e' => by
    simp at e e'
    subst e; subst e'
    exact r
  | _, _, i + 1, _, _, .cons _ t, e, e' => paired_at (i := i) t (by simpa using e) (by simpa using e')
def keysD : List D → Option (List Key)
  | [] => some []
  | d :: r => (keyD d).bind fun k => (keysD r).map fun ks => k :: ks
def valD : Value → D
  | .int i _ => .int i
  | .str x _ => .str x
  | _ => .none
theorem keysD_all : ∀ {ds : List D} {ks : List Key}, keysD ds = some ks → ds = ks.map kD
  | [], _, h => by cases h; rfl
  | d :: r, _, h => by
    obtain ⟨k, h1, h⟩ := Option.bind_eq_some_iff.mp h
    obtain ⟨ks, h2, h⟩ := Option.map_eq_some_iff.mp h
    cases h
    rw [List.map_cons, ← keysD_all h2]
    cases d <;> cases h1 <;> rfl
theorem toks_inj {a b : Key} (h : PySem.W.keyToks (kD a) = PySem.W.keyToks (kD b)) : a = b := by
  cases a with
  | inl i =>
    cases b with
    | inl j =>
      have h : [Sum.inl i] = [(Sum.inl j : Int ⊕ List Nat)] := h
      injection h with h _
      injection h with h
      rw [h]
    | inr y =>
      have h : [Sum.inl i] = [(Sum.inr y.cps.toList : Int ⊕ List Nat)] := h
      injection h with h _
      cases h
  | inr x =>
    cases b with
    | inl j =>
      have h : [Sum.inr x.cps.toList] = [(Sum.inl j : Int ⊕ List Nat)] := h
      injection h with h _
      cases h
    | inr y =>
      have h : [Sum.inr x.cps.toList] = [(Sum.inr y.cps.toList : Int ⊕ List Nat)] := h
      injection h with h _
      injection h with h
      obtain ⟨x⟩ := x
      obtain ⟨y⟩ := y
      have : x = y := by
        cases x; cases y
        exact congrArg Array.mk h
      rw [this]
theorem dataLe_tt (a b : D) : PySem.W.dataLe false id a b = !(lexLt itemOrd (PySem.W.keyToks b) (PySem.W.keyToks a)) := rfl
theorem sortD_pw (l : List D) : (sortD l).Pairwise (fun a b => PySem.W.dataLe false id a b = true) := by
  refine List.pairwise_mergeSort (le := PySem.W.dataLe false id) (fun a b c => ?_) (fun a b => ?_) l
  · exact (PySem.W.sortLe_total (listOrd itemOrd) false fun b => PySem.W.keyToks (id b)).trans a b c
  · rw [Bool.or_eq_true]
    exact (PySem.W.sortLe_total (listOrd itemOrd) false fun b => PySem.W.keyToks (id b)).total a b
theorem sortD_perm {l m : List Key} (p : l.Perm m) : sortD (l.map kD) = sortD (m.map kD) := by
  refine List.Perm.eq_of_pairwise (fun a b ha hb h1 h2 => ?_) (sortD_pw _) (sortD_pw _) (((List.mergeSort_perm _ _).trans (p.map kD)).trans (List.mergeSort_perm _ _).symm)
  obtain ⟨x, _, rfl⟩ := List.mem_map.mp ((List.mergeSort_perm _ _).mem_iff.mp ha)
  obtain ⟨y, _, rfl⟩ := List.mem_map.mp ((List.mergeSort_perm _ _).mem_iff.mp hb)
  rw [dataLe_tt, Bool.not_eq_true'] at h1 h2
  rw [toks_inj ((listOrd itemOrd).total _ _ h1 h2)]
theorem valD_is {k : Key} {v : Value} (h : keyIs k v = true) : valD v = kD k := by
  rcases keyIs_shape h with ⟨i, t, rfl, rfl⟩ | ⟨x, t, rfl, rfl⟩ <;> rfl
theorem each_self {R : Value → D → Prop} : ∀ {vs : List Value}, (∀ v ∈ vs, R v (valD v)) → PySem.W.EachIs R vs (vs.map valD)
  | [], _ => .nil
  | v :: vs, h => .cons (h v List.mem_cons_self) (each_self fun u hu => h u (List.mem_cons_of_mem _ hu))
theorem vals_keys {K : PySem.W.Frag} {F : Hp} : ∀ {ks : List Key} {vs : List V} {us : List Value}, Vals vs us → DpAll K F vs (ks.map kD) → Paired (fun (k : Key) v => keyIs k v = true) ks us
  | [], _, _, r, h => by cases h; cases r; exact .nil
  | k :: ks, _, _, r, h => by
    cases h with
    | cons q t =>
      cases r with
      | cons r1 r2 =>
        refine .cons ?_ (vals_keys r2 t)
        cases k with
        | inl i =>
          cases q
          obtain ⟨tk, rfl⟩ := r1
          exact keyIs_int i tk
        | inr x =>
          cases q
          obtain ⟨tk, rfl⟩ := r1
          exact keyIs_str x tk
theorem out_vals {l : List Key} : ∀ {out : List Value} {ds : List D}, PySem.W.EachIs (fun v d => ∃ k, keyIs k v = true ∧ d = kD k) out ds → ∃ ws, Vals ws out ∧ ∀ K F, DpAll K F ws ds
  | [], _, h => by cases h; exact ⟨[], .nil, fun _ _ => .nil⟩
  | v :: out, _, h => by
    cases h with
    | cons q t =>
      obtain ⟨k, hk, rfl⟩ := q
      obtain ⟨ws, h1, h2⟩ := out_vals (l := l) t
      rcases keyIs_shape hk with ⟨i, tk, rfl, rfl⟩ | ⟨x, tk, rfl, rfl⟩
      · exact ⟨.int i :: ws, .cons ⟨tk, rfl⟩ h1, fun K F => .cons (.int i) (h2 K F)⟩
      · exact ⟨.str x :: ws, .cons ⟨tk, rfl⟩ h1, fun K F => .cons (.str x) (h2 K F)⟩
theorem sortD_len (l : List D) : (sortD l).length = l.length := (List.mergeSort_perm l _).length_eq
end L2.Pd

namespace L2.Pd
open PySem PySem.Spec PyProof.Rows
/-! ## Dicts of the def's own, keys ints and texts -/
def lookD (kvs : List (D × D)) (k : D) : Option D := (kvs.find? fun p => beqD p.1 k).map (·.2)
def putD (kvs : List (D × D)) (k v : D) : List (D × D) := if (kvs.any fun p => beqD p.1 k) = true then kvs.map (fun p => if beqD p.1 k = true then (p.1, v) else p) else kvs ++ [(k, v)]
theorem beqD_kD (a b : Key) : beqD (kD a) (kD b) = decide (a = b) := by
  cases a with
  | inl i =>
    cases b with
    | inl j =>
      show (i == j) = _
      by_cases h : i = j
      · subst h; rw [beq_self_eq_true, decide_eq_true rfl]
      · rw [beq_eq_false_iff_ne.mpr h, decide_eq_false fun z => h (Sum.inl.inj z)]
    | inr y => rw [decide_eq_false fun z => nomatch z]; rfl
  | inr x =>
    cases b with
    | inl j => rw [decide_eq_false fun z => nomatch z]; rfl
    | inr y =>
      show decide (x = y) = _
      by_cases h : x = y
      · subst h; rw [decide_eq_true rfl, decide_eq_true rfl]
      · rw [decide_eq_false h, decide_eq_false fun z => h (Sum.inr.inj z)]
section
variable {K : PySem.W.Frag} {F : Hp}
theorem kvK_look (k : Key) : ∀ {kvs : List (D × D)} {ws : List (Key × V)}, KvK K F kvs ws → (lookD kvs (kD k) = none ∧ valV ws k = none) ∨ ∃ d v, lookD kvs (kD k) = some d ∧ valV ws k = some v ∧ Dp K F v d
  | _, _, .nil => .inl ⟨rfl, rfl⟩
  | p :: kvs, q :: ws, .cons r t => by
    by_cases h : q.1 = k
    · refine .inr ⟨p.2, q.2, ?_, valV_pos h, r.2⟩
      unfold lookD
      rw [List.find?_cons_of_pos (by rw [r.1, beqD_kD, decide_eq_true h])]
      rfl
    · rw [valV_neg h]
      have e : lookD (p :: kvs) (kD k) = lookD kvs (kD k) := by
        unfold lookD
        rw [List.find?_cons_of_neg (by rw [r.1, beqD_kD, decide_eq_false h]; exact Bool.false_ne_true)]
      rw [e]
      exact kvK_look k t
theorem kvK_any (k : Key) : ∀ {kvs : List (D × D)} {ws : List (Key × V)}, KvK K F kvs ws → (kvs.any fun p => beqD p.1 (kD k)) = ws.any fun q => decide (q.1 = k)
  | _, _, .nil => rfl
  | p :: kvs, q :: ws, .cons r t => by rw [List.any_cons, List.any_cons, kvK_any k t, r.1, beqD_kD]
theorem kvK_map {k : Key} {d : D} {v : V} (h : Dp K F v d) : ∀ {kvs : List (D × D)} {ws : List (Key × V)}, KvK K F kvs ws → KvK K F (kvs.map fun p => if beqD p.1 (kD k) = true then (p.1, d) else p) (ws.map fun q => if q.1 = k then (q.1, v) else q)
  | _, _, .nil => .nil
  | p :: kvs, q :: ws, .cons r t => by
    rw [List.map_cons, List.map_cons]
    refine .cons ?_ (kvK_map h t)
    rw [r.1, beqD_kD]
    by_cases e : q.1 = k
    · rw [decide_eq_true e, if_pos rfl, if_pos e]
      exact ⟨rfl, h⟩
    · rw [decide_eq_false e, if_neg Bool.false_ne_true, if_neg e]
      exact r
theorem kvK_snoc {p : D × D} {q : Key × V} (h : p.1 = kD q.1 ∧ Dp K F q.2 p.2) : ∀ {kvs : List (D × D)} {ws : List (Key × V)}, KvK K F kvs ws → KvK K F (kvs ++ [p]) (ws ++ [q])
  | _, _, .nil => .cons h .nil
  | _ :: _, _ :: _, .cons r t => .cons r (kvK_snoc h t)
theorem kvK_put {k : Key} {d : D} {v : V} (h : Dp K F v d) {kvs : List (D × D)} {ws : List (Key × V)} (r : KvK K F kvs ws) : KvK K F (putD kvs (kD k) d) (putK ws k v) := by
  unfold putD putK
  rw [kvK_any k r]
  split
  · exact kvK_map h r
  · exact kvK_snoc ⟨rfl, h⟩ r
theorem kvK_len {kvs : List (D × D)} {ws : List (Key × V)} (r : KvK K F kvs ws) : kvs.length = ws.length := Paired.length r
theorem dp_key {v : V} {d : D} {k : Key} (h : Dp K F v d) (e : keyD d = some k) : v = kV k := by
  cases d with
  | int i => cases e; cases h; rfl
  | str x => cases e; cases h; rfl
  | _ => cases e
end
/-- the slot holds a dict: own, or walked just now -/
def dAt (j : Nat) (ρ : En) : Option (List (D × D)) := match ρ[j]? with
  | some (.od false kvs) => some kvs
  | some (.fd false kvs) => some kvs
  | _ => none
def dOwn (j : Nat) (ρ : En) : Option (List (D × D)) := match ρ[j]? with
  | some (.od false kvs) => some kvs
  | _ => none
theorem dOwn_eq {j : Nat} {ρ : En} {kvs : List (D × D)} (h : dOwn j ρ = some kvs) : ρ[j]? = some (.od false kvs) := by
  unfold dOwn at h
  split at h
  · cases h; assumption
  · cases h
theorem own_dict {K : PySem.W.Frag} {B F H : Hp} {io : List (Nat × Addr)} {σ : St} {ρ : En} {j : Nat} {kvs : List (D × D)} (c : Con K B F io σ H ρ) (h : dOwn j ρ = some kvs) : ∃ a ws, σ[j]? = some (some (.ref a)) ∧ H a = some (.dK ws) ∧ KvK K F kvs ws := by
  obtain ⟨a, o, h1, h2, h3, _⟩ := c.own (dOwn_eq h) rfl
  cases o with
  | dK ws => exact ⟨a, ws, h1, h2, h3⟩
  | _ => exact False.elim h3
theorem dict_at {K : PySem.W.Frag} {B F H : Hp} {io : List (Nat × Addr)} {σ : St} {ρ : En} {j : Nat} {kvs : List (D × D)} (c : Con K B F io σ H ρ) (h : dAt j ρ = some kvs) : ∃ a ws, σ[j]? = some (some (.ref a)) ∧ Rd H a (.dK ws) ∧ KvK K F kvs ws := by
  unfold dAt at h
  split at h
  · next e =>
    cases h
    obtain ⟨a, ws, h1, h2, h3⟩ := own_dict c (show dOwn j ρ = some kvs by unfold dOwn; rw [e])
    exact ⟨a, ws, h1, .inl h2, h3⟩
  · next e =>
    cases h
    obtain ⟨x, hx, a, ob, u, h1, h2, h3⟩ := c.cell j _ e
    subst h1
    cases u with
    | dK ws => exact ⟨a, ws, hx, .inr ⟨ob, c.frz _ _ h2⟩, h3⟩
    | _ => exact False.elim h3
  · cases h
section
variable {X : Cx} {L : List Nat} {i e f : Expr} {ti te tf : TE} {fi fe ff : FE} {x y : Str} {p p1 p2 p3 pos apos cpos : Pos} {j : Nat}
/-- d[k] -/
def eDGet (j : Nat) (fi : FE) : FE := fun ρ => (dAt j ρ).bind fun _ => (fi ρ).bind fun q => (dAt j q.2).bind fun kvs => (keyD q.1).bind fun _ => (lookD kvs q.1).map fun d => (d, q.2)
theorem de_dget (j : Nat) (hu : X.A.units + 100 < cLine) (hi : DE X i ti fi) (hN : X.N[j]? = some x := by rfl) (hv : Vis X.env.scope x := by first | exact Or.inl rfl | exact Or.inr (Or.inl rfl) | exact Or.inr (Or.inr rfl)) (hd : (x == ("__debug__" : Str)) = false := by decide)
    (hcd : (x == ("__classdict__" : Str)) = false := by decide) (hs : NoSl i := by exact fun _ _ => rfl) : DE X (.Subscript (.Name x p1) i pos) (tDGet (tVar j) ti) (eDGet j fi) := by
  refine ⟨pe_dget (by omega) (pe_var hN hv hd hcd) hi.pe hs, ?_⟩
  intro B F io σ H ρ d ρ' Q c e k
  obtain ⟨kv0, z0, e⟩ := Option.bind_eq_some_iff.mp e
  obtain ⟨q, e1, e⟩ := Option.bind_eq_some_iff.mp e
  obtain ⟨kvs, z1, e⟩ := Option.bind_eq_some_iff.mp e
  obtain ⟨ky, z2, e⟩ := Option.bind_eq_some_iff.mp e
  obtain ⟨d', z3, e4⟩ := Option.map_eq_some_iff.mp e
  cases e4
  obtain ⟨a, _, s1, _, _⟩ := dict_at c z0
  refine ⟨.ref a, s1, hi.se B F io σ H ρ q.1 q.2 _ c e1 fun F1 H1 v g1 c1 d1 => ?_⟩
  obtain ⟨a', ws, s2, h2, d2⟩ := dict_at c1 z1
  have ea : a' = a := by rw [s1] at s2; cases s2; rfl
  subst ea
  rw [keyD_eq z2] at z3
  rcases kvK_look ky d2 with ⟨n, _⟩ | ⟨d0, w, l1, l2, dw⟩
  · rw [n] at z3; cases z3
  · rw [l1] at z3; cases z3
    exact ⟨a', w, rfl, .inl ⟨ws, ky, h2, dp_key d1 z2, l2.symm⟩, k F1 H1 w g1 c1 dw⟩
/-- k in d, k not in d -/
def eDIn (j : Nat) (ng : Bool) (fi : FE) : FE := fun ρ => (fi ρ).bind fun q => (dAt j q.2).bind fun kvs => (keyD q.1).map fun _ => (.bool (xor ng (lookD kvs q.1).isSome), q.2)
theorem se_din {K : PySem.W.Frag} (hi : SE K ti fi) : SE K (tDIn ti (tVar j)) (eDIn j false fi) := by
  intro B F io σ H ρ d ρ' Q c e k
  obtain ⟨q, e1, e⟩ := Option.bind_eq_some_iff.mp e
  obtain ⟨kvs, z1, e⟩ := Option.bind_eq_some_iff.mp e
  obtain ⟨ky, z2, e4⟩ := Option.map_eq_some_iff.mp e
  cases e4
  refine hi B F io σ H ρ q.1 q.2 _ c e1 fun F1 H1 v g1 c1 d1 => ?_
  obtain ⟨a, ws, s2, h2, d2⟩ := dict_at c1 z1
  refine ⟨.ref a, s2, a, valV ws ky, rfl, .inl ⟨ws, ky, h2, dp_key d1 z2, rfl⟩, k F1 H1 _ g1 c1 ?_⟩
  rw [keyD_eq z2, Bool.false_xor]
  rcases kvK_look ky d2 with ⟨n1, n2⟩ | ⟨d0, w, l1, l2, dw⟩
  · rw [n1, n2]; exact .bl _
  · rw [l1, l2]; exact .bl _
theorem se_dnotin {K : PySem.W.Frag} (hi : SE K ti fi) : SE K (tDNotIn ti (tVar j)) (eDIn j true fi) := by
  intro B F io σ H ρ d ρ' Q c e k
  obtain ⟨q, e1, e⟩ := Option.bind_eq_some_iff.mp e
  obtain ⟨kvs, z1, e⟩ := Option.bind_eq_some_iff.mp e
  obtain ⟨ky, z2, e4⟩ := Option.map_eq_some_iff.mp e
  cases e4
  refine hi B F io σ H ρ q.1 q.2 _ c e1 fun F1 H1 v g1 c1 d1 => ?_
  obtain ⟨a, ws, s2, h2, d2⟩ := dict_at c1 z1
  refine ⟨.ref a, s2, a, valV ws ky, rfl, .inl ⟨ws, ky, h2, dp_key d1 z2, rfl⟩, k F1 H1 _ g1 c1 ?_⟩
  rw [keyD_eq z2, Bool.true_xor]
  rcases kvK_look ky d2 with ⟨n1, n2⟩ | ⟨d0, w, l1, l2, dw⟩
  · rw [n1, n2]; exact .bl _
  · rw [l1, l2]; exact .bl _
theorem st_tB {K : PySem.W.Frag} {t : TE} {g : FE} (h : SE K t g) : ST K (tB t) (eTst g) := by
  intro B F io σ H ρ b ρ' Q c e k
  obtain ⟨q, e1, e⟩ := Option.bind_eq_some_iff.mp e
  obtain ⟨z, e2, e3⟩ := Option.map_eq_some_iff.mp e
  cases e3
  refine h B F io σ H ρ q.1 q.2 _ c e1 fun F1 H1 v g1 c1 d1 => ?_
  obtain ⟨d, r⟩ := q
  cases d <;> first | (cases e2; cases d1; exact ⟨_, rfl, k F1 H1 g1 c1⟩) | cases e2
theorem de_din (j : Nat) (hu : X.A.units + 100 < cLine) (hi : DE X i ti fi) (hN : X.N[j]? = some x := by rfl) (hv : Vis X.env.scope x := by first | exact Or.inl rfl | exact Or.inr (Or.inl rfl) | exact Or.inr (Or.inr rfl)) (hd : (x == ("__debug__" : Str)) = false := by decide)
    (hcd : (x == ("__classdict__" : Str)) = false := by decide) : DE X (.Compare i [.In] [.Name x p1] pos) (tDIn ti (tVar j)) (eDIn j false fi) :=
  ⟨pe_cmp (pc_din (by omega) hi.pe (pe_var hN hv hd hcd)) rfl, se_din hi.se⟩
theorem de_dnotin (j : Nat) (hu : X.A.units + 100 < cLine) (hi : DE X i ti fi) (hN : X.N[j]? = some x := by rfl) (hv : Vis X.env.scope x := by first | exact Or.inl rfl | exact Or.inr (Or.inl rfl) | exact Or.inr (Or.inr rfl)) (hd : (x == ("__debug__" : Str)) = false := by decide)
    (hcd : (x == ("__classdict__" : Str)) = false := by decide) : DE X (.Compare i [.NotIn] [.Name x p1] pos) (tDNotIn ti (tVar j)) (eDIn j true fi) :=
  ⟨pe_cmp (pc_dnotin (by omega) hi.pe (pe_var hN hv hd hcd)) rfl, se_dnotin hi.se⟩
theorem dt_din (j : Nat) (hu : X.A.units + 100 < cLine) (hi : DE X i ti fi) (hN : X.N[j]? = some x := by rfl) (hv : Vis X.env.scope x := by first | exact Or.inl rfl | exact Or.inr (Or.inl rfl) | exact Or.inr (Or.inr rfl)) (hd : (x == ("__debug__" : Str)) = false := by decide)
    (hcd : (x == ("__classdict__" : Str)) = false := by decide) : DT X (.Compare i [.In] [.Name x p1] pos) (tB (tDIn ti (tVar j))) (eTst (eDIn j false fi)) :=
  ⟨pt_cmp (pc_din (by omega) hi.pe (pe_var hN hv hd hcd)) rfl, st_tB (se_din hi.se)⟩
theorem dt_dnotin (j : Nat) (hu : X.A.units + 100 < cLine) (hi : DE X i ti fi) (hN : X.N[j]? = some x := by rfl) (hv : Vis X.env.scope x := by first | exact Or.inl rfl | exact Or.inr (Or.inl rfl) | exact Or.inr (Or.inr rfl)) (hd : (x == ("__debug__" : Str)) = false := by decide)
    (hcd : (x == ("__classdict__" : Str)) = false := by decide) : DT X (.Compare i [.NotIn] [.Name x p1] pos) (tB (tDNotIn ti (tVar j))) (eTst (eDIn j true fi)) :=
  ⟨pt_cmp (pc_dnotin (by omega) hi.pe (pe_var hN hv hd hcd)) rfl, st_tB (se_dnotin hi.se)⟩
/-- d[k] = v -/
def sDPutK (j : Nat) (fi fe : FE) : FS := fun ρ => (fe ρ).bind fun p => (dOwn j p.2).bind fun _ => (fi p.2).bind fun q => (dOwn j q.2).bind fun kvs => (keyD q.1).bind fun _ => if kvs.length < sizeLine then some (.nx (q.2.set j (.od false (putD kvs q.1 p.1)))) else none
theorem ds_dput (j : Nat) (hu : X.A.units + 100 < cLine) (he : DE X e te fe) (hi : DE X i ti fi) (hN : X.N[j]? = some x := by rfl) (hv : Vis X.env.scope x := by first | exact Or.inl rfl | exact Or.inr (Or.inl rfl) | exact Or.inr (Or.inr rfl)) (hd : (x == ("__debug__" : Str)) = false := by decide)
    (hcd : (x == ("__classdict__" : Str)) = false := by decide) (hs : swapsWith e (some (.Subscript (.Name x p1) i p2)) pos.line X.env = pure false := by rfl) :
    DS X L (.Assign [.Subscript (.Name x p1) i p2] e pos) (sDPut (tVar j) ti te) (sDPutK j fi fe) := ⟨ps_dput (by omega) (pe_var hN hv hd hcd) hi.pe he.pe hs, fun B F io σ H ρ o Dn hL c h p => by
  obtain ⟨q, e1, h⟩ := Option.bind_eq_some_iff.mp h
  obtain ⟨kv0, z1, h⟩ := Option.bind_eq_some_iff.mp h
  obtain ⟨r, e2, h⟩ := Option.bind_eq_some_iff.mp h
  obtain ⟨kvs, z2, h⟩ := Option.bind_eq_some_iff.mp h
  obtain ⟨ky, z3, h⟩ := Option.bind_eq_some_iff.mp h
  split at h
  · next lt =>
    cases h
    refine he.se B F io σ H ρ q.1 q.2 _ c e1 fun F1 H1 v g1 c1 d1 => ?_
    obtain ⟨a, _, s1, _, _⟩ := own_dict c1 z1
    refine ⟨.ref a, s1, hi.se B F1 io σ H1 q.2 r.1 r.2 _ c1 e2 fun F2 H2 y g2 c2 d2 => ?_⟩
    obtain ⟨a', ws, s2, h2, d3⟩ := own_dict c2 z2
    have ea : a' = a := by rw [s1] at s2; cases s2; rfl
    subst ea
    have hk := dp_key d2 z3
    subst hk
    refine ⟨a', _, rfl, DPut.k h2 (by rw [← kvK_len d3]; exact lt), p F2 σ _ (g1.trans g2) (c2.write (dOwn_eq z2) rfl s1 ?_)⟩
    rw [keyD_eq z3]
    exact kvK_put (dp_mono g2.sub d1) d3
  · cases h⟩
/-- d.get(k, v) -/
def eDGet2 (j : Nat) (fi fe : FE) : FE := fun ρ => (dAt j ρ).bind fun _ => (fi ρ).bind fun p => (fe p.2).bind fun q => (dAt j q.2).bind fun kvs => (keyD p.1).map fun _ => ((lookD kvs p.1).getD q.1, q.2)
theorem de_dget2 (j : Nat) (hu : X.A.units + 100 < cLine) (hi : DE X i ti fi) (he : DE X e te fe) (hN : X.N[j]? = some x := by rfl) (hv : Vis X.env.scope x := by first | exact Or.inl rfl | exact Or.inr (Or.inl rfl) | exact Or.inr (Or.inr rfl)) (hd : (x == ("__debug__" : Str)) = false := by decide)
    (hcd : (x == ("__classdict__" : Str)) = false := by decide) (m1 : attributeBase (.Name x p1) "get" X.env (eval (.Name x p1) X.env) = eval (.Name x p1) X.env := by rfl)
    (m2 : ((backTo cpos (starEach [i, e] X.env)).all (fun x => !x.1) && (backToKw cpos (keywordEach [] X.env)).all (fun x => x.1.isSome)
      && decide (([i, e] : List Expr).length + ([] : List Keyword).length + (if ([] : List Keyword).isEmpty then 0 else 1) < 30)) = true := by rfl)
    (m3 : (apos.endLine == cpos.line) = true := by rfl) (m4 : backTo cpos (starEach [i, e] X.env) = [(false, eval i X.env), (false, eval e X.env)] := by rfl) :
    DE X (.Call (.Attribute (.Name x p1) "get" apos) [i, e] [] cpos) (tDGet2 (tVar j) ti te) (eDGet2 j fi fe) := by
  refine ⟨pe_dget2 (by omega) (pe_var hN hv hd hcd) hi.pe he.pe ⟨m1, m2, m3, m4⟩, ?_⟩
  intro B F io σ H ρ d ρ' Q c h k
  obtain ⟨kv0, z0, h⟩ := Option.bind_eq_some_iff.mp h
  obtain ⟨p, e1, h⟩ := Option.bind_eq_some_iff.mp h
  obtain ⟨q, e2, h⟩ := Option.bind_eq_some_iff.mp h
  obtain ⟨kvs, z1, h⟩ := Option.bind_eq_some_iff.mp h
  obtain ⟨ky, z2, h⟩ := Option.map_eq_some_iff.mp h
  cases h
  obtain ⟨a, w0, s1, h1, _⟩ := dict_at c z0
  refine ⟨.ref a, s1, a, rfl, .inl ⟨w0, h1⟩, hi.se B F io σ H ρ p.1 p.2 _ c e1 fun F1 H1 v g1 c1 d1 => he.se B F1 io σ H1 p.2 q.1 q.2 _ c1 e2 fun F2 H2 y g2 c2 d2 => ?_⟩
  obtain ⟨a', ws, s2, h2, d3⟩ := dict_at c2 z1
  have ea : a' = a := by rw [s1] at s2; cases s2; rfl
  subst ea
  refine ⟨valV ws ky, .inl ⟨ws, ky, h2, dp_key d1 z2, rfl⟩, k F2 H2 _ (g1.trans g2) c2 ?_⟩
  rw [keyD_eq z2]
  rcases kvK_look ky d3 with ⟨n1, n2⟩ | ⟨d0, w, l1, l2, dw⟩
  · rw [n1, n2]; exact d2
  · rw [l1, l2]; exact dw
/-- {} -/
def eDict0 : FN := fun ρ => some (.od false [], ρ)
theorem dn_dict0 : DN X (.Dict [] [] pos) tDNewK eDict0 := ⟨pe_dnewK, fun B F io σ H ρ c0 ρ' Q c e k => by
  cases e
  intro a na
  have al : Al F H F (upd H a (.dK [])) := Al.laidH c.frz na
  exact k F _ a _ (Gr.refl _ _) (c.al al) upd_same (show KvK X.K F [] [] from .nil) (c.frz.free na) (c.base.free na) (c.fresh_notOwned na)⟩
/-- {k: v} -/
def eDict1 (fi fe : FE) : FN := fun ρ => (fi ρ).bind fun p => (fe p.2).bind fun q => (keyD p.1).map fun _ => (.od false [(p.1, q.1)], q.2)
theorem dn_dict1 (hi : DE X i ti fi) (he : DE X e te fe) : DN X (.Dict [some i] [e] pos) (tDisp [(ti, te)]) (eDict1 fi fe) := by
  refine ⟨pe_disp (pps_cons hi.pe he.pe pps_nil) rfl rfl (by simp) (by simp), ?_⟩
  intro B F io σ H ρ c0 ρ' Q c h k
  obtain ⟨p, e1, h⟩ := Option.bind_eq_some_iff.mp h
  obtain ⟨q, e2, h⟩ := Option.bind_eq_some_iff.mp h
  obtain ⟨ky, z2, h⟩ := Option.map_eq_some_iff.mp h
  cases h
  intro a na
  have bD : B a = none := c.base.free na
  have fD : F a = none := c.frz.free na
  have cb := c.toBase (o := .dK []) na
  refine hi.se _ F io σ _ ρ p.1 p.2 _ cb e1 fun F1 H1 v g1 c1 d1 => he.se _ F1 io σ H1 p.2 q.1 q.2 _ c1 e2 fun F2 H2 y g2 c2 d2 => ?_
  have hd := c2.base a _ upd_same
  have gg := g1.trans g2
  have hk := dp_key d1 z2
  subst hk
  have fa : F2 a = none := by
    cases q3 : F2 a with
    | none => rfl
    | some o =>
      rcases gg.new a o q3 with z | z
      · rw [fD] at z; cases z
      · rw [upd_same] at z; cases z
  refine ⟨hd, [(ky, y)], rfl, by simp, ?_⟩
  have hm : mergeK [] [(ky, y)] = [(ky, y)] := by simp [mergeK, putK]
  rw [hm]
  have c3 := c2.reBase (o' := .dK [(ky, y)]) fa
  refine k F2 _ a _ (gg.unBase bD) (c3.unBase bD) upd_same ?_ fa bD c3.notOwned_base
  show KvK X.K F2 [(p.1, q.1)] [(ky, y)]
  exact .cons ⟨keyD_eq z2, d2⟩ .nil
/-- x = y, the dict of y goes over to x -/
def sMoveD (i j : Nat) : FS := fun ρ => (dOwn j ρ).map fun kvs => .nx ((ρ.set j .dead).set i (.od false kvs))
theorem ds_moveD {i j : Nat} (hN : X.N.Nodup) (hi : X.N[i]? = some x := by rfl) (hl : i ∉ L := by decide) (hx : Loc X.env.scope x := by first | exact Or.inl rfl | exact Or.inr rfl) (hs : swapsWith (.Name y p2) (some (.Name x p1)) pos.line X.env = pure false := by rfl)
    (hf : X.fn x = true ∨ X.env.scope.names.lookup x = some .local := by first | exact .inl rfl | exact .inr rfl | assumption) (hN2 : X.N[j]? = some y := by rfl) (hv : Vis X.env.scope y := by first | exact Or.inl rfl | exact Or.inr (Or.inl rfl) | exact Or.inr (Or.inr rfl)) (hd : (y == ("__debug__" : Str)) = false := by decide)
    (hcd : (y == ("__classdict__" : Str)) = false := by decide) : DS X L (.Assign [.Name x p1] (.Name y p2) pos) (tAsg (tVar j) (gName i)) (sMoveD i j) := ⟨ps_set hN hi hx (pe_var hN2 hv hd hcd) hs hf, fun B F io σ H ρ o Dn hL c h p => by
  obtain ⟨kvs, z1, h⟩ := Option.map_eq_some_iff.mp h
  subst h
  obtain ⟨a, u, s1, h1, h2, h3, h4⟩ := c.own (dOwn_eq z1) rfl
  refine ⟨.ref a, s1, p F _ H (Gr.refl _ _) ((c.kill j).set_own (by rw [hL]; exact hl) h1 h2 h3 h4 fun m e he ho hs => ?_)⟩
  rcases get_set_cases he with ⟨rfl, rfl, _⟩ | ⟨ne, he⟩
  · cases ho
  · exact ne (c.sep m j e _ a he (dOwn_eq z1) ho rfl hs s1)⟩
/-- len(d) -/
def eLenD (j : Nat) : FE := fun ρ => (dOwn j ρ).map fun kvs => (.int kvs.length, ρ)
theorem de_lenD (j : Nat) (hm : X.mg "len" = none) (hN : X.N[j]? = some x := by rfl) (hv : Vis X.env.scope x := by first | exact Or.inl rfl | exact Or.inr (Or.inl rfl) | exact Or.inr (Or.inr rfl)) (hd : (x == ("__debug__" : Str)) = false := by decide)
    (hcd : (x == ("__classdict__" : Str)) = false := by decide) (hg : Gl X "len" := by rfl) (he : starEach [.Name x p1] X.env = (false, eval (.Name x p1) X.env) :: starEach [] X.env := by rfl) (hpl : (backTo pos (starEach [] X.env)).any (·.1) = false := by rfl) :
    DE X (.Call (.Name "len" p) [.Name x p1] [] pos) (tCB (fun xs H Q => ∃ a kvs, xs = [V.ref a] ∧ H a = some (.dK kvs) ∧ Q (.int kvs.length) H) (tCons (tVar j) tNil)) (eLenD j) := by
  refine ⟨pe_callB call_lenD hg hm (by decide +kernel) (pa_cons (pe_var hN hv hd hcd) pa_nil he) (by decide) (by decide) he hpl, ?_⟩
  intro B F io σ H ρ d ρ' Q c e k
  obtain ⟨kvs, z0, e4⟩ := Option.map_eq_some_iff.mp e
  cases e4
  obtain ⟨a, ws, s1, h1, d1⟩ := own_dict c z0
  exact ⟨.ref a, s1, a, ws, rfl, h1, k F H _ (Gr.refl _ _) c (by rw [kvK_len d1]; exact .int _)⟩
end
end L2.Pd

namespace L2.Pd
open PySem PySem.Spec PyProof.Rows
/-! ## A dict that is walked: locked for the while of an expression, of a statement -/
def noFd : En → Bool := fun ρ => ρ.all fun c => match c with | .fd _ _ => false | _ => true
theorem noFd_get {ρ : En} {i : Nat} {c : Cell} (h : noFd ρ = true) (e : ρ[i]? = some c) : ∀ tk kvs, c ≠ .fd tk kvs := fun tk kvs z => by
  subst z
  have := List.all_eq_true.mp h _ (List.mem_of_getElem? e)
  cases this
section
variable {K : PySem.W.Frag} {B F F' H H' : Hp} {io : List (Nat × Addr)} {σ σ' : St} {ρ ρ' : En} {j : Nat} {tk : Bool} {kvs : List (D × D)} {a : Addr} {u : HO} {ob : Obj}
theorem dictOb_is (h : DictOb K F kvs tk u) : (∀ xs, u ≠ .lst xs) ∧ (∀ xs, u ≠ .tup xs) ∧ Mut (some u) := by
  cases tk <;> cases u <;> first
    | exact h.elim
    | exact ⟨fun _ z => (nomatch z), fun _ z => (nomatch z), trivial⟩
theorem rd_off {w : HO} (h : F a = some (.frz ob u)) (hn : w ≠ u) (nz : ∀ o v, w ≠ .frz o v) {b : Addr} (q : Rd F b w) : Rd (without F a) b w := by
  rcases q with q | ⟨o, q⟩
  · exact .inl (by rw [without_ne (fun z => by subst z; rw [h] at q; cases q; exact nz _ _ rfl)]; exact q)
  · exact .inr ⟨o, by rw [without_ne (fun z => by subst z; rw [h] at q; cases q; exact hn rfl)]; exact q⟩
mutual
theorem dp_off (h : F a = some (.frz ob u)) (h1 : ∀ xs, u ≠ .lst xs) (h2 : ∀ xs, u ≠ .tup xs) : ∀ {d : D} {v : V}, Dp K F v d → Dp K (without F a) v d
  | .none, _, q => by cases q; exact .non
  | .bool _, _, q => by cases q; exact .bl _
  | .int _, _, q => by cases q; exact .int _
  | .str _, _, q => by cases q; exact .str _
  | .list ds, _, q => by
    cases q with
    | lst q r =>
      refine .lst ?_ (dpAll_off h h1 h2 r)
      rcases q with q | q
      · exact .inl (rd_off h (fun z => h1 _ z.symm) (fun _ _ z => nomatch z) q)
      · exact .inr q
  | .tuple ds, _, q => by
    cases q with
    | tup q r =>
      refine .tup ?_ (dpAll_off h h1 h2 r)
      rcases q with q | q
      · exact .inl (rd_off h (fun z => h2 _ z.symm) (fun _ _ z => nomatch z) q)
      · exact .inr q
  | .dict _, _, q => by cases q
theorem dpAll_off (h : F a = some (.frz ob u)) (h1 : ∀ xs, u ≠ .lst xs) (h2 : ∀ xs, u ≠ .tup xs) : ∀ {ds : List D} {vs : List V}, DpAll K F vs ds → DpAll K (without F a) vs ds
  | [], _, q => by cases q; exact .nil
  | d :: ds, _, q => by
    cases q with
    | cons q r => exact .cons (dp_off h h1 h2 q) (dpAll_off h h1 h2 r)
end
theorem dictOb_off (h : F a = some (.frz ob u)) (h1 : ∀ xs, u ≠ .lst xs) (h2 : ∀ xs, u ≠ .tup xs) {kv : List (D × D)} {t : Bool} {w : HO} (q : DictOb K F kv t w) : DictOb K (without F a) kv t w := by
  cases t with
  | false =>
    cases w with
    | dK ws =>
      have q : KvK K F kv ws := q
      show KvK K (without F a) kv ws
      induction q with
      | nil => exact .nil
      | cons r t ih => exact .cons ⟨r.1, dp_off h h1 h2 r.2⟩ (ih t)
    | _ => exact q.elim
  | true =>
    cases w with
    | dT ws =>
      have q : KvT K F kv ws := q
      show KvT K (without F a) kv ws
      induction q with
      | nil => exact .nil
      | cons r t ih => exact .cons ⟨r.1, dp_off h h1 h2 r.2⟩ (ih t)
    | _ => exact q.elim
theorem ob_off (h : F a = some (.frz ob u)) (h1 : ∀ xs, u ≠ .lst xs) (h2 : ∀ xs, u ≠ .tup xs) {c : Cell} {w : HO} (q : Ob K F c w) : Ob K (without F a) c w := by
  cases c with
  | od t kv => exact dictOb_off h h1 h2 q
  | ol ds =>
    cases w with
    | lst vs => exact dpAll_off h h1 h2 q
    | _ => exact q
  | _ => exact q
/-- what the lock wants of the cell j -/
structure Lk (K : PySem.W.Frag) (B F H : Hp) (σ : St) (j : Nat) (tk : Bool) (kvs : List (D × D)) (a : Addr) (u : HO) : Prop where
  s : σ[j]? = some (some (.ref a))
  h : H a = some u
  o : DictOb K F kvs tk u
  f : F a = none
  b : B a = none
theorem Con.lk (c : Con K B F io σ H ρ) (h : ρ[j]? = some (.od tk kvs)) : ∃ a u, Lk K B F H σ j tk kvs a u := by
  obtain ⟨a, u, h1, h2, h3, h4, h5⟩ := c.own h rfl
  exact ⟨a, u, h1, h2, h3, h4, h5⟩
theorem Con.lock (c : Con K B F io σ H ρ) (h : ρ[j]? = some (.od tk kvs)) (l : Lk K B F H σ j tk kvs a u) (ob : Obj) : Con K B (upd F a (.frz ob u)) io σ (upd H a (.frz ob u)) (ρ.set j (.fd tk kvs)) := by
  have sF : Same F (upd F a (.frz ob u)) := same_upd l.f
  refine ⟨by rw [List.length_set, c.len], fun b x e => ?_, same_upd2 c.frz, fun i w hw => ?_, fun i k w1 w2 b h1 h2 o1 o2 s1 s2 => ?_, c.io⟩
  · rw [upd_ne (ne_of_none e l.b)]; exact c.base b x e
  · rcases get_set_cases hw with ⟨rfl, rfl, hl⟩ | ⟨ne, hw⟩
    · exact ⟨_, l.s, a, ob, u, rfl, upd_same, dictOb_mono sF l.o⟩
    · obtain ⟨x, hx, ok⟩ := c.cell i w hw
      refine ⟨x, hx, ?_⟩
      by_cases ho : isOwn w = true
      · rw [cellOk_own ho] at ok ⊢
        obtain ⟨p, z, g1, g2, g3, g4, g5⟩ := ok
        subst g1
        have np : p ≠ a := fun z => ne (c.sep i j w _ a hw h ho rfl (by rw [hx, z]) l.s)
        exact ⟨p, z, rfl, by rw [upd_ne np]; exact g2, ob_mono sF g3, by rw [upd_ne np]; exact g4, g5⟩
      · cases w with
        | dead => trivial
        | sh d => obtain ⟨v, z1, z2⟩ := ok; exact ⟨v, z1, dp_mono sF z2⟩
        | fd t kv => obtain ⟨p, o2, u2, z1, z2, z3⟩ := ok; exact ⟨p, o2, u2, z1, sF _ _ z2, dictOb_mono sF z3⟩
        | _ => exact absurd rfl ho
  · rcases get_set_cases h1 with ⟨rfl, rfl, _⟩ | ⟨n1, h1⟩
    · cases o1
    · rcases get_set_cases h2 with ⟨rfl, rfl, _⟩ | ⟨n2, h2⟩
      · cases o2
      · exact c.sep i k w1 w2 b h1 h2 o1 o2 s1 s2
theorem gr_unlock (l : Lk K B F H σ j tk kvs a u) (g : Gr B (upd F a (.frz ob u)) F') : Gr B F (without F' a) := ⟨fun b x e => by
    have nb : b ≠ a := fun z => by subst z; rw [l.f] at e; cases e
    rw [without_ne nb]
    exact g.sub b x (by rw [upd_ne nb]; exact e), fun b x e => by
    by_cases z : b = a
    · subst z; rw [without_at] at e; cases e
    · rw [without_ne z] at e
      rcases g.new b x e with q | q
      · rw [upd_ne z] at q; exact .inl q
      · exact .inr q⟩
theorem Con.unlock {io' : List (Nat × Addr)} (l : Lk K B F H σ j tk kvs a u) (g : Gr B (upd F a (.frz ob u)) F') (c' : Con K B F' io' σ' H' ρ') (hs : σ'[j]? = some (some (.ref a))) (nf : noFd (ρ'.set j .dead) = true) :
    Con K B (without F' a) io' σ' (upd H' a u) (ρ'.set j (.od tk kvs)) := by
  obtain ⟨i1, i2, _⟩ := dictOb_is l.o
  have fa : F' a = some (.frz ob u) := g.sub _ _ upd_same
  have gr := gr_unlock l g
  refine ⟨by rw [List.length_set, c'.len], fun b x e => ?_, fun b x e => ?_, fun i w hw => ?_, fun i k w1 w2 b h1 h2 o1 o2 s1 s2 => ?_, c'.io⟩
  · rw [upd_ne (ne_of_none e l.b)]; exact c'.base b x e
  · by_cases z : b = a
    · subst z; rw [without_at] at e; cases e
    · rw [without_ne z] at e
      rw [upd_ne z]
      exact c'.frz b x e
  · rcases get_set_cases hw with ⟨rfl, rfl, hl⟩ | ⟨ne, hw⟩
    · exact ⟨_, hs, (cellOk_own rfl).mpr ⟨a, u, rfl, upd_same, dictOb_mono gr.sub l.o, without_at, l.b⟩⟩
    · obtain ⟨x, hx, ok⟩ := c'.cell i w hw
      refine ⟨x, hx, ?_⟩
      by_cases ho : isOwn w = true
      · rw [cellOk_own ho] at ok ⊢
        obtain ⟨p, z, g1, g2, g3, g4, g5⟩ := ok
        have np : p ≠ a := fun z => by subst z; rw [fa] at g4; cases g4
        exact ⟨p, z, g1, by rw [upd_ne np]; exact g2, ob_off fa i1 i2 g3, by rw [without_ne np]; exact g4, g5⟩
      · cases w with
        | dead => trivial
        | sh d => obtain ⟨v, z1, z2⟩ := ok; exact ⟨v, z1, dp_off fa i1 i2 z2⟩
        | fd t kv => exact absurd rfl (noFd_get nf (by rw [List.getElem?_set_ne (Ne.symm ne)]; exact hw) t kv)
        | _ => exact absurd rfl ho
  · have key : ∀ (i : Nat) (w : Cell), ρ'[i]? = some w → isOwn w = true → σ'[i]? ≠ some (some (.ref a)) := fun i w hw ho q => by
      obtain ⟨p, z, g1, _, _, g4, _⟩ := c'.own hw ho
      rw [q] at g1
      cases g1
      rw [fa] at g4
      cases g4
    rcases get_set_cases h1 with ⟨rfl, rfl, _⟩ | ⟨n1, g1⟩
    · rcases get_set_cases h2 with ⟨rfl, rfl, _⟩ | ⟨n2, g2⟩
      · rfl
      · rw [hs] at s1; cases s1; exact absurd s2 (key k w2 g2 o2)
    · rcases get_set_cases h2 with ⟨rfl, rfl, _⟩ | ⟨n2, g2⟩
      · rw [hs] at s2; cases s2; exact absurd s1 (key i w1 g1 o1)
      · exact c'.sep i k w1 w2 b g1 g2 o1 o2 s1 s2
/-! ### for the while of an expression -/
def eLok (j : Nat) (f : FE) : FE := fun ρ => match ρ[j]? with
  | some (.od tk kvs) => (f (ρ.set j (.fd tk kvs))).bind fun p => if noFd (p.2.set j .dead) = true then some (p.1, p.2.set j (.od tk kvs)) else none
  | _ => none
def eLokN (j : Nat) (f : FN) : FN := fun ρ => match ρ[j]? with
  | some (.od tk kvs) => (f (ρ.set j (.fd tk kvs))).bind fun p => if noFd (p.2.set j .dead) = true then some (p.1, p.2.set j (.od tk kvs)) else none
  | _ => none
theorem se_lok {t : TE} {f : FE} (j : Nat) (h : SE K t f) : SE K (tLockE t) (eLok j f) := by
  intro B F io σ H ρ d ρ' Q c e k
  unfold eLok at e
  split at e
  · next tk kvs hj =>
    obtain ⟨p, e1, e⟩ := Option.bind_eq_some_iff.mp e
    split at e
    · next nf =>
      cases e
      obtain ⟨a, u, l⟩ := c.lk hj
      obtain ⟨i1, i2, i3⟩ := dictOb_is l.o
      refine ⟨a, u, l.h, i3, fun ob => h B _ io σ _ _ p.1 p.2 _ (c.lock hj l ob) e1 fun F' H' v g c' dv => ⟨c'.frz _ _ (g.sub _ _ upd_same), ?_⟩⟩
      exact k _ _ v (gr_unlock l g) (Con.unlock l g c' l.s nf) (dp_off (g.sub _ _ upd_same) i1 i2 dv)
    · cases e
  · cases e
theorem sn_lok {t : TE} {f : FN} (j : Nat) (h : SN K t f) : SN K (tLockE t) (eLokN j f) := by
  intro B F io σ H ρ d ρ' Q c e k
  unfold eLokN at e
  split at e
  · next tk kvs hj =>
    obtain ⟨p, e1, e⟩ := Option.bind_eq_some_iff.mp e
    split at e
    · next nf =>
      cases e
      obtain ⟨a, u, l⟩ := c.lk hj
      obtain ⟨i1, i2, i3⟩ := dictOb_is l.o
      refine ⟨a, u, l.h, i3, fun ob => h B _ io σ _ _ p.1 p.2 _ (c.lock hj l ob) e1 fun F' H' b o g c' hb ob2 fb bb no => ⟨c'.frz _ _ (g.sub _ _ upd_same), ?_⟩⟩
      have fa := g.sub _ _ upd_same
      have nb : b ≠ a := fun z => by subst z; rw [fa] at fb; cases fb
      refine k _ _ b o (gr_unlock l g) (Con.unlock l g c' l.s nf) (by rw [upd_ne nb]; exact hb) (ob_off fa i1 i2 ob2) (by rw [without_ne nb]; exact fb) bb fun i w hw how q => ?_
      rcases get_set_cases hw with ⟨rfl, rfl, _⟩ | ⟨ne, hw⟩
      · rw [l.s] at q; cases q; exact nb rfl
      · exact no i w hw how q
    · cases e
  · cases e
/-! ### for the while of a statement -/
def unO (j : Nat) (tk : Bool) (kvs : List (D × D)) : Out → Option Out
  | .nx ρ' => if noFd (ρ'.set j .dead) = true then some (.nx (ρ'.set j (.od tk kvs))) else none
  | .bk ρ' => if noFd (ρ'.set j .dead) = true then some (.bk (ρ'.set j (.od tk kvs))) else none
  | .ct ρ' => if noFd (ρ'.set j .dead) = true then some (.ct (ρ'.set j (.od tk kvs))) else none
  | .rt c ρ' => if noFd (ρ'.set j .dead) = true then some (.rt c (ρ'.set j (.od tk kvs))) else none
def sLok (j : Nat) (f : FS) : FS := fun ρ => match ρ[j]? with
  | some (.od tk kvs) => (f (ρ.set j (.fd tk kvs))).bind (unO j tk kvs)
  | _ => none
theorem ss_lok {L : List Nat} {t : TS} {f : FS} (j : Nat) (h : SS K (j :: L) t f) : SS K L (tLock t) (sLok j f) := by
  intro B F io σ H ρ o Dn hL c e p
  unfold sLok at e
  split at e
  · next tk kvs hj =>
    obtain ⟨o1, e1, e⟩ := Option.bind_eq_some_iff.mp e
    obtain ⟨a, u, l⟩ := c.lk hj
    obtain ⟨i1, i2, i3⟩ := dictOb_is l.o
    refine ⟨a, u, l.h, i3, fun ob => h B _ ((j, a) :: io) σ _ _ o1 _ (by rw [List.map_cons, hL]) ((c.lock hj l ob).addio l.s) e1 ?_⟩
    have io1 : ∀ {F' : Hp} {σ' : St} {H' : Hp} {ρ' : En}, Con K B F' ((j, a) :: io) σ' H' ρ' → σ'[j]? = some (some (.ref a)) := fun {F' σ' H' ρ'} c' => c'.io (j, a) List.mem_cons_self
    cases o1 with
    | nx ρ1 =>
      simp only [unO] at e
      split at e
      · next nf =>
        cases e
        exact fun F' σ' H' g c' => ⟨c'.frz _ _ (g.sub _ _ upd_same), p _ σ' _ (gr_unlock l g) ((Con.unlock l g c' (io1 c') nf).subio fun q hq => List.mem_cons_of_mem _ hq)⟩
      · cases e
    | bk ρ1 =>
      simp only [unO] at e
      split at e
      · next nf =>
        cases e
        exact fun F' σ' H' g c' => ⟨c'.frz _ _ (g.sub _ _ upd_same), p _ σ' _ (gr_unlock l g) ((Con.unlock l g c' (io1 c') nf).subio fun q hq => List.mem_cons_of_mem _ hq)⟩
      · cases e
    | ct ρ1 =>
      simp only [unO] at e
      split at e
      · next nf =>
        cases e
        exact fun F' σ' H' g c' => ⟨c'.frz _ _ (g.sub _ _ upd_same), p _ σ' _ (gr_unlock l g) ((Con.unlock l g c' (io1 c') nf).subio fun q hq => List.mem_cons_of_mem _ hq)⟩
      · cases e
    | rt r ρ1 =>
      simp only [unO] at e
      split at e
      · next nf =>
        cases e
        intro F' σ' H' v g c' ret
        have fa := g.sub _ _ upd_same
        refine ⟨c'.frz _ _ fa, p _ σ' _ v (gr_unlock l g) ((Con.unlock l g c' (io1 c') nf).subio fun q hq => List.mem_cons_of_mem _ hq) ?_⟩
        by_cases ho : isOwn r = true
        · rw [retOk_own ho] at ret ⊢
          obtain ⟨b, o, y1, y2, y3, y4, y5, y6⟩ := ret
          have nb : b ≠ a := fun z => by subst z; rw [fa] at y4; cases y4
          refine ⟨b, o, y1, by rw [upd_ne nb]; exact y2, ob_off fa i1 i2 y3, by rw [without_ne nb]; exact y4, y5, fun i w hw how q => ?_⟩
          rcases get_set_cases hw with ⟨rfl, rfl, _⟩ | ⟨ne, hw⟩
          · rw [io1 c'] at q; cases q; exact nb rfl
          · exact y6 i w hw how q
        · cases r with
          | dead => exact ret
          | sh d => exact dp_off fa i1 i2 ret
          | fd t kv =>
            obtain ⟨_, _, _, _, h, _⟩ := ret
            exact h.elim
          | _ => exact absurd rfl ho
      · cases e
  · cases e
end
section
variable {X : Cx} {L : List Nat} {e tg : Expr} {t : TE} {f : FE} {g : FN} {x : Str} {p : Pos}
theorem de_lok (j : Nat) (h : DE X e t f) : DE X e (tLockE t) (eLok j f) := ⟨pe_lock h.pe, se_lok j h.se⟩
theorem dn_lok (j : Nat) (h : DN X e t g) : DN X e (tLockE t) (eLokN j g) := ⟨pe_lock h.pe, sn_lok j h.se⟩
theorem ds_lok {st : Stmt} {t : TS} {f : FS} (j : Nat) (h : DS X (j :: L) st t f) : DS X L st (tLock t) (sLok j f) := ⟨ps_lock h.pe, ss_lok j h.se⟩
/-- the keys of a locked dict -/
def iFd (j : Nat) : FA := fun ρ => match ρ[j]? with
  | some (.fd false kvs) => some (kvs.map (·.1), ρ)
  | _ => none
theorem di_fd (j : Nat) (hN : X.N[j]? = some x := by rfl) (hv : Vis X.env.scope x := by first | exact Or.inl rfl | exact Or.inr (Or.inl rfl) | exact Or.inr (Or.inr rfl)) (hd : (x == ("__debug__" : Str)) = false := by decide) (hcd : (x == ("__classdict__" : Str)) = false := by decide) :
    DI X none tg (.Name x p) (iKeys (tVar j)) (iFd j) := by
  refine ⟨pi_keys (pe_var hN hv hd hcd), ?_⟩
  intro B F io σ H ρ xs ρ' R c e k
  unfold iFd at e
  split at e
  · next kvs hj =>
    cases e
    obtain ⟨v, hv, a, ob, u, h1, h2, h3⟩ := c.cell j _ hj
    subst h1
    cases u with
    | dK ws =>
      have h3 : KvK X.K F kvs ws := h3
      have hl := kvK_len h3
      refine ⟨.ref a, hv, a, ob, rfl, .inl ⟨ws, c.frz _ _ h2, k F H _ (fun F2 H2 => F2 a = some (.frz ob (.dK ws)) ∧ Same F2 H2) (Gr.refl _ _) c ⟨fun i F2 H2 q hi => ⟨q.2 _ _ q.1, by rw [List.length_map] at hi; omega⟩, fun i F2 H2 y H3 q hi yl => ?_, fun i F2 H2 q hi => ⟨q.2 _ _ q.1, by rw [List.length_map] at hi; omega⟩⟩
        (fun B2 F2 io2 σ2 H2 ρ2 s2 c2 _ _ => ⟨s2 _ _ h2, c2.frz⟩) (fun _ h => nomatch h)⟩⟩
      obtain ⟨rfl, ky, v, e1, rfl⟩ := yl
      rw [List.length_map] at hi
      refine ⟨rfl, kD ky, ?_, ?_⟩
      · have e2 : kvs[i]? = some kvs[i] := List.getElem?_eq_getElem hi
        have := paired_at (R := fun (p : D × D) (q : Key × V) => p.1 = kD q.1 ∧ Dp X.K F q.2 p.2) h3 e2 e1
        rw [List.getElem?_map, e2, Option.map_some, this.1]
      · cases ky with
        | inl i => exact .int _
        | inr z => exact .str _
    | _ => exact False.elim h3
  · cases e
end
/-! ### sorted(d) -/
section
variable {P : Program} {w : World} {A : Around} {E : Value → Shared → Prop} {s : Shared}
def rSortD : List V → Hp → VK → Prop := fun xs H Q => ∃ a kvs, xs = [.ref a] ∧ Rd H a (.dK kvs) ∧ sortB ((kvs.map (·.1)).map kD) = true ∧ ∀ p ws, H p = none → (∀ K F, DpAll K F ws (sortD ((kvs.map (·.1)).map kD))) → Q (.ref p) (upd H p (.lst ws))
theorem cr_sortD {X : Cx} (hc : X.calm = true) (hu : X.A.units + 100 < cLine) : CallR X (.builtin "sorted") rSortD := by
  intro pins s σ H xs us Q I r q
  obtain ⟨a, kvs, rfl, hd, sb, q⟩ := q
  obtain ⟨u, rfl, rx⟩ := vals1 r
  cases rx
  obtain ⟨z, lo, vs, rel, dd⟩ := dk_rd I.hok hd
  obtain ⟨ep, hat⟩ := dd.dictAt
  have hl : kvs.length = vs.length := rel.length
  have h16 : vs.length ≤ sizeLine := by omega
  refine Calls.call_function_entry PyProof.Rows.kind_sorted PyProof.Rows.plain_sorted PyProof.Rows.entry_sorted (PyProof.Rows.args_sorted1 _) (by
    unfold Builtin.«sorted»
    refine wpAny_bind (m := checkCount "sorted" 1 1 _) (wpAny_pure ?_)
    refine wpAny_bind (PySem.W.kdu_collect (A := X.A.in1) (PySem.W.kdl_dict (knd := mixKind X.prog X.w) (kvs := vs) (ep := ep) lo) (I.ok.hd hc) hat h16 fun h' tk acc hk hacc => ?_)
    have lacc : acc.toList.length = vs.length := by rw [Array.length_toList, hacc.1]
    have kv : ∀ (i : Nat) (v : Value), acc.toList[i]? = some v → ∃ k, (kvs.map (·.1))[i]? = some k ∧ keyIs k v = true := fun i v e => by
      obtain ⟨k, x, e1, e2⟩ := hacc.2 i v (by rw [← Array.getElem?_toList]; exact e)
      refine ⟨k, ?_, e2⟩
      rw [rel.keys, List.getElem?_map, e1]
      rfl
    have ev : acc.toList.map valD = (kvs.map (·.1)).map kD := by
      apply List.ext_getElem?
      intro i
      rw [List.getElem?_map, List.getElem?_map]
      cases e : acc.toList[i]? with
      | none =>
        have : (kvs.map (·.1))[i]? = none := by
          have := List.getElem?_eq_none_iff.mp e
          exact List.getElem?_eq_none_iff.mpr (by rw [List.length_map]; omega)
        rw [this]; rfl
      | some v =>
        obtain ⟨k, e1, e2⟩ := kv i v e
        rw [e1, Option.map_some, Option.map_some, valD_is e2]
    have mem : ∀ v ∈ acc.toList, ∃ k, keyIs k v = true ∧ valD v = kD k := fun v hv => by
      obtain ⟨i, e⟩ := List.mem_iff_getElem?.mp hv
      obtain ⟨k, _, e2⟩ := kv i v e
      exact ⟨k, e2, valD_is e2⟩
    obtain ⟨al, so, ok⟩ := sortB_all sb
    rw [← ev] at al so ok
    have I1 : Inv X pins σ H { s with heap := h', toks := tk } := I.kept hk
    refine wpAny_bind (wpAny_newList ?_ (by omega))
    have gL : (h'.push (seqObj "list" acc.toList.toArray 0)).get? h'.objs.size = some (seqObj "list" acc.toList.toArray 0) := Heap.get?_push_size _ rfl
    show wpAny _ _ _ _ _ { s with heap := h'.push (seqObj "list" acc.toList.toArray 0), toks := tk }
    refine wpAny_bind (wpAny_holding (PySem.W.list_sort_data (s := { s with heap := h'.push (seqObj "list" acc.toList.toArray 0), toks := tk }) (enc := id) (R := fun v d => ∃ k, keyIs k v = true ∧ d = kD k) gL (each_self fun v hv => mem v hv) (each_self fun v hv => ?_)
      (by rw [List.map_id]; exact al) (by rw [List.map_id]; exact so) (by rw [List.length_map]; omega) (fun b hb => ?_) fun out lo2 eo => ?_))
    · obtain ⟨k, hk2, hv2⟩ := mem v hv
      rcases keyIs_shape hk2 with ⟨i, tk, rfl, rfl⟩ | ⟨x, tk, rfl, rfl⟩
      · exact ⟨[], .int i tk, List.not_mem_nil⟩
      · exact ⟨[], .str x tk, List.not_mem_nil⟩
    · have := SeqAt.depth_of_shaped (ok _ hb)
      show X.A.units + 1 + 1 + b.depth < cLine
      omega
    · obtain ⟨c, hcc⟩ := PyProof.Rows.sortedHeap_at (vs := acc.toList) (out := out.toArray) gL
      have eo2 : PySem.W.EachIs (fun v d => ∃ k, keyIs k v = true ∧ d = kD k) out (sortD (acc.toList.map valD)) := eo
      rw [ev] at eo2
      obtain ⟨ws, hv, hdp⟩ := out_vals (l := []) eo2
      have ln : ws.length ≤ sizeLine := by
        rw [(hdp X.K H).length, sortD_len, List.length_map, List.length_map]
        omega
      refine wpAny_pure ⟨_, rfl, .ref h'.objs.size, upd H h'.objs.size (.lst ws), I1.laid (t' := tk) (fun b u e => ?_) (Nat.le_refl _) ⟨ln, out, c, hv, hcc⟩, rfl, q _ ws (I1.hok.fresh (Nat.le_refl _)) hdp⟩
      have lt := Heap.lt_size e
      show (PyProof.Rows.sortedHeap (h'.push (seqObj "list" acc.toList.toArray 0)) h'.objs.size acc.toList out.toArray).get? b = some u
      rw [PyProof.Rows.sortedHeap_old (Nat.ne_of_lt lt) (by rw [size_push']; exact Nat.lt_succ_of_lt lt)]
      exact Heap.get?_push_of_some _ e)
def eSrtD (j : Nat) : FN := fun ρ => (dAt j ρ).bind fun kvs => if sortB (kvs.map (·.1)) = true then some (.ol (sortD (kvs.map (·.1))), ρ) else none
theorem kvK_keys {K : PySem.W.Frag} {F : Hp} : ∀ {kvs : List (D × D)} {ws : List (Key × V)}, KvK K F kvs ws → kvs.map (·.1) = (ws.map (·.1)).map kD
  | _, _, .nil => rfl
  | p :: kvs, q :: ws, .cons r t => by rw [List.map_cons, List.map_cons, List.map_cons, kvK_keys t, r.1]
theorem dn_sortD {X : Cx} {x : Str} {p p1 pos : Pos} (j : Nat) (hc : X.calm = true) (hu : X.A.units + 100 < cLine) (hm : X.mg "sorted" = none) (hN : X.N[j]? = some x := by rfl) (hv : Vis X.env.scope x := by first | exact Or.inl rfl | exact Or.inr (Or.inl rfl) | exact Or.inr (Or.inr rfl)) (hd : (x == ("__debug__" : Str)) = false := by decide)
    (hcd : (x == ("__classdict__" : Str)) = false := by decide) (hg : Gl X "sorted" := by rfl) (he : starEach [.Name x p1] X.env = (false, eval (.Name x p1) X.env) :: starEach [] X.env := by rfl) (hpl : (backTo pos (starEach [] X.env)).any (·.1) = false := by rfl) :
    DN X (.Call (.Name "sorted" p) [.Name x p1] [] pos) (tCB rSortD (tCons (tVar j) tNil)) (eSrtD j) := by
  refine ⟨pe_callB (cr_sortD hc hu) hg hm (by decide +kernel) (pa_cons (pe_var hN hv hd hcd) pa_nil he) (by decide) (by decide) he hpl, ?_⟩
  intro B F io σ H ρ c0 ρ' Q c e k
  obtain ⟨kvs, z0, e⟩ := Option.bind_eq_some_iff.mp e
  split at e
  · next sb =>
    cases e
    obtain ⟨a, ws, s1, h1, d1⟩ := dict_at c z0
    rw [kvK_keys d1] at sb k
    refine ⟨.ref a, s1, a, ws, rfl, h1, sb, fun p2 vs np hd => ?_⟩
    have al := Al.laidH (o := .lst vs) c.frz np
    exact k F _ p2 _ (Gr.refl _ _) (c.al al) upd_same (hd X.K F) (c.frz.free np) (c.base.free np) (c.fresh_notOwned np)
  · cases e
end
end L2.Pd

namespace L2.Pd
open PySem PySem.Spec PyProof.Rows
/-! ## sets of ints and texts: set(xs), sorted(set(xs)), len(set(xs)) -/
/-- one row of the table stands for a key -/
def Row (w : World) (e : Int × Value) (k : Key) : Prop := keyIs k e.2 = true ∧ e.1 = keyH w k
def Rows (w : World) (l : List (Int × Value)) : Prop := ∀ e ∈ l, Row w e (keyV e.2)
abbrev keysOf (l : List (Int × Value)) : List Key := l.map fun e => keyV e.2
structure Tab (w : World) (h : Heap) (a : Addr) (o : Obj) (es : Array (Int × Value)) (ep : Nat) (t : SetTable) : Prop where
  at' : h.get? a = some o
  ex : o.ExactSet
  dat : o.data = .set es ep t
  row : Rows w es.toList
  nd : (keysOf es.toList).Nodup
  few : es.size < scanBound
  fit : t.fits es.size = true
  ris : Ris t.place.toList
  led : w.params.followText "set-order" = true ∨ t.led = true
/-- at a stands the set of the keys ks -/
def SetK (w : World) (h : Heap) (a : Addr) (ks : List Key) : Prop := ∃ o es ep t, Tab w h a o es ep t ∧ (keysOf es.toList).Perm ks
section
variable {P : Program} {w : World} {h h' : Heap} {a : Addr} {ks : List Key}
theorem SetK.keep (R : SetK w h a ks) (k : ∀ o, h.get? a = some o → h'.get? a = some o) : SetK w h' a ks := by
  obtain ⟨o, es, ep, t, T, p⟩ := R
  exact ⟨o, es, ep, t, { T with at' := k o T.at' }, p⟩
theorem SetK.nodup (R : SetK w h a ks) : ks.Nodup := by
  obtain ⟨o, es, ep, t, T, p⟩ := R
  exact p.nodup_iff.mp T.nd
theorem Rows.elems {l : List (Int × Value)} (g : Rows w l) : ElemsOf (mixKind P w) l := fun e m => ⟨⟨keyV e.2, (g e m).1, (g e m).2⟩, scan_is (g e m).1⟩
theorem key_at {l : List (Int × Value)} (g : Rows w l) (k : Key) : k ∈ keysOf l ↔ ∃ e ∈ l, keyIs k e.2 = true := by
  rw [List.mem_map]
  constructor
  · rintro ⟨e, m, rfl⟩
    exact ⟨e, m, (g e m).1⟩
  · rintro ⟨e, m, q⟩
    exact ⟨e, m, keyV_is q⟩
end
section
variable {P : Program} {w : World} {A : Around} {E : Value → Shared → Prop} {s : Shared} {a : Addr} {ks : List Key}
theorem gave_ok (b : Bool) {s1 : Shared} {Q1 : Unit → Shared → Prop} (q : Q1 () s1) : wpAny (model P w) A (match b with | true => rule "set.scan.the-table-gave-way" | false => pure ()) Q1 E s1 := by
  cases b
  · exact wpAny_pure q
  · exact wpAny_rule q
/-- the new rows are stored, and the table grows where it is too full -/
theorem tail_ok {g : Bool → Sem Unit} (hg : ∀ (b : Bool) (s1 : Shared) (Q1 : Unit → Shared → Prop), Q1 () s1 → wpAny (model P w) A (g b) Q1 E s1)
    {o : Obj} {es es1 : Array (Int × Value)} {ep : Nat} {t t2 : SetTable} (T : Tab w s.heap a o es ep t) (r1 : Rows w es1.toList) (n1 : (keysOf es1.toList).Nodup) (b1 : es1.size < scanBound) (f1 : t2.fits es1.size = true) (i1 : Ris t2.place.toList)
    (l1 : w.params.followText "set-order" = true ∨ t2.led = true) {full : Bool} {R : Option Bool → Shared → Prop} (hR : ∀ h', Heap.SameBut a s.heap h' → SetK w h' a (keysOf es1.toList) → R (some true) { s with heap := h' }) :
    wpAny (model P w) A (do
        storeSet a es1 t2
        if (!full && t2.tooFull) = true then do
            g (relayAll t2 es1 (SetTable.grown es1.size)).2.2
            storeSet a (relayAll t2 es1 (SetTable.grown es1.size)).1 (relayAll t2 es1 (SetTable.grown es1.size)).2.1
            pure (some true)
          else pure (some true)) R E s := by
  refine wpAny_bind (wpAny_storeSet_of T.at' T.dat ?_ (fits_of_scanBound b1))
  have q1 := store_at (es' := es1) (t' := t2) T.at' T.dat
  have u1 := Heap.SameBut.update s.heap a (Obj.putSet es1 t2)
  split
  · have pm := relayAll_perm t2 es1 (SetTable.grown es1.size)
    have f3 := relayAll_fits t2 es1 (SetTable.grown es1.size)
    have i3 := relayAll_ris t2 es1 (SetTable.grown es1.size)
    have l3 := relayAll_led t2 es1 (SetTable.grown es1.size)
    generalize relayAll t2 es1 (SetTable.grown es1.size) = Z at pm f3 i3 l3 ⊢
    obtain ⟨es2, t3, gave⟩ := Z
    dsimp only at pm f3 i3 l3 ⊢
    have b2 : es2.size < scanBound := by rw [← Array.length_toList, pm.length_eq, Array.length_toList]; exact b1
    refine wpAny_bind (hg _ _ _ (wpAny_bind (wpAny_storeSet_of q1 rfl ?_ (fits_of_scanBound b2))))
    have q2 := store_at (es' := es2) (t' := t3) q1 rfl
    refine wpAny_pure (hR _ (u1.trans (Heap.SameBut.update _ a _)) ⟨_, es2, _, t3, ⟨q2, T.ex, rfl, fun e m => r1 e (pm.mem_iff.mp m), (pm.map _).nodup_iff.mpr n1, b2, f3, i3, l1.imp id fun z => by rw [l3]; exact z⟩, pm.map _⟩)
  · exact wpAny_pure (hR _ u1 ⟨_, es1, _, t2, ⟨q1, T.ex, rfl, r1, n1, b1, f1, i1, l1⟩, List.Perm.refl _⟩)
def hasK (ks : List Key) (k : Key) : Bool := ks.any fun j => decide (j = k)
theorem hasK_iff {ks : List Key} {k : Key} : hasK ks k = true ↔ k ∈ ks := by
  unfold hasK
  rw [List.any_eq_true]
  constructor
  · rintro ⟨j, hj, e⟩
    rw [← of_decide_eq_true e]
    exact hj
  · exact fun h => ⟨k, h, decide_eq_true rfl⟩
def addK (ks : List Key) (k : Key) : List Key := if hasK ks k = true then ks else k :: ks
theorem add_hashed {k : Key} {v : Value} {Q : Bool → Shared → Prop} (R : SetK w s.heap a ks) (room : ks.length + 1 < scanBound) (hk : keyIs k v = true)
    (hQ : ∀ h' b, Heap.SameBut a s.heap h' → SetK w h' a (addK ks k) → Q b { s with heap := h' }) : wpAny (model P w) A (setAddHashed a v (keyH w k)) Q E s := by
  obtain ⟨o, es, ep, t, T, pe⟩ := R
  have el : ElemsOf (mixKind P w) es.toList := T.row.elems
  have sv : v.scannable = true := scan_is hk
  have kv : (mixKind P w).is k v = true := hk
  unfold setAddHashed setAddHashedIn
  refine wpAny_holding (wpAny_bind (wpAny_setState_of T.at' T.dat T.fit ?_))
  dsimp only
  rw [byScan_of sv T.few el]
  simp only [↓reduceIte]
  unfold setAddByScan
  refine wpAny_bind (wpAny_bind (wpAny_rule (wpAny_bind (wpAny_setScan_of (knd := mixKind P w) kv T.at' T.dat T.fit el ?_))))
  cases hf : List.findIdx? (fun e => (mixKind P w).is k e.2) es.toList with
  | some j =>
    dsimp only
    obtain ⟨lj, pj, _⟩ := List.findIdx?_eq_some_iff_getElem.mp hf
    have hm : k ∈ keysOf es.toList := (key_at T.row k).2 ⟨es.toList[j], List.getElem_mem lj, pj⟩
    refine wpAny_pure (wpAny_pure (hQ s.heap _ (Heap.SameBut.refl a s.heap) ⟨o, es, ep, t, T, ?_⟩))
    unfold addK
    rw [if_pos (hasK_iff.mpr (pe.mem_iff.mp hm))]
    exact pe
  | none =>
    dsimp only
    have nm : k ∉ keysOf es.toList := fun z => by
      obtain ⟨e, m, q⟩ := (key_at T.row k).1 z
      have c := List.findIdx?_eq_none_iff.mp hf e m
      rw [show (mixKind P w).is k e.2 = true from q] at c
      cases c
    have pm := layNew_perm t es (keyH w k) v
    have f1 := layNew_fits t es (keyH w k) v
    have i1 := layNew_ris t es (keyH w k) v T.ris
    have l1 := layNew_led t es (keyH w k) v
    show wpAny (model P w) A _ _ E s
    generalize hZ : layNew t es (keyH w k) v = Z at pm f1 i1 l1
    have hZ2 : layNew t es ((mixKind P w).hash k) v = Z := hZ
    try rw [hZ2]
    obtain ⟨es1, t1, full, gave⟩ := Z
    dsimp only at pm f1 i1 l1 ⊢
    rw [Array.toList_push] at pm
    have pc : es1.toList.Perm ((keyH w k, v) :: es.toList) := pm.trans (List.perm_append_singleton _ _)
    have pk : (keysOf es1.toList).Perm (k :: keysOf es.toList) := by
      have q := pc.map fun e : Int × Value => keyV e.2
      rw [List.map_cons, keyV_is hk] at q
      exact q
    have r1 : Rows w es1.toList := fun e m => by
      rcases List.mem_cons.mp (pc.mem_iff.mp m) with z | z
      · subst z
        rw [keyV_is hk]
        exact ⟨hk, rfl⟩
      · exact T.row e z
    have n1 : (keysOf es1.toList).Nodup := pk.nodup_iff.mpr (List.nodup_cons.mpr ⟨nm, T.nd⟩)
    have b1 : es1.size < scanBound := by
      have q1 := pc.length_eq
      have q2 := pe.length_eq
      rw [List.length_cons, Array.length_toList, Array.length_toList] at q1
      rw [List.length_map, Array.length_toList] at q2
      omega
    have led1 : w.params.followText "set-order" = true ∨ t1.led = true := T.led.imp id fun z => by rw [l1]; exact z
    have fin : ∀ h', Heap.SameBut a s.heap h' → SetK w h' a (keysOf es1.toList) → Q true { s with heap := h' } := fun h' sb r => hQ h' _ sb (by
      obtain ⟨o', es', ep', t', T', p'⟩ := r
      refine ⟨o', es', ep', t', T', p'.trans (pk.trans ?_)⟩
      unfold addK
      rw [if_neg fun z => nm (pe.mem_iff.mpr (hasK_iff.mp z))]
      exact pe.cons k)
    refine wpAny_bind (gave_ok _ ?_)
    split
    · refine wpAny_bind ?_
      rw [hashByValue_scannable 8 sv]
      refine wpAny_pure (tail_ok (fun b s1 Q1 q => gave_ok b q) T r1 n1 b1 ?_ ?_ ?_ fun h' sb r => by dsimp only; exact wpAny_pure (fin h' sb r))
      · split
        · exact f1
        · exact SetTable.fits_plain_off f1
      · split <;> exact i1
      · split <;> exact led1
    · refine wpAny_bind (wpAny_pure ?_)
      simp only [↓reduceIte]
      exact tail_ok (fun b s1 Q1 q => gave_ok b q) T r1 n1 b1 f1 i1 led1 fun h' sb r => by dsimp only; exact wpAny_pure (fin h' sb r)
end

/-! ### set(xs) of a list, of a tuple -/
def ddK (l : List Key) : List Key := l.foldl addK []
theorem addK_len (ks : List Key) (k : Key) : (addK ks k).length ≤ ks.length + 1 := by
  unfold addK
  split
  · omega
  · rw [List.length_cons]; omega
theorem fold_len : ∀ (l ks : List Key), (l.foldl addK ks).length ≤ ks.length + l.length
  | [], ks => by simp
  | k :: l, ks => by
    rw [List.foldl_cons, List.length_cons]
    have := fold_len l (addK ks k)
    have := addK_len ks k
    omega
theorem ddK_len (l : List Key) : (ddK l).length ≤ l.length := by
  have := fold_len l []
  rw [List.length_nil] at this
  unfold ddK
  omega
theorem ddK_snoc {l : List Key} {i : Nat} {k : Key} (h : l[i]? = some k) : ddK (l.take (i + 1)) = addK (ddK (l.take i)) k := by
  unfold ddK
  rw [List.take_add_one, h, Option.toList_some, List.foldl_append]
  rfl
theorem setK_new {w : World} {h : Heap} {a : Addr} (ho : h.get? a = some { cls := .type "set", dict := none, data := .set #[] 0 (.fresh 0 0 (!w.params.followText "set-order")) }) : SetK w h a [] :=
  ⟨_, #[], 0, _, ⟨ho, ⟨rfl, rfl, rfl⟩, rfl, fun e m => absurd m (by simp), by simp, by decide, by rfl, List.Pairwise.nil, by
    show _ ∨ (!w.params.followText "set-order") = true
    cases w.params.followText "set-order"
    · exact .inr rfl
    · exact .inl rfl⟩, List.Perm.refl _⟩
section
variable {P : Program} {w : World} {A : Around} {E : Value → Shared → Prop} {s : Shared}
theorem upd_loop {I : Addr} {fp wr : List Addr} {G : Array GenState → Array GenState → Prop} {n : Nat} {Pv : Nat → Value → Prop} {St : Nat → Shared → Prop} {R : Result → Shared → Prop}
    (W : WalksS P w A.in1 I fp wr G n Pv St) (S : Addr) (nf : S ∉ fp) (kl : List Key) (hn : n = kl.length) (hb : kl.length + 1 < scanBound) (hv : ∀ i v, Pv i v → ∃ k, kl[i]? = some k ∧ keyIs k v = true) :
    ∀ (m i : Nat) (s : Shared), n - i = m → i ≤ n → St i s → SetK w s.heap S (ddK (kl.take i)) →
      (∀ s', Moved (S :: wr) G s s' → SetK w s'.heap S (ddK kl) → R (.ok (.ret .none)) s') → codeAny (model P w) A (.builtin "set.update.loop" ⟨[.ref S, .ref I], []⟩) R s := by
  have nw : S ∉ wr := fun h => nf (W.sub _ h)
  have sub : ∀ b ∈ wr, b ∈ S :: wr := fun b h => List.mem_cons_of_mem _ h
  intro m
  induction m with
  | zero =>
    intro i s e0 hi hst hS hR
    obtain rfl : i = n := by omega
    refine codeAny_builtin F.entry_set_update_loop (by
      rw [Around.under_plainId F.plain_set_update_loop _]
      show wpAny _ A.in1 (pyNext (.ref I) >>= _) _ _ s
      refine wpAny_bind (W.done s _ _ hst fun s1 mv => ?_)
      show wpAny _ A.in1 (ret Value.none) _ _ s1
      rw [List.take_of_length_le (by omega)] at hS
      exact wpAny_pure (hR s1 (mv.mono sub) (hS.keep fun o e => mv.heap S o nw e)))
  | succ m ih =>
    intro i s e0 hi hst hS hR
    have lt : i < n := by omega
    refine codeAny_builtin F.entry_set_update_loop (by
      rw [Around.under_plainId F.plain_set_update_loop _]
      show wpAny _ A.in1 (pyNext (.ref I) >>= _) _ _ s
      refine wpAny_bind (W.item i s _ _ lt hst fun v s1 hp st1 mv => ?_)
      obtain ⟨k, hk, kv⟩ := hv i v hp
      have hS1 : SetK w s1.heap S (ddK (kl.take i)) := hS.keep fun o e => mv.heap S o nw e
      show wpAny _ A.in1 (holding [v] (setAdd S v) >>= _) _ _ s1
      refine wpAny_bind (wpAny_holding ?_)
      unfold setAdd
      refine wpAny_holding (wpAny_bind ((mixKind P w).pyHash (k := k) kv ?_))
      have hl := ddK_len (kl.take i)
      rw [List.length_take] at hl
      refine add_hashed (s := { s1 with toks := s1.toks + 1 }) hS1 (by omega) kv fun h1 b sb hS2 => ?_
      rw [← ddK_snoc hk] at hS2
      refine wpAny_pure ⟨plainId_quiet F.plain_set_update_loop _, ih (i + 1) _ (by omega) lt (W.frame _ s1 _ _ st1 (Nat.le_succ _) fun c hc o e => ?_) hS2 fun s2 mv2 hS3 => ?_⟩
      · rw [sb.2 c (fun q : c = S => nf (by rw [← q]; exact hc))]; exact e
      · refine hR s2 (Moved.trans W.gtrans ((mv.mono sub).then_heap (Nat.le_succ _) fun c o hc e => ?_) mv2) hS3
        rw [sb.2 c (fun q : c = S => hc (by rw [q]; exact List.mem_cons_self))]; exact e)

set_option maxHeartbeats 3200000 in
theorem call_setK_list {l : Addr} {its : Array Value} (kl : List Key) {Q : Value → Shared → Prop} (nh : A.handled = none) (il : s.heap.IsList l its) (hi : Paired (fun (k : Key) v => keyIs k v = true) kl its.toList) (hb : kl.length + 1 < scanBound)
    (hQ : ∀ (h1 : Heap) (tk : Nat), SetK w h1 s.heap.objs.size (ddK kl) → (∀ b o, s.heap.get? b = some o → h1.get? b = some o) → Q (.ref s.heap.objs.size) { s with heap := h1, toks := tk }) : wpAny (model P w) A (call (.type "set") [.ref l]) Q E s := by
  have sz : its.size = kl.length := by rw [hi.length, Array.length_toList]
  obtain ⟨c0, tl0, mr0⟩ := F.called_set.mro
  have md0 := F.called_set.made
  have sb0 := F.called_set.sub
  refine wpAny_call (codeAny_of_tree (show wpAny _ _ (callAny (.type "set") _) _ _ _ from ?_))
  refine wpAny_pure ⟨Code.quiet_builtin _ (by decide +kernel), codeAny_builtin F.entry_type_call (by
    rw [Around.under_plain (weight_type_call_type "set" [.ref l] []) rfl]
    have nt0 := F.called_set.notType
    have cc0 := F.called_set.canCreate
    have tc0 := F.typeCall_set_1 (.ref l)
    repeat (any_goals (first | assumption | wp_step))
    refine codeAny_mono (code_set_led1 (.ref l) (E := E) (Q₁ := fun ob s1 => ob = .ref s.heap.objs.size ∧ s1 = { s with heap := s.heap.push { cls := .type "set", dict := none, data := .set #[] 0 (.fresh 0 0 (!w.params.followText "set-order")) } }) ⟨rfl, rfl⟩) fun r0 s1 hr0 => ?_
    cases r0 with
    | error e => exact hr0
    | ok f0 =>
      cases f0 with
      | ret ob =>
        obtain ⟨rfl, rfl⟩ := hr0
        have gS : (s.heap.push { cls := .type "set", dict := none, data := .set #[] 0 (.fresh 0 0 (!w.params.followText "set-order")) }).get? s.heap.objs.size = some { cls := .type "set", dict := none, data := .set #[] 0 (.fresh 0 0 (!w.params.followText "set-order")) } := Heap.get?_push_size _ rfl
        have tS : Shared.TypeIs { s with heap := s.heap.push { cls := .type "set", dict := none, data := .set #[] 0 (.fresh 0 0 (!w.params.followText "set-order")) } } (.ref s.heap.objs.size) "set" := ⟨_, gS, rfl⟩
        have li0 := F.called_set.init.lookup
        have bi0 := F.called_set.init.bind (.ref s.heap.objs.size)
        repeat (any_goals (first | assumption | wp_step))
        refine codeAny_mono (codeAny_call_builtin (R := wants (fun r s2 => r = .none ∧ ∃ h1 tk, s2 = { s with heap := h1, toks := tk } ∧ SetK w h1 s.heap.objs.size (ddK kl) ∧ (∀ b o, s.heap.get? b = some o → h1.get? b = some o)) E) F.called_set.init.plain F.entry_set_init (check_set_init_1 tS ?_)) fun r2 s2 hr2 => ?_
        · obtain ⟨ol, gl, cl, nl, dl⟩ := il
          obtain ⟨oc, od, oda, osl⟩ := ol
          simp only at cl dl
          subst cl; subst dl
          have gl1 : (s.heap.push { cls := .type "set", dict := none, data := .set #[] 0 (.fresh 0 0 (!w.params.followText "set-order")) }).get? l = some { cls := .type "list", dict := od, data := .seq its nl, slots := osl } := Heap.get?_push_of_some _ gl
          have u1 := F.sub_list_set
          have u2 := F.sub_list_frozenset
          have u3 : (Value.type "list" == Value.type "dict") = false := by decide
          have il1 : (s.heap.push { cls := .type "set", dict := none, data := .set #[] 0 (.fresh 0 0 (!w.params.followText "set-order")) }).IsList l its := ⟨_, gl1, rfl, nl, rfl⟩
          unfold Builtin.«set.__init__» noKeywords
          unfold Builtin.Frozenset.updateFrom
          generalize gP : pyIter = PI
          wp_walk
          subst gP
          refine wpAny_pyIter_list il1 (wpAny_bind (wpAny_runValue ?_))
          have ll : l < s.heap.objs.size := Heap.lt_size gl
          have nh3 : A.in1.in1.in1.handled = none := by simp [nh]
          have z1 : (s.heap.push { cls := .type "set", dict := none, data := .set #[] 0 (.fresh 0 0 (!w.params.followText "set-order")) }).objs.size = s.heap.objs.size + 1 := Heap.size_push ..
          have nI : l ≠ (s.heap.push { cls := .type "set", dict := none, data := .set #[] 0 (.fresh 0 0 (!w.params.followText "set-order")) }).objs.size := by
            rw [z1]; exact Nat.ne_of_lt (Nat.lt_succ_of_lt ll)
          have nF : s.heap.objs.size ∉ [(s.heap.push { cls := .type "set", dict := none, data := .set #[] 0 (.fresh 0 0 (!w.params.followText "set-order")) }).objs.size, l] := by
            rw [z1]
            intro q
            rcases List.mem_cons.mp q with q | q
            · exact absurd q (Nat.ne_of_lt (Nat.lt_succ_self _))
            · exact absurd (List.mem_singleton.mp q) (Nat.ne_of_gt ll)
          refine upd_loop ((Walks.list nh3 _ l nI its).toS) s.heap.objs.size nF kl sz hb (fun i v ev => ?_) (its.size - 0) 0 _ (by omega) (Nat.zero_le _) ⟨⟨_, Heap.get?_push_size _ rfl, rfl, rfl⟩, (il1.push _)⟩ ?first ?last
          · have e1 : its.toList[i]? = some v := by rw [Array.getElem?_toList]; exact ev
            have l1 : i < kl.length := by rw [← sz]; exact (Array.getElem?_eq_some_iff.mp ev).1
            exact ⟨_, List.getElem?_eq_getElem l1, paired_at (R := fun (k : Key) v => keyIs k v = true) hi (List.getElem?_eq_getElem l1) e1⟩
          case first =>
            have g2 : ((s.heap.push { cls := .type "set", dict := none, data := .set #[] 0 (.fresh 0 0 (!w.params.followText "set-order")) }).push { cls := .type "list_iterator", data := .fields #[.ref l, .int 0 0] }).get? s.heap.objs.size
                = some { cls := .type "set", dict := none, data := .set #[] 0 (.fresh 0 0 (!w.params.followText "set-order")) } := Heap.get?_push_of_some _ gS
            exact setK_new g2
          case last =>
            intro s3 mv hS3
            obtain ⟨h1, g3, d3, tk3, os3⟩ := s3
            obtain rfl : g3 = s.gens := mv.gens
            obtain rfl : d3 = s.drawn := mv.drawn
            obtain rfl : os3 = s.os := mv.os
            show wpAny _ _ _ _ _ _
            refine wpAny_pure (show wpAny _ _ (ret Value.none) _ _ _ from wpAny_pure ⟨rfl, h1, tk3, rfl, hS3, fun b o e => ?_⟩)
            have b0 : b < s.heap.objs.size := Heap.lt_size e
            refine mv.heap b o (fun q => ?_) (Heap.get?_push_of_some _ (Heap.get?_push_of_some _ e))
            rcases List.mem_cons.mp q with q | q
            · exact absurd q (Nat.ne_of_lt b0)
            · have q := List.mem_singleton.mp q
              rw [z1] at q
              exact absurd q (Nat.ne_of_lt (Nat.lt_succ_of_lt b0))
        · cases r2 with
          | error e => exact hr2
          | ok f2 =>
            cases f2 with
            | ret r =>
              obtain ⟨rfl, h1, tk, rfl, q1, q2⟩ := hr2
              repeat (any_goals (first | assumption | wp_step))
              exact hQ _ _ q1 q2
            | _ => exact hr2.elim
      | _ => exact hr0.elim)⟩

set_option maxHeartbeats 3200000 in
theorem call_setK_tuple {l : Addr} {its : Array Value} (kl : List Key) {Q : Value → Shared → Prop} (nh : A.handled = none) (il : s.heap.IsTuple l its) (hi : Paired (fun (k : Key) v => keyIs k v = true) kl its.toList) (hb : kl.length + 1 < scanBound)
    (hQ : ∀ (h1 : Heap) (tk : Nat), SetK w h1 s.heap.objs.size (ddK kl) → (∀ b o, s.heap.get? b = some o → h1.get? b = some o) → Q (.ref s.heap.objs.size) { s with heap := h1, toks := tk }) : wpAny (model P w) A (call (.type "set") [.ref l]) Q E s := by
  have sz : its.size = kl.length := by rw [hi.length, Array.length_toList]
  obtain ⟨c0, tl0, mr0⟩ := F.called_set.mro
  have md0 := F.called_set.made
  have sb0 := F.called_set.sub
  refine wpAny_call (codeAny_of_tree (show wpAny _ _ (callAny (.type "set") _) _ _ _ from ?_))
  refine wpAny_pure ⟨Code.quiet_builtin _ (by decide +kernel), codeAny_builtin F.entry_type_call (by
    rw [Around.under_plain (weight_type_call_type "set" [.ref l] []) rfl]
    have nt0 := F.called_set.notType
    have cc0 := F.called_set.canCreate
    have tc0 := F.typeCall_set_1 (.ref l)
    repeat (any_goals (first | assumption | wp_step))
    refine codeAny_mono (code_set_led1 (.ref l) (E := E) (Q₁ := fun ob s1 => ob = .ref s.heap.objs.size ∧ s1 = { s with heap := s.heap.push { cls := .type "set", dict := none, data := .set #[] 0 (.fresh 0 0 (!w.params.followText "set-order")) } }) ⟨rfl, rfl⟩) fun r0 s1 hr0 => ?_
    cases r0 with
    | error e => exact hr0
    | ok f0 =>
      cases f0 with
      | ret ob =>
        obtain ⟨rfl, rfl⟩ := hr0
        have gS : (s.heap.push { cls := .type "set", dict := none, data := .set #[] 0 (.fresh 0 0 (!w.params.followText "set-order")) }).get? s.heap.objs.size = some { cls := .type "set", dict := none, data := .set #[] 0 (.fresh 0 0 (!w.params.followText "set-order")) } := Heap.get?_push_size _ rfl
        have tS : Shared.TypeIs { s with heap := s.heap.push { cls := .type "set", dict := none, data := .set #[] 0 (.fresh 0 0 (!w.params.followText "set-order")) } } (.ref s.heap.objs.size) "set" := ⟨_, gS, rfl⟩
        have li0 := F.called_set.init.lookup
        have bi0 := F.called_set.init.bind (.ref s.heap.objs.size)
        repeat (any_goals (first | assumption | wp_step))
        refine codeAny_mono (codeAny_call_builtin (R := wants (fun r s2 => r = .none ∧ ∃ h1 tk, s2 = { s with heap := h1, toks := tk } ∧ SetK w h1 s.heap.objs.size (ddK kl) ∧ (∀ b o, s.heap.get? b = some o → h1.get? b = some o)) E) F.called_set.init.plain F.entry_set_init (check_set_init_1 tS ?_)) fun r2 s2 hr2 => ?_
        · obtain ⟨ol, gl, cl, nl, dl⟩ := il
          obtain ⟨oc, od, oda, osl⟩ := ol
          simp only at cl dl
          subst cl; subst dl
          have gl1 : (s.heap.push { cls := .type "set", dict := none, data := .set #[] 0 (.fresh 0 0 (!w.params.followText "set-order")) }).get? l = some { cls := .type "tuple", dict := od, data := .seq its nl, slots := osl } := Heap.get?_push_of_some _ gl
          have u1 := F.sub_tuple_set
          have u2 := F.sub_tuple_frozenset
          have u3 : (Value.type "tuple" == Value.type "dict") = false := by decide
          have il1 : (s.heap.push { cls := .type "set", dict := none, data := .set #[] 0 (.fresh 0 0 (!w.params.followText "set-order")) }).IsTuple l its := ⟨_, gl1, rfl, nl, rfl⟩
          unfold Builtin.«set.__init__» noKeywords
          unfold Builtin.Frozenset.updateFrom
          generalize gP : pyIter = PI
          wp_walk
          subst gP
          refine wpAny_pyIter_tuple il1 (wpAny_bind (wpAny_runValue ?_))
          have ll : l < s.heap.objs.size := Heap.lt_size gl
          have nh3 : A.in1.in1.in1.handled = none := by simp [nh]
          have z1 : (s.heap.push { cls := .type "set", dict := none, data := .set #[] 0 (.fresh 0 0 (!w.params.followText "set-order")) }).objs.size = s.heap.objs.size + 1 := Heap.size_push ..
          have nI : l ≠ (s.heap.push { cls := .type "set", dict := none, data := .set #[] 0 (.fresh 0 0 (!w.params.followText "set-order")) }).objs.size := by
            rw [z1]; exact Nat.ne_of_lt (Nat.lt_succ_of_lt ll)
          have nF : s.heap.objs.size ∉ [(s.heap.push { cls := .type "set", dict := none, data := .set #[] 0 (.fresh 0 0 (!w.params.followText "set-order")) }).objs.size, l] := by
            rw [z1]
            intro q
            rcases List.mem_cons.mp q with q | q
            · exact absurd q (Nat.ne_of_lt (Nat.lt_succ_self _))
            · exact absurd (List.mem_singleton.mp q) (Nat.ne_of_gt ll)
          refine upd_loop ((Walks.tuple nh3 _ l nI its).toS) s.heap.objs.size nF kl sz hb (fun i v ev => ?_) (its.size - 0) 0 _ (by omega) (Nat.zero_le _) ⟨⟨_, Heap.get?_push_size _ rfl, rfl, rfl⟩, (il1.push _)⟩ ?first ?last
          · have e1 : its.toList[i]? = some v := by rw [Array.getElem?_toList]; exact ev
            have l1 : i < kl.length := by rw [← sz]; exact (Array.getElem?_eq_some_iff.mp ev).1
            exact ⟨_, List.getElem?_eq_getElem l1, paired_at (R := fun (k : Key) v => keyIs k v = true) hi (List.getElem?_eq_getElem l1) e1⟩
          case first =>
            have g2 : ((s.heap.push { cls := .type "set", dict := none, data := .set #[] 0 (.fresh 0 0 (!w.params.followText "set-order")) }).push { cls := .type "tuple_iterator", data := .fields #[.ref l, .int 0 0] }).get? s.heap.objs.size
                = some { cls := .type "set", dict := none, data := .set #[] 0 (.fresh 0 0 (!w.params.followText "set-order")) } := Heap.get?_push_of_some _ gS
            exact setK_new g2
          case last =>
            intro s3 mv hS3
            obtain ⟨h1, g3, d3, tk3, os3⟩ := s3
            obtain rfl : g3 = s.gens := mv.gens
            obtain rfl : d3 = s.drawn := mv.drawn
            obtain rfl : os3 = s.os := mv.os
            show wpAny _ _ _ _ _ _
            refine wpAny_pure (show wpAny _ _ (ret Value.none) _ _ _ from wpAny_pure ⟨rfl, h1, tk3, rfl, hS3, fun b o e => ?_⟩)
            have b0 : b < s.heap.objs.size := Heap.lt_size e
            refine mv.heap b o (fun q => ?_) (Heap.get?_push_of_some _ (Heap.get?_push_of_some _ e))
            rcases List.mem_cons.mp q with q | q
            · exact absurd q (Nat.ne_of_lt b0)
            · have q := List.mem_singleton.mp q
              rw [z1] at q
              exact absurd q (Nat.ne_of_lt (Nat.lt_succ_of_lt b0))
        · cases r2 with
          | error e => exact hr2
          | ok f2 =>
            cases f2 with
            | ret r =>
              obtain ⟨rfl, h1, tk, rfl, q1, q2⟩ := hr2
              repeat (any_goals (first | assumption | wp_step))
              exact hQ _ _ q1 q2
            | _ => exact hr2.elim
      | _ => exact hr0.elim)⟩
end
end L2.Pd

namespace L2.Pd
open PySem PySem.Spec PyProof.Rows
/-! ## sorted(set(xs)), len(set(xs)) -/
section
variable {P : Program} {w : World} {A : Around} {E : Value → Shared → Prop} {s : Shared} {a : Addr} {ks : List Key}
theorem sorted_setK {Q : Value → Shared → Prop} (R : SetK w s.heap a ks) (nh : A.handled = none) (sb : sortB (ks.map kD) = true) (hu : A.units + 100 < cLine)
    (hQ : ∀ (s1 : Shared) (p : Addr) (out : List Value) (c : Nat), (∀ b o, s.heap.get? b = some o → s1.heap.get? b = some o) → s1.gens = s.gens → s1.os = s.os → s.heap.objs.size ≤ p →
      s1.heap.get? p = some (seqObj "list" out.toArray c) → PySem.W.EachIs (fun v d => ∃ k, keyIs k v = true ∧ d = kD k) out (sortD (ks.map kD)) → Q (.ref p) s1) :
    wpAny (model P w) A (call (.builtin "sorted") [.ref a]) Q E s := by
  obtain ⟨o, es, ep, t, T, pe⟩ := R
  refine Calls.call_function_entry kind_sorted plain_sorted entry_sorted (args_sorted1 _) (by
    unfold Builtin.«sorted»
    refine wpAny_bind (m := checkCount "sorted" 1 1 _) (wpAny_pure ?_)
    refine wpAny_bind (collect_set (A := A.in1) nh ⟨o, T.at', T.ex.1, T.dat⟩ T.fit T.few T.ris T.led fun s1 vs k1 z1 g1 o1 pm => ?_)
    have ln : vs.length < scanBound := by rw [pm.length_eq, List.length_map, Array.length_toList]; exact T.few
    have kv : ∀ v ∈ vs, ∃ k, keyIs k v = true ∧ valD v = kD k := fun v hv => by
      obtain ⟨e, he, q⟩ := List.mem_map.mp (pm.mem_iff.mp hv)
      have r := (T.row e he).1
      rw [q] at r
      exact ⟨_, r, valD_is r⟩
    have ps : (vs.map valD).Perm (ks.map kD) := by
      refine (pm.map valD).trans ?_
      rw [List.map_map]
      have e : es.toList.map (valD ∘ fun e => e.2) = (keysOf es.toList).map kD := by
        rw [List.map_map]
        exact List.map_congr_left fun e he => valD_is (T.row e he).1
      rw [e]
      exact pe.map kD
    obtain ⟨al, so, ok⟩ := sortB_all sb
    have al2 : PySem.W.AllAlike (vs.map valD) := fun d hd e he => al d (ps.mem_iff.mp hd) e (ps.mem_iff.mp he)
    have so2 : PySem.W.Sortable (vs.map valD) := by
      rcases so with so | so
      · exact .inl fun d hd => so d (ps.mem_iff.mp hd)
      · exact .inr fun d hd => so d (ps.mem_iff.mp hd)
    refine wpAny_bind (wpAny_newList ?_ (fits_of_scanBound ln))
    have gL : (s1.heap.push (seqObj "list" vs.toArray 0)).get? s1.heap.objs.size = some (seqObj "list" vs.toArray 0) := Heap.get?_push_size _ rfl
    refine wpAny_bind (wpAny_holding (PySem.W.list_sort_data (s := { s1 with heap := s1.heap.push (seqObj "list" vs.toArray 0) }) (enc := id) (R := fun v d => ∃ k, keyIs k v = true ∧ d = kD k) gL (each_self fun v hv => kv v hv) (each_self fun v hv => ?_)
      (by rw [List.map_id]; exact al2) (by rw [List.map_id]; exact so2) (by rw [List.length_map]; exact fits_of_scanBound ln) (fun b hb => ?_) fun out lo eo => ?_))
    · obtain ⟨k, hk, hv2⟩ := kv v hv
      rcases keyIs_shape hk with ⟨i, tk, rfl, rfl⟩ | ⟨x, tk, rfl, rfl⟩
      · exact ⟨[], .int i tk, List.not_mem_nil⟩
      · exact ⟨[], .str x tk, List.not_mem_nil⟩
    · have := SeqAt.depth_of_shaped (ok _ (ps.mem_iff.mp hb))
      show A.units + 1 + 1 + b.depth < cLine
      omega
    · obtain ⟨c, hc⟩ := sortedHeap_at (vs := vs) (out := out.toArray) gL
      refine wpAny_pure ⟨_, rfl, hQ _ s1.heap.objs.size out c (fun b u e => ?_) g1 o1 z1 hc (by
        have e2 : sortD (vs.map valD) = sortD (ks.map kD) := by
          obtain ⟨l, hl⟩ : ∃ l : List Key, vs.map valD = l.map kD := ⟨vs.map keyV, by
            rw [List.map_map]
            refine List.map_congr_left fun v hv => ?_
            obtain ⟨k, hk, hv2⟩ := kv v hv
            rw [hv2, Function.comp_apply, keyV_is hk]⟩
          have pl : l.Perm ks := by
            have q := ps
            rw [hl] at q
            have q2 := q.filterMap keyD
            rw [List.filterMap_map, List.filterMap_map] at q2
            have e3 : (keyD ∘ kD) = fun k => some k := funext fun k => by cases k <;> rfl
            rw [e3, List.filterMap_some, List.filterMap_some] at q2
            exact q2
          rw [hl]
          exact sortD_perm pl
        rw [← e2]
        exact eo)⟩
      have q := k1 b u e
      have lt := Heap.lt_size q
      show (sortedHeap (s1.heap.push (seqObj "list" vs.toArray 0)) s1.heap.objs.size vs out.toArray).get? b = some u
      rw [sortedHeap_old (Nat.ne_of_lt lt) (by rw [size_push']; exact Nat.lt_succ_of_lt lt)]
      exact Heap.get?_push_of_some _ q)
end
def SetKO (w : World) (p : Addr) (ks : List Key) : HO := .ext fun h => SetK w h p ks
theorem setKO_new {P : Program} {w : World} {H : Hp} {h : Heap} {a : Addr} {ks : List Key} (R : SetK w h a ks) : ObjOk P w H h a (SetKO w a ks) := by
  have ⟨o, _, _, _, T, _⟩ := R
  exact ⟨R, ⟨o, T.at'⟩, fun h1 h2 p k => SetK.keep p k⟩
section
variable {X : Cx}
def rSetK (K : PySem.W.Frag) (w : World) : List V → Hp → VK → Prop := fun xs H Q => ∃ F a vs ks, Same F H ∧ xs = [.ref a] ∧ (SqL K H a vs ∨ SqT K H a vs) ∧ DpAll K F vs (ks.map kD) ∧ ks.length + 1 < scanBound ∧ ∀ p, H p = none → Q (.ref p) (upd H p (SetKO w p (ddK ks)))
theorem cr_setK (hc : X.calm = true) : CallR X (.type "set") (rSetK X.K X.w) := by
  intro pins s σ H xs us Q I r h
  obtain ⟨F, a, vs, ks, sm, rfl, hq, hd, hl, q⟩ := h
  obtain ⟨u, rfl, rx⟩ := vals1 r
  cases rx
  have fin : ∀ (h1 : Heap) (tk : Nat), SetK X.w h1 s.heap.objs.size (ddK ks) → (∀ b o, s.heap.get? b = some o → h1.get? b = some o) → EP X pins σ Q (.ref s.heap.objs.size) { s with heap := h1, toks := tk } := fun h1 tk R k =>
    ⟨.ref s.heap.objs.size, _, I.laid (t' := tk) k (Nat.le_refl _) (setKO_new R), rfl, q _ (I.hok.fresh (Nat.le_refl _))⟩
  rcases hq with hq | hq
  · obtain ⟨its, rv, pl, hz⟩ := I.list hq
    exact call_setK_list ks (I.ok.hd hc) pl.isList (by simpa using vals_keys rv hd) hl fin
  · obtain ⟨its, rv, pl, hz⟩ := I.tuple hq
    exact call_setK_tuple ks (I.ok.hd hc) pl (by simpa using vals_keys rv hd) hl fin
def rSortedK (w : World) : List V → Hp → VK → Prop := fun xs H Q => ∃ a ks, xs = [.ref a] ∧ H a = some (SetKO w a ks) ∧ sortB (ks.map kD) = true ∧ ∀ p ws, H p = none → (∀ K F, DpAll K F ws (sortD (ks.map kD))) → Q (.ref p) (upd H p (.lst ws))
theorem cr_sortedK (hc : X.calm = true) (hu : X.A.units + 100 < cLine) : CallR X (.builtin "sorted") (rSortedK X.w) := by
  intro pins s σ H vs us Q I r h
  obtain ⟨a, ks, rfl, ha, hs, q⟩ := h
  have R0 : SetK X.w s.heap a ks := (I.hok a _ ha).1
  rw [Vals.ref1 r]
  refine sorted_setK R0 (I.ok.hd hc) hs hu fun s1 p out c k g o hp hg eo => ?_
  obtain ⟨ws, hv, hd⟩ := out_vals (l := []) eo
  have ln : ws.length ≤ sizeLine := by
    rw [(hd X.K H).length, sortD_len, List.length_map]
    obtain ⟨o', es, ep, t, T, pe⟩ := R0
    have := pe.length_eq
    rw [List.length_map, Array.length_toList] at this
    rw [← this]
    exact fits_of_scanBound T.few
  have hn : H p = none := I.hok.fresh hp
  have J : Inv X pins σ (upd H p (.lst ws)) { s with heap := s1.heap, gens := s1.gens, drawn := s1.drawn, toks := s1.toks } :=
    I.call (ch := []) (Un.laid k hp hn) (I.hok.laid k hp ⟨ln, out, c, hv, hg⟩) (by rw [g]; exact I.bare) (fun _ z => nomatch z)
  have e : s1 = { s with heap := s1.heap, gens := s1.gens, drawn := s1.drawn, toks := s1.toks } := by
    cases s1
    cases s
    cases o
    rfl
  rw [e]
  exact ⟨.ref p, _, J, rfl, q p ws hn hd⟩
def rLenK (w : World) : List V → Hp → VK → Prop := fun xs H Q => ∃ a ks, xs = [.ref a] ∧ H a = some (SetKO w a ks) ∧ Q (.int ks.length) H
theorem cr_lenK : CallR X (.builtin "len") (rLenK X.w) := by
  intro pins s σ H vs us Q I r h
  obtain ⟨a, ks, rfl, ha, q⟩ := h
  have R0 : SetK X.w s.heap a ks := (I.hok a _ ha).1
  rw [Vals.ref1 r]
  obtain ⟨o', es, ep, t, T, pe⟩ := R0
  have e : es.size = ks.length := by
    have := pe.length_eq
    rwa [List.length_map, Array.length_toList] at this
  have b : es.size < 4096 := T.few
  refine call_len_set T.at' T.ex T.dat T.fit (by omega) ⟨.int ks.length, H, I.tok _, ⟨_, by rw [e]⟩, q⟩
/-! ### the layer's rules -/
def setKs (d : D) : Option (List Key) := match d with
  | .list ds => (keysD ds).bind fun ks => if ks.length + 1 < scanBound then some (ddK ks) else none
  | .tuple ds => (keysD ds).bind fun ks => if ks.length + 1 < scanBound then some (ddK ks) else none
  | _ => none
def cSrtSet (d : D) : Option Cell := (setKs d).bind fun ks => if sortB (ks.map kD) = true then some (.ol (sortD (ks.map kD))) else none
def dLenSet (d : D) : Option D := (setKs d).map fun ks => .int ks.length
def eSrtSet (f : FE) : FN := fun ρ => (f ρ).bind fun p => (cSrtSet p.1).map fun c => (c, p.2)
def eLenSet (f : FE) : FE := fun ρ => (f ρ).bind fun p => (dLenSet p.1).map fun c => (c, p.2)
theorem setKs_is {K : PySem.W.Frag} {F H : Hp} {w : World} {v : V} {d : D} {ks : List Key} {Q : VK} (sm : Same F H) (h : Dp K F v d) (e : setKs d = some ks) (q : ∀ p, H p = none → Q (.ref p) (upd H p (SetKO w p ks))) : rSetK K w [v] H Q := by
  cases h with
  | @lst a vs ds q1 r1 =>
    obtain ⟨kl, e1, e⟩ := Option.bind_eq_some_iff.mp (show ((keysD ds).bind fun ks => if ks.length + 1 < scanBound then some (ddK ks) else none) = some ks from e)
    split at e
    · next lt => cases e; exact ⟨F, a, vs, kl, sm, rfl, .inl (sm.seq q1), by rw [← keysD_all e1]; exact r1, lt, q⟩
    · cases e
  | @tup a vs ds q1 r1 =>
    obtain ⟨kl, e1, e⟩ := Option.bind_eq_some_iff.mp (show ((keysD ds).bind fun ks => if ks.length + 1 < scanBound then some (ddK ks) else none) = some ks from e)
    split at e
    · next lt => cases e; exact ⟨F, a, vs, kl, sm, rfl, .inr (sqT_mono sm q1), by rw [← keysD_all e1]; exact r1, lt, q⟩
    · cases e
  | _ => cases e
variable {a : Expr} {ta : TE} {fa : FE} {p p2 q pos : Pos}
abbrev tSet1 (K : PySem.W.Frag) (w : World) (r : List V → Hp → VK → Prop) (ta : TE) : TE := tCB r (tCons (tCB (rSetK K w) (tCons ta tNil)) tNil)
theorem se_srtSet {K : PySem.W.Frag} {w : World} (h : SE K ta fa) : SN K (tSet1 K w (rSortedK w) ta) (eSrtSet fa) := by
  intro B F io σ H ρ c ρ' Q cn e k
  obtain ⟨x, e1, e⟩ := Option.bind_eq_some_iff.mp e
  obtain ⟨c', e2, e⟩ := Option.map_eq_some_iff.mp e
  cases e
  obtain ⟨ks, e3, e2⟩ := Option.bind_eq_some_iff.mp e2
  split at e2
  · next sb =>
    cases e2
    refine h B F io σ H ρ x.1 x.2 _ cn e1 fun F1 H1 v g1 c1 d1 => ?_
    show rSetK K w [v] H1 fun x H2 => rSortedK w [x] H2 Q
    refine setKs_is c1.frz d1 e3 fun p np => ?_
    refine ⟨p, ks, rfl, upd_same, sb, fun p2 ws np2 hd => ?_⟩
    have al1 : Al F1 H1 F1 (upd H1 p (SetKO w p ks)) := Al.laidH c1.frz np
    have c2 := c1.al al1
    have al2 := Al.laidH (o := .lst ws) c2.frz np2
    exact k F1 _ p2 _ g1 (c2.al al2) upd_same (hd K F1) (c2.frz.free np2) (c2.base.free np2) (c2.fresh_notOwned np2)
  · cases e2
theorem se_lenSet {K : PySem.W.Frag} {w : World} (h : SE K ta fa) : SE K (tSet1 K w (rLenK w) ta) (eLenSet fa) := by
  intro B F io σ H ρ d ρ' Q cn e k
  obtain ⟨x, e1, e⟩ := Option.bind_eq_some_iff.mp e
  obtain ⟨d', e2, e⟩ := Option.map_eq_some_iff.mp e
  cases e
  obtain ⟨ks, e3, e2⟩ := Option.map_eq_some_iff.mp e2
  cases e2
  refine h B F io σ H ρ x.1 x.2 _ cn e1 fun F1 H1 v g1 c1 d1 => ?_
  show rSetK K w [v] H1 fun x H2 => rLenK w [x] H2 Q
  refine setKs_is c1.frz d1 e3 fun p np => ?_
  have al1 : Al F1 H1 F1 (upd H1 p (SetKO w p ks)) := Al.laidH c1.frz np
  exact ⟨p, ks, rfl, upd_same, k F1 _ _ g1 (c1.al al1) (.int _)⟩
theorem dn_srtSet (hc : X.calm = true) (hu : X.A.units + 100 < cLine) (ha : DE X a ta fa) (m1 : X.mg "sorted" = none) (m2 : X.mg "set" = none) (g1 : Gl X "sorted" := by rfl) (g2 : Gl X "set" := by rfl)
    (s1 : starEach [a] X.env = (false, eval a X.env) :: starEach [] X.env := by rfl) (s2 : starEach [Expr.Call (.Name "set" p2) [a] [] q] X.env = (false, eval (Expr.Call (.Name "set" p2) [a] [] q) X.env) :: starEach [] X.env := by rfl) :
    DN X (.Call (.Name "sorted" p) [.Call (.Name "set" p2) [a] [] q] [] pos) (tSet1 X.K X.w (rSortedK X.w) ta) (eSrtSet fa) :=
  ⟨pe_callB (id := "sorted") (cr_sortedK hc hu) g1 m1 (by decide +kernel) (pa_cons (pe_callTy (T := "set") (cr_setK hc) g2 m2 (by decide +kernel) (pa_cons ha.pe pa_nil s1) (by decide) (by decide) s1 (by rfl)) pa_nil s2) (by decide) (by decide) s2 (by rfl), se_srtSet ha.se⟩
theorem de_lenSet (hc : X.calm = true) (ha : DE X a ta fa) (m1 : X.mg "len" = none) (m2 : X.mg "set" = none) (g1 : Gl X "len" := by rfl) (g2 : Gl X "set" := by rfl)
    (s1 : starEach [a] X.env = (false, eval a X.env) :: starEach [] X.env := by rfl) (s2 : starEach [Expr.Call (.Name "set" p2) [a] [] q] X.env = (false, eval (Expr.Call (.Name "set" p2) [a] [] q) X.env) :: starEach [] X.env := by rfl) :
    DE X (.Call (.Name "len" p) [.Call (.Name "set" p2) [a] [] q] [] pos) (tSet1 X.K X.w (rLenK X.w) ta) (eLenSet fa) :=
  ⟨pe_callB (id := "len") cr_lenK g1 m1 (by decide +kernel) (pa_cons (pe_callTy (T := "set") (cr_setK hc) g2 m2 (by decide +kernel) (pa_cons ha.pe pa_nil s1) (by decide) (by decide) s1 (by rfl)) pa_nil s2) (by decide) (by decide) s2 (by rfl), se_lenSet ha.se⟩
end
end L2.Pd

namespace L2.Pd
open PySem PySem.Spec PyProof.Rows L2
/-! ## Defs that may raise: one class, nothing handed back -/
/-- true: it raises; false: it hands back None -/
abbrev FnX := List D → Option Bool
abbrev FX := En → Option Bool
def spX (K : PySem.W.Frag) (C : Addr) (m : FnX) : Sp := fun vs H Q E => ∃ (F : Hp) (ds : List D) (b : Bool), Same F H ∧ DpAll K F vs ds ∧ m ds = some b ∧
  (b = false → ∀ F' H', Al F H F' H' → Q .non H') ∧ (b = true → ∀ F' H', Al F H F' H' → E (.ref C) none H')
def SX (K : PySem.W.Frag) (C : Addr) (E : XK) (t : TS) (f : FX) : Prop := ∀ (B F : Hp) (σ : St) (H : Hp) (ρ : En) (b : Bool) (Dn : Ends), Con K B F [] σ H ρ → f ρ = some b →
  (b = false → ∀ F' σ' H' ρ', Gr B F F' → Con K B F' [] σ' H' ρ' → Dn.nx σ' H') → (b = true → ∀ F' σ' H' ρ', Gr B F F' → Con K B F' [] σ' H' ρ' → E (.ref C) none H') → t Dn σ H
structure DX (X : Cx) (C : Addr) (E : XK) (st : List Stmt) (f : FX) : Prop where
  ex : ∃ t, PSs X st t ∧ SX X.K C E t f
def xEnd : FX := fun _ => some false
def xSeq (f : FS) (g : FX) : FX := fun ρ => (f ρ).bind fun o => match o with
  | .nx ρ' => g ρ'
  | _ => none
def xRz (c : FT) (g : FX) : FX := fun ρ => (c ρ).bind fun p => if p.1 = true then some true else g p.2
section
variable {X : Cx} {C : Addr} {E : XK} {st : Stmt} {rest : List Stmt} {f : FS} {g : FX} {t : TS} {tc : TT} {fc : FT} {test : Expr} {pos : Pos} {rz : Stmt}
theorem dx_end : DX X C E [] xEnd := ⟨tNext, pss_nil, fun B F σ H ρ b Dn c h k0 _ => by
  cases h
  exact k0 rfl F σ H ρ (Gr.refl _ _) c⟩
theorem ps_nox {t : TS} (h : PS X.nox st t) : PS X st t := ⟨fun pins s σ H D I q => wpAny_mono (h.run pins s σ H D (I.wish _) q) (fun _ _ z => z.unwish) fun _ _ z => z.elim⟩
theorem dx_seq (h1 : DS X.nox [] st t f) (h2 : DX X C E rest g) : DX X C E (st :: rest) (xSeq f g) := by
  obtain ⟨u, p2, s2⟩ := h2.ex
  have hp : PS X st t := ps_nox h1.pe
  refine ⟨⟨tSeq t u, pss_cons hp p2, ?_⟩⟩
  intro B F σ H ρ b Dn c h k0 k1
  obtain ⟨o, e1, e⟩ := Option.bind_eq_some_iff.mp h
  refine h1.se B F [] σ H ρ o { Dn with nx := u Dn } rfl c e1 ?_
  cases o with
  | nx ρ1 => exact fun F' σ' H' g' c' => s2 B F' σ' H' ρ1 b Dn c' e (fun z F2 σ2 H2 ρ2 g2 c2 => k0 z F2 σ2 H2 ρ2 (g'.trans g2) c2) (fun z F2 σ2 H2 ρ2 g2 c2 => k1 z F2 σ2 H2 ρ2 (g'.trans g2) c2)
  | bk ρ1 => cases e
  | ct ρ1 => cases e
  | rt c1 ρ1 => cases e
theorem dx_rz (hc : DT X.nox test tc fc) (hr : PS X rz (fun _ _ H => E (.ref C) none H)) (h2 : DX X C E rest g) : DX X C E (.If test [rz] [] pos :: rest) (xRz fc g) := by
  obtain ⟨u, p2, s2⟩ := h2.ex
  refine ⟨⟨tSeq (tIfS tc (fun _ _ H => E (.ref C) none H) tNext) u, pss_cons (ps_if hc.pe.nox (pss_one hr) pss_nil) p2, ?_⟩⟩
  intro B F σ H ρ b Dn c h k0 k1
  obtain ⟨q, e1, e⟩ := Option.bind_eq_some_iff.mp h
  refine hc.se B F [] σ H ρ q.1 q.2 _ c e1 fun F' H' g' c' => ?_
  by_cases hq : q.1 = true
  · rw [if_pos hq] at e ⊢
    cases e
    exact k1 rfl F' σ H' q.2 g' c'
  · rw [if_neg hq] at e ⊢
    exact s2 B F' σ H' q.2 b Dn c' e (fun z F2 σ2 H2 ρ2 g2 c2 => k0 z F2 σ2 H2 ρ2 (g'.trans g2) c2) (fun z F2 σ2 H2 ρ2 g2 c2 => k1 z F2 σ2 H2 ρ2 (g'.trans g2) c2)
end
/-- what a class must say, so that it can be raised and asked for -/
structure ExF (K : PySem.W.Frag) (mg : Str → Option Value) (x : Str) (C : Addr) : Prop where
  g : mg x = some (.ref C)
  x : PySem.W.excIn K C [.type "ValueError", .type "Exception", .type "BaseException", .type "object"] "ValueError.__new__" = true
  k : PySem.W.keepIn K (.ref C) = true
  b : PySem.W.subIn K (.ref C) (.type "BaseException") = some true
  t : PySem.W.typeIn K (.ref C) = some (.type "type")
def fnX (n : Nat) (body : FX) : FnX := fun ds => body (ds.map Cell.sh ++ List.replicate (n - ds.length) Cell.dead)
section
variable {P : Program} {w : World} {K : PySem.W.Frag} {mg : Str → Option Value} {base : Heap}
theorem con_start {N : List Str} {F H : Hp} {vs : List V} {ds : List D} (hl : ds.length ≤ N.length) (sm : Same F H) (h : DpAll K F vs ds) : Con K H F [] (L2.start N vs) H (ds.map Cell.sh ++ List.replicate (N.length - ds.length) Cell.dead) := by
  have hv : vs.length = ds.length := h.length
  refine ⟨?_, Same.refl H, sm, fun i c hc => ?_, fun i j c e a h1 _ o1 => ?_, fun p hp => absurd hp List.not_mem_nil⟩
  · unfold L2.start
    rw [List.length_append, List.length_append, List.length_map, List.length_map, List.length_replicate, List.length_replicate, hv]
  · by_cases hi : i < ds.length
    · rw [List.getElem?_append_left (by rw [List.length_map]; exact hi)] at hc
      obtain ⟨v, d, e1, e2, q⟩ := shs_get h hc
      refine ⟨some v, ?_, ?_⟩
      · unfold L2.start
        rw [List.getElem?_append_left (by rw [List.length_map]; omega), List.getElem?_map, e1]
        rfl
      · rw [e2]
        exact ⟨v, rfl, q⟩
    · rw [List.getElem?_append_right (by rw [List.length_map]; omega)] at hc
      have e := List.eq_of_mem_replicate (List.mem_of_getElem? hc)
      have hlt := (List.getElem?_eq_some_iff.mp hc).1
      rw [List.length_map, List.length_replicate] at hlt
      have hs : i < (L2.start N vs).length := by
        unfold L2.start
        rw [List.length_append, List.length_map, List.length_replicate]
        omega
      exact ⟨_, List.getElem?_eq_getElem hs, by rw [e]; trivial⟩
  · exfalso
    by_cases hi : i < ds.length
    · rw [List.getElem?_append_left (by rw [List.length_map]; exact hi)] at h1
      obtain ⟨_, _, _, e2, _⟩ := shs_get h h1
      rw [e2] at o1
      cases o1
    · rw [List.getElem?_append_right (by rw [List.length_map]; omega)] at h1
      rw [List.eq_of_mem_replicate (List.mem_of_getElem? h1)] at o1
      cases o1
/-- the def x raises C or hands back None, as m tells -/
structure CalX (P : Program) (w : World) (K : PySem.W.Frag) (mg : Str → Option Value) (base : Heap) (k : Nat) (x : Str) (ps : List Str) (C : Addr) (m : FnX) : Prop where
  ex : ∃ (f : Addr) (fd : FuncData), FnOk P w K mg base (L2N.CX P w) k f fd ps (fun vs H Q E => vs.length = ps.length ∧ spX K C m vs H Q E) ∧ mg x = some (.ref f) ∧ PySem.W.keepIn K (.ref f) = true ∧ Binds K fd ps []
theorem pdx_cal {x : Str} {st : Stmt} {N ps : List Str} {k : Nat} {C : Addr} {n : Nat} {body : FX} (S : Src K mg x st ps) (Sc : FnScope N ps (defScope st)) (hn : N.length = n := by rfl)
    (hbody : ∀ (f : Addr) (cdv : Value) (A : Around) (outer : List Env) (s : Shared) (H : Hp) (E : XK), Room k (A.deeper (envOfC x (defScope st) s.heap.objs.size f cdv)) →
      DX (cxOf (L2N.CX P w) P w K mg base N x (defScope st) f cdv A outer s H E) C E (defBody st) body) : CalX P w K mg base (k + 1) x ps C (fnX n body) := by
  subst hn
  obtain ⟨f, fd, Fn, hm, hb⟩ := S.ex
  refine ⟨f, fd, ?_, hm, Fn.kp, hb⟩
  obtain ⟨oc, od, kV, doc, pm, an, cdv, ct, osl, rfl, lk, hcd⟩ := Fn.ex
  refine fn_of lk hcd Sc (fun vs H Q E h => h.1) fun A outer s H vs Q E hr hsp => ?_
  obtain ⟨hvl, F, ds, b, sm, hd, hm, k0, k1⟩ := hsp
  obtain ⟨t, pe, se⟩ := (hbody f cdv A outer s H E hr).ex
  refine ⟨t, pe, ?_⟩
  have hdl : ds.length = ps.length := by rw [← hvl]; exact hd.length.symm
  have hN : ds.length ≤ N.length := by
    rw [hdl, ← Sc.pre, List.length_take]
    exact Nat.min_le_right _ _
  have al : ∀ {F' σ' H' ρ'}, Gr H F F' → Con K H F' [] σ' H' ρ' → Al F H F' H' := fun g c => ⟨g.sub, c.base, c.frz, g.new⟩
  exact se H F _ H _ b _ (con_start hN sm hd) hm (fun z F' σ' H' ρ' g c => k0 z F' H' (al g c)) (fun z F' σ' H' ρ' g c => k1 z F' H' (al g c))
end
section
variable {P : Program} {w : World} {K : PySem.W.Frag} {mg : Str → Option Value} {base : Heap} {N : List Str} {q x m : Str} {sc : Scope} {f C : Addr} {cdv : Value} {A : Around} {outer : List Env} {s : Shared} {H : Hp} {E : XK} {j : Nat} {p p2 pos pos' : Pos}
theorem psx_raise (hA : (cxOf (L2N.CX P w) P w K mg base N q sc f cdv A outer s H E).calm = true) (F : ExF K mg x C) (hg : Gl (cxOf (L2N.CX P w) P w K mg base N q sc f cdv A outer s H E) x := by rfl) (hdb : (x == ("__debug__" : Str)) = false := by decide) :
    PS (cxOf (L2N.CX P w) P w K mg base N q sc f cdv A outer s H E) (.Raise (some (.Call (.Name x p) [.Constant (.str m) j p2] [] pos)) none pos') (fun _ _ H => E (.ref C) none H) :=
  L2N.ps_raise hA (L2N.takes_of rfl rfl rfl rfl) (L2N.pmk_own PySem.F.excBase_ValueError F.x F.g F.k (raises_own F.b F.t) hg hdb)
end
end L2.Pd

namespace L2.Pd
open PySem PySem.Spec PyProof.Rows L2
/-! ## Suites that hold an exception: slot i is the exception a, nothing is told of its cell -/
def HasE (i : Nat) (a : Addr) (σ : St) : Prop := σ[i]? = some (some (.ref a))
def SEe (K : PySem.W.Frag) (i : Nat) (a : Addr) (t : TE) (f : FE) : Prop := ∀ (B F : Hp) (io : List (Nat × Addr)) (σ : St) (H : Hp) (ρ : En) (d : D) (ρ' : En) (Q : VK), HasE i a σ → Con K B F io σ H ρ → f ρ = some (d, ρ') →
  (∀ F' H' v, Gr B F F' → Con K B F' io σ H' ρ' → Dp K F' v d → Q v H') → t σ H Q
def STe (K : PySem.W.Frag) (i : Nat) (a : Addr) (t : TT) (f : FT) : Prop := ∀ (B F : Hp) (io : List (Nat × Addr)) (σ : St) (H : Hp) (ρ : En) (b : Bool) (ρ' : En) (Q : Bool → Hp → Prop), HasE i a σ → Con K B F io σ H ρ → f ρ = some (b, ρ') →
  (∀ F' H', Gr B F F' → Con K B F' io σ H' ρ' → Q b H') → t σ H Q
def SSe (K : PySem.W.Frag) (L : List Nat) (i : Nat) (a : Addr) (t : TS) (f : FS) : Prop := ∀ (B F : Hp) (io : List (Nat × Addr)) (σ : St) (H : Hp) (ρ : En) (o : Out) (Dn : Ends), HasE i a σ → io.map (·.1) = L → Con K B F io σ H ρ → f ρ = some o → Post K B F io Dn o → t Dn σ H
structure DEe (X : Cx) (i : Nat) (a : Addr) (e : Expr) (t : TE) (f : FE) : Prop where
  pe : PE X e t
  se : SEe X.K i a t f
structure DTe (X : Cx) (i : Nat) (a : Addr) (e : Expr) (t : TT) (f : FT) : Prop where
  pe : PT X e t
  se : STe X.K i a t f
structure DWe (X : Cx) (i : Nat) (a : Addr) (e : Expr) (t : TT) (f : FT) : Prop where
  pe : PW X e t
  se : STe X.K i a t f
structure DSe (X : Cx) (L : List Nat) (i : Nat) (a : Addr) (st : List Stmt) (t : TS) (f : FS) : Prop where
  pe : PSs X st t
  se : SSe X.K L i a t f
section
variable {X : Cx} {i : Nat} {a : Addr} {e x y : Expr} {ta tb te : TE} {fa fb fe : FE} {tA tB : TT} {fA fB : FT} {pos : Pos} {rest : List Expr} {L : List Nat} {sts : List Stmt} {u : TS} {g : FS}
theorem DE.ee (h : DE X e te fe) : DEe X i a e te fe := ⟨h.pe, fun B F io σ H ρ d ρ' Q _ c e k => h.se B F io σ H ρ d ρ' Q c e k⟩
theorem DT.ee (h : DT X e tA fA) : DTe X i a e tA fA := ⟨h.pe, fun B F io σ H ρ d ρ' Q _ c e k => h.se B F io σ H ρ d ρ' Q c e k⟩
theorem DWe.dt (h : DWe X i a e tA fA) : DTe X i a e tA fA := ⟨h.pe.pt, h.se⟩
theorem dee_one {op} (h : DEe X i a x ta fa) : DEe X i a (.BoolOp op [x] pos) ta fa := ⟨pe_one h.pe, h.se⟩
theorem dee_and (ha : DEe X i a x ta fa) (hb : DEe X i a (.BoolOp .And (y :: rest) pos) tb fb) : DEe X i a (.BoolOp .And (x :: y :: rest) pos) (tAndT X.K ta tb) (eAndV fa fb) := ⟨pe_andT ha.pe hb.pe, by
  intro B F io σ H ρ d ρ' Q hσ c e k
  obtain ⟨p, e1, e⟩ := Option.bind_eq_some_iff.mp e
  obtain ⟨z, e2, e⟩ := Option.bind_eq_some_iff.mp e
  refine ha.se B F io σ H ρ p.1 p.2 _ hσ c e1 fun F1 H1 x g1 c1 d1 => ⟨z, tru_dp c1.frz d1 e2, ?_⟩
  by_cases hp : z = true
  · rw [if_pos hp] at e ⊢
    exact hb.se B F1 io σ H1 p.2 d ρ' Q hσ c1 e fun F2 H2 v g2 c2 d2 => k F2 H2 v (g1.trans g2) c2 d2
  · rw [if_neg hp] at e ⊢
    cases e
    exact k F1 H1 x g1 c1 d1⟩
theorem dee_or (ha : DEe X i a x ta fa) (hb : DEe X i a (.BoolOp .Or (y :: rest) pos) tb fb) : DEe X i a (.BoolOp .Or (x :: y :: rest) pos) (tOrT X.K ta tb) (eOrV fa fb) := ⟨pe_orT ha.pe hb.pe, by
  intro B F io σ H ρ d ρ' Q hσ c e k
  obtain ⟨p, e1, e⟩ := Option.bind_eq_some_iff.mp e
  obtain ⟨z, e2, e⟩ := Option.bind_eq_some_iff.mp e
  refine ha.se B F io σ H ρ p.1 p.2 _ hσ c e1 fun F1 H1 x g1 c1 d1 => ⟨z, tru_dp c1.frz d1 e2, ?_⟩
  by_cases hp : z = true
  · rw [if_pos hp] at e ⊢
    cases e
    exact k F1 H1 x g1 c1 d1
  · rw [if_neg hp] at e ⊢
    exact hb.se B F1 io σ H1 p.2 d ρ' Q hσ c1 e fun F2 H2 v g2 c2 d2 => k F2 H2 v (g1.trans g2) c2 d2⟩
theorem dee_not (ha : DEe X i a x ta fa) : DEe X i a (.UnaryOp .Not x pos) (tNotT X.K ta) (eNotV fa) := ⟨pe_notT ha.pe, by
  intro B F io σ H ρ d ρ' Q hσ c e k
  obtain ⟨p, e1, e⟩ := Option.bind_eq_some_iff.mp e
  obtain ⟨z, e2, e3⟩ := Option.map_eq_some_iff.mp e
  cases e3
  exact ha.se B F io σ H ρ p.1 p.2 _ hσ c e1 fun F1 H1 x g1 c1 d1 => ⟨z, tru_dp c1.frz d1 e2, k F1 H1 _ g1 c1 (.bl _)⟩⟩
theorem dte_not (ha : DTe X i a x tA fA) : DTe X i a (.UnaryOp .Not x pos) (tNot tA) (eNot fA) := ⟨pt_not ha.pe, by
  intro B F io σ H ρ b ρ' Q hσ c e k
  obtain ⟨p, e1, e2⟩ := Option.map_eq_some_iff.mp e
  cases e2
  exact ha.se B F io σ H ρ p.1 p.2 _ hσ c e1 fun F1 H1 g1 c1 => k F1 H1 g1 c1⟩
theorem dte_tru (ha : DEe X i a x ta fa) (he : ∀ whole, isTrue x X.env whole = (do let v ← whole; standAt x.pos; holding [v] (truthy v)) := by intro _; rfl) :
    DTe X i a x (fun σ H Q => ta σ H fun x H' => ∃ k, TruV X.K x H' k ∧ Q k H') (eTru fa) := ⟨pt_truth ha.pe he, by
  intro B F io σ H ρ b ρ' Q hσ c e k
  obtain ⟨p, e1, e⟩ := Option.bind_eq_some_iff.mp e
  obtain ⟨z, e2, e3⟩ := Option.map_eq_some_iff.mp e
  cases e3
  exact ha.se B F io σ H ρ p.1 p.2 _ hσ c e1 fun F1 H1 x g1 c1 d1 => ⟨_, tru_dp c1.frz d1 e2, k F1 H1 g1 c1⟩⟩
theorem dwe_or1 (ha : DTe X i a x tA fA) : DWe X i a (.BoolOp .Or [x] pos) tA fA := ⟨pw_or1 ha.pe, ha.se⟩
theorem dwe_and1 (ha : DTe X i a x tA fA) : DWe X i a (.BoolOp .And [x] pos) tA fA := ⟨pw_and1 ha.pe, ha.se⟩
theorem dwe_or (ha : DTe X i a x tA fA) (hb : DWe X i a (.BoolOp .Or (y :: rest) pos) tB fB) : DWe X i a (.BoolOp .Or (x :: y :: rest) pos) (tOr tA tB) (eOr fA fB) := ⟨pw_or ha.pe hb.pe, by
  intro B F io σ H ρ b ρ' Q hσ c e k
  obtain ⟨p, e1, e⟩ := Option.bind_eq_some_iff.mp e
  refine ha.se B F io σ H ρ p.1 p.2 _ hσ c e1 fun F1 H1 g1 c1 => ?_
  by_cases hp : p.1 = true
  · rw [if_pos hp] at e ⊢
    cases e
    exact k F1 H1 g1 c1
  · rw [if_neg hp] at e ⊢
    exact hb.se B F1 io σ H1 p.2 b ρ' Q hσ c1 e fun F2 H2 g2 c2 => k F2 H2 (g1.trans g2) c2⟩
theorem dwe_and (ha : DTe X i a x tA fA) (hb : DWe X i a (.BoolOp .And (y :: rest) pos) tB fB) : DWe X i a (.BoolOp .And (x :: y :: rest) pos) (tAnd tA tB) (eAnd fA fB) := ⟨pw_and ha.pe hb.pe, by
  intro B F io σ H ρ b ρ' Q hσ c e k
  obtain ⟨p, e1, e⟩ := Option.bind_eq_some_iff.mp e
  refine ha.se B F io σ H ρ p.1 p.2 _ hσ c e1 fun F1 H1 g1 c1 => ?_
  by_cases hp : p.1 = true
  · rw [if_pos hp] at e ⊢
    exact hb.se B F1 io σ H1 p.2 b ρ' Q hσ c1 e fun F2 H2 g2 c2 => k F2 H2 (g1.trans g2) c2
  · rw [if_neg hp] at e ⊢
    cases e
    exact k F1 H1 g1 c1⟩
theorem dse_ret {pos : Pos} (he : DEe X i a e te fe) : DSe X L i a [.Return (some e) pos] (tRet te) (sRet fe) := ⟨pss_one (ps_ret he.pe), fun B F io σ H ρ o Dn hσ hL c h p => by
  obtain ⟨q, e1, e2⟩ := Option.map_eq_some_iff.mp h
  subst e2
  exact he.se B F io σ H ρ q.1 q.2 _ hσ c e1 fun F' H' v g c' d => p F' σ H' v g c' d⟩
/-- if t: return e -/
def sIfRet (fc : FT) (fe : FE) (g : FS) : FS := fun ρ => (fc ρ).bind fun p => if p.1 = true then sRet fe p.2 else g p.2
theorem dse_ifret {pos pos' : Pos} (hc : DTe X i a x tA fA) (he : DEe X i a e te fe) (hr : DSe X L i a sts u g) : DSe X L i a (.If x [.Return (some e) pos'] [] pos :: sts) (tSeq (tIfS tA (tRet te) tNext) u) (sIfRet fA fe g) :=
  ⟨pss_cons (ps_if hc.pe (pss_one (ps_ret he.pe)) pss_nil) hr.pe, fun B F io σ H ρ o Dn hσ hL c h p => by
  obtain ⟨q, e1, h⟩ := Option.bind_eq_some_iff.mp h
  refine hc.se B F io σ H ρ q.1 q.2 _ hσ c e1 fun F' H' g' c' => ?_
  by_cases hq : q.1 = true
  · rw [if_pos hq] at h ⊢
    obtain ⟨r, e2, e3⟩ := Option.map_eq_some_iff.mp h
    subst e3
    exact he.se B F' io σ H' q.2 r.1 r.2 _ hσ c' e2 fun F2 H2 v g2 c2 d => p F2 σ H2 v (g'.trans g2) c2 d
  · rw [if_neg hq] at h ⊢
    exact hr.se B F' io σ H' q.2 o Dn hσ hL c' h (p.mono g')⟩
end
/-! ### isinstance of the exception -/
/-- a known answer -/
def eKn (b : Bool) : FE := fun ρ => some (.bool b, ρ)
section
variable {X : Cx} {a Cl : Addr} {oe : Obj}
theorem caught_at {pins : List (Addr × Obj)} {σ : St} {H : Hp} {s : Shared} (I : Inv X pins σ H s) (hp : (a, oe) ∈ X.pn) (hz : Zc (.ref Cl) none oe) (hf : ∃ vs, oe.data = .fields vs) : PySem.W.InstAt s.heap a oe Cl none := by
  have h1 := (I.pin (a, oe) (List.mem_append_left _ hp)).1
  obtain ⟨vs, hv⟩ := hf
  obtain ⟨k1, k2⟩ := hz
  revert h1
  cases oe
  intro h1
  simp only at k1 k2 hv
  subst k1 k2 hv
  exact ⟨h1, rfl, rfl, trivial⟩
/-- one class -/
def rXi (K : PySem.W.Frag) (Cl a : Addr) : List V → Hp → VK → Prop := fun xs H Q => ∃ (c : V) (u : Value) (b : Bool), xs = [.ref a, c] ∧ ClsV c u ∧ PySem.W.kitOne K (.ref Cl) u = some b ∧ Q (.bl b) H
/-- a tuple of classes -/
def rXt (K : PySem.W.Frag) (Cl a : Addr) : List V → Hp → VK → Prop := fun xs H Q => ∃ (tp : Addr) (cs : List V) (us : List Value) (b : Bool), xs = [.ref a, .ref tp] ∧ H tp = some (.tup cs) ∧ Paired ClsV cs us ∧ PySem.W.kitAny K (.ref Cl) us = some b ∧ Q (.bl b) H
theorem two_vals {v w : V} {us : List Value} (r : Vals [v, w] us) : ∃ p q, us = [p, q] ∧ RelV v p ∧ RelV w q := by
  cases r with
  | cons h1 r =>
    cases r with
    | cons h2 r => cases r; exact ⟨_, _, rfl, h1, h2⟩
theorem kx (C : ExcC X.K Cl) : PySem.W.KitX X.K (.ref a) (.ref Cl) (fun h => PySem.W.InstAt h a oe Cl none) := PySem.W.handS_kitx_exc C.hg C.hk C.hs C.hd C.ha C.hn C.ht C.hm
theorem call_xi (C : ExcC X.K Cl) (hz : Zc (.ref Cl) none oe) (hf : ∃ vs, oe.data = .fields vs) (hp : (a, oe) ∈ X.pn) : CallR X (.builtin "isinstance") (rXi X.K Cl a) := fun pins s σ H xs us Q I r h => by
  obtain ⟨c, v, b, rfl, k, e, q⟩ := h
  obtain ⟨u1, u2, rfl, r1, r2⟩ := two_vals r
  have e1 : u1 = .ref a := r1
  have e2 := k.eq r2
  subst e1 e2
  exact PySem.W.kia_one (kx C) I.kIn (caught_at I hp hz hf) e (fun z => by cases z) fun tk => ⟨.bl b, H, I.tok tk, rfl, q⟩
theorem call_xt (C : ExcC X.K Cl) (hz : Zc (.ref Cl) none oe) (hf : ∃ vs, oe.data = .fields vs) (hp : (a, oe) ∈ X.pn) : CallR X (.builtin "isinstance") (rXt X.K Cl a) := fun pins s σ H xs us Q I r h => by
  obtain ⟨tp, cs, ws, b, rfl, hT, k, e, q⟩ := h
  obtain ⟨u1, u2, rfl, r1, r2⟩ := two_vals r
  have e1 : u1 = .ref a := r1
  have e2 : u2 = .ref tp := r2
  subst e1 e2
  obtain ⟨_, its, rv, ob, g1, g2, n, g3⟩ := (show ObjOk X.prog X.w H s.heap tp (.tup cs) from I.hok tp _ hT)
  have e3 := ClsV.all k rv
  subst e3
  revert g1
  cases ob
  intro g1
  simp only at g2 g3
  subst g2 g3
  exact PySem.W.kia_tup (kx C) I.kIn (caught_at I hp hz hf) g1 e (fun z => by cases z) fun tk => ⟨.bl b, H, I.tok tk, rfl, q⟩
end
section
variable {X : Cx} {i : Nat} {a Cl : Addr} {oe : Obj} {n x y : Str} {p p1 p2 pos tpos : Pos} {c : V} {u : Value} {b : Bool}
theorem dee_isi (C : ExcC X.K Cl) (hz : Zc (.ref Cl) none oe) (hf : ∃ vs, oe.data = .fields vs) (hp : (a, oe) ∈ X.pn) (hy : PE X (.Name y p2) (tC c)) (kc : ClsV c u) (hk : PySem.W.kitOne X.K (.ref Cl) u = some b) (hm : X.mg x = none) (hi : X.N[i]? = some n := by rfl)
    (hv : bootBuiltins x = some (.builtin "isinstance") := by decide +kernel) (hg : Gl X x := by rfl) (hx : x ≠ "__name__" := by decide) (hdb : (x == ("__debug__" : Str)) = false := by decide)
    (hvi : Vis X.env.scope n := by first | exact Or.inl rfl | exact Or.inr (Or.inl rfl) | exact Or.inr (Or.inr rfl)) (hd : (n == ("__debug__" : Str)) = false := by decide) (hcd : (n == ("__classdict__" : Str)) = false := by decide)
    (s1 : starEach [.Name n p1, .Name y p2] X.env = (false, eval (.Name n p1) X.env) :: starEach [.Name y p2] X.env := by rfl) (s2 : starEach [.Name y p2] X.env = (false, eval (.Name y p2) X.env) :: starEach [] X.env := by rfl) (hpl : (backTo pos (starEach [.Name y p2] X.env)).any (·.1) = false := by rfl) :
    DEe X i a (.Call (.Name x p) [.Name n p1, .Name y p2] [] pos) (tCB (rXi X.K Cl a) (tCons (tVar i) (tCons (tC c) tNil))) (eKn b) :=
  ⟨pe_callB (call_xi C hz hf hp) hg hm hv (pa_cons (pe_var hi hvi hd hcd) (pa_cons hy pa_nil s2) s1) hx hdb s1 hpl, fun B F io σ H ρ d ρ' Q hσ c0 e k => by
    cases e
    exact ⟨.ref a, hσ, c, u, b, rfl, kc, hk, k F H _ (Gr.refl _ _) c0 (.bl b)⟩⟩
theorem dee_isit {tt : TE} {cs : List V} {us : List Value} {te : Expr} (C : ExcC X.K Cl) (hz : Zc (.ref Cl) none oe) (hf : ∃ vs, oe.data = .fields vs) (hp : (a, oe) ∈ X.pn) (ht : PE X te tt) (hT : ∀ (σ : St) (H : Hp) (Q : VK), (∀ q, H q = none → Q (.ref q) (upd H q (.tup cs))) → tt σ H Q) (kc : Paired ClsV cs us) (hk : PySem.W.kitAny X.K (.ref Cl) us = some b) (hm : X.mg x = none) (hi : X.N[i]? = some n := by rfl)
    (hv : bootBuiltins x = some (.builtin "isinstance") := by decide +kernel) (hg : Gl X x := by rfl) (hx : x ≠ "__name__" := by decide) (hdb : (x == ("__debug__" : Str)) = false := by decide)
    (hvi : Vis X.env.scope n := by first | exact Or.inl rfl | exact Or.inr (Or.inl rfl) | exact Or.inr (Or.inr rfl)) (hd : (n == ("__debug__" : Str)) = false := by decide) (hcd : (n == ("__classdict__" : Str)) = false := by decide)
    (s1 : starEach [.Name n p1, te] X.env = (false, eval (.Name n p1) X.env) :: starEach [te] X.env := by rfl) (s2 : starEach [te] X.env = (false, eval te X.env) :: starEach [] X.env := by rfl) (hpl : (backTo pos (starEach [te] X.env)).any (·.1) = false := by rfl) :
    DEe X i a (.Call (.Name x p) [.Name n p1, te] [] pos) (tCB (rXt X.K Cl a) (tCons (tVar i) (tCons tt tNil))) (eKn b) :=
  ⟨pe_callB (call_xt C hz hf hp) hg hm hv (pa_cons (pe_var hi hvi hd hcd) (pa_cons ht pa_nil s2) s1) hx hdb s1 hpl, fun B F io σ H ρ d ρ' Q hσ c0 e k => by
    cases e
    refine ⟨.ref a, hσ, hT σ H _ fun q nn => ?_⟩
    have al := Al.laid (o := .tup cs) c0.frz nn
    exact ⟨q, cs, us, b, rfl, upd_same, kc, hk, k _ _ _ (al.gr c0.base) (c0.al al) (.bl b)⟩⟩
end
/-! ### try: y = f(..) / except X as n: .. return .. -/
theorem con_dead {K : PySem.W.Frag} {B F : Hp} {io : List (Nat × Addr)} {σ : St} {H : Hp} {ρ : En} (c : Con K B F io σ H ρ) {i : Nat} (v : Option V) (hi : i ∉ io.map (·.1)) : Con K B F io (σ.set i v) H (ρ.set i .dead) := by
  have own_ne : ∀ {j : Nat} {e : Cell}, (ρ.set i .dead)[j]? = some e → isOwn e = true → i ≠ j ∧ ρ[j]? = some e := fun {j e} h o => by
    by_cases q : i = j
    · subst q
      rw [List.getElem?_set] at h
      rw [if_pos rfl] at h
      split at h
      · cases h; cases o
      · cases h
    · rw [List.getElem?_set_ne q] at h
      exact ⟨q, h⟩
  refine ⟨by rw [List.length_set, List.length_set]; exact c.len, c.base, c.frz, fun j e h => ?_, fun j k e f b h1 h2 o1 o2 s1 s2 => ?_, fun p hp => ?_⟩
  · by_cases q : i = j
    · subst q
      have hlt := (List.getElem?_eq_some_iff.mp h).1
      rw [List.length_set] at hlt
      rw [List.getElem?_set_self hlt] at h
      cases h
      exact ⟨v, List.getElem?_set_self (by rw [c.len]; exact hlt), trivial⟩
    · rw [List.getElem?_set_ne q] at h ⊢
      exact c.cell j e h
  · obtain ⟨q1, g1⟩ := own_ne h1 o1
    obtain ⟨q2, g2⟩ := own_ne h2 o2
    rw [List.getElem?_set_ne q1] at s1
    rw [List.getElem?_set_ne q2] at s2
    exact c.sep j k e f b g1 g2 o1 o2 s1 s2
  · have hne : i ≠ p.1 := fun z => hi (List.mem_map.mpr ⟨p, hp, z.symm⟩)
    rw [List.getElem?_set_ne hne]
    exact c.io p hp
def sTry (j i : Nat) (m : FnX) (fa : FA) (fs : FS) : FS := fun ρ => (fa ρ).bind fun p => (m p.1).bind fun b => if b = true then (if i < p.2.length then (fs (p.2.set i .dead)).bind fun o => match o with
  | .rt c ρ' => some (.rt c ρ')
  | _ => none else none) else some (.nx (p.2.set j (.sh .none)))
theorem takes_no {X : Cx} : L2N.Takes X (fun _ _ _ _ => False) := fun u s' h => by
  obtain ⟨_, _, _, _, _, _, _, _, _, _, _, _, _, _, _, _, w⟩ := h
  exact w.elim
section
variable {X : Cx} {L : List Nat} {j i k : Nat} {g y n cl : Str} {ps : List Str} {Cl Bc : Addr} {m : FnX} {e : Expr} {es : List Expr} {ta : List (Addr × Obj) → (Value → Shared → Prop) → TA} {fa : FA} {b₀ : Stmt} {suite : List Stmt} {fs : FS} {ts : Addr → Obj → List (Addr × Obj) → TS} {p pc py np pos pos' pos2 : Pos}
open Classical in
theorem ds_try (hs : X.stack = X.env :: X.outer) (hf : X.env.frame = some X.env.locals) (hN : X.N.Nodup) (hr : Room k X.A) (F : CalX X.prog X.w X.K X.mg X.base k g ps Cl m) (hn : aLen fa ps.length) (hcl : Names X cl (.ref Bc)) (hex : PySem.W.exmOne X.K (.ref Cl) (.ref Bc) = some true)
    (ha : ∀ (pn : List (Addr × Obj)) (xe : Value → Shared → Prop), DA (X.tr pn xe) (e :: es) (ta pn xe) fa)
    (hsu : ∀ (a : Addr) (oe : Obj) (pn : List (Addr × Obj)), L2N.Zn (.ref Cl) none oe → (∃ vs, oe.data = .fields vs) → DSe (X.suite a ((a, oe) :: pn)) L i a (b₀ :: suite) (ts a oe pn) fs)
    (hta : ∀ pn xe, ta pn xe = ta [] X.xe := by exact fun _ _ => rfl) (hts : ∀ a oe pn, ts a oe pn = ts a { cls := .ref Cl, data := .fields #[.none, .none, .none] } [] := by exact fun _ _ _ => rfl)
    (hi : X.N[i]? = some n := by rfl) (hln : X.env.kindOf n = some .local := by rfl) (hj : X.N[j]? = some y := by rfl) (hjl : j ∉ L := by decide) (hil : i ∉ L := by decide) (hy : Loc X.env.scope y := by first | exact Or.inl rfl | exact Or.inr rfl)
    (hsw : swapsWith (.Call (.Name g p) (e :: es) [] pc) (some (.Name y py)) pos.line X.env = pure false := by rfl) (hfy : X.fn y = true ∨ X.env.scope.names.lookup y = some .local := by first | exact .inl rfl | exact .inr rfl)
    (hg : Gl X g := by rfl) (hdb : (g == ("__debug__" : Str)) = false := by decide) (he : starEach (e :: es) X.env = (false, eval e X.env) :: starEach es X.env := by rfl) (hpl : (backTo pc (starEach es X.env)).any (·.1) = false := by rfl) :
    ∃ t, DS X L (.Try [.Assign [.Name y py] (.Call (.Name g p) (e :: es) [] pc) pos] [.ExceptHandler (some (.Name cl np)) (some n) (b₀ :: suite) pos'] [] [] pos2) t (sTry j i m fa fs) := by
  obtain ⟨f, fd, Fn, hm, hk, hb⟩ := F.ex
  refine ⟨_, L2N.ps_try_as (i := i) (c := .ref Bc) (ts := fun a cls d => if cls = .ref Cl ∧ d = none then ts a { cls := .ref Cl, data := .fields #[.none, .none, .none] } [] else fun _ _ _ => False) (Wout := fun _ _ _ _ => False)
    (tb := fun W => tAsg (tCallS (fun vs H Q E => vs.length = ps.length ∧ spX X.K Cl m vs H Q E) (WE W) (ta [] X.xe)) (gName j)) hs hf hN hi hln hcl takes_no (fun W pn xe tk _ => pss_one (ps_set (X := X.tr pn xe) hN hj hy (pe_callS (X := X.tr pn xe) Fn hr hg hm hk hb (fun σ => L2N.passAt tk σ) (hta pn xe ▸ (ha pn xe).pe) hdb he hpl) hsw hfy)) (fun a oe cls d pn hz hfl => ?_), ?_⟩
  · by_cases hc : cls = .ref Cl ∧ d = none
    · rw [if_pos hc]
      obtain ⟨rfl, rfl⟩ := hc
      rw [← hts a oe pn]
      exact (hsu a oe pn hz hfl).pe
    · rw [if_neg hc]
      exact ⟨fun _ _ _ _ _ _ z => z.elim⟩
  · intro B F0 io σ H ρ o Dn hL c h post
    obtain ⟨⟨ds, ρ1⟩, e1, h⟩ := Option.bind_eq_some_iff.mp h
    obtain ⟨b, e2, h⟩ := Option.bind_eq_some_iff.mp h
    refine (ha [] X.xe).se B F0 io σ H ρ ds ρ1 _ c e1 fun F1 H1 vs g1 c1 d1 => ?_
    refine ⟨by rw [d1.length]; exact hn _ _ _ e1, F1, ds, b, c1.frz, d1, e2, fun hb F' H' al => ?_, fun hb F' H' al => ?_⟩
    · rw [hb, if_neg Bool.false_ne_true] at h
      cases h
      exact post F' _ H' (g1.trans (al.gr c1.base)) ((c1.al al).set_sh (by rw [hL]; exact hjl) .non)
    · rw [hb, if_pos rfl] at h
      by_cases hlt : i < ρ1.length
      · have h : (if i < ρ1.length then (fs (ρ1.set i .dead)).bind fun o => match o with | .rt c ρ' => some (.rt c ρ') | _ => none else none) = some o := h
        rw [if_pos hlt] at h
        obtain ⟨o1, e3, h⟩ := Option.bind_eq_some_iff.mp h
        refine ⟨true, hex, fun _ a na => ?_, fun z => by cases z⟩
        show (if Value.ref Cl = .ref Cl ∧ (none : Option Addr) = none then ts a { cls := .ref Cl, data := .fields #[.none, .none, .none] } [] else fun _ _ _ => False) _ _ _
        rw [if_pos ⟨rfl, rfl⟩]
        have c2 := con_dead (c1.al al) (some (.ref a)) (by rw [hL]; exact hil)
        have hσ : HasE i a (σ.set i (some (.ref a))) := List.getElem?_set_self (by rw [c1.len]; exact hlt)
        have hz : L2N.Zn (.ref Cl) none ({ cls := .ref Cl, data := .fields #[.none, .none, .none] } : Obj) := ⟨rfl, rfl, fun vs h => by cases h; rfl⟩
        have se := (hsu a _ [] hz ⟨_, rfl⟩).se
        have gg := g1.trans (al.gr c1.base)
        cases o1 with
        | rt c' ρ' =>
          cases h
          exact se B F' io _ H' _ _ _ hσ hL c2 e3 fun F2 σ2 H2 v g2 c3 r => post F2 σ2 H2 v (gg.trans g2) c3 r
        | nx ρ' => cases h
        | bk ρ' => cases h
        | ct ρ' => cases h
      · have h : (if i < ρ1.length then (fs (ρ1.set i .dead)).bind fun o => match o with | .rt c ρ' => some (.rt c ρ') | _ => none else none) = some o := h
        rw [if_neg hlt] at h
        cases h
end
end L2.Pd

namespace L2.Pd
open PySem PySem.Spec PyProof.Rows L2 L2H HotX
/-! ## a def that is asked of the exception within the suite -/
/-- x(e) hands back b, e the exception of the class Cl that is handled -/
def RunE (P : Program) (w : World) (K : PySem.W.Frag) (mg : Str → Option Value) (base : Heap) (k : Nat) (f : Addr) (fd : FuncData) (v : Str) (Cl : Addr) (b : Bool) : Prop :=
  ∀ (A : Around) (stk : List Env) (s : Shared) (F H : Hp) (args : Args) (u : Value) (Q : VK) (E : XK) (ex : Addr × Obj), RoomH k A → Hot1 A ex → PinOk stk H s ex → L2N.Zn (.ref Cl) none ex.2 → Env0 P w K mg base A stk s H → BindsTo s fd args [(v, u)] → u = .ref ex.1 → Same F H →
    (∀ F' H', Al F H F' H' → Q (.bl b) H') → codeAny (model P w) A (.call (.ref f) args) (CR CX0 stk P w H s Q E) s
structure CalE (P : Program) (w : World) (K : PySem.W.Frag) (mg : Str → Option Value) (base : Heap) (k : Nat) (x v : Str) (Cl : Addr) (b : Bool) : Prop where
  ex : ∃ (f : Addr) (fd : FuncData), RunE P w K mg base k f fd v Cl b ∧ mg x = some (.ref f) ∧ PySem.W.keepIn K (.ref f) = true ∧ Binds K fd [v] []
section
variable {P : Program} {w : World} {K : PySem.W.Frag} {mg : Str → Option Value} {base : Heap}
theorem con_dead0 {F H : Hp} {a : Addr} {N : List Str} (hN : 1 ≤ N.length) (sm : Same F H) : Con K H F [] (L2.start N [.ref a]) H (List.replicate N.length Cell.dead) := by
  have hl : (L2.start N [V.ref a]).length = N.length := by
    unfold L2.start
    simp
    omega
  refine ⟨by rw [hl, List.length_replicate], Same.refl H, sm, fun i c hc => ?_, fun i j c e z h1 _ o1 => ?_, fun p hp => absurd hp List.not_mem_nil⟩
  · have hlt := (List.getElem?_eq_some_iff.mp hc).1
    rw [List.length_replicate] at hlt
    have e := List.eq_of_mem_replicate (List.mem_of_getElem? hc)
    exact ⟨_, List.getElem?_eq_getElem (by rw [hl]; exact hlt), by rw [e]; trivial⟩
  · rw [List.eq_of_mem_replicate (List.mem_of_getElem? h1)] at o1
    cases o1
theorem pde_cal {x v : Str} {st : Stmt} {N : List Str} {k : Nat} {Cl : Addr} {b : Bool} {body : FS} {ρe : En} (S : Src K mg x st [v]) (Sc : FnScope N [v] (defScope st)) (hN : 1 ≤ N.length)
    (hrun : body (List.replicate N.length Cell.dead) = some (.rt (.sh (.bool b)) ρe))
    (hbody : ∀ (f : Addr) (cdv : Value) (A : Around) (stk : List Env) (s : Shared) (H : Hp) (E : XK) (ex : Addr × Obj), Hot1 A ex → L2N.Zn (.ref Cl) none ex.2 → (∃ vs, ex.2.data = .fields vs) →
      ∃ t, DSe (cxH CX0 P w K mg base N x (defScope st) f cdv A stk s H E ex) [] 0 ex.1 (defBody st) t body) : CalE P w K mg base (k + 1) x v Cl b := by
  obtain ⟨f, fd, Fn, hm, hb⟩ := S.ex
  refine ⟨f, fd, ?_, hm, Fn.kp, hb⟩
  obtain ⟨oc, od, kV, doc, pm, an, cdv, ct, osl, rfl, look, code⟩ := Fn.ex
  intro A stk s F H args u Q E ex room hot pin zn en bd hu sm hq
  have stay : ∀ z o, base.get? z = some o → s.heap.get? z = some o := fun z o q => (en.bs z o q).1
  have inK := en.mod.kin.keeps stay
  have nolim := en.mod.nolimit.keeps stay
  have kinds : ∀ y ∈ [(v, u)], (defScope st).names.lookup y.1 = some .local ∨ ((defScope st).names.lookup y.1 = some .cell ∧ ((cellsFrom (s.heap.objs.size + 1) (defScope st).names []).lookup y.1).isSome = true) := fun y hy => by
    rw [List.mem_singleton] at hy
    subst hy
    exact (Sc.par v List.mem_cons_self).imp id fun q => ⟨q, PySem.W.cellsFrom_some _ _ _ (.inl q)⟩
  refine codeAny_call_function room.depth (inK _ _ look) rfl Sc.co Sc.gen rfl (PySem.W.codeRec_of inK code) (bd _ _ _ _ ?_)
  refine wpAny_newFunctionEnv_cells Sc.kind kinds fun env q s1 ic => ?_
  subst q
  refine ⟨nolim.keeps ic.toInCall.keep, codeAny_func ?_⟩
  obtain ⟨t, pe, se⟩ := hbody f cdv A stk s H E ex hot zn (by obtain ⟨vs, q, _⟩ := hot.2; exact ⟨vs, q⟩)
  have I : Inv (cxH CX0 P w K mg base N x (defScope st) f cdv A stk s H E ex) [] (L2.start N [.ref ex.1]) H s1 := inv_startH Sc pin en rfl (.cons hu .nil) ic
  have hσ : HasE 0 ex.1 (L2.start N [.ref ex.1]) := by
    unfold HasE L2.start
    rfl
  have rd := se H F [] _ H _ _ { nx := fun _ H' => Q .non H', rt := Q } hσ rfl (con_dead0 hN sm) hrun fun F' σ' H' z gr cn r => by
    cases r
    exact hq F' H' ⟨gr.sub, cn.base, cn.frz, gr.new⟩
  refine wpAny_mono (pe.run [] s1 _ H _ I rd) (fun fl s' hs => ?_) fun _ _ z => z
  cases fl with
  | ret y =>
    obtain ⟨z, σ2, H2, J, rv, q⟩ := hs
    exact ⟨z, H2, J.os, J.bare, J.base, J.hok, rv, q⟩
  | next =>
    obtain ⟨σ2, H2, J, q⟩ := hs
    exact ⟨V.non, H2, J.os, J.bare, J.base, J.hok, rfl, q⟩
  | brk => obtain ⟨_, _, _, q⟩ := hs; exact q.elim
  | cont => obtain ⟨_, _, _, q⟩ := hs; exact q.elim
end
section
variable {X : Cx} {i k : Nat} {a Cl : Addr} {oe : Obj} {n x v : Str} {b : Bool} {p p1 pos : Pos}
theorem hot_suite {pn : List (Addr × Obj)} (hz : L2N.Zn (.ref Cl) none oe) (hf : ∃ vs, oe.data = .fields vs) : Hot1 (X.suite a ((a, oe) :: pn)).A (a, oe) := by
  obtain ⟨vs, h⟩ := hf
  exact ⟨rfl, vs, h, hz.2.2 vs h⟩
theorem roomH_suite {pn : List (Addr × Obj)} (r : Room k X.A) : RoomH k (X.suite a ((a, oe) :: pn)).A := ⟨r.dp, r.un⟩
def tHotE (i : Nat) (a : Addr) (b : Bool) : TE := fun σ H Q => tCons (tVar i) tNil σ H fun vs H1 => vs = [V.ref a] ∧ ∃ F, Same F H1 ∧ ∀ F' H', Al F H1 F' H' → Q (.bl b) H'
theorem dee_call (F : CalE X.prog X.w X.K X.mg X.base k x v Cl b) (hr : RoomH k X.A) (hz : L2N.Zn (.ref Cl) none oe) (hot : Hot1 X.A (a, oe)) (hp : (a, oe) ∈ X.pn) (hi : X.N[i]? = some n := by rfl) (hg : Gl X x := by rfl) (hdb : (x == ("__debug__" : Str)) = false := by decide)
    (hvi : Vis X.env.scope n := by first | exact Or.inl rfl | exact Or.inr (Or.inl rfl) | exact Or.inr (Or.inr rfl)) (hd : (n == ("__debug__" : Str)) = false := by decide) (hcd : (n == ("__classdict__" : Str)) = false := by decide)
    (s1 : starEach [.Name n p1] X.env = (false, eval (.Name n p1) X.env) :: starEach [] X.env := by rfl) (hpl : (backTo pos (starEach [] X.env)).any (·.1) = false := by rfl) :
    DEe X i a (.Call (.Name x p) [.Name n p1] [] pos) (tHotE i a b) (eKn b) := by
  obtain ⟨f, fd, run, hm, hk, hb⟩ := F.ex
  have arg : PA X [.Name n p1] (tCons (tVar i) tNil) := pa_cons (pe_var hi hvi hd hcd) pa_nil s1
  refine ⟨⟨fun pins s σ H Q I h => ?_⟩, fun B F0 io σ H ρ d ρ' Q hσ c e q => ?_⟩
  · refine wpAny_Call_Name_kw (ld_glob I hg hm ?_ hdb)
    refine PySem.W.callWith_K (h₀ := X.base) I.ok.mod.kin hk (thn (arg.run pos pins s σ H _ I h) fun us s2 ⟨vs, H1, J, r, z, F0, sm, q⟩ => ⟨J.kIn, ?_⟩) s1 hpl
    subst z
    obtain ⟨u0, e0, r0⟩ : ∃ u0, us = [u0] ∧ RelV (V.ref a) u0 := by
      cases r with
      | cons r0 r1 => cases r1; exact ⟨_, rfl, r0⟩
    subst e0
    have at0 := J.pin (a, oe) (List.mem_append_left _ hp)
    have pin : PinOk X.stack H1 s2 (a, oe) := ⟨at0.1, at0.2.1, fun z => (List.mem_cons.mp (J.stkSub a z)).elim at0.2.2.1 at0.2.2.2.1, at0.2.2.2.2⟩
    have bd := hb s2 [u0] J.kIn rfl
    refine wpAny_call (codeAny_mono (run X.A X.stack s2 F0 H1 ⟨[u0], []⟩ u0 Q (fun _ _ _ => False) (a, oe) hr hot pin hz J.env0 bd r0 sm q) fun w3 s3 z => ?_)
    cases w3 with
    | error y => exact (show False from z).elim
    | ok fl =>
      cases fl with
      | ret y => exact J.after z
      | next => exact z.elim
      | brk => exact z.elim
      | cont => exact z.elim
  · cases e
    exact ⟨.ref a, hσ, rfl, F0, c.frz, fun F' H' al => q F' H' _ (al.gr c.base) (c.al al) (.bl b)⟩
end
/-! ## what the written classes tell -/
section
variable {K : PySem.W.Frag} {t : Value} {C : Addr} {T : String} {b : Bool}
theorem kit_self : PySem.W.kitOne K t t = some true := by
  unfold PySem.W.kitOne
  rw [if_pos (beq_self_eq_true t)]
theorem cls_some (h : PySem.W.hasDictIn K C = true) : (PySem.W.clsIn K C).isSome = true := by
  unfold PySem.W.hasDictIn at h
  cases e : PySem.W.clsIn K C with
  | none => rw [e] at h; cases h
  | some _ => rfl
theorem kit_own (h : PySem.W.hasDictIn K C = true) (ht : PySem.W.typeIn K (.ref C) = some (.type "type")) (hs : PySem.W.subIn K t (.ref C) = some b) (hn : (t == .ref C) = false) : PySem.W.kitOne K t (.ref C) = some b := by
  unfold PySem.W.kitOne
  rw [if_neg (by rw [hn]; exact Bool.false_ne_true)]
  show (if ((PySem.W.clsIn K C).isSome && PySem.W.typeIn K (.ref C) == some (.type "type")) = true then PySem.W.subIn K t (.ref C) else none) = _
  rw [cls_some h, ht, if_pos (by simp)]
  exact hs
theorem kit_bt (hs : PySem.W.subIn K (.ref C) (.type T) = some b) (hm : PySem.W.kitMeta T = true := by decide +kernel) : PySem.W.kitOne K (.ref C) (.type T) = some b := by
  unfold PySem.W.kitOne
  rw [if_neg (by exact Bool.false_ne_true)]
  show (if PySem.W.kitMeta T = true then PySem.W.subIn K (.ref C) (.type T) else none) = _
  rw [if_pos hm]
  exact hs
end
end L2.Pd

namespace L2.Pd
open PySem PySem.Spec PyProof.Rows
/-! ## Reckoning: the combinators at a state -/
section
variable {i j n : Nat} {ρ : En} {d : D} {f fa fb fc : FE} {fn gn : FN} {g : D → D → Option D} {g1 : D → Option D} {gN : D → D → Option Cell} {c c2 : FT} {s s2 : FS} {a a2 : FA} {ds : List D} {h : FGs} {tg : FG} {ks : List Nat} {lk : Option Nat} {m : FnS}
@[simp] theorem ev_var : eVar i ρ = (match ρ[i]? with
  | some (.sh d) => some (d, ρ)
  | some (.ol ds) => some (.list ds, ρ.set i (.sh (.list ds)))
  | _ => none) := rfl
@[simp] theorem ev_c : eC d ρ = some (d, ρ) := rfl
@[simp] theorem ev_bin : eBin g fa fb ρ = (fa ρ).bind fun p => (fb p.2).bind fun q => (g p.1 q.1).map fun d => (d, q.2) := rfl
@[simp] theorem ev_binN : eBinN gN fa fb ρ = (fa ρ).bind fun p => (fb p.2).bind fun q => (gN p.1 q.1).map fun d => (d, q.2) := rfl
@[simp] theorem ev_un : eUn g1 fa ρ = (fa ρ).bind fun p => (g1 p.1).map fun d => (d, p.2) := rfl
@[simp] theorem ev_tst : eTst f ρ = (f ρ).bind fun p => (tstD p.1).map fun b => (b, p.2) := rfl
@[simp] theorem ev_tstD {b : Bool} : tstD (.bool b) = some b := rfl
@[simp] theorem ev_tru : eTru f ρ = (f ρ).bind fun p => (truD p.1).map fun b => (b, p.2) := rfl
@[simp] theorem ev_chain {g' : D → D → Option D} : eChain g g' fa fb fc ρ = (fa ρ).bind fun p => (fb p.2).bind fun q => ((g p.1 q.1).bind tstD).bind fun k =>
  if k = true then (fc q.2).bind fun s => (g' q.1 s.1).map fun d => (d, s.2) else some (.bool false, q.2) := rfl
@[simp] theorem ev_and : eAnd c c2 ρ = (c ρ).bind fun p => if p.1 = true then c2 p.2 else some (false, p.2) := rfl
@[simp] theorem ev_or : eOr c c2 ρ = (c ρ).bind fun p => if p.1 = true then some (true, p.2) else c2 p.2 := rfl
@[simp] theorem ev_not : eNot c ρ = (c ρ).map fun p => (!p.1, p.2) := rfl
@[simp] theorem ev_andV : eAndV fa fb ρ = (fa ρ).bind fun p => (truD p.1).bind fun k => if k = true then fb p.2 else some p := rfl
@[simp] theorem ev_orV : eOrV fa fb ρ = (fa ρ).bind fun p => (truD p.1).bind fun k => if k = true then some p else fb p.2 := rfl
@[simp] theorem ev_notV : eNotV fa ρ = (fa ρ).bind fun p => (truD p.1).map fun k => (.bool (!k), p.2) := rfl
@[simp] theorem ev_if : eIf c fa fb ρ = (c ρ).bind fun p => if p.1 = true then fa p.2 else fb p.2 := rfl
@[simp] theorem ev_ifN : eIfN c fn gn ρ = (c ρ).bind fun p => if p.1 = true then fn p.2 else gn p.2 := rfl
@[simp] theorem ev_anil : aNil ρ = some ([], ρ) := rfl
@[simp] theorem ev_acons : aCons f a ρ = (f ρ).bind fun p => (a p.2).map fun q => (p.1 :: q.1, q.2) := rfl
@[simp] theorem ev_tup : eTup a ρ = (a ρ).bind fun p => if p.1.length ≤ sizeLine then some (.tuple p.1, p.2) else none := rfl
@[simp] theorem ev_lst : eLst a ρ = (a ρ).bind fun p => if p.1.length ≤ sizeLine then some (.ol p.1, p.2) else none := rfl
@[simp] theorem ev_frz : eFrz fn ρ = (fn ρ).bind fun p => (frzC p.1).map fun d => (d, p.2) := rfl
@[simp] theorem ev_frzC : frzC (.ol ds) = some (.list ds) := rfl
@[simp] theorem ev_cb {r : List D → Option D} : eCB r a ρ = (a ρ).bind fun p => (r p.1).map fun d => (d, p.2) := rfl
@[simp] theorem ev_cbn {r : List D → Option Cell} : eCBN r a ρ = (a ρ).bind fun p => (r p.1).map fun d => (d, p.2) := rfl
@[simp] theorem ev_call0 : eCall0 m a ρ = (a ρ).bind fun p => (m (p.1.map .sh)).map fun r => (r.1, p.2) := rfl
@[simp] theorem ev_call1 {fr : FR} {i0 : Nat} : eCall1 i0 j m fr ρ = (fr ρ).bind fun p => (p.2[j]?).bind fun c => if isOwn c = true then (m (p.1.map (argC c))).bind fun r => (r.2[i0]?).map fun c' => (r.1, p.2.set j c') else none := rfl
@[simp] theorem ev_rnil : rNil ρ = some ([], ρ) := rfl
@[simp] theorem ev_rcons {r : FR} : rCons f r ρ = (f ρ).bind fun p => (r p.2).map fun q => (some p.1 :: q.1, q.2) := rfl
@[simp] theorem ev_rio {r : FR} : rIo j r ρ = if ownAt ρ j = true then (r ρ).map fun q => (none :: q.1, q.2) else none := rfl
@[simp] theorem ev_argCs {u : Cell} : argC u (some d) = .sh d := rfl
@[simp] theorem ev_argCn {u : Cell} : argC u none = u := rfl
@[simp] theorem ev_retD {k : FC} : eRetD k ρ = (k ρ).bind fun p => (cellD p.1).map fun d => (d, p.2) := rfl
@[simp] theorem ev_retN {k : FC} : eRetN k ρ = (k ρ).bind fun p => (ownC p.1).map fun c => (c, p.2) := rfl
@[simp] theorem ev_cellD : cellD (.sh d) = some d := rfl
@[simp] theorem ev_cellDl : cellD (.ol ds) = some (.list ds) := rfl
@[simp] theorem ev_ownC : ownC (.ol ds) = some (.ol ds) := rfl
@[simp] theorem ev_isOwn1 : isOwn (.ol ds) = true := rfl
@[simp] theorem ev_isOwn2 : isOwn (.sh d) = false := rfl
@[simp] theorem ev_isOwn3 : isOwn .dead = false := rfl
@[simp] theorem ev_ownAt : ownAt ρ i = (match ρ[i]? with | some c => isOwn c | none => false) := rfl
@[simp] theorem ev_seq : sSeq s s2 ρ = (s ρ).bind fun o => match o with
  | .nx ρ' => s2 ρ'
  | o => some o := rfl
@[simp] theorem ev_nx : sNx ρ = some (.nx ρ) := rfl
@[simp] theorem ev_brk : sBrk ρ = some (.bk ρ) := rfl
@[simp] theorem ev_cnt : sCnt ρ = some (.ct ρ) := rfl
@[simp] theorem ev_ret : sRet f ρ = (f ρ).map fun p => .rt (.sh p.1) p.2 := rfl
@[simp] theorem ev_retNw : sRetNew fn ρ = (fn ρ).map fun p => .rt p.1 p.2 := rfl
@[simp] theorem ev_ret0 : sRetN ρ = some (.rt (.sh .none) ρ) := rfl
@[simp] theorem ev_expr : sExpr f ρ = (f ρ).map fun p => .nx p.2 := rfl
@[simp] theorem ev_ifS : sIf c s s2 ρ = (c ρ).bind fun p => if p.1 = true then s p.2 else s2 p.2 := rfl
@[simp] theorem ev_set : sSet i f ρ = (f ρ).map fun p => .nx (p.2.set i (.sh p.1)) := rfl
@[simp] theorem ev_setN : sSetN i fn ρ = (fn ρ).map fun p => .nx (p.2.set i p.1) := rfl
@[simp] theorem ev_gnm : gNm i d ρ = some (ρ.set i (.sh d)) := rfl
@[simp] theorem ev_gnl : gNl [] ρ = some ρ := rfl
@[simp] theorem ev_gcn : gCn tg h (d :: ds) ρ = (tg d ρ).bind (h ds) := rfl
@[simp] theorem ev_gtp : gTp n h (.tuple ds) ρ = if ds.length = n then h ds ρ else none := rfl
@[simp] theorem ev_gtpl : gTp n h (.list ds) ρ = if ds.length = n then h ds ρ else none := rfl
@[simp] theorem ev_sl {fl fh : FO} : eSl f fl fh ρ = (f ρ).bind fun p => (fl p.2).bind fun l => (fh l.2).bind fun h => (dSl p.1 l.1 h.1).map fun d => (d, h.2) := rfl
@[simp] theorem ev_slN {fl fh : FO} : eSlN f fl fh ρ = (f ρ).bind fun p => (fl p.2).bind fun l => (fh l.2).bind fun h => match p.1 with
  | .list ds => some (.ol (cutD ds l.1 h.1), h.2)
  | _ => none := rfl
@[simp] theorem ev_oNone : oNone ρ = some (none, ρ) := rfl
@[simp] theorem ev_oSome : oSome f ρ = (f ρ).bind fun p => (intD p.1).map fun i => (some i, p.2) := rfl
@[simp] theorem dSl_t {lo hi : Option Int} : dSl (.tuple ds) lo hi = some (.tuple (cutD ds lo hi)) := rfl
@[simp] theorem dSl_l {lo hi : Option Int} : dSl (.list ds) lo hi = some (.list (cutD ds lo hi)) := rfl
@[simp] theorem dSl_s {lo hi : Option Int} : dSl (.str x) lo hi = if x.length ≤ sizeLine then some (.str (cutS x lo hi)) else none := rfl
@[simp] theorem dRev_l : dRev (.list ds) = some (.list ds.reverse) := rfl
@[simp] theorem dRev_t : dRev (.tuple ds) = some (.tuple ds.reverse) := rfl
@[simp] theorem dRev_s : dRev (.str x) = if x.length ≤ sizeLine then some (.str (revS x)) else none := rfl
@[simp] theorem ev_revN : eRevN f ρ = (f ρ).bind fun p => match p.1 with
  | .list ds => some (.ol ds.reverse, p.2)
  | _ => none := rfl
@[simp] theorem ev_sm {r : Str → List D → Option D} : eSM r f a ρ = (f ρ).bind fun p => (strD p.1).bind fun z => (a p.2).bind fun q => (r z q.1).map fun d => (d, q.2) := rfl
@[simp] theorem ev_sm0 {r : Str → List D → Option D} : eSM0 r f ρ = (f ρ).bind fun p => (strD p.1).bind fun z => (r z []).map fun d => (d, p.2) := rfl
@[simp] theorem ev_strD : strD (.str x) = some x := rfl
@[simp] theorem ev_lrg {r : FR2} : eLRg r ρ = (r ρ).bind fun p => if rgOk p.1.1 p.1.2 = true then some (.ol (rngD p.1.1 (p.1.2 - p.1.1).toNat), p.2) else none := rfl
@[simp] theorem ev_trg {r : FR2} : eTRg r ρ = (r ρ).bind fun p => if rgOk p.1.1 p.1.2 = true then some (.tuple (rngD p.1.1 (p.1.2 - p.1.1).toNat), p.2) else none := rfl
@[simp] theorem ev_rg3 {fa : FA} : eRg3 fa ρ = (fa ρ).bind fun p => match p.1 with
  | [.int i, .int j, .int c] => if rg3Ok i j c = true then some (.tuple (rngC i c (rg3N i j c)), p.2) else none
  | _ => none := rfl
@[simp] theorem ev_gr1 : gR1 f ρ = (f ρ).bind fun p => (intD p.1).map fun n => ((0, n), p.2) := rfl
@[simp] theorem ev_gr2 : gR2 fa fb ρ = (fa ρ).bind fun p => (fb p.2).bind fun q => (intD p.1).bind fun m => (intD q.1).map fun n => ((m, n), q.2) := rfl
@[simp] theorem ev_tupL : cTuple [.list ds] = some (.tuple ds) := rfl
@[simp] theorem ev_tupT : cTuple [.tuple ds] = some (.tuple ds) := rfl
@[simp] theorem ev_iaddS : dIadd (.str x) (.str y) = if x.length + y.length ≤ sizeLine then some (.str (x ++ y)) else none := rfl
@[simp] theorem ev_get2 {k1 v1 k2 v2 : Str} {fe ff : FE} : eGet2 k1 v1 k2 v2 fe ff ρ = (fe ρ).bind fun p => (ff p.2).bind fun q => (strD p.1).map fun z => (if z = k1 then .str v1 else if z = k2 then .str v2 else q.1, q.2) := rfl
@[simp] theorem ev_mulA {a b : Int} : dMulA (.int a) (.int b) = if mulOk a b = true then some (.int (a * b)) else none := rfl
@[simp] theorem ev_mulAS {b : Int} : dMulA (.str x) (.int b) = if repOk x.length b = true then some (.str (Txt.mul x b)) else none := rfl
@[simp] theorem ev_mulAT {b : Int} : dMulA (.tuple ds) (.int b) = if repOk ds.length b = true then some (.tuple (List.replicate b.toNat ds).flatten) else none := rfl
@[simp] theorem ev_asg : sAsg f tg ρ = (f ρ).bind fun p => (tg p.1 p.2).map .nx := rfl
@[simp] theorem ev_par : sPar i j a ρ = (a ρ).bind fun p => match p.1 with
  | [d, e] => some (.nx ((p.2.set i (.sh d)).set j (.sh e)))
  | _ => none := rfl
@[simp] theorem ev_aug : sAug i g f ρ = (match ρ[i]? with
  | some (.sh d) => (f ρ).bind fun p => (g d p.1).map fun z => .nx (p.2.set i (.sh z))
  | _ => none) := rfl
@[simp] theorem ev_ownL : ownL j ρ = (match ρ[j]? with
  | some (.ol ds) => some ds
  | _ => none) := rfl
@[simp] theorem ev_item {fi fe : FE} : sItem j fi fe ρ = (fe ρ).bind fun p => (ownL j p.2).bind fun _ => (fi p.2).bind fun q => (ownL j q.2).bind fun ds => (intD q.1).bind fun k => (ixN ds.length k).map fun n => .nx (q.2.set j (.ol (ds.set n p.1))) := rfl
@[simp] theorem ev_meth {r : List D → List D → Option (D × List D)} : eMeth j r a ρ = (ownL j ρ).bind fun _ => (a ρ).bind fun p => (ownL j p.2).bind fun ds => (r ds p.1).map fun z => (z.1, p.2.set j (.ol z.2)) := rfl
@[simp] theorem ev_idx {fo : FE} {fa : FA} : eIdx fo fa ρ = (fo ρ).bind fun p => match p.1 with
  | .list ds => (fa p.2).bind fun q => (lIndex ds q.1).map fun z => (z.1, q.2)
  | _ => none := rfl
@[simp] theorem ev_meth0 {r : List D → List D → Option (D × List D)} : eMeth0 j r ρ = (ownL j ρ).bind fun ds => (r ds []).map fun z => (z.1, ρ.set j (.ol z.2)) := rfl
@[simp] theorem ev_for {it : FA} : sFor lk ks it tg s ρ = (it ρ).bind fun p => loopF lk p.1 ks (fun x ρ => (tg x ρ).bind s) p.1 p.2 := rfl
@[simp] theorem ev_isq : iSq f ρ = (f ρ).bind fun p => match p.1 with
  | .list ds => some (ds, p.2)
  | .tuple ds => some (ds, p.2)
  | .str x => some (signsD x, p.2)
  | _ => none := rfl
@[simp] theorem ev_iown : iOwn j ρ = (ownL j ρ).map fun ds => (ds, ρ) := rfl
@[simp] theorem ev_ixOwn {fi : FE} : eIxOwn j fi ρ = (ownL j ρ).bind fun _ => (fi ρ).bind fun q => (ownL j q.2).bind fun ds => (intD q.1).bind fun k => (atI ds k).map fun d => (d, q.2) := rfl
@[simp] theorem ev_lenOwn : eLenOwn j ρ = (ownL j ρ).map fun ds => (.int ds.length, ρ) := rfl
@[simp] theorem ev_intD {z : Int} : intD (.int z) = some z := rfl
@[simp] theorem ev_isi {T : String} : eIsi T f ρ = (f ρ).bind fun p => (kitB (tyN p.1) T).map fun b => (.bool b, p.2) := rfl
@[simp] theorem ev_killn : killL [] ρ = ρ := rfl
@[simp] theorem ev_killc : killL (i :: ks) ρ = killL ks (ρ.set i .dead) := rfl
@[simp] theorem ev_lockn : lockOk none ds ρ = true := rfl
@[simp] theorem ev_cyes : cYes ρ = some (true, ρ) := rfl
end
section
variable {a b : Int} {x y : Str} {ds es : List D}
@[simp] theorem ev_addI : dAddA (.int a) (.int b) = some (.int (a + b)) := rfl
@[simp] theorem ev_addT : dAddA (.tuple ds) (.tuple es) = if ds.length + es.length ≤ sizeLine then some (.tuple (ds ++ es)) else none := rfl
@[simp] theorem ev_addS : dAddA (.str x) (.str y) = if x.length + y.length ≤ sizeLine then some (.str (x ++ y)) else none := rfl
@[simp] theorem ev_addL : dAddA (.list ds) (.list es) = if ds.length + es.length ≤ sizeLine then some (.list (ds ++ es)) else none := rfl
@[simp] theorem ev_iaddI : dIadd (.int a) (.int b) = some (.int (a + b)) := rfl
@[simp] theorem ev_sub : dSub (.int a) (.int b) = some (.int (a - b)) := rfl
@[simp] theorem ev_mul : dMul (.int a) (.int b) = if mulOk a b = true then some (.int (a * b)) else none := rfl
@[simp] theorem ev_fdiv : dFdiv (.int a) (.int b) = if b ≠ 0 ∧ Builtin.divisionGoesByPylong a b = false then some (.int (a.fdiv b)) else none := rfl
@[simp] theorem ev_mod : dMod (.int a) (.int b) = if b ≠ 0 then some (.int (a.fmod b)) else none := rfl
@[simp] theorem ev_neg : dNeg (.int a) = some (.int (-a)) := rfl
@[simp] theorem ev_gtI : bGt (.int a) (.int b) = some (decide (a > b)) := rfl
@[simp] theorem ev_ltI : bLt (.int a) (.int b) = some (decide (a < b)) := rfl
@[simp] theorem ev_geI : bGe (.int a) (.int b) = some (decide (a ≥ b)) := rfl
@[simp] theorem ev_leI : bLe (.int a) (.int b) = some (decide (a ≤ b)) := rfl
theorem ev_eq {d e : D} (h : okD d = true) (h2 : okD e = true) : bEq d e = some (PyData.eqv d e) := by unfold bEq; rw [h, h2]; rfl
@[simp] theorem ev_abs : cAbs [.int a] = some (.int (if a < 0 then -a else a)) := rfl
@[simp] theorem ev_int : cInt [.int a] = some (.int a) := rfl
@[simp] theorem ev_intB {k : Bool} : cInt [.bool k] = some (.int (if k then 1 else 0)) := rfl
@[simp] theorem ev_max2 : cMax2 [.int a, .int b] = some (.int (if b > a then b else a)) := rfl
@[simp] theorem ev_min2 : cMin2 [.int a, .int b] = some (.int (if b < a then b else a)) := rfl
@[simp] theorem ev_ixT : dIx (.tuple ds) (.int a) = atI ds a := rfl
@[simp] theorem ev_ixL : dIx (.list ds) (.int a) = atI ds a := rfl
@[simp] theorem ev_truB {k : Bool} : truD (.bool k) = some k := rfl
end
/-! ### equality of data -/
section
variable {a b : Int} {p q : Bool} {x y : Str} {d e : D} {ds es : List D}
theorem ev_okD : okD d = (d.canLay0 && decide (d.depth ≤ 64)) := rfl
@[simp] theorem ev_eqI : bEq (.int a) (.int b) = some (a == b) := rfl
@[simp] theorem ev_neI : bNe (.int a) (.int b) = some (!(a == b)) := rfl
@[simp] theorem ev_eqB : bEq (.bool p) (.bool q) = some (p == q) := rfl
@[simp] theorem ev_eqNN : bEq .none .none = some true := rfl
@[simp] theorem cl_int : (PyData.int a).canLay0 = true := rfl
@[simp] theorem cl_bool : (PyData.bool p).canLay0 = true := rfl
@[simp] theorem cl_none : PyData.none.canLay0 = true := rfl
@[simp] theorem cl_str : (PyData.str x).canLay0 = PyData.strOk x := rfl
@[simp] theorem cl_tup : (PyData.tuple ds).canLay0 = PyData.canLayAll0 ds := rfl
@[simp] theorem cl_lst : (PyData.list ds).canLay0 = PyData.canLayAll0 ds := rfl
@[simp] theorem cl_nil : PyData.canLayAll0 [] = true := rfl
@[simp] theorem cl_cons : PyData.canLayAll0 (d :: ds) = (d.canLay0 && PyData.canLayAll0 ds) := rfl
@[simp] theorem dp_int' : (PyData.int a).depth = 0 := rfl
@[simp] theorem dp_bool' : (PyData.bool p).depth = 0 := rfl
@[simp] theorem dp_none' : PyData.none.depth = 0 := rfl
@[simp] theorem dp_str' : (PyData.str x).depth = 0 := rfl
@[simp] theorem dp_tup' : (PyData.tuple ds).depth = PyData.depthAll ds + 1 := rfl
@[simp] theorem dp_lst' : (PyData.list ds).depth = PyData.depthAll ds + 1 := rfl
@[simp] theorem dp_nil' : PyData.depthAll [] = 0 := rfl
@[simp] theorem dp_cons' : PyData.depthAll (d :: ds) = max d.depth (PyData.depthAll ds) := rfl
@[simp] theorem eqv_II : PyData.eqv (.int a) (.int b) = (a == b) := rfl
@[simp] theorem eqv_TT : PyData.eqv (.tuple ds) (.tuple es) = PyData.eqvAll ds es := rfl
@[simp] theorem eqv_LL : PyData.eqv (.list ds) (.list es) = PyData.eqvAll ds es := rfl
@[simp] theorem eqv_SS : PyData.eqv (.str x) (.str y) = (x == y) := rfl
@[simp] theorem eqv_NN : PyData.eqv .none .none = true := rfl
@[simp] theorem eqv_BB : PyData.eqv (.bool p) (.bool q) = (p == q) := rfl
@[simp] theorem eqv_nn : PyData.eqvAll [] [] = true := rfl
@[simp] theorem eqv_cc : PyData.eqvAll (d :: ds) (e :: es) = (PyData.eqv d e && PyData.eqvAll ds es) := rfl
@[simp] theorem eqv_nc : PyData.eqvAll [] (e :: es) = false := rfl
@[simp] theorem eqv_cn : PyData.eqvAll (d :: ds) [] = false := rfl
theorem ev_eqR (h : okD d = true) : bEq d d = some true := by
  rw [ev_eq h h, SeqAt.eqv_refl d (by rw [ev_okD, Bool.and_eq_true] at h; exact h.1)]
theorem ev_neR (h : okD d = true) : bNe d d = some false := by
  unfold bNe
  rw [h, SeqAt.eqv_refl d (by rw [ev_okD, Bool.and_eq_true] at h; exact h.1)]
  rfl
@[simp] theorem ev_isn : bIsN d .none = some (isNone d) := rfl
@[simp] theorem ev_nisn : bNotN d .none = some (!isNone d) := rfl
@[simp] theorem nn_i : isNone (.int a) = false := rfl
@[simp] theorem nn_t : isNone (.tuple ds) = false := rfl
@[simp] theorem nn_s : isNone (.str x) = false := rfl
@[simp] theorem nn_n : isNone .none = true := rfl
@[simp] theorem nn_b : isNone (.bool p) = false := rfl
@[simp] theorem nn_l : isNone (.list ds) = false := rfl
@[simp] theorem atI0 {α : Type} {u : α} {r : List α} : atI (u :: r) 0 = some u := atI_nat (j := 0) rfl
@[simp] theorem atI1 {α : Type} {u v : α} {r : List α} : atI (u :: v :: r) 1 = some v := atI_nat (j := 1) rfl
@[simp] theorem atI2 {α : Type} {u v w : α} {r : List α} : atI (u :: v :: w :: r) 2 = some w := atI_nat (j := 2) rfl
@[simp] theorem atI3 {α : Type} {u v w z : α} {r : List α} : atI (u :: v :: w :: z :: r) 3 = some z := atI_nat (j := 3) rfl
@[simp] theorem cLen_l : cLen [.list ds] = some (.int ds.length) := rfl
@[simp] theorem cLen_s : cLen [.str x] = if x.length ≤ sizeLine then some (.int x.length) else none := rfl
@[simp] theorem cLen_t : cLen [.tuple ds] = some (.int ds.length) := rfl
end
/-! ### isinstance -/
@[simp] theorem kit_int_bool {a : Int} : kitB (tyN (.int a)) "bool" = some false := by show kitB "int" "bool" = _; decide +kernel
@[simp] theorem kit_int_int {a : Int} : kitB (tyN (.int a)) "int" = some true := by show kitB "int" "int" = _; decide +kernel
@[simp] theorem kit_int_str {a : Int} : kitB (tyN (.int a)) "str" = some false := by show kitB "int" "str" = _; decide +kernel
@[simp] theorem kit_int_tuple {a : Int} : kitB (tyN (.int a)) "tuple" = some false := by show kitB "int" "tuple" = _; decide +kernel
@[simp] theorem kit_int_list {a : Int} : kitB (tyN (.int a)) "list" = some false := by show kitB "int" "list" = _; decide +kernel
@[simp] theorem kit_bool_bool {a : Bool} : kitB (tyN (.bool a)) "bool" = some true := by show kitB "bool" "bool" = _; decide +kernel
@[simp] theorem kit_bool_int {a : Bool} : kitB (tyN (.bool a)) "int" = some true := by show kitB "bool" "int" = _; decide +kernel
@[simp] theorem kit_bool_str {a : Bool} : kitB (tyN (.bool a)) "str" = some false := by show kitB "bool" "str" = _; decide +kernel
@[simp] theorem kit_bool_tuple {a : Bool} : kitB (tyN (.bool a)) "tuple" = some false := by show kitB "bool" "tuple" = _; decide +kernel
@[simp] theorem kit_bool_list {a : Bool} : kitB (tyN (.bool a)) "list" = some false := by show kitB "bool" "list" = _; decide +kernel
@[simp] theorem kit_str_bool {a : Str} : kitB (tyN (.str a)) "bool" = some false := by show kitB "str" "bool" = _; decide +kernel
@[simp] theorem kit_str_int {a : Str} : kitB (tyN (.str a)) "int" = some false := by show kitB "str" "int" = _; decide +kernel
@[simp] theorem kit_str_str {a : Str} : kitB (tyN (.str a)) "str" = some true := by show kitB "str" "str" = _; decide +kernel
@[simp] theorem kit_str_tuple {a : Str} : kitB (tyN (.str a)) "tuple" = some false := by show kitB "str" "tuple" = _; decide +kernel
@[simp] theorem kit_str_list {a : Str} : kitB (tyN (.str a)) "list" = some false := by show kitB "str" "list" = _; decide +kernel
@[simp] theorem kit_tup_bool {a : List D} : kitB (tyN (.tuple a)) "bool" = some false := by show kitB "tuple" "bool" = _; decide +kernel
@[simp] theorem kit_tup_int {a : List D} : kitB (tyN (.tuple a)) "int" = some false := by show kitB "tuple" "int" = _; decide +kernel
@[simp] theorem kit_tup_str {a : List D} : kitB (tyN (.tuple a)) "str" = some false := by show kitB "tuple" "str" = _; decide +kernel
@[simp] theorem kit_tup_tuple {a : List D} : kitB (tyN (.tuple a)) "tuple" = some true := by show kitB "tuple" "tuple" = _; decide +kernel
@[simp] theorem kit_tup_list {a : List D} : kitB (tyN (.tuple a)) "list" = some false := by show kitB "tuple" "list" = _; decide +kernel
@[simp] theorem kit_non_bool  : kitB (tyN .none) "bool" = some false := by show kitB "NoneType" "bool" = _; decide +kernel
@[simp] theorem kit_non_int  : kitB (tyN .none) "int" = some false := by show kitB "NoneType" "int" = _; decide +kernel
@[simp] theorem kit_non_str  : kitB (tyN .none) "str" = some false := by show kitB "NoneType" "str" = _; decide +kernel
@[simp] theorem kit_non_tuple  : kitB (tyN .none) "tuple" = some false := by show kitB "NoneType" "tuple" = _; decide +kernel
@[simp] theorem kit_non_list  : kitB (tyN .none) "list" = some false := by show kitB "NoneType" "list" = _; decide +kernel
@[simp] theorem kit_lst_bool {a : List D} : kitB (tyN (.list a)) "bool" = some false := by show kitB "list" "bool" = _; decide +kernel
@[simp] theorem kit_lst_int {a : List D} : kitB (tyN (.list a)) "int" = some false := by show kitB "list" "int" = _; decide +kernel
@[simp] theorem kit_lst_str {a : List D} : kitB (tyN (.list a)) "str" = some false := by show kitB "list" "str" = _; decide +kernel
@[simp] theorem kit_lst_tuple {a : List D} : kitB (tyN (.list a)) "tuple" = some false := by show kitB "list" "tuple" = _; decide +kernel
@[simp] theorem kit_lst_list {a : List D} : kitB (tyN (.list a)) "list" = some true := by show kitB "list" "list" = _; decide +kernel
/-! ### a def's call -/
theorem fn_ret0 {n : Nat} {s : FS} {cs : List Cell} {c : Cell} {ρ' : En} (h : s (cs ++ List.replicate (n - cs.length) .dead) = some (.rt c ρ')) : fnSem n [] s cs = some (c, []) := by
  unfold fnSem
  rw [h]
  rfl
theorem fn_nx0 {n : Nat} {s : FS} {cs : List Cell} {ρ' : En} (h : s (cs ++ List.replicate (n - cs.length) .dead) = some (.nx ρ')) : fnSem n [] s cs = some (.sh .none, []) := by
  unfold fnSem
  rw [h]
  rfl
theorem fn_io0 {n : Nat} {ios : List Nat} {s : FS} {cs : List Cell} {c : Cell} {ρ' : En} (h : s (cs ++ List.replicate (n - cs.length) .dead) = some (.rt c ρ')) (hall : ios.all (ownAt ρ') = true) : fnSem n ios s cs = some (c, ρ'.take (keepN ios cs.length)) := by
  unfold fnSem
  rw [h]
  show (if ios.all (ownAt ρ') = true then _ else _) = _
  rw [if_pos hall]
/-! ### ints as data -/
theorem fn_ret {m : FnS} {n : Nat} {s : FS} [i : FnIs m n [] s] {cs : List Cell} {c : Cell} {ρ' : En} (h : s (cs ++ List.replicate (n - cs.length) .dead) = some (.rt c ρ')) : m cs = some (c, []) := by
  rw [i.eq]; exact fn_ret0 h
theorem fn_nx {m : FnS} {n : Nat} {s : FS} [i : FnIs m n [] s] {cs : List Cell} {ρ' : En} (h : s (cs ++ List.replicate (n - cs.length) .dead) = some (.nx ρ')) : m cs = some (.sh .none, []) := by
  rw [i.eq]; exact fn_nx0 h
theorem fn_io {m : FnS} {n : Nat} {ios : List Nat} {s : FS} [i : FnIs m n ios s] {cs out : List Cell} {c : Cell} {ρ' : En} (h : s (cs ++ List.replicate (n - cs.length) .dead) = some (.rt c ρ')) (hall : ios.all (ownAt ρ') = true) (ho : ρ'.take (keepN ios cs.length) = out) : m cs = some (c, out) := by
  rw [i.eq]; exact (fn_io0 h hall).trans (by rw [ho])
def is (ns : List Int) : List D := ns.map .int
@[simp] theorem is_nil : is [] = [] := rfl
@[simp] theorem is_cons {n : Int} {ns : List Int} : is (n :: ns) = .int n :: is ns := rfl
@[simp] theorem is_len {ns : List Int} : (is ns).length = ns.length := List.length_map _
@[simp] theorem is_app {ns ms : List Int} : is (ns ++ ms) = is ns ++ is ms := List.map_append
theorem is_snoc {ns : List Int} {z : Int} : is ns ++ [.int z] = is (ns ++ [z]) := by simp
theorem is_get {ns : List Int} {i : Nat} : (is ns)[i]? = (ns[i]?).map .int := List.getElem?_map
theorem is_set {ns : List Int} {i : Nat} {n : Int} : (is ns).set i (.int n) = is (ns.set i n) := by unfold is; rw [List.map_set]
theorem is_dl {ns : List Int} : (is ns).dropLast = is ns.dropLast := by unfold is; rw [List.map_dropLast]
theorem is_rev {ns : List Int} : (is ns).reverse = is ns.reverse := by unfold is; rw [List.map_reverse]
theorem atI_in {α : Type} {xs : List α} {i : Int} {x : α} (h0 : 0 ≤ i) (h : xs[i.toNat]? = some x) : atI xs i = some x := by
  obtain ⟨n, rfl⟩ := Int.eq_ofNat_of_zero_le h0
  exact atI_nat h
theorem ixN_in {n : Nat} {i : Int} (h0 : 0 ≤ i) (h : i < n) : ixN n i = some i.toNat := by
  unfold ixN
  rw [if_pos h0, if_pos h]
theorem seq_nx {s s2 : FS} {ρ ρ1 : En} (h : s ρ = some (.nx ρ1)) : sSeq s s2 ρ = s2 ρ1 := by rw [ev_seq, h]; rfl
theorem seq_rt {s s2 : FS} {ρ ρ1 : En} {c : Cell} (h : s ρ = some (.rt c ρ1)) : sSeq s s2 ρ = some (.rt c ρ1) := by rw [ev_seq, h]; rfl
theorem seq_bk {s s2 : FS} {ρ ρ1 : En} (h : s ρ = some (.bk ρ1)) : sSeq s s2 ρ = some (.bk ρ1) := by rw [ev_seq, h]; rfl
theorem seq_ct {s s2 : FS} {ρ ρ1 : En} (h : s ρ = some (.ct ρ1)) : sSeq s s2 ρ = some (.ct ρ1) := by rw [ev_seq, h]; rfl
theorem set_nx {i : Nat} {f : FE} {ρ ρ1 : En} {d : D} (h : f ρ = some (d, ρ1)) : sSet i f ρ = some (.nx (ρ1.set i (.sh d))) := by rw [ev_set, h]; rfl
theorem setN_nx {i : Nat} {f : FN} {ρ ρ1 : En} {c : Cell} (h : f ρ = some (c, ρ1)) : sSetN i f ρ = some (.nx (ρ1.set i c)) := by rw [ev_setN, h]; rfl
theorem if_t {c : FT} {s s2 : FS} {ρ ρ1 : En} (h : c ρ = some (true, ρ1)) : sIf c s s2 ρ = s ρ1 := by rw [ev_ifS, h]; rfl
theorem if_f {c : FT} {s s2 : FS} {ρ ρ1 : En} (h : c ρ = some (false, ρ1)) : sIf c s s2 ρ = s2 ρ1 := by rw [ev_ifS, h]; rfl
theorem ret_nx {f : FE} {ρ ρ1 : En} {d : D} (h : f ρ = some (d, ρ1)) : sRet f ρ = some (.rt (.sh d) ρ1) := by rw [ev_ret, h]; rfl
theorem ev_r1 {a : FA} {ρ ρ1 : En} {n : Int} (h : a ρ = some ([.int n], ρ1)) (h0 : 0 ≤ n) (h1 : n < 4611686018427387904) : iR1 a ρ = some ((List.range n.toNat).map (fun k : Nat => PyData.int (k : Int)), ρ1) := by
  unfold iR1
  rw [h]
  show (if -(2 ^ 62) ≤ n ∧ n < 2 ^ 62 then _ else none) = _
  rw [if_pos ⟨by omega, by omega⟩]
  unfold rngD
  simp
theorem ev_r2 {a : FA} {ρ ρ1 : En} {m n : Int} (h : a ρ = some ([.int m, .int n], ρ1)) (h0 : 0 ≤ m) (h1 : n < 4611686018427387904) (h2 : m < 4611686018427387904) (h3 : 0 ≤ n) : iR2 a ρ = some ((List.range (n - m).toNat).map (fun k : Nat => PyData.int (m + (k : Int))), ρ1) := by
  unfold iR2
  rw [h]
  show (if -(2 ^ 62) ≤ m ∧ m < 2 ^ 62 ∧ -(2 ^ 62) ≤ n ∧ n < 2 ^ 62 then _ else none) = _
  rw [if_pos ⟨by omega, by omega, by omega, by omega⟩]
  rfl
theorem for_nx {it : FA} {tg : FG} {s : FS} {ks : List Nat} {lk : Option Nat} {ρ ρ1 : En} {xs : List D} {o : Option Out} (h : it ρ = some (xs, ρ1)) (h2 : loopF lk xs ks (fun x ρ => (tg x ρ).bind s) xs ρ1 = o) : sFor lk ks it tg s ρ = o := by rw [ev_for, h]; exact h2
theorem mulOk_l {a b : Int} (h : a.natAbs < 18446744073709551616) : mulOk a b = true := by simp [mulOk]; exact .inl (.inl (by omega))
theorem mulOk_r {a b : Int} (h : b.natAbs < 18446744073709551616) : mulOk a b = true := by simp [mulOk]; exact .inl (.inr (by omega))
theorem fmod_abs {a b : Int} (h : 0 < b) : (a.fmod b).natAbs < b.natAbs := by
  have := Int.fmod_nonneg_of_pos a h
  have := Int.fmod_lt_of_pos a h
  omega
/-! ### lending -/
section
variable {i j : Nat} {ρ ρ' : En} {f : FE} {c : Cell} {d e : D} {ds : List D} {ns : List Int}
@[simp] theorem ev_bor : eBor j f ρ = (ownL j ρ).bind fun ds => (f (ρ.set j (.sh (.list ds)))).bind fun p => if noL p.1 = true then (lendB j ds ρ p.2).map fun ρ' => (p.1, ρ') else none := rfl
@[simp] theorem ev_borT {f : FT} : eBorT j f ρ = (ownL j ρ).bind fun ds => (f (ρ.set j (.sh (.list ds)))).bind fun p => (lendB j ds ρ p.2).map fun ρ' => (p.1, ρ') := rfl
@[simp] theorem ev_borN {f : FN} : eBorN j f ρ = (ownL j ρ).bind fun ds => (f (ρ.set j (.sh (.list ds)))).bind fun p => if noLC p.1 = true then (lendB j ds ρ p.2).map fun ρ' => (p.1, ρ') else none := rfl
@[simp] theorem ev_lendB : lendB j ds ρ ρ' = if lentOk (ρ'.set j .dead) ρ = true then some (ρ'.set j (.ol ds)) else none := rfl
@[simp] theorem lent_nil : lentOk [] ρ = true := rfl
@[simp] theorem lent_cons {s : Cell} : lentOk (c :: ρ') (s :: ρ) = ((noLC c || (match c, s :: ρ with | .sh d, .sh e :: _ => beqD d e | _, _ => false)) && lentOk ρ' ρ) := rfl
@[simp] theorem noLC_dead : noLC .dead = true := rfl
@[simp] theorem noLC_sh : noLC (.sh d) = noL d := rfl
@[simp] theorem noLC_ol : noLC (.ol ds) = noLs ds := rfl
@[simp] theorem noL_int {z : Int} : noL (.int z) = true := rfl
@[simp] theorem noL_bool {z : Bool} : noL (.bool z) = true := rfl
@[simp] theorem noL_str {z : Str} : noL (.str z) = true := rfl
@[simp] theorem noL_none : noL .none = true := rfl
@[simp] theorem noL_tup : noL (.tuple ds) = noLs ds := rfl
@[simp] theorem noL_lst : noL (.list ds) = false := rfl
@[simp] theorem noLs_nil : noLs [] = true := rfl
@[simp] theorem noLs_cons : noLs (d :: ds) = (noL d && noLs ds) := rfl
@[simp] theorem noLs_is : noLs (is ns) = true := by
  induction ns with
  | nil => rfl
  | cons n r ih => simp [ih]
@[simp] theorem beqDs_is : beqDs (is ns) (is ns) = true := by
  induction ns with
  | nil => rfl
  | cons n r ih => simp [beqDs, beqD, ih]
@[simp] theorem beqD_lst {es : List D} : beqD (.list ds) (.list es) = beqDs ds es := rfl
end
/-! ### loops -/
theorem loop_cons {lk : Option Nat} {xs0 : List D} {ks : List Nat} {b : D → En → Option Out} {x : D} {r : List D} {ρ ρ' : En} (hl : lockOk lk xs0 (killL ks ρ) = true) (h : b x (killL ks ρ) = some (.nx ρ')) : loopF lk xs0 ks b (x :: r) ρ = loopF lk xs0 ks b r ρ' := by
  conv => lhs; unfold loopF
  rw [if_pos hl, h]
  rfl
theorem loop_cont {lk : Option Nat} {xs0 : List D} {ks : List Nat} {b : D → En → Option Out} {x : D} {r : List D} {ρ ρ' : En} (hl : lockOk lk xs0 (killL ks ρ) = true) (h : b x (killL ks ρ) = some (.ct ρ')) : loopF lk xs0 ks b (x :: r) ρ = loopF lk xs0 ks b r ρ' := by
  conv => lhs; unfold loopF
  rw [if_pos hl, h]
  rfl
theorem loop_brk {lk : Option Nat} {xs0 : List D} {ks : List Nat} {b : D → En → Option Out} {x : D} {r : List D} {ρ ρ' : En} (hl : lockOk lk xs0 (killL ks ρ) = true) (h : b x (killL ks ρ) = some (.bk ρ')) : loopF lk xs0 ks b (x :: r) ρ = some (.nx (killL ks ρ')) := by
  conv => lhs; unfold loopF
  rw [if_pos hl, h]
  rfl
theorem loop_rt {lk : Option Nat} {xs0 : List D} {ks : List Nat} {b : D → En → Option Out} {x : D} {r : List D} {ρ ρ' : En} {c : Cell} (hl : lockOk lk xs0 (killL ks ρ) = true) (h : b x (killL ks ρ) = some (.rt c ρ')) : loopF lk xs0 ks b (x :: r) ρ = some (.rt c ρ') := by
  conv => lhs; unfold loopF
  rw [if_pos hl, h]
  rfl
theorem loop_nil {lk : Option Nat} {xs0 : List D} {ks : List Nat} {b : D → En → Option Out} {ρ : En} (hl : lockOk lk xs0 (killL ks ρ) = true) : loopF lk xs0 ks b [] ρ = some (.nx (killL ks ρ)) := by
  unfold loopF
  rw [if_pos hl]
/-- a loop without a lock by an invariant of the states at its head -/
theorem loop_inv {xs0 : List D} {ks : List Nat} {b : D → En → Option Out} (P : List D → En → Prop) (hstep : ∀ x r ρ, P (x :: r) (killL ks ρ) → ∃ ρ', (b x (killL ks ρ) = some (.nx ρ') ∨ b x (killL ks ρ) = some (.ct ρ')) ∧ P r (killL ks ρ')) :
    ∀ (xs : List D) (ρ : En), P xs (killL ks ρ) → ∃ ρ', loopF none xs0 ks b xs ρ = some (.nx ρ') ∧ P [] ρ' := by
  intro xs
  induction xs with
  | nil => exact fun ρ h => ⟨_, loop_nil rfl, h⟩
  | cons x r ih =>
    intro ρ h
    obtain ⟨ρ', h1, h2⟩ := hstep x r ρ h
    obtain ⟨ρ2, h3, h4⟩ := ih ρ' h2
    refine ⟨ρ2, ?_, h4⟩
    rcases h1 with h1 | h1
    · rw [loop_cons rfl h1, h3]
    · rw [loop_cont rfl h1, h3]
/-- the piece goes on, and then .. -/
def nxt (o : Option Out) (Q : En → Prop) : Prop := match o with
  | some (.nx ρ) => Q ρ
  | some (.ct ρ) => Q ρ
  | _ => False
@[simp] theorem nxt_nx {ρ : En} {Q : En → Prop} : nxt (some (.nx ρ)) Q = Q ρ := rfl
@[simp] theorem nxt_ct {ρ : En} {Q : En → Prop} : nxt (some (.ct ρ)) Q = Q ρ := rfl
theorem nxt_elim {o : Option Out} {Q : En → Prop} (h : nxt o Q) : ∃ ρ, (o = some (.nx ρ) ∨ o = some (.ct ρ)) ∧ Q ρ := by
  unfold nxt at h
  split at h
  · exact ⟨_, .inl rfl, h⟩
  · exact ⟨_, .inr rfl, h⟩
  · exact h.elim
/-- the same over typed items -/
theorem loop_invA {α : Type} (inj : α → D) {xs0 : List D} {ks : List Nat} {b : D → En → Option Out} (P : List α → En → Prop) (hstep : ∀ y r ρ, P (y :: r) (killL ks ρ) → ∃ ρ', (b (inj y) (killL ks ρ) = some (.nx ρ') ∨ b (inj y) (killL ks ρ) = some (.ct ρ')) ∧ P r (killL ks ρ')) :
    ∀ (ys : List α) (ρ : En), P ys (killL ks ρ) → ∃ ρ', loopF none xs0 ks b (ys.map inj) ρ = some (.nx ρ') ∧ P [] ρ' := by
  intro ys
  induction ys with
  | nil => exact fun ρ h => ⟨_, loop_nil rfl, h⟩
  | cons y r ih =>
    intro ρ h
    obtain ⟨ρ', h1, h2⟩ := hstep y r ρ h
    obtain ⟨ρ2, h3, h4⟩ := ih ρ' h2
    refine ⟨ρ2, ?_, h4⟩
    rw [List.map_cons]
    rcases h1 with h1 | h1
    · rw [loop_cons rfl h1, h3]
    · rw [loop_cont rfl h1, h3]
theorem loop_invN {α : Type} (inj : α → D) {xs0 : List D} {ks : List Nat} {b : D → En → Option Out} (P : List α → En → Prop) (hstep : ∀ y r ρ, P (y :: r) ρ → nxt (b (inj y) ρ) (fun ρ' => P r (killL ks ρ')))
    (ys : List α) (ρ : En) (h : P ys (killL ks ρ)) : ∃ ρ', loopF none xs0 ks b (ys.map inj) ρ = some (.nx ρ') ∧ P [] ρ' :=
  loop_invA inj P (fun y r ρ h => nxt_elim (hstep y r _ h)) ys ρ h
/-- a loop whose every turn leaves the state at the head as it was: a row of checks -/
theorem loop_same {α : Type} (inj : α → D) {xs0 : List D} {ks : List Nat} {b : D → En → Option Out} {ρ0 : En} (ys : List α) (h : ∀ y ∈ ys, ∃ ρ', (b (inj y) ρ0 = some (.nx ρ') ∨ b (inj y) ρ0 = some (.ct ρ')) ∧ killL ks ρ' = ρ0) :
    ∀ {ρ : En}, killL ks ρ = ρ0 → loopF none xs0 ks b (ys.map inj) ρ = some (.nx ρ0) := by
  induction ys with
  | nil => intro ρ e; rw [List.map_nil, loop_nil rfl, e]
  | cons y r ih =>
    intro ρ e
    obtain ⟨ρ', h1, h2⟩ := h y (List.mem_cons_self ..)
    rw [List.map_cons]
    rcases h1 with h1 | h1
    · rw [loop_cons rfl (by rw [e]; exact h1), ih (fun z hz => h z (List.mem_cons_of_mem _ hz)) h2]
    · rw [loop_cont rfl (by rw [e]; exact h1), ih (fun z hz => h z (List.mem_cons_of_mem _ hz)) h2]
/-! ### comprehensions -/
theorem comp_mapF {α : Type} (inj : α → D) (p : α → Bool) (F : α → D) {xs0 : List D} {vs : List Nat} {g : FG} {c : FT} {e : FE} {ρ0 : En} : ∀ (ys : List α) (acc : List D) (ρ : En), killL vs ρ = ρ0 → acc.length + ys.length ≤ sizeLine →
    (∀ y ∈ ys, ∃ ρ1 ρ2, g (inj y) ρ0 = some ρ1 ∧ c ρ1 = some (p y, ρ2) ∧ (p y = false → killL vs ρ2 = ρ0) ∧ (p y = true → ∃ ρ3, e ρ2 = some (F y, ρ3) ∧ killL vs ρ3 = ρ0)) →
    compG none xs0 vs g (stp c e) (ys.map inj) acc ρ = some (acc ++ (ys.filter p).map F, ρ0) := by
  intro ys
  induction ys with
  | nil =>
    intro acc ρ e0 _ _
    rw [List.map_nil]
    unfold compG
    rw [if_pos ev_lockn, e0]
    simp
  | cons y r ih =>
    intro acc ρ e0 hl h
    rw [List.length_cons] at hl
    obtain ⟨ρ1, ρ2, h1, h2, h3, h4⟩ := h y (List.mem_cons_self ..)
    have hr := fun z hz => h z (List.mem_cons_of_mem _ hz)
    rw [List.map_cons]
    unfold compG
    rw [if_pos ev_lockn, e0, h1]
    show (stp c e acc ρ1).bind _ = _
    unfold stp
    rw [h2]
    show ((if p y = true then _ else _) : Option (List D × En)).bind _ = _
    cases hp : p y with
    | false =>
      rw [if_neg Bool.false_ne_true]
      show compG none xs0 vs g (stp c e) (r.map inj) acc ρ2 = _
      rw [ih acc ρ2 (h3 hp) (by omega) hr, List.filter_cons_of_neg (by rw [hp]; exact Bool.false_ne_true)]
    | true =>
      obtain ⟨ρ3, h5, h6⟩ := h4 hp
      rw [if_pos rfl, h5]
      show ((if acc.length < sizeLine then _ else _) : Option (List D × En)).bind _ = _
      rw [if_pos (by omega)]
      show compG none xs0 vs g (stp c e) (r.map inj) (acc ++ [F y]) ρ3 = _
      rw [ih _ ρ3 h6 (by rw [List.length_append, List.length_singleton]; omega) hr, List.filter_cons_of_pos hp, List.map_cons, List.append_assoc]
      rfl
theorem ev_comp {α : Type} (inj : α → D) (p : α → Bool) (F : α → D) (ys : List α) {vs : List Nat} {it : FA} {g : FG} {c : FT} {e : FE} {ρ ρi ρ0 : En} (hi : it ρ = some (ys.map inj, ρi)) (h0 : killL vs ρi = ρ0) (hl : ys.length ≤ sizeLine)
    (h : ∀ y ∈ ys, ∃ ρ1 ρ2, g (inj y) ρ0 = some ρ1 ∧ c ρ1 = some (p y, ρ2) ∧ (p y = false → killL vs ρ2 = ρ0) ∧ (p y = true → ∃ ρ3, e ρ2 = some (F y, ρ3) ∧ killL vs ρ3 = ρ0)) (hk : killL vs ρ0 = ρ0 := by rfl) :
    eComp none vs it g c e ρ = some (.ol ((ys.filter p).map F), putB vs ρi ρ0) := by
  unfold eComp
  rw [hi]
  show ((compG none (ys.map inj) vs g (stp c e) (ys.map inj) [] ρi).map _) = _
  rw [comp_mapF inj p F ys [] ρi h0 (by rw [List.length_nil]; omega) h]
  show some (_, putB vs ρi (killL vs ρ0)) = _
  rw [hk]
  rfl
theorem ev_compA {α : Type} (inj : α → D) (F : α → D) (ys : List α) {vs : List Nat} {it : FA} {g : FG} {e : FE} {ρ ρi ρ0 : En} (hi : it ρ = some (ys.map inj, ρi)) (h0 : killL vs ρi = ρ0) (hl : ys.length ≤ sizeLine)
    (h : ∀ y ∈ ys, ∃ ρ1 ρ3, g (inj y) ρ0 = some ρ1 ∧ e ρ1 = some (F y, ρ3) ∧ killL vs ρ3 = ρ0) (hk : killL vs ρ0 = ρ0 := by rfl) :
    eComp none vs it g cYes e ρ = some (.ol (ys.map F), putB vs ρi ρ0) := by
  have := ev_comp inj (fun _ => true) F ys (c := cYes) (e := e) (g := g) hi h0 hl (fun y hy => by
    obtain ⟨ρ1, ρ3, h1, h2, h3⟩ := h y hy
    exact ⟨ρ1, ρ1, h1, rfl, fun z => Bool.noConfusion z, fun _ => ⟨ρ3, h2, h3⟩⟩) hk
  rw [this]
  have : ys.filter (fun _ => true) = ys := List.filter_eq_self.mpr fun _ _ => rfl
  rw [this]
theorem while_step {ks : List Nat} {c : FT} {b : FS} {ρ ρ1 : En} {p : Bool × En} {o : Out} (h1 : c (killL ks ρ) = some p) (h2 : p.1 = true) (h3 : b p.2 = some (.nx ρ1)) (h4 : sWhile ks c b ρ1 = some o) : sWhile ks c b ρ = some o := sWhile_step h1 h2 h3 h4
end L2.Pd

namespace L2.Pd
open PySem PySem.Spec PyProof.Rows
/-! ## Sizes of ints; fractions as pairs -/
def Bd (n : Nat) (z : Int) : Prop := z.natAbs < 2 ^ n
theorem two_le {n m : Nat} (h : n ≤ m) : 2 ^ n ≤ 2 ^ m := Nat.pow_le_pow_right (by decide) h
theorem Bd.mono {n m : Nat} {z : Int} (h : Bd n z) (k : n ≤ m) : Bd m z := Nat.lt_of_lt_of_le h (two_le k)
theorem Bd.mul {n m : Nat} {a b : Int} (h : Bd n a) (k : Bd m b) : Bd (n + m) (a * b) := by
  unfold Bd at *
  rw [Int.natAbs_mul, Nat.pow_add]
  exact Nat.mul_lt_mul_of_lt_of_lt h k
theorem Bd.add {n m : Nat} {a b : Int} (h : Bd n a) (k : Bd m b) : Bd (max n m + 1) (a + b) := by
  unfold Bd at *
  have h1 := two_le (Nat.le_max_left n m)
  have h2 := two_le (Nat.le_max_right n m)
  rw [Nat.pow_succ]
  have := Int.natAbs_add_le a b
  omega
theorem Bd.neg {n : Nat} {a : Int} (h : Bd n a) : Bd n (-a) := by unfold Bd at *; rw [Int.natAbs_neg]; exact h
theorem Bd.sub {n m : Nat} {a b : Int} (h : Bd n a) (k : Bd m b) : Bd (max n m + 1) (a - b) := by rw [Int.sub_eq_add_neg]; exact h.add k.neg
theorem Bd.le {n : Nat} {a b : Int} (h : Bd n a) (k : b.natAbs ≤ a.natAbs) : Bd n b := Nat.lt_of_le_of_lt k h
theorem log2_le {x n : Nat} (h : x < 2 ^ n) : x.log2 ≤ n := by
  by_cases h0 : x = 0
  · subst h0; simp
  · exact Nat.le_of_lt ((Nat.log2_lt h0).mpr h)
theorem Bd.mulOk {n m : Nat} {a b : Int} (h : Bd n a) (k : Bd m b) (e : n + m ≤ 100000000) : mulOk a b = true := by
  have h1 := log2_le h
  have h2 := log2_le k
  unfold Pd.mulOk
  rw [Bool.or_eq_true, decide_eq_true_eq]
  right
  omega
theorem noPy {a b : Int} {n : Nat} (h : Bd n b) (e : n ≤ 8999) : Builtin.divisionGoesByPylong a b = false := by
  have h1 := log2_le h
  unfold Builtin.divisionGoesByPylong
  have : ¬ (if (b == 0) = true then 0 else b.natAbs.log2 / 30 + 1) > 300 := by
    split
    · omega
    · omega
  simp [this]
  intro h2
  exfalso
  apply this
  simp
  exact h2
theorem gcd_le_right' {a b : Int} (h : b ≠ 0) : ((Int.gcd a b : Nat) : Int).natAbs ≤ b.natAbs := by
  rw [Int.natAbs_natCast]
  exact Nat.gcd_le_right _ (by omega)
/-- a fraction in lowest terms -/
def Frq (q : Rat) : D := .tuple [.int q.num, .int q.den]
structure BdQ (n : Nat) (q : Rat) : Prop where
  num : Bd n q.num
  den : Bd n q.den
theorem BdQ.mono {n m : Nat} {q : Rat} (h : BdQ n q) (k : n ≤ m) : BdQ m q := ⟨h.num.mono k, h.den.mono k⟩
theorem fr_pos {a b : Int} (hb : 0 < b) : a.fdiv (Int.gcd a b) = (Rat.divInt a b).num ∧ b.fdiv (Int.gcd a b) = (Rat.divInt a b).den := by
  have hg : (0 : Int) ≤ (Int.gcd a b : Nat) := Int.natCast_nonneg _
  rw [Int.fdiv_eq_ediv_of_nonneg _ hg, Int.fdiv_eq_ediv_of_nonneg _ hg, Rat.num_divInt, Rat.den_divInt, if_neg (by omega), Int.sign_eq_one_of_pos hb, Int.one_mul, Int.gcd_comm b a]
  refine ⟨rfl, ?_⟩
  obtain ⟨n, rfl⟩ := Int.eq_ofNat_of_zero_le (Int.le_of_lt hb)
  simp
theorem fr_neg {a b : Int} (hb : b < 0) : a.fdiv (-(Int.gcd a b : Nat)) = (Rat.divInt a b).num ∧ b.fdiv (-(Int.gcd a b : Nat)) = (Rat.divInt a b).den := by
  have := fr_pos (a := -a) (b := -b) (by omega)
  rw [Rat.neg_divInt_neg, Int.gcd_neg, Int.neg_gcd] at this
  rw [← this.1, ← this.2]
  exact ⟨by rw [← Int.neg_fdiv_neg a, Int.neg_neg], by rw [← Int.neg_fdiv_neg b, Int.neg_neg]⟩
theorem bdq_divInt {n : Nat} {a b : Int} (ha : Bd n a) (hb : Bd n b) (h0 : b ≠ 0) : BdQ n (Rat.divInt a b) := by
  constructor
  · refine ha.le ?_
    rw [Rat.num_divInt]
    refine Nat.le_trans (Int.natAbs_ediv_le_natAbs _ _) ?_
    rw [Int.natAbs_mul]
    have : b.sign.natAbs ≤ 1 := by rw [Int.natAbs_sign_of_ne_zero h0]; omega
    calc b.sign.natAbs * a.natAbs ≤ 1 * a.natAbs := Nat.mul_le_mul_right _ this
      _ = a.natAbs := Nat.one_mul _
  · refine hb.le ?_
    rw [Rat.den_divInt, if_neg h0]
    rw [Int.natAbs_natCast]
    exact Nat.div_le_self _ _
theorem Rat.eqd (q : Rat) : q = Rat.divInt q.num q.den := (Rat.num_divInt_den q).symm
theorem den_pos' (q : Rat) : (0 : Int) < q.den := by have := q.den_pos; omega
theorem bdq_mul {n m : Nat} {x y : Rat} (hx : BdQ n x) (hy : BdQ m y) : BdQ (n + m) (x * y) := by
  rw [Rat.eqd x, Rat.eqd y, Rat.divInt_mul_divInt]
  exact bdq_divInt (hx.num.mul hy.num) (hx.den.mul hy.den) (Int.ne_of_gt (Int.mul_pos (den_pos' x) (den_pos' y)))
theorem bdq_add {n m : Nat} {x y : Rat} (hx : BdQ n x) (hy : BdQ m y) : BdQ (n + m + 1) (x + y) := by
  rw [Rat.eqd x, Rat.eqd y, Rat.divInt_add_divInt _ _ (Int.ne_of_gt (den_pos' x)) (Int.ne_of_gt (den_pos' y))]
  exact bdq_divInt (((hx.num.mul hy.den).add (hy.num.mul hx.den)).mono (by omega)) ((hx.den.mul hy.den).mono (by omega)) (Int.ne_of_gt (Int.mul_pos (den_pos' x) (den_pos' y)))
theorem bdq_sub {n m : Nat} {x y : Rat} (hx : BdQ n x) (hy : BdQ m y) : BdQ (n + m + 1) (x - y) := by
  rw [Rat.eqd x, Rat.eqd y, Rat.divInt_sub_divInt _ _ (Int.ne_of_gt (den_pos' x)) (Int.ne_of_gt (den_pos' y))]
  exact bdq_divInt (((hx.num.mul hy.den).sub (hy.num.mul hx.den)).mono (by omega)) ((hx.den.mul hy.den).mono (by omega)) (Int.ne_of_gt (Int.mul_pos (den_pos' x) (den_pos' y)))
theorem bdq_div {n m : Nat} {x y : Rat} (hx : BdQ n x) (hy : BdQ m y) (h0 : y ≠ 0) : BdQ (n + m) (x / y) := by
  have hn : y.num ≠ 0 := fun e => h0 (Rat.num_eq_zero.mp e)
  rw [Rat.div_def, Rat.eqd x, Rat.eqd y, Rat.inv_divInt, Rat.divInt_mul_divInt]
  exact bdq_divInt (hx.num.mul hy.den) (hx.den.mul hy.num) (Int.mul_ne_zero (Int.ne_of_gt (den_pos' x)) hn)
theorem mul_di (x y : Rat) : x * y = Rat.divInt (x.num * y.num) (x.den * y.den) := by
  conv => lhs; rw [Rat.eqd x, Rat.eqd y, Rat.divInt_mul_divInt]
theorem add_di (x y : Rat) : x + y = Rat.divInt (x.num * y.den + y.num * x.den) (x.den * y.den) := by
  conv => lhs; rw [Rat.eqd x, Rat.eqd y, Rat.divInt_add_divInt _ _ (Int.ne_of_gt (den_pos' x)) (Int.ne_of_gt (den_pos' y))]
theorem sub_di (x y : Rat) : x - y = Rat.divInt (x.num * y.den - y.num * x.den) (x.den * y.den) := by
  conv => lhs; rw [Rat.eqd x, Rat.eqd y, Rat.divInt_sub_divInt _ _ (Int.ne_of_gt (den_pos' x)) (Int.ne_of_gt (den_pos' y))]
theorem div_di (x y : Rat) : x / y = Rat.divInt (x.num * y.den) (x.den * y.num) := by
  conv => lhs; rw [Rat.div_def, Rat.eqd x, Rat.eqd y, Rat.inv_divInt, Rat.divInt_mul_divInt]
/-! two bounds: of the number above, of the number below -/
structure BdR (n d : Nat) (q : Rat) : Prop where
  num : Bd n q.num
  den : Bd d q.den
theorem BdR.mono {n m d e : Nat} {q : Rat} (h : BdR n d q) (k : n ≤ m) (l : d ≤ e) : BdR m e q := ⟨h.num.mono k, h.den.mono l⟩
theorem bdr_divInt {n m : Nat} {a b : Int} (ha : Bd n a) (hb : Bd m b) (h0 : b ≠ 0) : BdR n m (Rat.divInt a b) := by
  constructor
  · refine ha.le ?_
    rw [Rat.num_divInt]
    refine Nat.le_trans (Int.natAbs_ediv_le_natAbs _ _) ?_
    rw [Int.natAbs_mul]
    have : b.sign.natAbs ≤ 1 := by rw [Int.natAbs_sign_of_ne_zero h0]; omega
    calc b.sign.natAbs * a.natAbs ≤ 1 * a.natAbs := Nat.mul_le_mul_right _ this
      _ = a.natAbs := Nat.one_mul _
  · refine hb.le ?_
    rw [Rat.den_divInt, if_neg h0]
    rw [Int.natAbs_natCast]
    exact Nat.div_le_self _ _
section
variable {n d m e : Nat} {x y : Rat}
theorem bdr_mul (hx : BdR n d x) (hy : BdR m e y) : BdR (n + m) (d + e) (x * y) := by
  rw [mul_di]
  exact bdr_divInt (hx.num.mul hy.num) (hx.den.mul hy.den) (Int.ne_of_gt (Int.mul_pos (den_pos' x) (den_pos' y)))
theorem bdr_add (hx : BdR n d x) (hy : BdR m e y) : BdR (max (n + e) (m + d) + 1) (d + e) (x + y) := by
  rw [add_di]
  exact bdr_divInt ((hx.num.mul hy.den).add (hy.num.mul hx.den)) (hx.den.mul hy.den) (Int.ne_of_gt (Int.mul_pos (den_pos' x) (den_pos' y)))
theorem bdr_sub (hx : BdR n d x) (hy : BdR m e y) : BdR (max (n + e) (m + d) + 1) (d + e) (x - y) := by
  rw [sub_di]
  exact bdr_divInt ((hx.num.mul hy.den).sub (hy.num.mul hx.den)) (hx.den.mul hy.den) (Int.ne_of_gt (Int.mul_pos (den_pos' x) (den_pos' y)))
theorem bdr_div (hx : BdR n d x) (hy : BdR m e y) (h0 : y ≠ 0) : BdR (n + e) (d + m) (x / y) := by
  have hn : y.num ≠ 0 := fun e => h0 (Rat.num_eq_zero.mp e)
  rw [div_di]
  exact bdr_divInt (hx.num.mul hy.den) (hx.den.mul hy.num) (Int.mul_ne_zero (Int.ne_of_gt (den_pos' x)) hn)
end
end L2.Pd

namespace L2.Pd
open PySem PySem.Spec PyProof.Rows
/-! ## Slices -/
def cutL {α : Type} (xs : List α) (lo hi : Option Int) : List α := (xs.drop (HT.sIx xs.length 0 lo)).take (HT.sIx xs.length xs.length hi - HT.sIx xs.length 0 lo)
theorem sIx_ge {n d : Nat} {v : Int} (h : 0 ≤ v) : HT.sIx n d (some v) = min v.toNat n := by
  show (if v < 0 then (v + (n : Int)).toNat else min v.toNat n) = _
  rw [if_neg (by omega)]
theorem sIx_lt {n d : Nat} {v : Int} (h : v < 0) : HT.sIx n d (some v) = (v + (n : Int)).toNat := by
  show (if v < 0 then (v + (n : Int)).toNat else min v.toNat n) = _
  rw [if_pos h]
section
variable {α β : Type} {xs : List α}
theorem cutL_to {n : Int} (h : 0 ≤ n) : cutL xs none (some n) = xs.take n.toNat := by
  unfold cutL
  rw [HT.sIx_none, sIx_ge h, List.drop_zero, Nat.sub_zero]
  by_cases k : n.toNat ≤ xs.length
  · rw [Nat.min_eq_left k]
  · rw [Nat.min_eq_right (by omega), List.take_length, List.take_of_length_le (by omega)]
theorem cutL_from {n : Int} (h : 0 ≤ n) : cutL xs (some n) none = xs.drop n.toNat := by
  unfold cutL
  rw [HT.sIx_none, sIx_ge h, List.take_of_length_le (by rw [List.length_drop]; omega)]
  by_cases k : n.toNat ≤ xs.length
  · rw [Nat.min_eq_left k]
  · rw [Nat.min_eq_right (by omega), List.drop_length, List.drop_eq_nil_of_le (by omega)]
theorem cutL_mid {m n : Int} (h : 0 ≤ m) (k : 0 ≤ n) : cutL xs (some m) (some n) = (xs.drop m.toNat).take (n.toNat - m.toNat) := by
  unfold cutL
  rw [sIx_ge h, sIx_ge k]
  by_cases q : m.toNat ≤ xs.length
  · rw [Nat.min_eq_left q]
    by_cases z : n.toNat ≤ xs.length
    · rw [Nat.min_eq_left z]
    · rw [Nat.min_eq_right (by omega), List.take_of_length_le (by rw [List.length_drop]; omega), List.take_of_length_le (by rw [List.length_drop]; omega)]
  · rw [Nat.min_eq_right (a := m.toNat) (by omega), List.drop_length, List.drop_eq_nil_of_le (i := m.toNat) (by omega), List.take_nil, List.take_nil]
theorem cutL_all : cutL xs none none = xs := by
  unfold cutL
  rw [HT.sIx_none, HT.sIx_none, List.drop_zero, Nat.sub_zero, List.take_length]
theorem cutL_dl : cutL xs none (some (-1)) = xs.dropLast := by
  unfold cutL
  rw [HT.sIx_none, sIx_lt (by decide), List.drop_zero, Nat.sub_zero, List.dropLast_eq_take]
  congr 1
  omega
theorem cutL_map (f : α → β) (lo hi : Option Int) : cutL (xs.map f) lo hi = (cutL xs lo hi).map f := by
  unfold cutL
  rw [List.length_map, List.map_take, List.map_drop]
end
theorem cutD_eq (ds : List D) (lo hi : Option Int) : cutD ds lo hi = cutL ds lo hi := rfl
theorem cutD_is (ns : List Int) (lo hi : Option Int) : cutD (is ns) lo hi = is (cutL ns lo hi) := by rw [cutD_eq]; exact cutL_map _ _ _
/-! ## Texts as lists of signs -/
def SL (l : List Nat) : Str := ⟨l.toArray⟩
section
variable {l m : List Nat}
@[simp] theorem SL_len : (SL l).length = l.length := by show l.toArray.size = _; rw [List.size_toArray]
@[simp] theorem SL_app : SL l ++ SL m = SL (l ++ m) := by
  show (⟨l.toArray ++ m.toArray⟩ : Str) = ⟨(l ++ m).toArray⟩
  simp
theorem SL_cut (lo hi : Option Int) : cutS (SL l) lo hi = SL (cutL l lo hi) := by
  unfold cutS cutL SL
  have : (⟨l.toArray⟩ : Str).length = l.length := SL_len
  rw [this]
theorem signsD_SL : signsD (SL l) = l.map (fun c => .str (SL [c])) := rfl
theorem SL_inj : SL l = SL m ↔ l = m := by
  constructor
  · intro h
    have : (SL l).cps.toList = (SL m).cps.toList := by rw [h]
    exact this
  · intro h; rw [h]
theorem SL_beq : (SL l == SL m) = decide (l = m) := by
  by_cases h : l = m
  · subst h; rw [decide_eq_true rfl]; exact beq_self_eq_true _
  · rw [decide_eq_false h, beq_eq_false_iff_ne]; exact fun z => h (SL_inj.mp z)
theorem strOk_SL (h : ∀ c ∈ l, c < 0x110000) : PyData.strOk (SL l) = true := by
  unfold PyData.strOk SL
  rw [List.all_toArray, List.all_eq_true]
  intro c hc
  exact decide_eq_true (h c hc)
theorem dIx_SL (h : l.length ≤ 16777216) (i : Int) : dIx (.str (SL l)) (.int i) = (atI l i).map fun c => .str (SL [c]) := by
  show (if (SL l).length ≤ sizeLine then (atI (SL l).cps.toList i).map fun c => PyData.str ⟨#[c]⟩ else none) = _
  rw [SL_len, if_pos (show l.length ≤ sizeLine from h)]
  rfl
@[simp] theorem revS_SL : revS (SL l) = SL l.reverse := by
  unfold revS SL
  simp
theorem bEq_SL (h : PyData.strOk (SL l) = true) (k : PyData.strOk (SL m) = true) : bEq (.str (SL l)) (.str (SL m)) = some (decide (l = m)) := by
  rw [ev_eq (by rw [ev_okD]; simp [h]) (by rw [ev_okD]; simp [k]), eqv_SS, SL_beq]
theorem bNe_SL (h : PyData.strOk (SL l) = true) (k : PyData.strOk (SL m) = true) : bNe (.str (SL l)) (.str (SL m)) = some (!decide (l = m)) := by
  unfold bNe
  rw [ev_okD, ev_okD]
  simp [h, k, SL_beq]
theorem ofString_SL (s : String) : (Str.ofString s) = SL (Str.ofString s).cps.toList := rfl
end
open TL in
theorem joinL_nil : ∀ ls : List (List Nat), joinL [] ls = ls.flatten
  | [] => rfl
  | [p] => by show p = _; simp
  | p :: q :: r => by
    show p ++ ([] ++ joinL [] (q :: r)) = _
    rw [joinL_nil (q :: r), List.nil_append, ← List.flatten_cons]
open TL in
theorem join_SL (ls : List (List Nat)) : Txt.join "" (ls.map SL) = SL ls.flatten := by
  refine ext_tl ?_
  rw [show Txt.join "" (ls.map SL) = Str.join "" (ls.map SL) from StrLaws.glued_eq_join ..]
  rw [tl_join, List.map_map]
  show joinL [] (ls.map fun l => tl (SL l)) = _
  rw [joinL_nil]
  have : ls.map (fun l => tl (SL l)) = ls := by
    conv => rhs; rw [← List.map_id' ls]
    rfl
  rw [this]
  rfl
theorem strsOf_map {α : Type} (f : α → Str) : ∀ l : List α, strsOf (l.map fun a => .str (f a)) = some (l.map f)
  | [] => rfl
  | a :: r => by rw [List.map_cons, strsOf, strsOf_map f r]; rfl
theorem sum_lens (ls : List (List Nat)) : ((ls.map SL).map (·.length)).sum = ls.flatten.length := by
  rw [List.map_map, List.length_flatten]
  refine congrArg List.sum (List.map_congr_left fun l _ => ?_)
  exact SL_len
/-- ''.join of texts -/
theorem sJoin_SL (ls : List (List Nat)) (h : ls.flatten.length ≤ 16777216) : sJoin "" [.list (ls.map fun l => .str (SL l))] = some (.str (SL ls.flatten)) := by
  show (strsOf (ls.map fun l => .str (SL l))).bind (joinS "") = _
  rw [strsOf_map]
  show joinS "" (ls.map SL) = _
  unfold joinS
  have e0 : (Str.ofString "").length = 0 := rfl
  rw [sum_lens, e0, Nat.mul_zero, Nat.add_zero, if_pos h, join_SL]
theorem atI_map {α β : Type} (f : α → β) (xs : List α) (i : Int) : atI (xs.map f) i = (atI xs i).map f := by
  unfold atI
  rw [List.length_map]
  cases h : ixN xs.length i with
  | none => rfl
  | some j => show (xs.map f)[j]? = (xs[j]?).map f; exact List.getElem?_map
theorem atI_lt {α : Type} {xs : List α} {j : Nat} (h : j < xs.length) : atI xs (j : Int) = some xs[j] := atI_nat (List.getElem?_eq_getElem h)
/-! ## range(n, -1, -1) -/
theorem small_dn (n : Nat) (h1 : (n : Int) < 2 ^ 62) : Builtin.Range.small (n : Int) (-1) (-1) = true := PySem.W.small_down (by omega) h1 (by omega) (by omega)
theorem size_dn (n : Nat) : Builtin.Range.rangeSize (n : Int) (-1) (-1) = (n : Int) + 1 := by
  rw [PySem.W.rangeSize_down, if_pos (by omega)]
  omega
theorem rngC_dn (n : Nat) : rngC (n : Int) (-1) (n + 1) = (List.range (n + 1)).map (fun k : Nat => PyData.int ((n : Int) - (k : Int))) := by
  unfold rngC
  refine List.map_congr_left fun k _ => congrArg PyData.int ?_
  rw [Int.mul_neg_one, Int.sub_eq_add_neg]
theorem iR3_some {a : FA} {ρ ρ1 : En} {i j c : Int} (h : a ρ = some ([.int i, .int j, .int c], ρ1)) (h0 : c ≠ 0) (h1 : c.natAbs < 1073741824) (h2 : Builtin.Range.small i j c = true) : iR3 a ρ = some (rngC i c (Builtin.Range.rangeSize i j c).toNat, ρ1) := by
  unfold iR3
  rw [h]
  exact if_pos ⟨h0, h1, h2⟩
theorem ev_r3down {a : FA} {ρ ρ1 : En} {n : Nat} (h : a ρ = some ([.int (n : Int), .int (-1), .int (-1)], ρ1)) (h1 : (n : Int) < 2 ^ 62) : iR3 a ρ = some ((List.range (n + 1)).map (fun k : Nat => PyData.int ((n : Int) - (k : Int))), ρ1) := by
  rw [iR3_some h (by omega) (by omega) (small_dn n h1), size_dn, ← rngC_dn]
  congr 2
theorem range_down (n : Nat) {β : Type} (f : Int → β) : (List.range (n + 1)).map (fun k : Nat => f ((n : Int) - (k : Int))) = f n :: (List.range n).map (fun k : Nat => f ((n : Int) - 1 - (k : Int))) := by
  rw [List.range_succ_eq_map, List.map_cons, List.map_map]
  have h0 : f ((n : Int) - ((0 : Nat) : Int)) = f n := by congr 1
  rw [h0]
  refine congrArg _ (List.map_congr_left fun k _ => ?_)
  show f ((n : Int) - ((k + 1 : Nat) : Int)) = _
  congr 1
  omega
end L2.Pd

namespace L2.Pd
open PySem PySem.Spec PyProof.Rows
/-! ## sorted(ints) -/
def isort (ns : List Int) : List Int := ns.mergeSort (fun a b => decide (a ≤ b))
theorem dataLe_int (a b : Int) : PySem.W.dataLe false id (PyData.int a) (.int b) = decide (a ≤ b) := by
  show (!lexLt itemOrd [.inl b] [.inl a]) = _
  rw [lex_cons]
  show (!(decide (b < a) || (!decide (a < b) && false))) = _
  rw [Bool.and_false, Bool.or_false]
  by_cases h : a ≤ b
  · rw [decide_eq_true h, decide_eq_false (by omega)]; rfl
  · rw [decide_eq_false h, decide_eq_true (by omega)]; rfl
theorem sortD_is (ns : List Int) : sortD (is ns) = is (isort ns) := by
  unfold sortD is isort
  rw [List.map_mergeSort (s := PySem.W.dataLe false id)]
  intro a _ b _
  exact (dataLe_int a b).symm
theorem sortB_is (ns : List Int) : sortB (is ns) = true := by
  have h1 : ∀ d ∈ is ns, ∃ z : Int, d = .int z := fun d hd => by
    obtain ⟨z, _, rfl⟩ := List.mem_map.mp hd
    exact ⟨z, rfl⟩
  unfold sortB alikeB
  rw [Bool.and_eq_true, Bool.and_eq_true, Bool.and_eq_true, Bool.or_eq_true]
  refine ⟨⟨⟨List.all_eq_true.mpr fun d hd => List.all_eq_true.mpr fun e he => ?_, List.all_eq_true.mpr fun d hd => ?_⟩, List.all_eq_true.mpr fun d hd => ?_⟩, .inr (List.all_eq_true.mpr fun d hd => ?_)⟩
  · obtain ⟨z, rfl⟩ := h1 d hd
    obtain ⟨y, rfl⟩ := h1 e he
    rfl
  all_goals (obtain ⟨z, rfl⟩ := h1 d hd; rfl)
@[simp] theorem cSorted_is (ns : List Int) : cSorted [.list (is ns)] = some (.ol (is (isort ns))) := by
  show (if sortB (is ns) = true then some (Cell.ol (sortD (is ns))) else none) = _
  rw [if_pos (sortB_is ns), sortD_is]
theorem isort_perm (ns : List Int) : (isort ns).Perm ns := List.mergeSort_perm ns _
theorem isort_pw (ns : List Int) : (isort ns).Pairwise (· ≤ ·) := by
  have := List.pairwise_mergeSort (le := fun a b : Int => decide (a ≤ b)) (fun a b c h1 h2 => by simp at *; omega) (fun a b => by simp; omega) ns
  refine this.imp fun {a b} h => ?_
  simpa using h
theorem isort_len (ns : List Int) : (isort ns).length = ns.length := (isort_perm ns).length_eq
/-! ## comprehensions that draw -/
theorem compG_cons {xs0 : List D} {vs : List Nat} {g : FG} {st : List D → En → Option (List D × En)} {x : D} {r acc acc' : List D} {ρ ρ1 ρ2 : En} (h1 : g x (killL vs ρ) = some ρ1) (h2 : st acc ρ1 = some (acc', ρ2)) :
    compG none xs0 vs g st (x :: r) acc ρ = compG none xs0 vs g st r acc' ρ2 := by
  rw [compG, if_pos (show lockOk none xs0 (killL vs ρ) = true from rfl), h1]
  show (st acc ρ1).bind _ = _
  rw [h2]
  rfl
theorem stp_yes {c : FT} {e : FE} {acc : List D} {ρ ρ1 ρ2 : En} {d : D} (h1 : c ρ = some (true, ρ1)) (h2 : e ρ1 = some (d, ρ2)) (h3 : acc.length < sizeLine) : stp c e acc ρ = some (acc ++ [d], ρ2) := by
  unfold stp
  rw [h1, Option.bind_some, if_pos (show (true, ρ1).1 = true from rfl), h2, Option.bind_some, if_pos h3]
theorem ev_compS {vs : List Nat} {it : FA} {g : FG} {c : FT} {e : FE} {ρ ρi ρz : En} {xs out : List D} (hi : it ρ = some (xs, ρi)) (h : compG none xs vs g (stp c e) xs [] ρi = some (out, ρz)) : eComp none vs it g c e ρ = some (.ol out, putB vs ρi (killL vs ρz)) := by
  unfold eComp
  rw [hi]
  show ((compG none xs vs g (stp c e) xs [] ρi).map _) = _
  rw [h]
  rfl
theorem ev_compD {α β σ : Type} (inj : α → D) (enc : β → D) (P : β → Prop) (S : σ → En) {vs : List Nat} {it : FA} {g : FG} {e : FE} {ρ ρi : En} {ks : List α} {ds : σ} (hi : it ρ = some (ks.map inj, ρi)) (h0 : killL vs ρi = S ds) (hk : ∀ ds, killL vs (S ds) = S ds)
    (hstep : ∀ (k : α) (ds : σ), k ∈ ks → ∃ (y : β) (ds' : σ) (ρ1 ρ2 : En), P y ∧ g (inj k) (S ds) = some ρ1 ∧ e ρ1 = some (enc y, ρ2) ∧ killL vs ρ2 = S ds') (hl : ks.length ≤ sizeLine) :
    ∃ (ys : List β) (ds' : σ), ys.length = ks.length ∧ (∀ y ∈ ys, P y) ∧ eComp none vs it g cYes e ρ = some (.ol (ys.map enc), putB vs ρi (S ds')) := by
  have lp : ∀ (r : List α) (acc : List D) (ρ : En) (ds : σ), (∀ k ∈ r, k ∈ ks) → acc.length + r.length ≤ sizeLine → killL vs ρ = S ds → ∃ (ys : List β) (ds' : σ) (ρz : En), ys.length = r.length ∧ (∀ y ∈ ys, P y) ∧ killL vs ρz = S ds' ∧
      compG none (ks.map inj) vs g (stp cYes e) (r.map inj) acc ρ = some (acc ++ ys.map enc, ρz) := by
    intro r
    induction r with
    | nil =>
      intro acc ρ ds _ _ h
      refine ⟨[], ds, killL vs ρ, rfl, fun y hy => absurd hy List.not_mem_nil, by rw [h, hk], ?_⟩
      rw [List.map_nil, compG, if_pos (show lockOk none (ks.map inj) (killL vs ρ) = true from rfl), List.map_nil, List.append_nil]
    | cons k r ih =>
      intro acc ρ ds hm hlen h
      rw [List.length_cons] at hlen
      obtain ⟨y, ds1, ρ1, ρ2, hp, hg, he, hkl⟩ := hstep k ds (hm k List.mem_cons_self)
      obtain ⟨ys, ds2, ρz, h1, h2, h3, h4⟩ := ih (acc ++ [enc y]) ρ2 ds1 (fun z hz => hm z (List.mem_cons_of_mem _ hz)) (by rw [List.length_append, List.length_singleton]; omega) hkl
      refine ⟨y :: ys, ds2, ρz, by rw [List.length_cons, h1, List.length_cons], fun z hz => ?_, h3, ?_⟩
      · rcases List.mem_cons.mp hz with rfl | hz
        · exact hp
        · exact h2 z hz
      · rw [List.map_cons, compG_cons (by rw [h]; exact hg) (stp_yes rfl he (by omega)), h4, List.map_cons, List.append_assoc]
        rfl
  obtain ⟨ys, ds', ρz, h1, h2, h3, h4⟩ := lp ks [] ρi ds (fun _ h => h) (by rw [List.length_nil]; omega) h0
  exact ⟨ys, ds', h1, h2, by rw [ev_compS hi h4, h3]; rfl⟩
/-! ## hidden loops -/
theorem for_hx {l : FS} {it : FA} {tg : FG} {s : FS} {ks : List Nat} {lk : Option Nat} {ρ ρ1 : En} {xs : List D} {o : Option Out} (hl : l = sFor lk ks it tg s) (h : it ρ = some (xs, ρ1)) (h2 : loopF lk xs ks (fun x ρ => (tg x ρ).bind s) xs ρ1 = o) : l ρ = o := by rw [hl]; exact for_nx h h2
theorem bind_gnm {i : Nat} {d : D} {ρ : En} {b : FS} : (gNm i d ρ).bind b = b (ρ.set i (.sh d)) := rfl
/-! ## numbers -/
theorem pow2_pos (n : Nat) : (0 : Int) < 2 ^ n := Int.pow_pos (by decide)
theorem bd_pow (n : Nat) : Bd (n + 1) (2 ^ n) := by
  unfold Bd
  rw [Int.natAbs_pow]
  exact Nat.pow_lt_pow_right (by decide) (by omega)
theorem bd_bits {z : Int} {n : Nat} (h : Builtin.Int.intBits z ≤ n) : Bd n z := by
  unfold Builtin.Int.intBits at h
  unfold Bd
  by_cases h0 : z = 0
  · subst h0; exact Nat.two_pow_pos n
  · rw [if_neg (by simpa using h0)] at h
    exact (Nat.log2_lt (by omega)).mp (by omega)
theorem least_of {P : Nat → Prop} : ∀ n, P n → ∃ m, m ≤ n ∧ P m ∧ ∀ k, k < m → ¬ P k := by
  intro n
  induction n using Nat.strongRecOn with
  | _ n ih =>
    intro h
    by_cases q : ∃ k, k < n ∧ P k
    · obtain ⟨k, hk, hp⟩ := q
      obtain ⟨m, h1, h2, h3⟩ := ih k hk hp
      exact ⟨m, by omega, h2, h3⟩
    · exact ⟨n, Nat.le_refl _, h, fun k hk hp => q ⟨k, hk, hp⟩⟩
theorem loop_same' {xs0 : List D} {ks : List Nat} {b : D → En → Option Out} {ρ0 ρ : En} (ys : List D) (h : ∀ y ∈ ys, ∃ ρ', (b y ρ0 = some (.nx ρ') ∨ b y ρ0 = some (.ct ρ')) ∧ killL ks ρ' = ρ0) (e : killL ks ρ = ρ0) : loopF none xs0 ks b ys ρ = some (.nx ρ0) := by
  have := loop_same (fun d : D => d) (xs0 := xs0) ys h e
  rwa [List.map_id'] at this
theorem pick {zs : List Int} {r : Int} (h0 : 0 ≤ r) (h1 : r < zs.length) : ∃ z ∈ zs, atI (is zs) r = some (.int z) := ⟨_, List.getElem_mem _, by
  refine atI_in h0 ?_
  rw [is_get, List.getElem?_eq_getElem (by omega : r.toNat < zs.length)]
  rfl⟩
theorem repOk_ok {n : Nat} {k : Int} (h0 : -(2 ^ 62) ≤ k) (h1 : k < 2 ^ 62) (h : n * k.toNat ≤ 16777216) : repOk n k = true := by
  unfold repOk
  rw [decide_eq_true_eq]
  exact ⟨h0, h1, h⟩
theorem mul_SL (l : List Nat) {n : Int} (h : 0 ≤ n) : Txt.mul (SL l) n = SL (List.replicate n.toNat l).flatten := by
  unfold Txt.mul
  by_cases h1 : n < 1
  · rw [if_pos h1, show n.toNat = 0 by omega]
    rfl
  · rw [if_neg h1]
    have e : ∀ (m : Nat) (acc : List Nat), (List.replicate m (SL l).cps).foldl (· ++ ·) acc.toArray = (acc ++ (List.replicate m l).flatten).toArray := by
      intro m
      induction m with
      | zero => intro acc; simp
      | succ m ih =>
        intro acc
        rw [List.replicate_succ, List.foldl_cons]
        have : acc.toArray ++ (SL l).cps = (acc ++ l).toArray := by unfold SL; simp
        rw [this, ih, List.replicate_succ, List.flatten_cons, List.append_assoc]
    have e0 := e n.toNat []
    by_cases h2 : (n == 1 || (SL l).length == 0) = true
    · rw [if_pos h2]
      rw [Bool.or_eq_true] at h2
      rcases h2 with h2 | h2
      · have : n = 1 := eq_of_beq h2
        subst this
        show SL l = SL (List.replicate 1 l).flatten
        simp
      · have : l = [] := by
          have := eq_of_beq h2
          rw [SL_len] at this
          exact List.eq_nil_of_length_eq_zero this
        subst this
        congr 1
        generalize n.toNat = m
        induction m with
        | zero => rfl
        | succ m ih => rw [List.replicate_succ, List.flatten_cons, ← ih]; rfl
    · rw [if_neg h2]
      unfold SL
      congr 1
/-- a loop that may hand back one thing on the way: a fold that may stop -/
theorem loop_opt {α σ : Type} (inj : α → D) (S : σ → En) (step : α → σ → Option σ) (c : Cell) {xs0 : List D} {ks : List Nat} {b : D → En → Option Out} (P : σ → Prop) (Q : α → Prop)
    (hk : ∀ s, killL ks (S s) = S s)
    (hn : ∀ y s s', P s → Q y → step y s = some s' → P s' ∧ ∃ ρ', (b (inj y) (S s) = some (.nx ρ') ∨ b (inj y) (S s) = some (.ct ρ')) ∧ killL ks ρ' = S s')
    (hr : ∀ y s, P s → Q y → step y s = none → ∃ ρ', b (inj y) (S s) = some (.rt c ρ')) :
    ∀ (ys : List α) (ρ : En) (s : σ), (∀ y ∈ ys, Q y) → P s → killL ks ρ = S s →
      (∀ s', ys.foldlM (fun s y => step y s) s = some s' → P s' ∧ loopF none xs0 ks b (ys.map inj) ρ = some (.nx (S s'))) ∧
      (ys.foldlM (fun s y => step y s) s = none → ∃ ρ', loopF none xs0 ks b (ys.map inj) ρ = some (.rt c ρ')) := by
  intro ys
  induction ys with
  | nil =>
    intro ρ s _ hP e
    refine ⟨fun s' h => ?_, fun h => by cases h⟩
    cases h
    exact ⟨hP, by rw [List.map_nil, loop_nil rfl, e]⟩
  | cons y r ih =>
    intro ρ s hq hP e
    rw [List.foldlM_cons]
    cases hs : step y s with
    | none =>
      obtain ⟨ρ', h⟩ := hr y s hP (hq y List.mem_cons_self) hs
      refine ⟨fun s' h => (by cases h), fun _ => ⟨ρ', ?_⟩⟩
      rw [List.map_cons]
      exact loop_rt rfl (by rw [e]; exact h)
    | some s1 =>
      obtain ⟨hP1, ρ', h, h2⟩ := hn y s s1 hP (hq y List.mem_cons_self) hs
      have hh : loopF none xs0 ks b ((y :: r).map inj) ρ = loopF none xs0 ks b (r.map inj) ρ' := by
        rw [List.map_cons]
        rcases h with h | h
        · exact loop_cons rfl (by rw [e]; exact h)
        · exact loop_cont rfl (by rw [e]; exact h)
      rw [hh]
      exact ih ρ' s1 (fun z hz => hq z (List.mem_cons_of_mem _ hz)) hP1 h2
end L2.Pd

namespace L2.Pd
open PySem PySem.Spec PyProof.Rows
@[simp] theorem ev_par3 {i j l : Nat} {a : FA} {ρ : En} : sPar3 i j l a ρ = (a ρ).bind fun p => match p.1 with
  | [d, e, g] => some (.nx (((p.2.set i (.sh d)).set j (.sh e)).set l (.sh g)))
  | _ => none := rfl
/-! ### comprehensions of two clauses -/
theorem comp2_mapF {α β : Type} (inj : α → D) (inj1 : β → D) (p : α → Bool) (Z : α → List β) (p1 : α → β → Bool) (F : α → β → D) {xs0 : List D} {vs vs1 : List Nat} {it1 : FA} {g g1 : FG} {c c1 : FT} {e : FE} {ρ0 : En} : ∀ (ys : List α) (acc : List D) (ρ : En), killL vs ρ = ρ0 → acc.length + ((ys.filter p).flatMap Z).length ≤ sizeLine →
    (∀ y ∈ ys, ∃ ρ1 ρ2, g (inj y) ρ0 = some ρ1 ∧ c ρ1 = some (p y, ρ2) ∧ (p y = false → killL vs ρ2 = ρ0) ∧ (p y = true → ∃ ρ3 ρh, it1 ρ2 = some ((Z y).map inj1, ρ3) ∧ killL vs1 ρ3 = ρh ∧ killL vs ρh = ρ0 ∧
      ∀ z ∈ Z y, ∃ ρ4 ρ5, g1 (inj1 z) ρh = some ρ4 ∧ c1 ρ4 = some (p1 y z, ρ5) ∧ (p1 y z = false → killL vs1 ρ5 = ρh) ∧ (p1 y z = true → ∃ ρ6, e ρ5 = some (F y z, ρ6) ∧ killL vs1 ρ6 = ρh))) →
    compG none xs0 vs g (stp2 c none vs1 it1 g1 c1 e) (ys.map inj) acc ρ = some (acc ++ (ys.filter p).flatMap (fun y => ((Z y).filter (p1 y)).map (F y)), ρ0) := by
  intro ys
  induction ys with
  | nil =>
    intro acc ρ e0 _ _
    rw [List.map_nil]
    unfold compG
    rw [if_pos ev_lockn, e0]
    simp
  | cons y r ih =>
    intro acc ρ e0 hl h
    obtain ⟨ρ1, ρ2, h1, h2, h3, h4⟩ := h y (List.mem_cons_self ..)
    have hr := fun z hz => h z (List.mem_cons_of_mem _ hz)
    rw [List.map_cons]
    unfold compG
    rw [if_pos ev_lockn, e0, h1]
    show (stp2 c none vs1 it1 g1 c1 e acc ρ1).bind _ = _
    unfold stp2
    rw [h2]
    show ((if p y = true then _ else _) : Option (List D × En)).bind _ = _
    cases hp : p y with
    | false =>
      rw [List.filter_cons_of_neg (by rw [hp]; exact Bool.false_ne_true)] at hl ⊢
      rw [if_neg Bool.false_ne_true]
      show compG none xs0 vs g (stp2 c none vs1 it1 g1 c1 e) (r.map inj) acc ρ2 = _
      rw [ih acc ρ2 (h3 hp) hl hr]
    | true =>
      rw [List.filter_cons_of_pos hp, List.flatMap_cons] at hl
      rw [List.filter_cons_of_pos hp, List.flatMap_cons]
      rw [List.length_append] at hl
      obtain ⟨ρ3, ρh, h5, h6, h7, h8⟩ := h4 hp
      rw [if_pos rfl, h5]
      show ((compG none ((Z y).map inj1) vs1 g1 (stp c1 e) ((Z y).map inj1) acc ρ3)).bind _ = _
      rw [comp_mapF inj1 (p1 y) (F y) (Z y) acc ρ3 h6 (by omega) h8]
      show compG none xs0 vs g (stp2 c none vs1 it1 g1 c1 e) (r.map inj) (acc ++ ((Z y).filter (p1 y)).map (F y)) ρh = _
      have hfl : ((Z y).filter (p1 y)).length ≤ (Z y).length := List.length_filter_le _ _
      rw [ih _ ρh h7 (by rw [List.length_append, List.length_map]; omega) hr, List.append_assoc]
theorem ev_comp2 {α β : Type} (inj : α → D) (inj1 : β → D) (p : α → Bool) (Z : α → List β) (p1 : α → β → Bool) (F : α → β → D) (ys : List α) {vs vs1 : List Nat} {it it1 : FA} {g g1 : FG} {c c1 : FT} {e : FE} {ρ ρi ρ0 : En} (hi : it ρ = some (ys.map inj, ρi)) (h0 : killL vs ρi = ρ0) (hl : ((ys.filter p).flatMap Z).length ≤ sizeLine)
    (h : ∀ y ∈ ys, ∃ ρ1 ρ2, g (inj y) ρ0 = some ρ1 ∧ c ρ1 = some (p y, ρ2) ∧ (p y = false → killL vs ρ2 = ρ0) ∧ (p y = true → ∃ ρ3 ρh, it1 ρ2 = some ((Z y).map inj1, ρ3) ∧ killL vs1 ρ3 = ρh ∧ killL vs ρh = ρ0 ∧
      ∀ z ∈ Z y, ∃ ρ4 ρ5, g1 (inj1 z) ρh = some ρ4 ∧ c1 ρ4 = some (p1 y z, ρ5) ∧ (p1 y z = false → killL vs1 ρ5 = ρh) ∧ (p1 y z = true → ∃ ρ6, e ρ5 = some (F y z, ρ6) ∧ killL vs1 ρ6 = ρh))) (hk : killL vs ρ0 = ρ0 := by rfl) :
    eComp2 none vs it g c none vs1 it1 g1 c1 e ρ = some (.ol ((ys.filter p).flatMap (fun y => ((Z y).filter (p1 y)).map (F y))), putB vs ρi ρ0) := by
  unfold eComp2
  rw [hi]
  show ((compG none (ys.map inj) vs g (stp2 c none vs1 it1 g1 c1 e) (ys.map inj) [] ρi).map _) = _
  rw [comp2_mapF inj inj1 p Z p1 F ys [] ρi h0 (by rw [List.length_nil]; omega) h]
  show some (_, putB vs ρi (killL vs ρ0)) = _
  rw [hk]
  rfl
theorem fil_t {α : Type} (l : List α) : l.filter (fun _ => true) = l := List.filter_eq_self.mpr fun _ _ => rfl
/-- both clauses without tests -/
theorem ev_comp2A {α β : Type} (inj : α → D) (inj1 : β → D) (Z : α → List β) (F : α → β → D) (ys : List α) {vs vs1 : List Nat} {it it1 : FA} {g g1 : FG} {e : FE} {ρ ρi ρ0 : En} (hi : it ρ = some (ys.map inj, ρi)) (h0 : killL vs ρi = ρ0) (hl : (ys.flatMap Z).length ≤ sizeLine)
    (h : ∀ y ∈ ys, ∃ ρ1 ρ3 ρh, g (inj y) ρ0 = some ρ1 ∧ it1 ρ1 = some ((Z y).map inj1, ρ3) ∧ killL vs1 ρ3 = ρh ∧ killL vs ρh = ρ0 ∧
      ∀ z ∈ Z y, ∃ ρ4 ρ6, g1 (inj1 z) ρh = some ρ4 ∧ e ρ4 = some (F y z, ρ6) ∧ killL vs1 ρ6 = ρh) (hk : killL vs ρ0 = ρ0 := by rfl) :
    eComp2 none vs it g cYes none vs1 it1 g1 cYes e ρ = some (.ol (ys.flatMap (fun y => (Z y).map (F y))), putB vs ρi ρ0) := by
  have := ev_comp2 inj inj1 (fun _ => true) Z (fun _ _ => true) F ys (c := cYes) (c1 := cYes) (e := e) (g := g) (g1 := g1) (vs1 := vs1) (it1 := it1) hi h0 (by rw [fil_t]; exact hl) (fun y hy => by
    obtain ⟨ρ1, ρ3, ρh, h1, h2, h3, h4, h5⟩ := h y hy
    exact ⟨ρ1, ρ1, h1, rfl, fun z => Bool.noConfusion z, fun _ => ⟨ρ3, ρh, h2, h3, h4, fun z hz => by
      obtain ⟨ρ4, ρ6, k1, k2, k3⟩ := h5 z hz
      exact ⟨ρ4, ρ4, k1, rfl, fun z => Bool.noConfusion z, fun _ => ⟨ρ6, k2, k3⟩⟩⟩⟩) hk
  rw [this, fil_t]
  congr 3
  refine congrArg (fun f => List.flatMap f ys) (funext fun y => ?_)
  rw [fil_t]
theorem loop_find {α : Type} (inj : α → D) (test : α → Bool) (out : α → Cell) {xs0 : List D} {ks : List Nat} {b : D → En → Option Out} {ρ0 : En} (Q : α → Prop)
    (hy : ∀ y, Q y → test y = true → ∃ ρ', b (inj y) ρ0 = some (.rt (out y) ρ'))
    (hn : ∀ y, Q y → test y = false → ∃ ρ', (b (inj y) ρ0 = some (.nx ρ') ∨ b (inj y) ρ0 = some (.ct ρ')) ∧ killL ks ρ' = ρ0) :
    ∀ (ys : List α) (ρ : En), (∀ y ∈ ys, Q y) → killL ks ρ = ρ0 →
      (∀ y, ys.find? test = some y → ∃ ρ', loopF none xs0 ks b (ys.map inj) ρ = some (.rt (out y) ρ')) ∧
      (ys.find? test = none → loopF none xs0 ks b (ys.map inj) ρ = some (.nx ρ0)) := by
  intro ys
  induction ys with
  | nil => intro ρ _ e; exact ⟨fun y h => (by cases h), fun _ => by rw [List.map_nil, loop_nil rfl, e]⟩
  | cons y r ih =>
    intro ρ hq e
    rw [List.find?_cons, List.map_cons]
    cases ht : test y with
    | true =>
      obtain ⟨ρ', h⟩ := hy y (hq y List.mem_cons_self) ht
      refine ⟨fun z hz => ?_, fun h => (by cases h)⟩
      cases hz
      exact ⟨ρ', loop_rt rfl (by rw [e]; exact h)⟩
    | false =>
      obtain ⟨ρ', h, h2⟩ := hn y (hq y List.mem_cons_self) ht
      have hh : loopF none xs0 ks b (inj y :: r.map inj) ρ = loopF none xs0 ks b (r.map inj) ρ' := by
        rcases h with h | h
        · exact loop_cons rfl (by rw [e]; exact h)
        · exact loop_cont rfl (by rw [e]; exact h)
      rw [hh]
      exact ih ρ' (fun z hz => hq z (List.mem_cons_of_mem _ hz)) h2
theorem loop_findB {α : Type} (inj : α → D) (test : α → Bool) (out : α → En) {xs0 : List D} {ks : List Nat} {b : D → En → Option Out} {ρ0 : En} (Q : α → Prop)
    (hy : ∀ y, Q y → test y = true → ∃ ρ', b (inj y) ρ0 = some (.bk ρ') ∧ killL ks ρ' = out y)
    (hn : ∀ y, Q y → test y = false → ∃ ρ', (b (inj y) ρ0 = some (.nx ρ') ∨ b (inj y) ρ0 = some (.ct ρ')) ∧ killL ks ρ' = ρ0) :
    ∀ (ys : List α) (ρ : En), (∀ y ∈ ys, Q y) → killL ks ρ = ρ0 →
      (∀ y, ys.find? test = some y → loopF none xs0 ks b (ys.map inj) ρ = some (.nx (out y))) ∧
      (ys.find? test = none → loopF none xs0 ks b (ys.map inj) ρ = some (.nx ρ0)) := by
  intro ys
  induction ys with
  | nil => intro ρ _ e; exact ⟨fun y h => (by cases h), fun _ => by rw [List.map_nil, loop_nil rfl, e]⟩
  | cons y r ih =>
    intro ρ hq e
    rw [List.find?_cons, List.map_cons]
    cases ht : test y with
    | true =>
      obtain ⟨ρ', h, h2⟩ := hy y (hq y List.mem_cons_self) ht
      refine ⟨fun z hz => ?_, fun h => (by cases h)⟩
      cases hz
      exact (loop_brk rfl (by rw [e]; exact h)).trans (by rw [h2])
    | false =>
      obtain ⟨ρ', h, h2⟩ := hn y (hq y List.mem_cons_self) ht
      have hh : loopF none xs0 ks b (inj y :: r.map inj) ρ = loopF none xs0 ks b (r.map inj) ρ' := by
        rcases h with h | h
        · exact loop_cons rfl (by rw [e]; exact h)
        · exact loop_cont rfl (by rw [e]; exact h)
      rw [hh]
      exact ih ρ' (fun z hz => hq z (List.mem_cons_of_mem _ hz)) h2
/-- a loop that folds -/
theorem loop_fold {α σ : Type} (inj : α → D) (S : σ → En) (step : σ → α → σ) {xs0 : List D} {ks : List Nat} {b : D → En → Option Out} (P : σ → Prop) (Q : α → Prop)
    (h : ∀ y s, Q y → P s → P (step s y) ∧ ∃ ρ', (b (inj y) (S s) = some (.nx ρ') ∨ b (inj y) (S s) = some (.ct ρ')) ∧ killL ks ρ' = S (step s y)) :
    ∀ (ys : List α) (ρ : En) (s : σ), (∀ y ∈ ys, Q y) → P s → killL ks ρ = S s → P (ys.foldl step s) ∧ loopF none xs0 ks b (ys.map inj) ρ = some (.nx (S (ys.foldl step s))) := by
  intro ys
  induction ys with
  | nil => exact fun ρ s _ hP e => ⟨hP, by rw [List.map_nil, loop_nil rfl, e]; rfl⟩
  | cons y r ih =>
    intro ρ s hq hP e
    obtain ⟨hP1, ρ', h1, h2⟩ := h y s (hq y List.mem_cons_self) hP
    obtain ⟨h3, h4⟩ := ih ρ' _ (fun z hz => hq z (List.mem_cons_of_mem _ hz)) hP1 h2
    refine ⟨h3, ?_⟩
    rw [List.map_cons]
    rcases h1 with h1 | h1
    · rw [loop_cons rfl (by rw [e]; exact h1), h4]; rfl
    · rw [loop_cont rfl (by rw [e]; exact h1), h4]; rfl
/-- a loop that gathers -/
theorem loop_acc {α : Type} (inj : α → D) (S : List D → En) (p : α → Bool) (F : α → D) {xs0 : List D} {ks : List Nat} {b : D → En → Option Out} (N : Nat) (Q : α → Prop)
    (h : ∀ y acc, Q y → acc.length < N → ∃ ρ', (b (inj y) (S acc) = some (.nx ρ') ∨ b (inj y) (S acc) = some (.ct ρ')) ∧ killL ks ρ' = S (if p y = true then acc ++ [F y] else acc)) :
    ∀ (ys : List α) (acc : List D) (ρ : En), (∀ y ∈ ys, Q y) → acc.length + ys.length ≤ N → killL ks ρ = S acc → loopF none xs0 ks b (ys.map inj) ρ = some (.nx (S (acc ++ (ys.filter p).map F))) := by
  intro ys
  induction ys with
  | nil => exact fun acc ρ _ _ e => by rw [List.map_nil, loop_nil rfl, e, List.filter_nil, List.map_nil, List.append_nil]
  | cons y r ih =>
    intro acc ρ hq hl e
    rw [List.length_cons] at hl
    obtain ⟨ρ', h1, h2⟩ := h y acc (hq y List.mem_cons_self) (by omega)
    have h4 := ih _ ρ' (fun z hz => hq z (List.mem_cons_of_mem _ hz)) (by
      split
      · rw [List.length_append, List.length_singleton]; omega
      · omega) h2
    have e2 : (if p y = true then acc ++ [F y] else acc) ++ (r.filter p).map F = acc ++ ((y :: r).filter p).map F := by
      by_cases hp : p y = true
      · rw [if_pos hp, List.filter_cons_of_pos hp, List.map_cons, List.append_assoc]; rfl
      · rw [if_neg hp, List.filter_cons_of_neg hp]
    rw [e2] at h4
    rw [List.map_cons]
    rcases h1 with h1 | h1
    · rw [loop_cons rfl (by rw [e]; exact h1), h4]
    · rw [loop_cont rfl (by rw [e]; exact h1), h4]
end L2.Pd

namespace L2.Pd
open PySem PySem.Spec PyProof.Rows
/-! ## dicts: what simp is told -/
section
variable {ρ : En} {i j : Nat} {f fi fe : FE} {g : FN} {s : FS} {tk : Bool} {kvs : List (D × D)} {c : Cell} {a : Int} {x : Str}
@[simp] theorem ev_dAt : dAt j ρ = (match ρ[j]? with
  | some (.od false kvs) => some kvs
  | some (.fd false kvs) => some kvs
  | _ => none) := rfl
@[simp] theorem ev_dOwn : dOwn j ρ = (match ρ[j]? with
  | some (.od false kvs) => some kvs
  | _ => none) := rfl
@[simp] theorem ev_keyI : keyD (.int a) = some (.inl a) := rfl
@[simp] theorem ev_keyS : keyD (.str x) = some (.inr x) := rfl
@[simp] theorem ev_dget : eDGet j fi ρ = (dAt j ρ).bind fun _ => (fi ρ).bind fun q => (dAt j q.2).bind fun kvs => (keyD q.1).bind fun _ => (lookD kvs q.1).map fun d => (d, q.2) := rfl
@[simp] theorem ev_din {ng : Bool} : eDIn j ng fi ρ = (fi ρ).bind fun q => (dAt j q.2).bind fun kvs => (keyD q.1).map fun _ => (.bool (xor ng (lookD kvs q.1).isSome), q.2) := rfl
@[simp] theorem ev_dput : sDPutK j fi fe ρ = (fe ρ).bind fun p => (dOwn j p.2).bind fun _ => (fi p.2).bind fun q => (dOwn j q.2).bind fun kvs => (keyD q.1).bind fun _ => if kvs.length < sizeLine then some (.nx (q.2.set j (.od false (putD kvs q.1 p.1)))) else none := rfl
@[simp] theorem ev_dget2 : eDGet2 j fi fe ρ = (dAt j ρ).bind fun _ => (fi ρ).bind fun p => (fe p.2).bind fun q => (dAt j q.2).bind fun kvs => (keyD p.1).map fun _ => ((lookD kvs p.1).getD q.1, q.2) := rfl
@[simp] theorem ev_dict0 : eDict0 ρ = some (.od false [], ρ) := rfl
@[simp] theorem ev_dict1 : eDict1 fi fe ρ = (fi ρ).bind fun p => (fe p.2).bind fun q => (keyD p.1).map fun _ => (.od false [(p.1, q.1)], q.2) := rfl
@[simp] theorem ev_moveD : sMoveD i j ρ = (dOwn j ρ).map fun kvs => .nx ((ρ.set j .dead).set i (.od false kvs)) := rfl
@[simp] theorem ev_lenD : eLenD j ρ = (dOwn j ρ).map fun kvs => (.int kvs.length, ρ) := rfl
@[simp] theorem ev_lok : eLok j f ρ = (match ρ[j]? with
  | some (.od tk kvs) => (f (ρ.set j (.fd tk kvs))).bind fun p => if noFd (p.2.set j .dead) = true then some (p.1, p.2.set j (.od tk kvs)) else none
  | _ => none) := rfl
@[simp] theorem ev_lokN : eLokN j g ρ = (match ρ[j]? with
  | some (.od tk kvs) => (g (ρ.set j (.fd tk kvs))).bind fun p => if noFd (p.2.set j .dead) = true then some (p.1, p.2.set j (.od tk kvs)) else none
  | _ => none) := rfl
@[simp] theorem ev_slok : sLok j s ρ = (match ρ[j]? with
  | some (.od tk kvs) => (s (ρ.set j (.fd tk kvs))).bind (unO j tk kvs)
  | _ => none) := rfl
@[simp] theorem ev_unn : unO j tk kvs (.nx ρ) = if noFd (ρ.set j .dead) = true then some (.nx (ρ.set j (.od tk kvs))) else none := rfl
@[simp] theorem ev_unr : unO j tk kvs (.rt c ρ) = if noFd (ρ.set j .dead) = true then some (.rt c (ρ.set j (.od tk kvs))) else none := rfl
@[simp] theorem ev_nofn : noFd [] = true := rfl
@[simp] theorem ev_nofd : noFd (.dead :: ρ) = noFd ρ := rfl
@[simp] theorem ev_nofs {d : D} : noFd (.sh d :: ρ) = noFd ρ := rfl
@[simp] theorem ev_nofl {ds : List D} : noFd (.ol ds :: ρ) = noFd ρ := rfl
@[simp] theorem ev_nofo : noFd (.od tk kvs :: ρ) = noFd ρ := rfl
@[simp] theorem ev_ifd : iFd j ρ = (match ρ[j]? with
  | some (.fd false kvs) => some (kvs.map (·.1), ρ)
  | _ => none) := rfl
@[simp] theorem ev_srtD : eSrtD j ρ = (dAt j ρ).bind fun kvs => if sortB (kvs.map (·.1)) = true then some (.ol (sortD (kvs.map (·.1))), ρ) else none := rfl
end
/-! ### ints as keys -/
def ik {α : Type} (enc : α → D) (l : List (Int × α)) : List (D × D) := l.map fun p => (.int p.1, enc p.2)
def lookI {α : Type} (l : List (Int × α)) (k : Int) : Option α := (l.find? fun p => p.1 == k).map (·.2)
def putI {α : Type} (l : List (Int × α)) (k : Int) (v : α) : List (Int × α) := if (l.any fun p => p.1 == k) = true then l.map (fun p => if (p.1 == k) = true then (p.1, v) else p) else l ++ [(k, v)]
theorem beqD_int (a b : Int) : beqD (.int a) (.int b) = (a == b) := rfl
theorem lookD_ik {α : Type} (enc : α → D) (k : Int) : ∀ l : List (Int × α), lookD (ik enc l) (.int k) = (lookI l k).map enc
  | [] => rfl
  | p :: l => by
    have ih := lookD_ik enc k l
    unfold lookD lookI ik at ih ⊢
    rw [List.map_cons]
    by_cases h : (p.1 == k) = true
    · rw [List.find?_cons_of_pos (by exact h), List.find?_cons_of_pos (by exact h)]; rfl
    · rw [List.find?_cons_of_neg (by exact h), List.find?_cons_of_neg (by exact h)]; exact ih
theorem putD_ik {α : Type} (enc : α → D) (k : Int) (v : α) (l : List (Int × α)) : putD (ik enc l) (.int k) (enc v) = ik enc (putI l k v) := by
  have ea : (ik enc l).any (fun p => beqD p.1 (.int k)) = l.any fun p => p.1 == k := by unfold ik; rw [List.any_map]; rfl
  unfold putD putI
  rw [ea]
  split
  · unfold ik
    rw [List.map_map, List.map_map]
    refine List.map_congr_left fun p _ => ?_
    show (if beqD (.int p.1) (.int k) = true then (PyData.int p.1, enc v) else (.int p.1, enc p.2)) = _
    rw [beqD_int]
    show _ = (fun q : Int × α => (PyData.int q.1, enc q.2)) (if (p.1 == k) = true then (p.1, v) else p)
    split <;> rfl
  · unfold ik; rw [List.map_append]; rfl
theorem lookI_cons {α : Type} (p : Int × α) (l : List (Int × α)) (k : Int) : lookI (p :: l) k = if p.1 = k then some p.2 else lookI l k := by
  unfold lookI
  by_cases h : p.1 = k
  · rw [if_pos h, List.find?_cons_of_pos (by simpa using h)]; rfl
  · rw [if_neg h, List.find?_cons_of_neg (by simpa using h)]
theorem any_lookI {α : Type} (k : Int) : ∀ l : List (Int × α), (l.any fun p => p.1 == k) = (lookI l k).isSome
  | [] => rfl
  | p :: l => by
    rw [List.any_cons, lookI_cons, any_lookI k l]
    by_cases h : p.1 = k
    · rw [if_pos h]; simp [h]
    · rw [if_neg h, beq_eq_false_iff_ne.mpr h]; rfl
theorem lookI_map {α : Type} (k j : Int) (v : α) : ∀ l : List (Int × α), lookI (l.map fun p => if (p.1 == k) = true then (p.1, v) else p) j = (lookI l j).map fun w => if j = k then v else w
  | [] => rfl
  | p :: l => by
    have ih := lookI_map k j v l
    rw [List.map_cons, lookI_cons, ih, lookI_cons]
    by_cases h : p.1 = k
    · have e1 : (if (p.1 == k) = true then (p.1, v) else p) = (p.1, v) := if_pos (by simpa using h)
      rw [e1]
      by_cases e : p.1 = j
      · rw [if_pos e, if_pos e, Option.map_some, if_pos (by rw [← e, h])]
      · rw [if_neg e, if_neg e]
    · have e1 : (if (p.1 == k) = true then (p.1, v) else p) = p := if_neg (by simpa using h)
      rw [e1]
      by_cases e : p.1 = j
      · rw [if_pos e, if_pos e, Option.map_some, if_neg (fun z => h (by rw [e, z]))]
      · rw [if_neg e, if_neg e]
theorem lookI_snoc {α : Type} (k j : Int) (v : α) : ∀ l : List (Int × α), lookI l k = none → lookI (l ++ [(k, v)]) j = if j = k then some v else lookI l j
  | [], _ => by
    rw [List.nil_append, lookI_cons]
    by_cases e : k = j
    · rw [if_pos e, if_pos e.symm]
    · rw [if_neg e, if_neg (fun z => e z.symm)]
  | p :: l, h => by
    rw [lookI_cons] at h
    split at h
    · cases h
    · next ne =>
      rw [List.cons_append, lookI_cons, lookI_cons, lookI_snoc k j v l h]
      by_cases e : p.1 = j
      · rw [if_pos e, if_pos e, if_neg (fun z => ne (by rw [e, z]))]
      · rw [if_neg e, if_neg e]
theorem lookI_put {α : Type} (l : List (Int × α)) (k j : Int) (v : α) : lookI (putI l k v) j = if j = k then some v else lookI l j := by
  unfold putI
  rw [any_lookI]
  cases h : lookI l k with
  | none =>
    rw [if_neg (by simp)]
    exact lookI_snoc k j v l h
  | some w =>
    rw [if_pos (show (some w).isSome = true from rfl), lookI_map]
    by_cases e : j = k
    · subst e; rw [h, if_pos rfl]; simp
    · rw [if_neg e]; cases lookI l j <;> simp [e]
theorem putI_len {α : Type} (l : List (Int × α)) (k : Int) (v : α) : (putI l k v).length ≤ l.length + 1 := by
  unfold putI
  split
  · rw [List.length_map]; omega
  · rw [List.length_append]; simp
theorem putI_keys {α : Type} (l : List (Int × α)) (k : Int) (v : α) : (putI l k v).map (·.1) = if (lookI l k).isSome = true then l.map (·.1) else l.map (·.1) ++ [k] := by
  unfold putI
  rw [any_lookI]
  split
  · rw [List.map_map]
    refine List.map_congr_left fun p _ => ?_
    show (if (p.1 == k) = true then (p.1, v) else p).1 = p.1
    split <;> rfl
  · rw [List.map_append]; rfl
end L2.Pd

namespace L2.Pd
open PySem PySem.Spec PyProof.Rows
/-! ## sets: what simp is told; the members of a set of ints, ascending -/
section
variable {ρ : En} {f : FE}
@[simp] theorem ev_srtSet : eSrtSet f ρ = (f ρ).bind fun p => (cSrtSet p.1).map fun c => (c, p.2) := rfl
@[simp] theorem ev_lenSet : eLenSet f ρ = (f ρ).bind fun p => (dLenSet p.1).map fun c => (c, p.2) := rfl
end
theorem keysD_is : ∀ ns : List Int, keysD (is ns) = some (ns.map .inl)
  | [] => rfl
  | n :: ns => by
    show (keyD (.int n)).bind (fun k => (keysD (is ns)).map fun ks => k :: ks) = _
    rw [keysD_is ns]
    rfl
theorem mem_addK {ks : List Key} {k j : Key} : j ∈ addK ks k ↔ j = k ∨ j ∈ ks := by
  unfold addK
  split
  · next h => exact ⟨.inr, fun z => z.elim (fun e => e ▸ hasK_iff.mp h) id⟩
  · rw [List.mem_cons]
theorem nd_addK {ks : List Key} {k : Key} (h : ks.Nodup) : (addK ks k).Nodup := by
  unfold addK
  split
  · exact h
  · next n => exact List.nodup_cons.mpr ⟨fun z => n (hasK_iff.mpr z), h⟩
theorem fold_facts : ∀ (l ks : List Key), ks.Nodup → (l.foldl addK ks).Nodup ∧ ∀ j, j ∈ l.foldl addK ks ↔ j ∈ l ∨ j ∈ ks
  | [], ks, h => ⟨h, fun j => by simp⟩
  | k :: l, ks, h => by
    obtain ⟨h1, h2⟩ := fold_facts l (addK ks k) (nd_addK h)
    refine ⟨h1, fun j => ?_⟩
    rw [List.foldl_cons, h2, mem_addK, List.mem_cons]
    constructor
    · rintro (h | h | h)
      · exact .inl (.inr h)
      · exact .inl (.inl h)
      · exact .inr h
    · rintro ((h | h) | h)
      · exact .inr (.inl h)
      · exact .inl h
      · exact .inr (.inr h)
theorem ddK_nodup (l : List Key) : (ddK l).Nodup := (fold_facts l [] List.nodup_nil).1
theorem mem_ddK {l : List Key} {j : Key} : j ∈ ddK l ↔ j ∈ l := by
  have := (fold_facts l [] List.nodup_nil).2 j
  rw [show (j ∈ ([] : List Key)) = False by simp, or_false] at this
  exact this
/-- the members, ascending -/
def sset (ns : List Int) : List Int := isort ((ddK (ns.map .inl)).filterMap fun k => match k with | .inl i => some i | .inr _ => none)
theorem ddK_ints (ns : List Int) : ∃ l : List Int, ddK (ns.map .inl) = l.map .inl := by
  refine ⟨(ddK (ns.map .inl)).filterMap fun k => match k with | .inl i => some i | .inr _ => none, ?_⟩
  have h : ∀ k ∈ ddK (ns.map .inl), ∃ i : Int, k = .inl i := fun k hk => by
    obtain ⟨i, _, rfl⟩ := List.mem_map.mp (mem_ddK.mp hk)
    exact ⟨i, rfl⟩
  generalize ddK (ns.map .inl) = l at h
  induction l with
  | nil => rfl
  | cons k l ih =>
    obtain ⟨i, rfl⟩ := h k List.mem_cons_self
    rw [List.filterMap_cons]
    simp only [List.map_cons]
    rw [← ih fun k hk => h k (List.mem_cons_of_mem _ hk)]
theorem sset_dd (ns : List Int) : ∃ l : List Int, ddK (ns.map .inl) = l.map .inl ∧ sset ns = isort l := by
  obtain ⟨l, h⟩ := ddK_ints ns
  refine ⟨l, h, ?_⟩
  unfold sset
  rw [h, List.filterMap_map]
  congr 1
  exact List.filterMap_some
theorem mem_sset {ns : List Int} {k : Int} : k ∈ sset ns ↔ k ∈ ns := by
  obtain ⟨l, h1, h2⟩ := sset_dd ns
  rw [h2, (isort_perm l).mem_iff]
  have h3 : (Sum.inl k : Key) ∈ ddK (ns.map .inl) ↔ k ∈ l := by
    rw [h1, List.mem_map]
    exact ⟨fun ⟨i, a, b⟩ => by cases b; exact a, fun a => ⟨k, a, rfl⟩⟩
  rw [← h3, mem_ddK, List.mem_map]
  exact ⟨fun ⟨i, a, b⟩ => by cases b; exact a, fun a => ⟨k, a, rfl⟩⟩
theorem sset_pw (ns : List Int) : (sset ns).Pairwise (· < ·) := by
  obtain ⟨l, h1, h2⟩ := sset_dd ns
  rw [h2]
  refine lt_of_le_nodup _ (isort_pw l) ((isort_perm l).nodup_iff.mpr ?_)
  have := ddK_nodup (ns.map .inl)
  rw [h1] at this
  exact this.of_map _ fun a b ne e => ne (by rw [e])
theorem asc_eq : ∀ {l m : List Int}, l.Pairwise (· < ·) → m.Pairwise (· < ·) → (∀ k, k ∈ l ↔ k ∈ m) → l = m := fun {l m} h1 h2 h => by
  have n1 : l.Nodup := h1.imp fun h => by omega
  have n2 : m.Nodup := h2.imp fun h => by omega
  refine List.Perm.eq_of_pairwise (le := (· ≤ ·)) (fun a b _ _ x y => by omega) (h1.imp fun h => by omega) (h2.imp fun h => by omega) ((List.perm_ext_iff_of_nodup n1 n2).mpr h)
theorem sset_eq {ns l : List Int} (h1 : l.Pairwise (· < ·)) (h2 : ∀ k, k ∈ l ↔ k ∈ ns) : sset ns = l := asc_eq (sset_pw ns) h1 fun k => mem_sset.trans (h2 k).symm
theorem sset_len (ns : List Int) : (sset ns).length ≤ ns.length := by
  obtain ⟨l, h1, h2⟩ := sset_dd ns
  rw [h2, isort_len]
  have := ddK_len (ns.map .inl)
  rw [h1, List.length_map, List.length_map] at this
  exact this
theorem cSrtSet_L (ns : List Int) : cSrtSet (.list (is ns)) = if ns.length + 1 < 4096 then some (.ol (is (sset ns))) else none := by
  show (((keysD (is ns)).bind fun ks => if ks.length + 1 < scanBound then some (ddK ks) else none).bind fun ks => if sortB (ks.map kD) = true then some (Cell.ol (sortD (ks.map kD))) else none) = _
  rw [keysD_is, Option.bind_some, List.length_map]
  show ((if ns.length + 1 < 4096 then some (ddK (ns.map .inl)) else none).bind _) = _
  split
  · obtain ⟨l, h1, h2⟩ := sset_dd ns
    rw [Option.bind_some, h1, List.map_map]
    have e : l.map (kD ∘ Sum.inl) = is l := rfl
    rw [e, if_pos (sortB_is l), sortD_is, h2]
  · rfl
theorem cSrtSet_T (ns : List Int) : cSrtSet (.tuple (is ns)) = if ns.length + 1 < 4096 then some (.ol (is (sset ns))) else none := cSrtSet_L ns
theorem dLenSet_L (ns : List Int) : dLenSet (.list (is ns)) = if ns.length + 1 < 4096 then some (.int (sset ns).length) else none := by
  show (((keysD (is ns)).bind fun ks => if ks.length + 1 < scanBound then some (ddK ks) else none).map fun ks => PyData.int ks.length) = _
  rw [keysD_is, Option.bind_some, List.length_map]
  show ((if ns.length + 1 < 4096 then some (ddK (ns.map .inl)) else none).map _) = _
  split
  · obtain ⟨l, h1, h2⟩ := sset_dd ns
    rw [Option.map_some, h1, List.length_map, h2, isort_len]
  · rfl
theorem dLenSet_T (ns : List Int) : dLenSet (.tuple (is ns)) = if ns.length + 1 < 4096 then some (.int (sset ns).length) else none := dLenSet_L ns
end L2.Pd

namespace L2.G
open PySem PySem.Spec PyProof.Rows L2 L2.Pd

noncomputable section
def topS (i : Nat) : Stmt := PySem.Challenge.pw_paperkeep_k68_wraps_and_rules.main.body.getD i (.Pass ⟨0, 0, 0, 0⟩)
section
variable {P : Program} {w : World} {K : PySem.W.Frag} {mg : Str → Option Value} {base : Heap}
/-! ### _law_draws -/
abbrev t__law_draws : Stmt := topS 19
theorem sc__law_draws : FnScope ["script", "many", "cells", "rest", "draws", "k", "at", "once", "cell"] ["script", "many"] (defScope t__law_draws) := ⟨rfl, rfl, rfl, by decide +kernel, rfl, by decide +kernel, by decide +kernel⟩
def kb__law_draws_1 : FN := eComp none [8] (iSq (eVar 0)) (gNm 8) (cYes) (eCB cInt (aCons (eVar 8) (aNil)))
def k__law_draws_1 : FN := hid (kb__law_draws_1)
theorem kk__law_draws_1 : k__law_draws_1 = eComp none [8] (iSq (eVar 0)) (gNm 8) (cYes) (eCB cInt (aCons (eVar 8) (aNil))) := hid_eq _
def b__law_draws_1 : FS := sSeq (sSet 6 (eBin dMod (eVar 5) (eCB cLen (aCons (eVar 2) (aNil)))))
  (sIf (eTst (eBin (fun x y => (bGe x y).map .bool) (eBin dIx (eVar 2) (eVar 6)) (eBin dPow (eC (.int 10)) (eC (.int 18))))) (sSeq (sExpr (eMeth 4 lAppend (aCons (eBin dMod (eCB cInt (aCons (eIxOwn 3 (eVar 6)) (aNil))) (eC (.int 1000))) (aNil))))
  (sItem 3 (eVar 6) (eBin dFdiv (eIxOwn 3 (eVar 6)) (eC (.int 1000))))) (sSeq (sSet 7 (eBin dMod (eCB cInt (aCons (eBin dAddA (eBin dAddA (eBin dMulA (eBin dIx (eVar 2) (eVar 6)) (eC (.int 48271))) (eBin dMulA (eVar 5) (eC (.int 69621)))) (eC (.int 11))) (aNil))) (eC (.int 2147483647))))
  (sExpr (eMeth 4 lAppend (aCons (eBin dMod (eCB cInt (aCons (eBin dAddA (eBin dAddA (eBin dMulA (eVar 7) (eVar 7)) (eBin dMulA (eC (.int 3)) (eVar 7))) (eVar 5)) (aNil))) (eC (.int 1000003))) (aNil))))))
def lb__law_draws_1 : FS := sFor none [5, 6, 7] (iR1 (aCons (eVar 1) (aNil))) (gNm 5) b__law_draws_1
def l__law_draws_1 : FS := hid (lb__law_draws_1)
theorem ll__law_draws_1 : l__law_draws_1 = sFor none [5, 6, 7] (iR1 (aCons (eVar 1) (aNil))) (gNm 5) b__law_draws_1 := hid_eq _
def s__law_draws : FS := sSeq (sSetN 2 (k__law_draws_1))
  (sSeq (sIf (eTst (eBin (fun x y => (bEq x y).map .bool) (eLenOwn 2) (eC (.int 0)))) (sExpr (eMeth 2 lAppend (aCons (eC (.int 0)) (aNil)))) (sNx))
  (sSeq (sSetN 3 (eCBN cList (aCons (eVar 2) (aNil))))
  (sSeq (sSetN 4 (eLst (aNil)))
  (sSeq (l__law_draws_1)
  (sSeq (sExpr (eMeth0 4 lReverse))
  (sRetOwn 4))))))
def mb__law_draws : FnS := fnSem 9 [] s__law_draws
def m__law_draws : FnS := hid mb__law_draws
theorem mm__law_draws : m__law_draws = fnSem 9 [] s__law_draws := hid_eq _
instance : FnIs m__law_draws 9 [] s__law_draws := ⟨mm__law_draws⟩
theorem ok__law_draws (S : Src K mg "_law_draws" t__law_draws ["script", "many"]) (z_int : mg "int" = none) (z_len : mg "len" = none) (z_list : mg "list" = none) (z_range : mg "range" = none) : Cal P w K mg base 1 "_law_draws" ["script", "many"] [] m__law_draws := by
  rw [mm__law_draws]
  exact pd_cal (k := 0) [] S sc__law_draws rfl (body := s__law_draws) (fun f cdv A outer s H E hr => ⟨_, dss_cons (ds_hidN (kk__law_draws_1) (ds_setCompNX rfl sc__law_draws.nd (di_sq (de_var 0)) (own := [("cell", 8)]) (blkOk_by (N := ["script", "many", "cells", "rest", "draws", "k", "at", "once", "cell"]) (sc := defScope t__law_draws) (by decide +kernel)) (fun s H C cl fp => dg_name 8 sc__law_draws.nd) (fun s H C cl fp => dts_nil) (fun s H C cl fp => de_callTy call_intD a_int z_int (da_cons (de_var 8) (da_nil)))))
  (dss_cons (ds_if (dt_cmp (op_eqB (hu_of' hr)) v_dat (de_lenOwn 2 z_len) (de_int)) (dss_one (ds_expr (de_lm (j := 2) PySem.F.slot_list_append PySem.F.type_list_append mt_append l_append (da_cons (de_int) (da_nil))))) (dss_nil))
  (dss_cons (ds_setN sc__law_draws.nd (dn_callTy call_list_of a_list z_list (da_cons (de_var 2) (da_nil))) (i := 3))
  (dss_cons (ds_setN sc__law_draws.nd (dn_lst (da_nil)) (i := 4))
  (dss_cons (ds_hid (ll__law_draws_1) (ds_for [5, 6, 7] PassesOwn.never rfl (di_range1 (da_cons (de_var 1) (da_nil)) z_range) (dg_name 5 sc__law_draws.nd) (dss_cons (ds_set sc__law_draws.nd (de_bin op_modN v_mod (de_var 5) (de_callB call_len a_len z_len (da_cons (de_var 2) (da_nil)))) (i := 6))
  (dss_one (ds_if (dt_cmp (op_geB (hu_of' hr)) v_dat (de_ix (de_var 2) (de_var 6)) (de_bin op_powD v_pow (de_int) (de_int))) (dss_cons (ds_expr (de_lm (j := 4) PySem.F.slot_list_append PySem.F.type_list_append mt_append l_append (da_cons (de_bin op_modN v_mod (de_callTy call_intD a_int z_int (da_cons (de_ixOwn 3 (de_var 6)) (da_nil))) (de_int)) (da_nil))))
  (dss_one (ds_item (j := 3) (de_bin op_fdivD v_fdiv (de_ixOwn 3 (de_var 6)) (de_int)) (de_var 6)))) (dss_cons (ds_set sc__law_draws.nd (de_bin op_modN v_mod (de_callTy call_intD a_int z_int (da_cons (de_bin op_addA v_addA (de_bin op_addA v_addA (de_bin op_mulA v_mulA (de_ix (de_var 2) (de_var 6)) (de_int)) (de_bin op_mulA v_mulA (de_var 5) (de_int))) (de_int)) (da_nil))) (de_int)) (i := 7))
  (dss_one (ds_expr (de_lm (j := 4) PySem.F.slot_list_append PySem.F.type_list_append mt_append l_append (da_cons (de_bin op_modN v_mod (de_callTy call_intD a_int z_int (da_cons (de_bin op_addA v_addA (de_bin op_addA v_addA (de_bin op_mulA v_mulA (de_var 7) (de_var 7)) (de_bin op_mulA v_mulA (de_int) (de_var 7))) (de_var 5)) (da_nil))) (de_int)) (da_nil)))))))))))
  (dss_cons (ds_expr (de_lm0 (j := 4) PySem.F.slot_list_reverse PySem.F.type_list_reverse mt_reverse l_reverse))
  (dss_one (ds_retOwn 4)))))))⟩)
/-! ### _law_take -/
abbrev t__law_take : Stmt := topS 20
theorem sc__law_take : FnScope ["draws", "many"] ["draws", "many"] (defScope t__law_take) := ⟨rfl, rfl, rfl, by decide +kernel, rfl, by decide +kernel, by decide +kernel⟩
def s__law_take : FS := sSeq (sIf (eTst (eBin (fun x y => (bEq x y).map .bool) (eLenOwn 0) (eC (.int 0)))) (sRet (eC (.int 0))) (sNx))
  (sRet (eBin dMod (eCB cInt (aCons (eMeth0 0 lPop) (aNil))) (eVar 1)))
def mb__law_take : FnS := fnSem 2 [0] s__law_take
def m__law_take : FnS := hid mb__law_take
theorem mm__law_take : m__law_take = fnSem 2 [0] s__law_take := hid_eq _
instance : FnIs m__law_take 2 [0] s__law_take := ⟨mm__law_take⟩
theorem ok__law_take (S : Src K mg "_law_take" t__law_take ["draws", "many"]) (z_int : mg "int" = none) (z_len : mg "len" = none) : Cal P w K mg base 1 "_law_take" ["draws", "many"] [0] m__law_take := by
  rw [mm__law_take]
  exact pd_cal (k := 0) [0] S sc__law_take rfl (body := s__law_take) (fun f cdv A outer s H E hr => ⟨_, dss_cons (ds_if (dt_cmp (op_eqB (hu_of' hr)) v_dat (de_lenOwn 0 z_len) (de_int)) (dss_one (ds_ret (de_int))) (dss_nil))
  (dss_one (ds_ret (de_bin op_modN v_mod (de_callTy call_intD a_int z_int (da_cons (de_lm0 (j := 0) PySem.F.slot_list_pop PySem.F.type_list_pop mt_pop l_pop) (da_nil))) (de_var 1))))⟩)
/-! ### _law_same -/
abbrev t__law_same : Stmt := topS 21
theorem sc__law_same : FnScope ["actual", "due", "k"] ["actual", "due"] (defScope t__law_same) := ⟨rfl, rfl, rfl, by decide +kernel, rfl, by decide +kernel, by decide +kernel⟩
def b__law_same_1 (mf : FnS) : FS := sIf (eNot (eTru (eRetD (eCall0 mf (aCons (eBin dIx (eVar 0) (eVar 2)) (aCons (eBin dIx (eVar 1) (eVar 2)) (aNil))))))) (sRet (eC (.bool false))) (sNx)
def lb__law_same_1 (mf : FnS) : FS := sFor none [2] (iR1 (aCons (eCB cLen (aCons (eVar 1) (aNil))) (aNil))) (gNm 2) (b__law_same_1 mf)
def l__law_same_1 (mf : FnS) : FS := hid (lb__law_same_1 mf)
theorem ll__law_same_1 (mf : FnS) : l__law_same_1 mf = sFor none [2] (iR1 (aCons (eCB cLen (aCons (eVar 1) (aNil))) (aNil))) (gNm 2) (b__law_same_1 mf) := hid_eq _
def s__law_same (mf : FnS) : FS := sSeq (sIf (eTru (eIsi "bool" (eVar 1))) (sRet (eAndV (eIsi "bool" (eVar 0)) (eBin (fun x y => (bEq x y).map .bool) (eVar 0) (eVar 1)))) (sNx))
  (sSeq (sIf (eTru (eIsi "int" (eVar 1))) (sRet (eAndV (eIsi "int" (eVar 0)) (eAndV (eNotV (eIsi "bool" (eVar 0))) (eBin (fun x y => (bEq x y).map .bool) (eVar 0) (eVar 1))))) (sNx))
  (sSeq (sIf (eTru (eIsi "str" (eVar 1))) (sRet (eAndV (eIsi "str" (eVar 0)) (eBin (fun x y => (bEq x y).map .bool) (eVar 0) (eVar 1)))) (sNx))
  (sSeq (sIf (eTst (eBin (fun x y => (bIsN x y).map .bool) (eVar 1) (eC .none))) (sRet (eBin (fun x y => (bIsN x y).map .bool) (eVar 0) (eC .none))) (sNx))
  (sSeq (sIf (eOr (eNot (eTru (eIsi "tuple" (eVar 0)))) (eTst (eBin (fun x y => (bNe x y).map .bool) (eCB cLen (aCons (eVar 0) (aNil))) (eCB cLen (aCons (eVar 1) (aNil)))))) (sRet (eC (.bool false))) (sNx))
  (sSeq (l__law_same_1 mf)
  (sRet (eC (.bool true))))))))
def m__law_same : Nat → FnS
  | 0 => fun _ => none
  | n + 1 => fnSem 3 [] (s__law_same (m__law_same n))
instance (n : Nat) : FnIs (m__law_same (n + 1)) 3 [] (s__law_same (m__law_same n)) := ⟨rfl⟩
theorem ok__law_same (S : Src K mg "_law_same" t__law_same ["actual", "due"]) (z_bool : mg "bool" = none) (z_int : mg "int" = none) (z_isinstance : mg "isinstance" = none) (z_len : mg "len" = none) (z_range : mg "range" = none) (z_str : mg "str" = none) (z_tuple : mg "tuple" = none) : ∀ n : Nat, Cal P w K mg base (n + 0) "_law_same" ["actual", "due"] [] (m__law_same n)
  | 0 => cal_none (S := S)
  | n + 1 => by
    have h__law_same := ok__law_same S z_bool z_int z_isinstance z_len z_range z_str z_tuple n
    exact Cal.cast (pd_cal (k := n + 0) [] S sc__law_same rfl (body := s__law_same (m__law_same n)) (fun f cdv A outer s H E hr => ⟨_, dss_cons (ds_if (dt_tru (de_isi (de_var 1) z_isinstance z_bool)) (dss_one (ds_ret (de_and (de_isi (de_var 0) z_isinstance z_bool) (de_one (de_cmp (op_eqB (hu_of' hr)) v_dat (de_var 0) (de_var 1)))))) (dss_nil))
  (dss_cons (ds_if (dt_tru (de_isi (de_var 1) z_isinstance z_int)) (dss_one (ds_ret (de_and (de_isi (de_var 0) z_isinstance z_int) (de_and (de_not (de_isi (de_var 0) z_isinstance z_bool)) (de_one (de_cmp (op_eqB (hu_of' hr)) v_dat (de_var 0) (de_var 1))))))) (dss_nil))
  (dss_cons (ds_if (dt_tru (de_isi (de_var 1) z_isinstance z_str)) (dss_one (ds_ret (de_and (de_isi (de_var 0) z_isinstance z_str) (de_one (de_cmp (op_eqB (hu_of' hr)) v_dat (de_var 0) (de_var 1)))))) (dss_nil))
  (dss_cons (ds_if (dt_cmp (op_isNB) v_dat (de_var 1) (de_non)) (dss_one (ds_ret (de_cmp (op_isNB) v_dat (de_var 0) (de_non)))) (dss_nil))
  (dss_cons (ds_if ((dw_or (dt_not (dt_tru (de_isi (de_var 0) z_isinstance z_tuple))) (dw_or1 (dt_cmp (op_neB (hu_of' hr)) v_dat (de_callB call_len a_len z_len (da_cons (de_var 0) (da_nil))) (de_callB call_len a_len z_len (da_cons (de_var 1) (da_nil)))))).dt) (dss_one (ds_ret (de_bl))) (dss_nil))
  (dss_cons (ds_hid (ll__law_same_1 (m__law_same n)) (ds_for [2] PassesOwn.never rfl (di_range1 (da_cons (de_callB call_len a_len z_len (da_cons (de_var 1) (da_nil))) (da_nil)) z_range) (dg_name 2 sc__law_same.nd) (dss_one (ds_if (dt_not (dt_tru ((dc_cal0 h__law_same (hr.mono (by first | exact Nat.le_refl _ | decide | omega)) (da_cons (de_ix (de_var 0) (de_var 2)) (da_cons (de_ix (de_var 1) (de_var 2)) (da_nil))) (aLen_cons (aLen_cons (aLen_nil)))).de))) (dss_one (ds_ret (de_bl))) (dss_nil)))))
  (dss_one (ds_ret (de_bl))))))))⟩)) (by omega)
/-! ### distances -/
abbrev t_distances : Stmt := topS 8
theorem sc_distances : FnScope ["marks", "other", "one"] ["marks"] (defScope t_distances) := ⟨rfl, rfl, rfl, by decide +kernel, rfl, by decide +kernel, by decide +kernel⟩
def kb_distances_1 : FN := eComp2 none [1, 2] (iR1 (aCons (eCB cLen (aCons (eVar 0) (aNil))) (aNil))) (gNm 1) (cYes) none [2] (iR1 (aCons (eVar 1) (aNil))) (gNm 2) (cYes) (eBin dSub (eBin dIx (eVar 0) (eVar 1)) (eBin dIx (eVar 0) (eVar 2)))
def k_distances_1 : FN := hid (kb_distances_1)
theorem kk_distances_1 : k_distances_1 = eComp2 none [1, 2] (iR1 (aCons (eCB cLen (aCons (eVar 0) (aNil))) (aNil))) (gNm 1) (cYes) none [2] (iR1 (aCons (eVar 1) (aNil))) (gNm 2) (cYes) (eBin dSub (eBin dIx (eVar 0) (eVar 1)) (eBin dIx (eVar 0) (eVar 2))) := hid_eq _
def s_distances : FS := sRet (eFrz (eCBN cSortU (aCons (eFrz (k_distances_1)) (aNil))))
def mb_distances : FnS := fnSem 3 [] s_distances
def m_distances : FnS := hid mb_distances
theorem mm_distances : m_distances = fnSem 3 [] s_distances := hid_eq _
instance : FnIs m_distances 3 [] s_distances := ⟨mm_distances⟩
theorem ok_distances (S : Src K mg "distances" t_distances ["marks"]) (z_len : mg "len" = none) (z_range : mg "range" = none) (z_sorted : mg "sorted" = none) : Cal P w K mg base 1 "distances" ["marks"] [] m_distances := by
  rw [mm_distances]
  exact pd_cal (k := 0) [] S sc_distances rfl (body := s_distances) (fun f cdv A outer s H E hr => ⟨_, dss_one (ds_ret ((DN.de (dn_callB (call_srtU (hu_of' hr)) a_sortU z_sorted (da_cons ((DN.de (dn_hid (kk_distances_1) (dn_comp2X [2] rfl sc_distances.nd (di_range1 (da_cons (de_callB call_len a_len z_len (da_cons (de_var 0) (da_nil))) (da_nil)) z_range) (own := [("other", 1), ("one", 2)]) (blkOk_by (N := ["marks", "other", "one"]) (sc := defScope t_distances) (by decide +kernel)) (fun s H C cl fp => dg_name 1 sc_distances.nd) (fun s H C cl fp => dts_nil) (fun s H C cl fp => di_range1 (da_cons (de_var 1) (da_nil)) z_range) (fun s H C cl fp => dg_name 2 sc_distances.nd) (fun s H C cl fp => dts_nil) (fun s H C cl fp => de_bin op_sub v_sub (de_ix (de_var 0) (de_var 1)) (de_ix (de_var 0) (de_var 2))))))) (da_nil))))))⟩)
/-! ### measured -/
abbrev t_measured : Stmt := topS 9
theorem sc_measured : FnScope ["marks"] ["marks"] (defScope t_measured) := ⟨rfl, rfl, rfl, by decide +kernel, rfl, by decide +kernel, by decide +kernel⟩
def s_measured : FS := sRet (eCB cTuple (aCons (eFrz (eSrtSet (eRetD (eCall0 m_distances (aCons (eVar 0) (aNil)))))) (aNil)))
def mb_measured : FnS := fnSem 1 [] s_measured
def m_measured : FnS := hid mb_measured
theorem mm_measured : m_measured = fnSem 1 [] s_measured := hid_eq _
instance : FnIs m_measured 1 [] s_measured := ⟨mm_measured⟩
theorem ok_measured (S : Src K mg "measured" t_measured ["marks"]) (h_distances : Cal P w K mg base 1 "distances" ["marks"] [] m_distances) (z_set : mg "set" = none) (z_sorted : mg "sorted" = none) (z_tuple : mg "tuple" = none) : Cal P w K mg base 2 "measured" ["marks"] [] m_measured := by
  rw [mm_measured]
  exact pd_cal (k := 1) [] S sc_measured rfl (body := s_measured) (fun f cdv A outer s H E hr => ⟨_, dss_one (ds_ret (de_callTy call_tuple_of a_tuple z_tuple (da_cons ((DN.de (dn_srtSet rfl (hu_of' hr) ((dc_cal0 h_distances (hr.mono (by first | exact Nat.le_refl _ | decide | omega)) (da_cons (de_var 0) (da_nil)) (aLen_cons (aLen_nil))).de) z_sorted z_set))) (da_nil))))⟩)
/-! ### is_whole -/
abbrev t_is_whole : Stmt := topS 11
theorem sc_is_whole : FnScope ["marks"] ["marks"] (defScope t_is_whole) := ⟨rfl, rfl, rfl, by decide +kernel, rfl, by decide +kernel, by decide +kernel⟩
def s_is_whole : FS := sRet (eBin (fun x y => (bEq x y).map .bool) (eCB cLen (aCons (eRetD (eCall0 m_measured (aCons (eVar 0) (aNil)))) (aNil))) (eBin dIx (eVar 0) (eUn dNeg (eC (.int 1)))))
def mb_is_whole : FnS := fnSem 1 [] s_is_whole
def m_is_whole : FnS := hid mb_is_whole
theorem mm_is_whole : m_is_whole = fnSem 1 [] s_is_whole := hid_eq _
instance : FnIs m_is_whole 1 [] s_is_whole := ⟨mm_is_whole⟩
theorem ok_is_whole (S : Src K mg "is_whole" t_is_whole ["marks"]) (h_measured : Cal P w K mg base 2 "measured" ["marks"] [] m_measured) (z_len : mg "len" = none) : Cal P w K mg base 3 "is_whole" ["marks"] [] m_is_whole := by
  rw [mm_is_whole]
  exact pd_cal (k := 2) [] S sc_is_whole rfl (body := s_is_whole) (fun f cdv A outer s H E hr => ⟨_, dss_one (ds_ret (de_cmp (op_eqB (hu_of' hr)) v_dat (de_callB call_len a_len z_len (da_cons ((dc_cal0 h_measured (hr.mono (by first | exact Nat.le_refl _ | decide | omega)) (da_cons (de_var 0) (da_nil)) (aLen_cons (aLen_nil))).de) (da_nil))) (de_ix (de_var 0) (de_un un_neg v_neg (de_int)))))⟩)
/-! ### first_whole -/
abbrev t_first_whole : Stmt := topS 13
theorem sc_first_whole : FnScope ["marks", "n", "many", "now", "pairs", "mark", "found"] ["marks", "n", "many"] (defScope t_first_whole) := ⟨rfl, rfl, rfl, by decide +kernel, rfl, by decide +kernel, by decide +kernel⟩
def b_first_whole_1 (mf : FnS) : FS := sSeq (sSet 6 (eRetD (eCall0 mf (aCons (eBin dAddA (eVar 0) (eTup (aCons (eVar 5) (aNil)))) (aCons (eVar 1) (aCons (eBin dSub (eVar 2) (eC (.int 1))) (aNil)))))))
  (sIf (eTst (eBin (fun x y => (bNotN x y).map .bool) (eVar 6) (eC .none))) (sRet (eVar 6)) (sNx))
def lb_first_whole_1 (mf : FnS) : FS := sFor none [5, 6] (iR2 (aCons (eBin dAddA (eBin dIx (eVar 0) (eUn dNeg (eC (.int 1)))) (eC (.int 1))) (aCons (eVar 1) (aNil)))) (gNm 5) (b_first_whole_1 mf)
def l_first_whole_1 (mf : FnS) : FS := hid (lb_first_whole_1 mf)
theorem ll_first_whole_1 (mf : FnS) : l_first_whole_1 mf = sFor none [5, 6] (iR2 (aCons (eBin dAddA (eBin dIx (eVar 0) (eUn dNeg (eC (.int 1)))) (eC (.int 1))) (aCons (eVar 1) (aNil)))) (gNm 5) (b_first_whole_1 mf) := hid_eq _
def s_first_whole (mf : FnS) : FS := sSeq (sIf (eTst (eBin (fun x y => (bEq x y).map .bool) (eVar 2) (eC (.int 0)))) (sRet (eIf (eTru (eRetD (eCall0 m_is_whole (aCons (eBin dAddA (eVar 0) (eTup (aCons (eVar 1) (aNil)))) (aNil))))) (eBin dAddA (eVar 0) (eTup (aCons (eVar 1) (aNil)))) (eC .none))) (sNx))
  (sSeq (sSet 3 (eBin dAddA (eVar 0) (eTup (aCons (eVar 1) (aNil)))))
  (sSeq (sSet 4 (eSumRg (gR2 (eCB cLen (aCons (eVar 3) (aNil))) (eBin dAddA (eCB cLen (aCons (eVar 3) (aNil))) (eVar 2)))))
  (sSeq (sIf (eTst (eBin (fun x y => (bLt x y).map .bool) (eBin dAddA (eCB cLen (aCons (eRetD (eCall0 m_measured (aCons (eVar 3) (aNil)))) (aNil))) (eVar 4)) (eVar 1))) (sRet (eC .none)) (sNx))
  (sSeq (l_first_whole_1 mf)
  (sRet (eC .none))))))
def m_first_whole : Nat → FnS
  | 0 => fun _ => none
  | n + 1 => fnSem 7 [] (s_first_whole (m_first_whole n))
instance (n : Nat) : FnIs (m_first_whole (n + 1)) 7 [] (s_first_whole (m_first_whole n)) := ⟨rfl⟩
theorem ok_first_whole (S : Src K mg "first_whole" t_first_whole ["marks", "n", "many"]) (h_is_whole : Cal P w K mg base 3 "is_whole" ["marks"] [] m_is_whole) (h_measured : Cal P w K mg base 2 "measured" ["marks"] [] m_measured) (z_len : mg "len" = none) (z_range : mg "range" = none) (z_sum : mg "sum" = none) : ∀ n : Nat, Cal P w K mg base (n + 3) "first_whole" ["marks", "n", "many"] [] (m_first_whole n)
  | 0 => cal_none (S := S)
  | n + 1 => by
    have h_first_whole := ok_first_whole S h_is_whole h_measured z_len z_range z_sum n
    exact Cal.cast (pd_cal (k := n + 3) [] S sc_first_whole rfl (body := s_first_whole (m_first_whole n)) (fun f cdv A outer s H E hr => ⟨_, dss_cons (ds_if (dt_cmp (op_eqB (hu_of' hr)) v_dat (de_var 2) (de_int)) (dss_one (ds_ret (de_if (dt_tru ((dc_cal0 h_is_whole (hr.mono (by first | exact Nat.le_refl _ | decide | omega)) (da_cons (de_bin op_addA v_addA (de_var 0) (de_tup (da_cons (de_var 1) (da_nil)))) (da_nil)) (aLen_cons (aLen_nil))).de)) (de_bin op_addA v_addA (de_var 0) (de_tup (da_cons (de_var 1) (da_nil)))) (de_non)))) (dss_nil))
  (dss_cons (ds_set sc_first_whole.nd (de_bin op_addA v_addA (de_var 0) (de_tup (da_cons (de_var 1) (da_nil)))) (i := 3))
  (dss_cons (ds_set sc_first_whole.nd (de_sumRg rfl (drg_2 (de_callB call_len a_len z_len (da_cons (de_var 3) (da_nil))) (de_bin op_addA v_addA (de_callB call_len a_len z_len (da_cons (de_var 3) (da_nil))) (de_var 2)) z_range) z_sum) (i := 4))
  (dss_cons (ds_if (dt_cmp (op_ltB (hu_of' hr)) v_dat (de_bin op_addA v_addA (de_callB call_len a_len z_len (da_cons ((dc_cal0 h_measured (hr.mono (by first | exact Nat.le_refl _ | decide | omega)) (da_cons (de_var 3) (da_nil)) (aLen_cons (aLen_nil))).de) (da_nil))) (de_var 4)) (de_var 1)) (dss_one (ds_ret (de_non))) (dss_nil))
  (dss_cons (ds_hid (ll_first_whole_1 (m_first_whole n)) (ds_for [5, 6] PassesOwn.never rfl (di_range2 (da_cons (de_bin op_addA v_addA (de_ix (de_var 0) (de_un un_neg v_neg (de_int))) (de_int)) (da_cons (de_var 1) (da_nil))) z_range) (dg_name 5 sc_first_whole.nd) (dss_cons (ds_set sc_first_whole.nd ((dc_cal0 h_first_whole (hr.mono (by first | exact Nat.le_refl _ | decide | omega)) (da_cons (de_bin op_addA v_addA (de_var 0) (de_tup (da_cons (de_var 5) (da_nil)))) (da_cons (de_var 1) (da_cons (de_bin op_sub v_sub (de_var 2) (de_int)) (da_nil)))) (aLen_cons (aLen_cons (aLen_cons (aLen_nil))))).de) (i := 6))
  (dss_one (ds_if (dt_cmp (op_notNB) v_dat (de_var 6) (de_non)) (dss_one (ds_ret (de_var 6))) (dss_nil))))))
  (dss_one (ds_ret (de_non)))))))⟩)) (by omega)
/-! ### least_whole -/
abbrev t_least_whole : Stmt := topS 14
theorem sc_least_whole : FnScope ["n", "many", "found"] ["n"] (defScope t_least_whole) := ⟨rfl, rfl, rfl, by decide +kernel, rfl, by decide +kernel, by decide +kernel⟩
def b_least_whole_1 : FS := sSeq (sAug 1 dIadd (eC (.int 1)))
  (sSet 2 (eRetD (eCall0 (m_first_whole 12) (aCons (eTup (aCons (eC (.int 0)) (aNil))) (aCons (eVar 0) (aCons (eVar 1) (aNil)))))))
def lb_least_whole_1 : FS := sWhile [] (eTst (eBin (fun x y => (bIsN x y).map .bool) (eVar 2) (eC .none))) b_least_whole_1
def l_least_whole_1 : FS := hid (lb_least_whole_1)
theorem ll_least_whole_1 : l_least_whole_1 = sWhile [] (eTst (eBin (fun x y => (bIsN x y).map .bool) (eVar 2) (eC .none))) b_least_whole_1 := hid_eq _
def s_least_whole : FS := sSeq (sSet 1 (eC (.int 0)))
  (sSeq (sSet 2 (eRetD (eCall0 (m_first_whole 12) (aCons (eTup (aCons (eC (.int 0)) (aNil))) (aCons (eVar 0) (aCons (eVar 1) (aNil)))))))
  (sSeq (l_least_whole_1)
  (sRet (eVar 2))))
def mb_least_whole : FnS := fnSem 3 [] s_least_whole
def m_least_whole : FnS := hid mb_least_whole
theorem mm_least_whole : m_least_whole = fnSem 3 [] s_least_whole := hid_eq _
instance : FnIs m_least_whole 3 [] s_least_whole := ⟨mm_least_whole⟩
theorem ok_least_whole (S : Src K mg "least_whole" t_least_whole ["n"]) (h_first_whole : Cal P w K mg base 15 "first_whole" ["marks", "n", "many"] [] (m_first_whole 12)) : Cal P w K mg base 16 "least_whole" ["n"] [] m_least_whole := by
  rw [mm_least_whole]
  exact pd_cal (k := 15) [] S sc_least_whole rfl (body := s_least_whole) (fun f cdv A outer s H E hr => ⟨_, dss_cons (ds_set sc_least_whole.nd (de_int) (i := 1))
  (dss_cons (ds_set sc_least_whole.nd ((dc_cal0 h_first_whole (hr.mono (by first | exact Nat.le_refl _ | decide | omega)) (da_cons (de_tup (da_cons (de_int) (da_nil))) (da_cons (de_var 0) (da_cons (de_var 1) (da_nil)))) (aLen_cons (aLen_cons (aLen_cons (aLen_nil))))).de) (i := 2))
  (dss_cons (ds_hid (ll_least_whole_1) (ds_while [] PassesOwn.never (dt_cmp (op_isNB) v_dat (de_var 2) (de_non)) (dss_cons (ds_aug sc_least_whole.nd ip_addD v_iadd (de_int) (i := 1))
  (dss_one (ds_set sc_least_whole.nd ((dc_cal0 h_first_whole (hr.mono (by first | exact Nat.le_refl _ | decide | omega)) (da_cons (de_tup (da_cons (de_int) (da_nil))) (da_cons (de_var 0) (da_cons (de_var 1) (da_nil)))) (aLen_cons (aLen_cons (aLen_cons (aLen_nil))))).de) (i := 2))))))
  (dss_one (ds_ret (de_var 2)))))⟩)
/-! ### _law_distances -/
abbrev t__law_distances : Stmt := topS 28
theorem sc__law_distances : FnScope ["marks", "found", "one", "other"] ["marks"] (defScope t__law_distances) := ⟨rfl, rfl, rfl, by decide +kernel, rfl, by decide +kernel, by decide +kernel⟩
def b__law_distances_1 : FS := sExpr (eMeth 1 lAppend (aCons (eBin dSub (eBin dIx (eVar 0) (eVar 2)) (eBin dIx (eVar 0) (eVar 3))) (aNil)))
def lb__law_distances_1 : FS := sFor none [3] (iR1 (aCons (eVar 2) (aNil))) (gNm 3) b__law_distances_1
def l__law_distances_1 : FS := hid (lb__law_distances_1)
theorem ll__law_distances_1 : l__law_distances_1 = sFor none [3] (iR1 (aCons (eVar 2) (aNil))) (gNm 3) b__law_distances_1 := hid_eq _
def b__law_distances_2 : FS := l__law_distances_1
def lb__law_distances_2 : FS := sFor none [2, 3] (iR1 (aCons (eCB cLen (aCons (eVar 0) (aNil))) (aNil))) (gNm 2) b__law_distances_2
def l__law_distances_2 : FS := hid (lb__law_distances_2)
theorem ll__law_distances_2 : l__law_distances_2 = sFor none [2, 3] (iR1 (aCons (eCB cLen (aCons (eVar 0) (aNil))) (aNil))) (gNm 2) b__law_distances_2 := hid_eq _
def s__law_distances : FS := sSeq (sSetN 1 (eLst (aNil)))
  (sSeq (l__law_distances_2)
  (sRet (eVar 1)))
def mb__law_distances : FnS := fnSem 4 [] s__law_distances
def m__law_distances : FnS := hid mb__law_distances
theorem mm__law_distances : m__law_distances = fnSem 4 [] s__law_distances := hid_eq _
instance : FnIs m__law_distances 4 [] s__law_distances := ⟨mm__law_distances⟩
theorem ok__law_distances (S : Src K mg "_law_distances" t__law_distances ["marks"]) (z_len : mg "len" = none) (z_range : mg "range" = none) : Cal P w K mg base 1 "_law_distances" ["marks"] [] m__law_distances := by
  rw [mm__law_distances]
  exact pd_cal (k := 0) [] S sc__law_distances rfl (body := s__law_distances) (fun f cdv A outer s H E hr => ⟨_, dss_cons (ds_setN sc__law_distances.nd (dn_lst (da_nil)) (i := 1))
  (dss_cons (ds_hid (ll__law_distances_2) (ds_for [2, 3] PassesOwn.never rfl (di_range1 (da_cons (de_callB call_len a_len z_len (da_cons (de_var 0) (da_nil))) (da_nil)) z_range) (dg_name 2 sc__law_distances.nd) (dss_one (ds_hid (ll__law_distances_1) (ds_for [3] PassesOwn.never rfl (di_range1 (da_cons (de_var 2) (da_nil)) z_range) (dg_name 3 sc__law_distances.nd) (dss_one (ds_expr (de_lm (j := 1) PySem.F.slot_list_append PySem.F.type_list_append mt_append l_append (da_cons (de_bin op_sub v_sub (de_ix (de_var 0) (de_var 2)) (de_ix (de_var 0) (de_var 3))) (da_nil))))))))))
  (dss_one (ds_ret (de_var 1))))⟩)
/-! ### _law_least_whole -/
abbrev t__law_least_whole : Stmt := topS 31
theorem sc__law_least_whole : FnScope ["n", "many", "rows", "k", "longer", "row", "mark"] ["n", "many"] (defScope t__law_least_whole) := ⟨rfl, rfl, rfl, by decide +kernel, rfl, by decide +kernel, by decide +kernel⟩
def kb__law_least_whole_1 : FN := eComp none [6] (iR2 (aCons (eBin dAddA (eBin dIx (eVar 5) (eVar 3)) (eC (.int 1))) (aCons (eVar 0) (aNil)))) (gNm 6) (cYes) (eBin dAddA (eVar 5) (eTup (aCons (eVar 6) (aNil))))
def k__law_least_whole_1 : FN := hid (kb__law_least_whole_1)
theorem kk__law_least_whole_1 : k__law_least_whole_1 = eComp none [6] (iR2 (aCons (eBin dAddA (eBin dIx (eVar 5) (eVar 3)) (eC (.int 1))) (aCons (eVar 0) (aNil)))) (gNm 6) (cYes) (eBin dAddA (eVar 5) (eTup (aCons (eVar 6) (aNil)))) := hid_eq _
def b__law_least_whole_1 : FS := sSet 4 (eBin dAddA (eVar 4) (eFrz (k__law_least_whole_1)))
def lb__law_least_whole_1 : FS := sFor none [5] (iSq (eVar 2)) (gNm 5) b__law_least_whole_1
def l__law_least_whole_1 : FS := hid (lb__law_least_whole_1)
theorem ll__law_least_whole_1 : l__law_least_whole_1 = sFor none [5] (iSq (eVar 2)) (gNm 5) b__law_least_whole_1 := hid_eq _
def b__law_least_whole_2 : FS := sSeq (sSet 4 (eFrz (eLst (aNil))))
  (sSeq (l__law_least_whole_1)
  (sSet 2 (eVar 4)))
def lb__law_least_whole_2 : FS := sFor none [3, 4, 5] (iR1 (aCons (eVar 1) (aNil))) (gNm 3) b__law_least_whole_2
def l__law_least_whole_2 : FS := hid (lb__law_least_whole_2)
theorem ll__law_least_whole_2 : l__law_least_whole_2 = sFor none [3, 4, 5] (iR1 (aCons (eVar 1) (aNil))) (gNm 3) b__law_least_whole_2 := hid_eq _
def b__law_least_whole_3 : FS := sIf (eTst (eBin (fun x y => (bEq x y).map .bool) (eLenSet (eRetD (eCall0 m__law_distances (aCons (eBin dAddA (eVar 5) (eTup (aCons (eVar 0) (aNil)))) (aNil))))) (eVar 0))) (sRet (eBin dAddA (eVar 5) (eTup (aCons (eVar 0) (aNil))))) (sNx)
def lb__law_least_whole_3 : FS := sFor none [5] (iSq (eVar 2)) (gNm 5) b__law_least_whole_3
def l__law_least_whole_3 : FS := hid (lb__law_least_whole_3)
theorem ll__law_least_whole_3 : l__law_least_whole_3 = sFor none [5] (iSq (eVar 2)) (gNm 5) b__law_least_whole_3 := hid_eq _
def s__law_least_whole : FS := sSeq (sSet 2 (eFrz (eLst (aCons (eTup (aCons (eC (.int 0)) (aNil))) (aNil)))))
  (sSeq (l__law_least_whole_2)
  (sSeq (l__law_least_whole_3)
  (sRet (eC .none))))
def mb__law_least_whole : FnS := fnSem 7 [] s__law_least_whole
def m__law_least_whole : FnS := hid mb__law_least_whole
theorem mm__law_least_whole : m__law_least_whole = fnSem 7 [] s__law_least_whole := hid_eq _
instance : FnIs m__law_least_whole 7 [] s__law_least_whole := ⟨mm__law_least_whole⟩
theorem ok__law_least_whole (S : Src K mg "_law_least_whole" t__law_least_whole ["n", "many"]) (h__law_distances : Cal P w K mg base 1 "_law_distances" ["marks"] [] m__law_distances) (z_len : mg "len" = none) (z_range : mg "range" = none) (z_set : mg "set" = none) : Cal P w K mg base 2 "_law_least_whole" ["n", "many"] [] m__law_least_whole := by
  rw [mm__law_least_whole]
  exact pd_cal (k := 1) [] S sc__law_least_whole rfl (body := s__law_least_whole) (fun f cdv A outer s H E hr => ⟨_, dss_cons (ds_set sc__law_least_whole.nd ((DN.de (dn_lst (da_cons (de_tup (da_cons (de_int) (da_nil))) (da_nil))))) (i := 2))
  (dss_cons (ds_hid (ll__law_least_whole_2) (ds_for [3, 4, 5] PassesOwn.never rfl (di_range1 (da_cons (de_var 1) (da_nil)) z_range) (dg_name 3 sc__law_least_whole.nd) (dss_cons (ds_set sc__law_least_whole.nd ((DN.de (dn_lst (da_nil)))) (i := 4))
  (dss_cons (ds_hid (ll__law_least_whole_1) (ds_for [5] PassesOwn.never rfl (di_sq (de_var 2)) (dg_name 5 sc__law_least_whole.nd) (dss_one (ds_set sc__law_least_whole.nd (de_bin op_addA v_addA (de_var 4) ((DN.de (dn_hid (kk__law_least_whole_1) (dn_compX rfl sc__law_least_whole.nd (di_range2 (da_cons (de_bin op_addA v_addA (de_ix (de_var 5) (de_var 3)) (de_int)) (da_cons (de_var 0) (da_nil))) z_range) (own := [("mark", 6)]) (blkOk_by (N := ["n", "many", "rows", "k", "longer", "row", "mark"]) (sc := defScope t__law_least_whole) (by decide +kernel)) (fun s H C cl fp => dg_name 6 sc__law_least_whole.nd) (fun s H C cl fp => dts_nil) (fun s H C cl fp => de_bin op_addA v_addA (de_var 5) (de_tup (da_cons (de_var 6) (da_nil))))))))) (i := 4)))))
  (dss_one (ds_set sc__law_least_whole.nd (de_var 4) (i := 2)))))))
  (dss_cons (ds_hid (ll__law_least_whole_3) (ds_for [5] PassesOwn.never rfl (di_sq (de_var 2)) (dg_name 5 sc__law_least_whole.nd) (dss_one (ds_if (dt_cmp (op_eqB (hu_of' hr)) v_dat (de_lenSet rfl ((dc_cal0 h__law_distances (hr.mono (by first | exact Nat.le_refl _ | decide | omega)) (da_cons (de_bin op_addA v_addA (de_var 5) (de_tup (da_cons (de_var 0) (da_nil)))) (da_nil)) (aLen_cons (aLen_nil))).de) z_len z_set) (de_var 0)) (dss_one (ds_ret (de_bin op_addA v_addA (de_var 5) (de_tup (da_cons (de_var 0) (da_nil)))))) (dss_nil)))))
  (dss_one (ds_ret (de_non)))))⟩)
/-! ### fewest_marks -/
abbrev t_fewest_marks : Stmt := topS 15
theorem sc_fewest_marks : FnScope ["n"] ["n"] (defScope t_fewest_marks) := ⟨rfl, rfl, rfl, by decide +kernel, rfl, by decide +kernel, by decide +kernel⟩
def s_fewest_marks : FS := sRet (eCB cLen (aCons (eRetD (eCall0 m_least_whole (aCons (eVar 0) (aNil)))) (aNil)))
def mb_fewest_marks : FnS := fnSem 1 [] s_fewest_marks
def m_fewest_marks : FnS := hid mb_fewest_marks
theorem mm_fewest_marks : m_fewest_marks = fnSem 1 [] s_fewest_marks := hid_eq _
instance : FnIs m_fewest_marks 1 [] s_fewest_marks := ⟨mm_fewest_marks⟩
theorem ok_fewest_marks (S : Src K mg "fewest_marks" t_fewest_marks ["n"]) (h_least_whole : Cal P w K mg base 16 "least_whole" ["n"] [] m_least_whole) (z_len : mg "len" = none) : Cal P w K mg base 17 "fewest_marks" ["n"] [] m_fewest_marks := by
  rw [mm_fewest_marks]
  exact pd_cal (k := 16) [] S sc_fewest_marks rfl (body := s_fewest_marks) (fun f cdv A outer s H E hr => ⟨_, dss_one (ds_ret (de_callB call_len a_len z_len (da_cons ((dc_cal0 h_least_whole (hr.mono (by first | exact Nat.le_refl _ | decide | omega)) (da_cons (de_var 0) (da_nil)) (aLen_cons (aLen_nil))).de) (da_nil))))⟩)
/-! ### _law_least_right -/
abbrev t__law_least_right : Stmt := topS 32
theorem sc__law_least_right : FnScope ["n", "fewest", "told", "mark"] ["n"] (defScope t__law_least_right) := ⟨rfl, rfl, rfl, by decide +kernel, rfl, by decide +kernel, by decide +kernel⟩
def b__law_least_right_1 : FS := sIf (eOr (eNot (eTru (eIsi "int" (eVar 3)))) (eTru (eIsi "bool" (eVar 3)))) (sRet (eC (.bool false))) (sNx)
def lb__law_least_right_1 : FS := sFor none [3] (iSq (eVar 2)) (gNm 3) b__law_least_right_1
def l__law_least_right_1 : FS := hid (lb__law_least_right_1)
theorem ll__law_least_right_1 : l__law_least_right_1 = sFor none [3] (iSq (eVar 2)) (gNm 3) b__law_least_right_1 := hid_eq _
def s__law_least_right : FS := sSeq (sSet 1 (eBin dIx (eFrz (eLst (aCons (eC (.int 0)) (aCons (eC (.int 2)) (aCons (eC (.int 3)) (aCons (eC (.int 3)) (aCons (eC (.int 4)) (aCons (eC (.int 4)) (aCons (eC (.int 4)) (aCons (eC (.int 5)) (aCons (eC (.int 5)) (aCons (eC (.int 5)) (aCons (eC (.int 6)) (aCons (eC (.int 6)) (aCons (eC (.int 6)) (aCons (eC (.int 6)) (aCons (eC (.int 7)) (aCons (eC (.int 7)) (aCons (eC (.int 7)) (aCons (eC (.int 7)) (aCons (eC (.int 8)) (aCons (eC (.int 8)) (aCons (eC (.int 8)) (aNil)))))))))))))))))))))))) (eVar 0)))
  (sSeq (sSet 2 (eRetD (eCall0 m_least_whole (aCons (eVar 0) (aNil)))))
  (sSeq (sIf (eOr (eNot (eTru (eRetD (eCall0 (m__law_same 12) (aCons (eRetD (eCall0 m_fewest_marks (aCons (eVar 0) (aNil)))) (aCons (eVar 1) (aNil))))))) (eOr (eNot (eTru (eIsi "tuple" (eVar 2)))) (eTst (eBin (fun x y => (bNe x y).map .bool) (eCB cLen (aCons (eVar 2) (aNil))) (eVar 1))))) (sRet (eC (.bool false))) (sNx))
  (sSeq (l__law_least_right_1)
  (sSeq (sIf (eOr (eTst (eBin (fun x y => (bNe x y).map .bool) (eBin dIx (eVar 2) (eC (.int 0))) (eC (.int 0)))) (eOr (eTst (eBin (fun x y => (bNe x y).map .bool) (eBin dIx (eVar 2) (eBin dSub (eVar 1) (eC (.int 1)))) (eVar 0))) (eOr (eTst (eBin (fun x y => (bNe x y).map .bool) (eVar 2) (eCB cTuple (aCons (eFrz (eCBN cSortU (aCons (eVar 2) (aNil)))) (aNil))))) (eTst (eBin (fun x y => (bNe x y).map .bool) (eLenSet (eRetD (eCall0 m__law_distances (aCons (eVar 2) (aNil))))) (eVar 0)))))) (sRet (eC (.bool false))) (sNx))
  (sRet (eOrV (eBin (fun x y => (bGt x y).map .bool) (eVar 0) (eC (.int 10))) (eRetD (eCall0 (m__law_same 12) (aCons (eVar 2) (aCons (eRetD (eCall0 m__law_least_whole (aCons (eVar 0) (aCons (eBin dSub (eVar 1) (eC (.int 2))) (aNil))))) (aNil)))))))))))
def mb__law_least_right : FnS := fnSem 4 [] s__law_least_right
def m__law_least_right : FnS := hid mb__law_least_right
theorem mm__law_least_right : m__law_least_right = fnSem 4 [] s__law_least_right := hid_eq _
instance : FnIs m__law_least_right 4 [] s__law_least_right := ⟨mm__law_least_right⟩
theorem ok__law_least_right (S : Src K mg "_law_least_right" t__law_least_right ["n"]) (h__law_distances : Cal P w K mg base 1 "_law_distances" ["marks"] [] m__law_distances) (h__law_least_whole : Cal P w K mg base 2 "_law_least_whole" ["n", "many"] [] m__law_least_whole) (h__law_same : Cal P w K mg base 12 "_law_same" ["actual", "due"] [] (m__law_same 12)) (h_fewest_marks : Cal P w K mg base 17 "fewest_marks" ["n"] [] m_fewest_marks) (h_least_whole : Cal P w K mg base 16 "least_whole" ["n"] [] m_least_whole) (z_bool : mg "bool" = none) (z_int : mg "int" = none) (z_isinstance : mg "isinstance" = none) (z_len : mg "len" = none) (z_set : mg "set" = none) (z_sorted : mg "sorted" = none) (z_tuple : mg "tuple" = none) : Cal P w K mg base 18 "_law_least_right" ["n"] [] m__law_least_right := by
  rw [mm__law_least_right]
  exact pd_cal (k := 17) [] S sc__law_least_right rfl (body := s__law_least_right) (fun f cdv A outer s H E hr => ⟨_, dss_cons (ds_set sc__law_least_right.nd (de_ix ((DN.de (dn_lst (da_cons (de_int) (da_cons (de_int) (da_cons (de_int) (da_cons (de_int) (da_cons (de_int) (da_cons (de_int) (da_cons (de_int) (da_cons (de_int) (da_cons (de_int) (da_cons (de_int) (da_cons (de_int) (da_cons (de_int) (da_cons (de_int) (da_cons (de_int) (da_cons (de_int) (da_cons (de_int) (da_cons (de_int) (da_cons (de_int) (da_cons (de_int) (da_cons (de_int) (da_cons (de_int) (da_nil))))))))))))))))))))))))) (de_var 0)) (i := 1))
  (dss_cons (ds_set sc__law_least_right.nd ((dc_cal0 h_least_whole (hr.mono (by first | exact Nat.le_refl _ | decide | omega)) (da_cons (de_var 0) (da_nil)) (aLen_cons (aLen_nil))).de) (i := 2))
  (dss_cons (ds_if ((dw_or (dt_not (dt_tru ((dc_cal0 h__law_same (hr.mono (by first | exact Nat.le_refl _ | decide | omega)) (da_cons ((dc_cal0 h_fewest_marks (hr.mono (by first | exact Nat.le_refl _ | decide | omega)) (da_cons (de_var 0) (da_nil)) (aLen_cons (aLen_nil))).de) (da_cons (de_var 1) (da_nil))) (aLen_cons (aLen_cons (aLen_nil)))).de))) (dw_or (dt_not (dt_tru (de_isi (de_var 2) z_isinstance z_tuple))) (dw_or1 (dt_cmp (op_neB (hu_of' hr)) v_dat (de_callB call_len a_len z_len (da_cons (de_var 2) (da_nil))) (de_var 1))))).dt) (dss_one (ds_ret (de_bl))) (dss_nil))
  (dss_cons (ds_hid (ll__law_least_right_1) (ds_for [3] PassesOwn.never rfl (di_sq (de_var 2)) (dg_name 3 sc__law_least_right.nd) (dss_one (ds_if ((dw_or (dt_not (dt_tru (de_isi (de_var 3) z_isinstance z_int))) (dw_or1 (dt_tru (de_isi (de_var 3) z_isinstance z_bool)))).dt) (dss_one (ds_ret (de_bl))) (dss_nil)))))
  (dss_cons (ds_if ((dw_or (dt_cmp (op_neB (hu_of' hr)) v_dat (de_ix (de_var 2) (de_int)) (de_int)) (dw_or (dt_cmp (op_neB (hu_of' hr)) v_dat (de_ix (de_var 2) (de_bin op_sub v_sub (de_var 1) (de_int))) (de_var 0)) (dw_or (dt_cmp (op_neB (hu_of' hr)) v_dat (de_var 2) (de_callTy call_tuple_of a_tuple z_tuple (da_cons ((DN.de (dn_callB (call_srtU (hu_of' hr)) a_sortU z_sorted (da_cons (de_var 2) (da_nil))))) (da_nil)))) (dw_or1 (dt_cmp (op_neB (hu_of' hr)) v_dat (de_lenSet rfl ((dc_cal0 h__law_distances (hr.mono (by first | exact Nat.le_refl _ | decide | omega)) (da_cons (de_var 2) (da_nil)) (aLen_cons (aLen_nil))).de) z_len z_set) (de_var 0)))))).dt) (dss_one (ds_ret (de_bl))) (dss_nil))
  (dss_one (ds_ret (de_or (de_cmp (op_gtB (hu_of' hr)) v_dat (de_var 0) (de_int)) (de_one ((dc_cal0 h__law_same (hr.mono (by first | exact Nat.le_refl _ | decide | omega)) (da_cons (de_var 2) (da_cons ((dc_cal0 h__law_least_whole (hr.mono (by first | exact Nat.le_refl _ | decide | omega)) (da_cons (de_var 0) (da_cons (de_bin op_sub v_sub (de_var 1) (de_int)) (da_nil))) (aLen_cons (aLen_cons (aLen_nil)))).de) (da_nil))) (aLen_cons (aLen_cons (aLen_nil)))).de)))))))))⟩)
/-! ### _law_sheets -/
abbrev t__law_sheets : Stmt := topS 23
theorem sc__law_sheets : FnScope ["a", "b", "c", "found", "x", "y", "z", "around", "over", "sheet"] ["a", "b", "c"] (defScope t__law_sheets) := ⟨rfl, rfl, rfl, by decide +kernel, rfl, by decide +kernel, by decide +kernel⟩
def b__law_sheets_1 : FS := sSeq (sSet 7 (eBin dMulA (eC (.int 2)) (eBin dAddA (eVar 4) (eVar 5))))
  (sSeq (sSet 8 (eBin dAddA (eVar 6) (eCB cMin2 (aCons (eVar 4) (aCons (eVar 5) (aNil))))))
  (sSeq (sSet 9 (eTup (aCons (eCB cMax2 (aCons (eVar 7) (aCons (eVar 8) (aNil)))) (aCons (eCB cMin2 (aCons (eVar 7) (aCons (eVar 8) (aNil)))) (aNil)))))
  (sIf (eBorT 3 (eTst (eBin (fun x y => (bNotIn x y).map .bool) (eVar 9) (eVar 3)))) (sExpr (eMeth 3 lAppend (aCons (eVar 9) (aNil)))) (sNx))))
def lb__law_sheets_1 : FS := sFor none [4, 5, 6, 7, 8, 9] (iSq (eFrz (eLst (aCons (eTup (aCons (eVar 0) (aCons (eVar 1) (aCons (eVar 2) (aNil))))) (aCons (eTup (aCons (eVar 0) (aCons (eVar 2) (aCons (eVar 1) (aNil))))) (aCons (eTup (aCons (eVar 1) (aCons (eVar 2) (aCons (eVar 0) (aNil))))) (aNil))))))) (gTp 3 (gCn (gNm 4) (gCn (gNm 5) (gCn (gNm 6) (gNl))))) b__law_sheets_1
def l__law_sheets_1 : FS := hid (lb__law_sheets_1)
theorem ll__law_sheets_1 : l__law_sheets_1 = sFor none [4, 5, 6, 7, 8, 9] (iSq (eFrz (eLst (aCons (eTup (aCons (eVar 0) (aCons (eVar 1) (aCons (eVar 2) (aNil))))) (aCons (eTup (aCons (eVar 0) (aCons (eVar 2) (aCons (eVar 1) (aNil))))) (aCons (eTup (aCons (eVar 1) (aCons (eVar 2) (aCons (eVar 0) (aNil))))) (aNil))))))) (gTp 3 (gCn (gNm 4) (gCn (gNm 5) (gCn (gNm 6) (gNl))))) b__law_sheets_1 := hid_eq _
def s__law_sheets : FS := sSeq (sSetN 3 (eLst (aNil)))
  (sSeq (l__law_sheets_1)
  (sRet (eCB cTuple (aCons (eFrz (eCBN cSortU (aCons (eVar 3) (aNil)))) (aNil)))))
def mb__law_sheets : FnS := fnSem 10 [] s__law_sheets
def m__law_sheets : FnS := hid mb__law_sheets
theorem mm__law_sheets : m__law_sheets = fnSem 10 [] s__law_sheets := hid_eq _
instance : FnIs m__law_sheets 10 [] s__law_sheets := ⟨mm__law_sheets⟩
theorem ok__law_sheets (S : Src K mg "_law_sheets" t__law_sheets ["a", "b", "c"]) (z_max : mg "max" = none) (z_min : mg "min" = none) (z_sorted : mg "sorted" = none) (z_tuple : mg "tuple" = none) : Cal P w K mg base 1 "_law_sheets" ["a", "b", "c"] [] m__law_sheets := by
  rw [mm__law_sheets]
  exact pd_cal (k := 0) [] S sc__law_sheets rfl (body := s__law_sheets) (fun f cdv A outer s H E hr => ⟨_, dss_cons (ds_setN sc__law_sheets.nd (dn_lst (da_nil)) (i := 3))
  (dss_cons (ds_hid (ll__law_sheets_1) (ds_for [4, 5, 6, 7, 8, 9] PassesOwn.never rfl (di_sq ((DN.de (dn_lst (da_cons (de_tup (da_cons (de_var 0) (da_cons (de_var 1) (da_cons (de_var 2) (da_nil))))) (da_cons (de_tup (da_cons (de_var 0) (da_cons (de_var 2) (da_cons (de_var 1) (da_nil))))) (da_cons (de_tup (da_cons (de_var 1) (da_cons (de_var 2) (da_cons (de_var 0) (da_nil))))) (da_nil)))))))) (dg_tup rfl (dgs_cons (dg_name 4 sc__law_sheets.nd) (dgs_cons (dg_name 5 sc__law_sheets.nd) (dgs_cons (dg_name 6 sc__law_sheets.nd) (dgs_nil))))) (dss_cons (ds_set sc__law_sheets.nd (de_bin op_mulA v_mulA (de_int) (de_bin op_addA v_addA (de_var 4) (de_var 5))) (i := 7))
  (dss_cons (ds_set sc__law_sheets.nd (de_bin op_addA v_addA (de_var 6) (de_callB (call_min2 rfl) a_min2 z_min (da_cons (de_var 4) (da_cons (de_var 5) (da_nil))))) (i := 8))
  (dss_cons (ds_set sc__law_sheets.nd (de_tup (da_cons (de_callB (call_max2 rfl) a_max2 z_max (da_cons (de_var 7) (da_cons (de_var 8) (da_nil)))) (da_cons (de_callB (call_min2 rfl) a_min2 z_min (da_cons (de_var 7) (da_cons (de_var 8) (da_nil)))) (da_nil)))) (i := 9))
  (dss_one (ds_if (dt_bor 3 (dt_cmp (op_notInB (hu_of' hr)) v_dat (de_var 9) (de_var 3))) (dss_one (ds_expr (de_lm (j := 3) PySem.F.slot_list_append PySem.F.type_list_append mt_append l_append (da_cons (de_var 9) (da_nil))))) (dss_nil))))))))
  (dss_one (ds_ret (de_callTy call_tuple_of a_tuple z_tuple (da_cons ((DN.de (dn_callB (call_srtU (hu_of' hr)) a_sortU z_sorted (da_cons (de_var 3) (da_nil))))) (da_nil))))))⟩)
/-! ### _law_size -/
abbrev t__law_size : Stmt := topS 22
theorem sc__law_size : FnScope ["draws", "script", "kind", "number"] ["draws", "script"] (defScope t__law_size) := ⟨rfl, rfl, rfl, by decide +kernel, rfl, by decide +kernel, by decide +kernel⟩
def s__law_size : FS := sSeq (sSet 2 (eRetD (eCall1 0 0 m__law_take (rIo 0 (rCons (eC (.int 4)) (rNil))))))
  (sSeq (sSet 3 (eRetD (eCall1 0 0 m__law_take (rIo 0 (rCons (eC (.int 1000)) (rNil))))))
  (sSeq (sIf (eTst (eBin (fun x y => (bEq x y).map .bool) (eVar 2) (eC (.int 1)))) (sSet 3 (eBin dAddA (eVar 3) (eBin dMulA (eBin dAddA (eC (.int 1)) (eRetD (eCall1 0 0 m__law_take (rIo 0 (rCons (eC (.int 1000)) (rNil)))))) (eBin dPow (eC (.int 10)) (eC (.int 15)))))) (sNx))
  (sSeq (sIf (eAnd (eTst (eBin (fun x y => (bEq x y).map .bool) (eVar 2) (eC (.int 2)))) (eTst (eBin (fun x y => (bGt x y).map .bool) (eCB cLen (aCons (eVar 1) (aNil))) (eC (.int 0))))) (sSet 3 (eBin dAddA (eVar 3) (eCB cAbs (aCons (eCB cInt (aCons (eBin dIx (eVar 1) (eRetD (eCall1 0 0 m__law_take (rIo 0 (rCons (eCB cLen (aCons (eVar 1) (aNil))) (rNil)))))) (aNil))) (aNil))))) (sNx))
  (sSeq (sIf (eTst (eBin (fun x y => (bEq x y).map .bool) (eVar 2) (eC (.int 3)))) (sSet 3 (eBin dAddA (eBin dMulA (eVar 3) (eC (.int 1000))) (eRetD (eCall1 0 0 m__law_take (rIo 0 (rCons (eC (.int 1000)) (rNil))))))) (sNx))
  (sRet (eVar 3))))))
def mb__law_size : FnS := fnSem 4 [0] s__law_size
def m__law_size : FnS := hid mb__law_size
theorem mm__law_size : m__law_size = fnSem 4 [0] s__law_size := hid_eq _
instance : FnIs m__law_size 4 [0] s__law_size := ⟨mm__law_size⟩
theorem ok__law_size (S : Src K mg "_law_size" t__law_size ["draws", "script"]) (h__law_take : Cal P w K mg base 1 "_law_take" ["draws", "many"] [0] m__law_take) (z_abs : mg "abs" = none) (z_int : mg "int" = none) (z_len : mg "len" = none) : Cal P w K mg base 2 "_law_size" ["draws", "script"] [0] m__law_size := by
  rw [mm__law_size]
  exact pd_cal (k := 1) [0] S sc__law_size rfl (body := s__law_size) (fun f cdv A outer s H E hr => ⟨_, dss_cons (ds_set sc__law_size.nd ((dc_cal1 h__law_take (hr.mono (by first | exact Nat.le_refl _ | decide | omega)) (j := 0) (dr_io (dr_cons (de_int) (dr_nil)))).de) (i := 2))
  (dss_cons (ds_set sc__law_size.nd ((dc_cal1 h__law_take (hr.mono (by first | exact Nat.le_refl _ | decide | omega)) (j := 0) (dr_io (dr_cons (de_int) (dr_nil)))).de) (i := 3))
  (dss_cons (ds_if (dt_cmp (op_eqB (hu_of' hr)) v_dat (de_var 2) (de_int)) (dss_one (ds_set sc__law_size.nd (de_bin op_addA v_addA (de_var 3) (de_bin op_mulA v_mulA (de_bin op_addA v_addA (de_int) ((dc_cal1 h__law_take (hr.mono (by first | exact Nat.le_refl _ | decide | omega)) (j := 0) (dr_io (dr_cons (de_int) (dr_nil)))).de)) (de_bin op_powD v_pow (de_int) (de_int)))) (i := 3))) (dss_nil))
  (dss_cons (ds_if ((dw_and (dt_cmp (op_eqB (hu_of' hr)) v_dat (de_var 2) (de_int)) (dw_and1 (dt_cmp (op_gtB (hu_of' hr)) v_dat (de_callB call_len a_len z_len (da_cons (de_var 1) (da_nil))) (de_int)))).dt) (dss_one (ds_set sc__law_size.nd (de_bin op_addA v_addA (de_var 3) (de_callB call_abs a_abs z_abs (da_cons (de_callTy call_intD a_int z_int (da_cons (de_ix (de_var 1) ((dc_cal1 h__law_take (hr.mono (by first | exact Nat.le_refl _ | decide | omega)) (j := 0) (dr_io (dr_cons (de_callB call_len a_len z_len (da_cons (de_var 1) (da_nil))) (dr_nil)))).de)) (da_nil))) (da_nil)))) (i := 3))) (dss_nil))
  (dss_cons (ds_if (dt_cmp (op_eqB (hu_of' hr)) v_dat (de_var 2) (de_int)) (dss_one (ds_set sc__law_size.nd (de_bin op_addA v_addA (de_bin op_mulA v_mulA (de_var 3) (de_int)) ((dc_cal1 h__law_take (hr.mono (by first | exact Nat.le_refl _ | decide | omega)) (j := 0) (dr_io (dr_cons (de_int) (dr_nil)))).de)) (i := 3))) (dss_nil))
  (dss_one (ds_ret (de_var 3)))))))⟩)
/-! ### ribbon -/
abbrev t_ribbon : Stmt := topS 6
theorem sc_ribbon : FnScope ["a", "b", "c", "knot"] ["a", "b", "c", "knot"] (defScope t_ribbon) := ⟨rfl, rfl, rfl, by decide +kernel, rfl, by decide +kernel, by decide +kernel⟩
def s_ribbon : FS := sRet (eBin dAddA (eBin dAddA (eBin dAddA (eBin dMulA (eC (.int 2)) (eVar 0)) (eBin dMulA (eC (.int 2)) (eVar 1))) (eBin dMulA (eC (.int 4)) (eVar 2))) (eVar 3))
def mb_ribbon : FnS := fnSem 4 [] s_ribbon
def m_ribbon : FnS := hid mb_ribbon
theorem mm_ribbon : m_ribbon = fnSem 4 [] s_ribbon := hid_eq _
instance : FnIs m_ribbon 4 [] s_ribbon := ⟨mm_ribbon⟩
theorem ok_ribbon (S : Src K mg "ribbon" t_ribbon ["a", "b", "c", "knot"]) : Cal P w K mg base 1 "ribbon" ["a", "b", "c", "knot"] [] m_ribbon := by
  rw [mm_ribbon]
  exact pd_cal (k := 0) [] S sc_ribbon rfl (body := s_ribbon) (fun f cdv A outer s H E hr => ⟨_, dss_one (ds_ret (de_bin op_addA v_addA (de_bin op_addA v_addA (de_bin op_addA v_addA (de_bin op_mulA v_mulA (de_int) (de_var 0)) (de_bin op_mulA v_mulA (de_int) (de_var 1))) (de_bin op_mulA v_mulA (de_int) (de_var 2))) (de_var 3)))⟩)
/-! ### sheet_round -/
abbrev t_sheet_round : Stmt := topS 1
theorem sc_sheet_round : FnScope ["x", "y", "z", "long", "wide"] ["x", "y", "z"] (defScope t_sheet_round) := ⟨rfl, rfl, rfl, by decide +kernel, rfl, by decide +kernel, by decide +kernel⟩
def s_sheet_round : FS := sSeq (sPar 3 4 (aCons (eBin dAddA (eBin dMulA (eC (.int 2)) (eVar 0)) (eBin dMulA (eC (.int 2)) (eVar 1))) (aCons (eBin dAddA (eVar 2) (eCB cMin2 (aCons (eVar 0) (aCons (eVar 1) (aNil))))) (aNil))))
  (sRet (eTup (aCons (eCB cMax2 (aCons (eVar 3) (aCons (eVar 4) (aNil)))) (aCons (eCB cMin2 (aCons (eVar 3) (aCons (eVar 4) (aNil)))) (aNil)))))
def mb_sheet_round : FnS := fnSem 5 [] s_sheet_round
def m_sheet_round : FnS := hid mb_sheet_round
theorem mm_sheet_round : m_sheet_round = fnSem 5 [] s_sheet_round := hid_eq _
instance : FnIs m_sheet_round 5 [] s_sheet_round := ⟨mm_sheet_round⟩
theorem ok_sheet_round (S : Src K mg "sheet_round" t_sheet_round ["x", "y", "z"]) (z_max : mg "max" = none) (z_min : mg "min" = none) : Cal P w K mg base 1 "sheet_round" ["x", "y", "z"] [] m_sheet_round := by
  rw [mm_sheet_round]
  exact pd_cal (k := 0) [] S sc_sheet_round rfl (body := s_sheet_round) (fun f cdv A outer s H E hr => ⟨_, dss_cons (ds_par rfl sc_sheet_round.nd (da_cons (de_bin op_addA v_addA (de_bin op_mulA v_mulA (de_int) (de_var 0)) (de_bin op_mulA v_mulA (de_int) (de_var 1))) (da_cons (de_bin op_addA v_addA (de_var 2) (de_callB (call_min2 rfl) a_min2 z_min (da_cons (de_var 0) (da_cons (de_var 1) (da_nil))))) (da_nil))) (i := 3) (j := 4))
  (dss_one (ds_ret (de_tup (da_cons (de_callB (call_max2 rfl) a_max2 z_max (da_cons (de_var 3) (da_cons (de_var 4) (da_nil)))) (da_cons (de_callB (call_min2 rfl) a_min2 z_min (da_cons (de_var 3) (da_cons (de_var 4) (da_nil)))) (da_nil))))))⟩)
/-! ### sheets_for_box -/
abbrev t_sheets_for_box : Stmt := topS 2
theorem sc_sheets_for_box : FnScope ["a", "b", "c"] ["a", "b", "c"] (defScope t_sheets_for_box) := ⟨rfl, rfl, rfl, by decide +kernel, rfl, by decide +kernel, by decide +kernel⟩
def s_sheets_for_box : FS := sRet (eCB cTuple (aCons (eFrz (eSrtSetT (eFrz (eLst (aCons (eRetD (eCall0 m_sheet_round (aCons (eVar 0) (aCons (eVar 1) (aCons (eVar 2) (aNil)))))) (aCons (eRetD (eCall0 m_sheet_round (aCons (eVar 0) (aCons (eVar 2) (aCons (eVar 1) (aNil)))))) (aCons (eRetD (eCall0 m_sheet_round (aCons (eVar 1) (aCons (eVar 2) (aCons (eVar 0) (aNil)))))) (aNil)))))))) (aNil)))
def mb_sheets_for_box : FnS := fnSem 3 [] s_sheets_for_box
def m_sheets_for_box : FnS := hid mb_sheets_for_box
theorem mm_sheets_for_box : m_sheets_for_box = fnSem 3 [] s_sheets_for_box := hid_eq _
instance : FnIs m_sheets_for_box 3 [] s_sheets_for_box := ⟨mm_sheets_for_box⟩
theorem ok_sheets_for_box (S : Src K mg "sheets_for_box" t_sheets_for_box ["a", "b", "c"]) (h_sheet_round : Cal P w K mg base 1 "sheet_round" ["x", "y", "z"] [] m_sheet_round) (z_set : mg "set" = none) (z_sorted : mg "sorted" = none) (z_tuple : mg "tuple" = none) : Cal P w K mg base 2 "sheets_for_box" ["a", "b", "c"] [] m_sheets_for_box := by
  rw [mm_sheets_for_box]
  exact pd_cal (k := 1) [] S sc_sheets_for_box rfl (body := s_sheets_for_box) (fun f cdv A outer s H E hr => ⟨_, dss_one (ds_ret (de_callTy call_tuple_of a_tuple z_tuple (da_cons ((DN.de (dn_srtSetT rfl (hu_of' hr) ((DN.de (dn_lst (da_cons ((dc_cal0 h_sheet_round (hr.mono (by first | exact Nat.le_refl _ | decide | omega)) (da_cons (de_var 0) (da_cons (de_var 1) (da_cons (de_var 2) (da_nil)))) (aLen_cons (aLen_cons (aLen_cons (aLen_nil))))).de) (da_cons ((dc_cal0 h_sheet_round (hr.mono (by first | exact Nat.le_refl _ | decide | omega)) (da_cons (de_var 0) (da_cons (de_var 2) (da_cons (de_var 1) (da_nil)))) (aLen_cons (aLen_cons (aLen_cons (aLen_nil))))).de) (da_cons ((dc_cal0 h_sheet_round (hr.mono (by first | exact Nat.le_refl _ | decide | omega)) (da_cons (de_var 1) (da_cons (de_var 2) (da_cons (de_var 0) (da_nil)))) (aLen_cons (aLen_cons (aLen_cons (aLen_nil))))).de) (da_nil))))))) z_sorted z_set))) (da_nil))))⟩)
/-! ### least_sheet -/
abbrev t_least_sheet : Stmt := topS 3
theorem sc_least_sheet : FnScope ["a", "b", "c", "long", "wide"] ["a", "b", "c"] (defScope t_least_sheet) := ⟨rfl, rfl, rfl, by decide +kernel, rfl, by decide +kernel, by decide +kernel⟩
def kb_least_sheet_1 : FN := eComp none [3, 4] (iSq (eRetD (eCall0 m_sheets_for_box (aCons (eVar 0) (aCons (eVar 1) (aCons (eVar 2) (aNil))))))) (gTp 2 (gCn (gNm 3) (gCn (gNm 4) (gNl)))) (cYes) (eTup (aCons (eBin dMulA (eVar 3) (eVar 4)) (aCons (eTup (aCons (eVar 3) (aCons (eVar 4) (aNil)))) (aNil))))
def k_least_sheet_1 : FN := hid (kb_least_sheet_1)
theorem kk_least_sheet_1 : k_least_sheet_1 = eComp none [3, 4] (iSq (eRetD (eCall0 m_sheets_for_box (aCons (eVar 0) (aCons (eVar 1) (aCons (eVar 2) (aNil))))))) (gTp 2 (gCn (gNm 3) (gCn (gNm 4) (gNl)))) (cYes) (eTup (aCons (eBin dMulA (eVar 3) (eVar 4)) (aCons (eTup (aCons (eVar 3) (aCons (eVar 4) (aNil)))) (aNil)))) := hid_eq _
def s_least_sheet : FS := sRet (eBin dIx (eCB cMinL (aCons (eFrz (k_least_sheet_1)) (aNil))) (eC (.int 1)))
def mb_least_sheet : FnS := fnSem 5 [] s_least_sheet
def m_least_sheet : FnS := hid mb_least_sheet
theorem mm_least_sheet : m_least_sheet = fnSem 5 [] s_least_sheet := hid_eq _
instance : FnIs m_least_sheet 5 [] s_least_sheet := ⟨mm_least_sheet⟩
theorem ok_least_sheet (S : Src K mg "least_sheet" t_least_sheet ["a", "b", "c"]) (h_sheets_for_box : Cal P w K mg base 2 "sheets_for_box" ["a", "b", "c"] [] m_sheets_for_box) (z_min : mg "min" = none) : Cal P w K mg base 3 "least_sheet" ["a", "b", "c"] [] m_least_sheet := by
  rw [mm_least_sheet]
  exact pd_cal (k := 2) [] S sc_least_sheet rfl (body := s_least_sheet) (fun f cdv A outer s H E hr => ⟨_, dss_one (ds_ret (de_ix (de_callB (call_minB rfl (hu_of' hr)) a_minL z_min (da_cons ((DN.de (dn_hid (kk_least_sheet_1) (dn_compX rfl sc_least_sheet.nd (di_sq ((dc_cal0 h_sheets_for_box (hr.mono (by first | exact Nat.le_refl _ | decide | omega)) (da_cons (de_var 0) (da_cons (de_var 1) (da_cons (de_var 2) (da_nil)))) (aLen_cons (aLen_cons (aLen_cons (aLen_nil))))).de)) (own := [("long", 3), ("wide", 4)]) (blkOk_by (N := ["a", "b", "c", "long", "wide"]) (sc := defScope t_least_sheet) (by decide +kernel)) (fun s H C cl fp => dg_tup rfl (dgs_cons (dg_name 3 sc_least_sheet.nd) (dgs_cons (dg_name 4 sc_least_sheet.nd) (dgs_nil)))) (fun s H C cl fp => dts_nil) (fun s H C cl fp => de_tup (da_cons (de_bin op_mulA v_mulA (de_var 3) (de_var 4)) (da_cons (de_tup (da_cons (de_var 3) (da_cons (de_var 4) (da_nil)))) (da_nil)))))))) (da_nil))) (de_int)))⟩)
/-! ### _law_least_sheet -/
abbrev t__law_least_sheet : Stmt := topS 24
theorem sc__law_least_sheet : FnScope ["a", "b", "c", "best", "sheet"] ["a", "b", "c"] (defScope t__law_least_sheet) := ⟨rfl, rfl, rfl, by decide +kernel, rfl, by decide +kernel, by decide +kernel⟩
def b__law_least_sheet_1 : FS := sIf (eOr (eTst (eBin (fun x y => (bIsN x y).map .bool) (eVar 3) (eC .none))) (eTst (eBin (fun x y => (bLt x y).map .bool) (eBin dMulA (eBin dIx (eVar 4) (eC (.int 0))) (eBin dIx (eVar 4) (eC (.int 1)))) (eBin dMulA (eBin dIx (eVar 3) (eC (.int 0))) (eBin dIx (eVar 3) (eC (.int 1))))))) (sSet 3 (eVar 4)) (sNx)
def lb__law_least_sheet_1 : FS := sFor none [4] (iSq (eRetD (eCall0 m__law_sheets (aCons (eVar 0) (aCons (eVar 1) (aCons (eVar 2) (aNil))))))) (gNm 4) b__law_least_sheet_1
def l__law_least_sheet_1 : FS := hid (lb__law_least_sheet_1)
theorem ll__law_least_sheet_1 : l__law_least_sheet_1 = sFor none [4] (iSq (eRetD (eCall0 m__law_sheets (aCons (eVar 0) (aCons (eVar 1) (aCons (eVar 2) (aNil))))))) (gNm 4) b__law_least_sheet_1 := hid_eq _
def s__law_least_sheet : FS := sSeq (sSet 3 (eC .none))
  (sSeq (l__law_least_sheet_1)
  (sRet (eVar 3)))
def mb__law_least_sheet : FnS := fnSem 5 [] s__law_least_sheet
def m__law_least_sheet : FnS := hid mb__law_least_sheet
theorem mm__law_least_sheet : m__law_least_sheet = fnSem 5 [] s__law_least_sheet := hid_eq _
instance : FnIs m__law_least_sheet 5 [] s__law_least_sheet := ⟨mm__law_least_sheet⟩
theorem ok__law_least_sheet (S : Src K mg "_law_least_sheet" t__law_least_sheet ["a", "b", "c"]) (h__law_sheets : Cal P w K mg base 1 "_law_sheets" ["a", "b", "c"] [] m__law_sheets) : Cal P w K mg base 2 "_law_least_sheet" ["a", "b", "c"] [] m__law_least_sheet := by
  rw [mm__law_least_sheet]
  exact pd_cal (k := 1) [] S sc__law_least_sheet rfl (body := s__law_least_sheet) (fun f cdv A outer s H E hr => ⟨_, dss_cons (ds_set sc__law_least_sheet.nd (de_non) (i := 3))
  (dss_cons (ds_hid (ll__law_least_sheet_1) (ds_for [4] PassesOwn.never rfl (di_sq ((dc_cal0 h__law_sheets (hr.mono (by first | exact Nat.le_refl _ | decide | omega)) (da_cons (de_var 0) (da_cons (de_var 1) (da_cons (de_var 2) (da_nil)))) (aLen_cons (aLen_cons (aLen_cons (aLen_nil))))).de)) (dg_name 4 sc__law_least_sheet.nd) (dss_one (ds_if ((dw_or (dt_cmp (op_isNB) v_dat (de_var 3) (de_non)) (dw_or1 (dt_cmp (op_ltB (hu_of' hr)) v_dat (de_bin op_mulA v_mulA (de_ix (de_var 4) (de_int)) (de_ix (de_var 4) (de_int))) (de_bin op_mulA v_mulA (de_ix (de_var 3) (de_int)) (de_ix (de_var 3) (de_int)))))).dt) (dss_one (ds_set sc__law_least_sheet.nd (de_var 4) (i := 3))) (dss_nil)))))
  (dss_one (ds_ret (de_var 3))))⟩)
/-! ### can_wrap -/
abbrev t_can_wrap : Stmt := topS 4
theorem sc_can_wrap : FnScope ["sheet", "a", "b", "c", "long", "wide"] ["sheet", "a", "b", "c"] (defScope t_can_wrap) := ⟨rfl, rfl, rfl, by decide +kernel, rfl, by decide +kernel, by decide +kernel⟩
def kb_can_wrap_1 : FN := eComp none [4, 5] (iSq (eRetD (eCall0 m_sheets_for_box (aCons (eVar 1) (aCons (eVar 2) (aCons (eVar 3) (aNil))))))) (gTp 2 (gCn (gNm 4) (gCn (gNm 5) (gNl)))) (cYes) (eAndV (eBin (fun x y => (bLe x y).map .bool) (eVar 4) (eBin dIx (eVar 0) (eC (.int 0)))) (eBin (fun x y => (bLe x y).map .bool) (eVar 5) (eBin dIx (eVar 0) (eC (.int 1)))))
def k_can_wrap_1 : FN := hid (kb_can_wrap_1)
theorem kk_can_wrap_1 : k_can_wrap_1 = eComp none [4, 5] (iSq (eRetD (eCall0 m_sheets_for_box (aCons (eVar 1) (aCons (eVar 2) (aCons (eVar 3) (aNil))))))) (gTp 2 (gCn (gNm 4) (gCn (gNm 5) (gNl)))) (cYes) (eAndV (eBin (fun x y => (bLe x y).map .bool) (eVar 4) (eBin dIx (eVar 0) (eC (.int 0)))) (eBin (fun x y => (bLe x y).map .bool) (eVar 5) (eBin dIx (eVar 0) (eC (.int 1))))) := hid_eq _
def s_can_wrap : FS := sRet (eCB cAny (aCons (eFrz (k_can_wrap_1)) (aNil)))
def mb_can_wrap : FnS := fnSem 6 [] s_can_wrap
def m_can_wrap : FnS := hid mb_can_wrap
theorem mm_can_wrap : m_can_wrap = fnSem 6 [] s_can_wrap := hid_eq _
instance : FnIs m_can_wrap 6 [] s_can_wrap := ⟨mm_can_wrap⟩
theorem ok_can_wrap (S : Src K mg "can_wrap" t_can_wrap ["sheet", "a", "b", "c"]) (h_sheets_for_box : Cal P w K mg base 2 "sheets_for_box" ["a", "b", "c"] [] m_sheets_for_box) (z_any : mg "any" = none) : Cal P w K mg base 3 "can_wrap" ["sheet", "a", "b", "c"] [] m_can_wrap := by
  rw [mm_can_wrap]
  exact pd_cal (k := 2) [] S sc_can_wrap rfl (body := s_can_wrap) (fun f cdv A outer s H E hr => ⟨_, dss_one (ds_ret (de_callB (cr_any rfl) a_any z_any (da_cons ((DN.de (dn_hid (kk_can_wrap_1) (dn_compX rfl sc_can_wrap.nd (di_sq ((dc_cal0 h_sheets_for_box (hr.mono (by first | exact Nat.le_refl _ | decide | omega)) (da_cons (de_var 1) (da_cons (de_var 2) (da_cons (de_var 3) (da_nil)))) (aLen_cons (aLen_cons (aLen_cons (aLen_nil))))).de)) (own := [("long", 4), ("wide", 5)]) (blkOk_by (N := ["sheet", "a", "b", "c", "long", "wide"]) (sc := defScope t_can_wrap) (by decide +kernel)) (fun s H C cl fp => dg_tup rfl (dgs_cons (dg_name 4 sc_can_wrap.nd) (dgs_cons (dg_name 5 sc_can_wrap.nd) (dgs_nil)))) (fun s H C cl fp => dts_nil) (fun s H C cl fp => de_and (de_cmp (op_leB (hu_of' hr)) v_dat (de_var 4) (de_ix (de_var 0) (de_int))) (de_one (de_cmp (op_leB (hu_of' hr)) v_dat (de_var 5) (de_ix (de_var 0) (de_int))))))))) (da_nil))))⟩)
/-! ### _law_can_wrap -/
abbrev t__law_can_wrap : Stmt := topS 25
theorem sc__law_can_wrap : FnScope ["sheet", "a", "b", "c", "one"] ["sheet", "a", "b", "c"] (defScope t__law_can_wrap) := ⟨rfl, rfl, rfl, by decide +kernel, rfl, by decide +kernel, by decide +kernel⟩
def kb__law_can_wrap_1 : FN := eComp none [4] (iSq (eRetD (eCall0 m__law_sheets (aCons (eVar 1) (aCons (eVar 2) (aCons (eVar 3) (aNil))))))) (gNm 4) (eAnd (eTst (eBin (fun x y => (bLe x y).map .bool) (eBin dIx (eVar 4) (eC (.int 0))) (eBin dIx (eVar 0) (eC (.int 0))))) (eTst (eBin (fun x y => (bLe x y).map .bool) (eBin dIx (eVar 4) (eC (.int 1))) (eBin dIx (eVar 0) (eC (.int 1)))))) (eVar 4)
def k__law_can_wrap_1 : FN := hid (kb__law_can_wrap_1)
theorem kk__law_can_wrap_1 : k__law_can_wrap_1 = eComp none [4] (iSq (eRetD (eCall0 m__law_sheets (aCons (eVar 1) (aCons (eVar 2) (aCons (eVar 3) (aNil))))))) (gNm 4) (eAnd (eTst (eBin (fun x y => (bLe x y).map .bool) (eBin dIx (eVar 4) (eC (.int 0))) (eBin dIx (eVar 0) (eC (.int 0))))) (eTst (eBin (fun x y => (bLe x y).map .bool) (eBin dIx (eVar 4) (eC (.int 1))) (eBin dIx (eVar 0) (eC (.int 1)))))) (eVar 4) := hid_eq _
def s__law_can_wrap : FS := sRet (eBin (fun x y => (bGt x y).map .bool) (eCB cLen (aCons (eFrz (k__law_can_wrap_1)) (aNil))) (eC (.int 0)))
def mb__law_can_wrap : FnS := fnSem 5 [] s__law_can_wrap
def m__law_can_wrap : FnS := hid mb__law_can_wrap
theorem mm__law_can_wrap : m__law_can_wrap = fnSem 5 [] s__law_can_wrap := hid_eq _
instance : FnIs m__law_can_wrap 5 [] s__law_can_wrap := ⟨mm__law_can_wrap⟩
theorem ok__law_can_wrap (S : Src K mg "_law_can_wrap" t__law_can_wrap ["sheet", "a", "b", "c"]) (h__law_sheets : Cal P w K mg base 1 "_law_sheets" ["a", "b", "c"] [] m__law_sheets) (z_len : mg "len" = none) : Cal P w K mg base 2 "_law_can_wrap" ["sheet", "a", "b", "c"] [] m__law_can_wrap := by
  rw [mm__law_can_wrap]
  exact pd_cal (k := 1) [] S sc__law_can_wrap rfl (body := s__law_can_wrap) (fun f cdv A outer s H E hr => ⟨_, dss_one (ds_ret (de_cmp (op_gtB (hu_of' hr)) v_dat (de_callB call_len a_len z_len (da_cons ((DN.de (dn_hid (kk__law_can_wrap_1) (dn_compX rfl sc__law_can_wrap.nd (di_sq ((dc_cal0 h__law_sheets (hr.mono (by first | exact Nat.le_refl _ | decide | omega)) (da_cons (de_var 1) (da_cons (de_var 2) (da_cons (de_var 3) (da_nil)))) (aLen_cons (aLen_cons (aLen_cons (aLen_nil))))).de)) (own := [("one", 4)]) (blkOk_by (N := ["sheet", "a", "b", "c", "one"]) (sc := defScope t__law_can_wrap) (by decide +kernel)) (fun s H C cl fp => dg_name 4 sc__law_can_wrap.nd) (fun s H C cl fp => dts_one ((dw_and (dt_cmp (op_leB (hu_of' hr)) v_dat (de_ix (de_var 4) (de_int)) (de_ix (de_var 0) (de_int))) (dw_and1 (dt_cmp (op_leB (hu_of' hr)) v_dat (de_ix (de_var 4) (de_int)) (de_ix (de_var 0) (de_int))))).dt)) (fun s H C cl fp => de_var 4))))) (da_nil))) (de_int)))⟩)
/-! ### _law_box_right -/
abbrev t__law_box_right : Stmt := topS 26
theorem sc__law_box_right : FnScope ["draws", "script", "sides", "a", "b", "c", "sheets", "long", "wide", "near", "one", "other", "sheet", "knot", "k"] ["draws", "script"] (defScope t__law_box_right) := ⟨rfl, rfl, rfl, by decide +kernel, rfl, by decide +kernel, by decide +kernel⟩
def kb__law_box_right_1 : FN := eComp none [14] (iR1 (aCons (eC (.int 3)) (aNil))) (gNm 14) (cYes) (eBin dAddA (eC (.int 1)) (eRetD (eCall1 0 0 m__law_take (rIo 0 (rCons (eC (.int 12)) (rNil))))))
def k__law_box_right_1 : FN := hid (kb__law_box_right_1)
theorem kk__law_box_right_1 : k__law_box_right_1 = eComp none [14] (iR1 (aCons (eC (.int 3)) (aNil))) (gNm 14) (cYes) (eBin dAddA (eC (.int 1)) (eRetD (eCall1 0 0 m__law_take (rIo 0 (rCons (eC (.int 12)) (rNil)))))) := hid_eq _
def kb__law_box_right_2 : FN := eComp none [14] (iR1 (aCons (eC (.int 3)) (aNil))) (gNm 14) (cYes) (eBin dAddA (eC (.int 1)) (eRetD (eCall1 0 0 m__law_size (rIo 0 (rCons (eVar 1) (rNil))))))
def k__law_box_right_2 : FN := hid (kb__law_box_right_2)
theorem kk__law_box_right_2 : k__law_box_right_2 = eComp none [14] (iR1 (aCons (eC (.int 3)) (aNil))) (gNm 14) (cYes) (eBin dAddA (eC (.int 1)) (eRetD (eCall1 0 0 m__law_size (rIo 0 (rCons (eVar 1) (rNil)))))) := hid_eq _
def b__law_box_right_1 : FS := sSeq (sSet 12 (eTup (aCons (eCB cMax2 (aCons (eVar 10) (aCons (eVar 11) (aNil)))) (aCons (eCB cMin2 (aCons (eVar 10) (aCons (eVar 11) (aNil)))) (aNil)))))
  (sIf (eAnd (eTst (eBin (fun x y => (bGe x y).map .bool) (eBin dIx (eVar 12) (eC (.int 1))) (eC (.int 1)))) (eNot (eTru (eRetD (eCall0 (m__law_same 12) (aCons (eRetD (eCall0 m_can_wrap (aCons (eVar 12) (aCons (eVar 3) (aCons (eVar 4) (aCons (eVar 5) (aNil))))))) (aCons (eRetD (eCall0 m__law_can_wrap (aCons (eVar 12) (aCons (eVar 3) (aCons (eVar 4) (aCons (eVar 5) (aNil))))))) (aNil)))))))) (sRet (eC (.bool false))) (sNx))
def lb__law_box_right_1 : FS := sFor none [10, 11, 12] (iSq (eVar 9)) (gTp 2 (gCn (gNm 10) (gCn (gNm 11) (gNl)))) b__law_box_right_1
def l__law_box_right_1 : FS := hid (lb__law_box_right_1)
theorem ll__law_box_right_1 : l__law_box_right_1 = sFor none [10, 11, 12] (iSq (eVar 9)) (gTp 2 (gCn (gNm 10) (gCn (gNm 11) (gNl)))) b__law_box_right_1 := hid_eq _
def b__law_box_right_2 : FS := sSeq (sSetN 9 (eLst (aCons (eTup (aCons (eVar 7) (aCons (eVar 8) (aNil)))) (aCons (eTup (aCons (eBin dSub (eVar 7) (eC (.int 1))) (aCons (eVar 8) (aNil)))) (aCons (eTup (aCons (eVar 7) (aCons (eBin dSub (eVar 8) (eC (.int 1))) (aNil)))) (aCons (eTup (aCons (eBin dAddA (eVar 7) (eC (.int 1))) (aCons (eBin dSub (eVar 8) (eC (.int 1))) (aNil)))) (aCons (eTup (aCons (eBin dSub (eVar 7) (eC (.int 1))) (aCons (eBin dAddA (eVar 8) (eC (.int 1))) (aNil)))) (aNil))))))))
  (sSeq (sExpr (eMeth 9 lAppend (aCons (eTup (aCons (eBin dAddA (eVar 7) (eRetD (eCall1 0 0 m__law_take (rIo 0 (rCons (eC (.int 30)) (rNil)))))) (aCons (eBin dAddA (eVar 8) (eRetD (eCall1 0 0 m__law_take (rIo 0 (rCons (eC (.int 30)) (rNil)))))) (aNil)))) (aNil))))
  (sSeq (sExpr (eMeth 9 lAppend (aCons (eTup (aCons (eBin dAddA (eVar 7) (eRetD (eCall1 0 0 m__law_size (rIo 0 (rCons (eVar 1) (rNil)))))) (aCons (eBin dSub (eVar 8) (eRetD (eCall1 0 0 m__law_take (rIo 0 (rCons (eC (.int 3)) (rNil)))))) (aNil)))) (aNil))))
  (l__law_box_right_1)))
def lb__law_box_right_2 : FS := sFor none [7, 8, 9, 10, 11, 12] (iSq (eVar 6)) (gTp 2 (gCn (gNm 7) (gCn (gNm 8) (gNl)))) b__law_box_right_2
def l__law_box_right_2 : FS := hid (lb__law_box_right_2)
theorem ll__law_box_right_2 : l__law_box_right_2 = sFor none [7, 8, 9, 10, 11, 12] (iSq (eVar 6)) (gTp 2 (gCn (gNm 7) (gCn (gNm 8) (gNl)))) b__law_box_right_2 := hid_eq _
def s__law_box_right : FS := sSeq (sSet 2 (eFrz (k__law_box_right_1)))
  (sSeq (sIf (eTst (eBin (fun x y => (bEq x y).map .bool) (eRetD (eCall1 0 0 m__law_take (rIo 0 (rCons (eC (.int 3)) (rNil))))) (eC (.int 0)))) (sSet 2 (eFrz (k__law_box_right_2))) (sNx))
  (sSeq (sAsg (eVar 2) (gTp 3 (gCn (gNm 3) (gCn (gNm 4) (gCn (gNm 5) (gNl))))))
  (sSeq (sSet 6 (eRetD (eCall0 m__law_sheets (aCons (eVar 3) (aCons (eVar 4) (aCons (eVar 5) (aNil)))))))
  (sSeq (sIf (eOr (eNot (eTru (eRetD (eCall0 (m__law_same 12) (aCons (eRetD (eCall0 m_sheets_for_box (aCons (eVar 3) (aCons (eVar 4) (aCons (eVar 5) (aNil)))))) (aCons (eVar 6) (aNil))))))) (eNot (eTru (eRetD (eCall0 (m__law_same 12) (aCons (eRetD (eCall0 m_least_sheet (aCons (eVar 3) (aCons (eVar 4) (aCons (eVar 5) (aNil)))))) (aCons (eRetD (eCall0 m__law_least_sheet (aCons (eVar 3) (aCons (eVar 4) (aCons (eVar 5) (aNil)))))) (aNil)))))))) (sRet (eC (.bool false))) (sNx))
  (sSeq (l__law_box_right_2)
  (sSeq (sSet 13 (eRetD (eCall1 0 0 m__law_size (rIo 0 (rCons (eVar 1) (rNil))))))
  (sRet (eRetD (eCall0 (m__law_same 12) (aCons (eRetD (eCall0 m_ribbon (aCons (eVar 3) (aCons (eVar 4) (aCons (eVar 5) (aCons (eVar 13) (aNil))))))) (aCons (eBin dAddA (eBin dAddA (eBin dAddA (eBin dMulA (eC (.int 2)) (eVar 3)) (eBin dMulA (eC (.int 2)) (eVar 5))) (eBin dAddA (eBin dMulA (eC (.int 2)) (eVar 4)) (eBin dMulA (eC (.int 2)) (eVar 5)))) (eVar 13)) (aNil))))))))))))
def mb__law_box_right : FnS := fnSem 15 [0] s__law_box_right
def m__law_box_right : FnS := hid mb__law_box_right
theorem mm__law_box_right : m__law_box_right = fnSem 15 [0] s__law_box_right := hid_eq _
instance : FnIs m__law_box_right 15 [0] s__law_box_right := ⟨mm__law_box_right⟩
theorem ok__law_box_right (S : Src K mg "_law_box_right" t__law_box_right ["draws", "script"]) (h__law_can_wrap : Cal P w K mg base 2 "_law_can_wrap" ["sheet", "a", "b", "c"] [] m__law_can_wrap) (h__law_least_sheet : Cal P w K mg base 2 "_law_least_sheet" ["a", "b", "c"] [] m__law_least_sheet) (h__law_same : Cal P w K mg base 12 "_law_same" ["actual", "due"] [] (m__law_same 12)) (h__law_sheets : Cal P w K mg base 1 "_law_sheets" ["a", "b", "c"] [] m__law_sheets) (h__law_size : Cal P w K mg base 2 "_law_size" ["draws", "script"] [0] m__law_size) (h__law_take : Cal P w K mg base 1 "_law_take" ["draws", "many"] [0] m__law_take) (h_can_wrap : Cal P w K mg base 3 "can_wrap" ["sheet", "a", "b", "c"] [] m_can_wrap) (h_least_sheet : Cal P w K mg base 3 "least_sheet" ["a", "b", "c"] [] m_least_sheet) (h_ribbon : Cal P w K mg base 1 "ribbon" ["a", "b", "c", "knot"] [] m_ribbon) (h_sheets_for_box : Cal P w K mg base 2 "sheets_for_box" ["a", "b", "c"] [] m_sheets_for_box) (z_max : mg "max" = none) (z_min : mg "min" = none) (z_range : mg "range" = none) : Cal P w K mg base 13 "_law_box_right" ["draws", "script"] [0] m__law_box_right := by
  rw [mm__law_box_right]
  exact pd_cal (k := 12) [0] S sc__law_box_right rfl (body := s__law_box_right) (fun f cdv A outer s H E hr => ⟨_, dss_cons (ds_hidF (kk__law_box_right_1) (ds_setCompX rfl sc__law_box_right.nd (di_range1 (da_cons (de_int) (da_nil)) z_range) (own := [("k", 14)]) (blkOk_by (N := ["draws", "script", "sides", "a", "b", "c", "sheets", "long", "wide", "near", "one", "other", "sheet", "knot", "k"]) (sc := defScope t__law_box_right) (by decide +kernel)) (fun s H C cl fp => dg_name 14 sc__law_box_right.nd) (fun s H C cl fp => dts_nil) (fun s H C cl fp => de_bin op_addA v_addA (de_int) ((dc_cal1 h__law_take (hr.mono (by first | exact Nat.le_refl _ | decide | omega)) (j := 0) (dr_io (dr_cons (de_int) (dr_nil)))).de))))
  (dss_cons (ds_if (dt_cmp (op_eqB (hu_of' hr)) v_dat ((dc_cal1 h__law_take (hr.mono (by first | exact Nat.le_refl _ | decide | omega)) (j := 0) (dr_io (dr_cons (de_int) (dr_nil)))).de) (de_int)) (dss_one (ds_hidF (kk__law_box_right_2) (ds_setCompX rfl sc__law_box_right.nd (di_range1 (da_cons (de_int) (da_nil)) z_range) (own := [("k", 14)]) (blkOk_by (N := ["draws", "script", "sides", "a", "b", "c", "sheets", "long", "wide", "near", "one", "other", "sheet", "knot", "k"]) (sc := defScope t__law_box_right) (by decide +kernel)) (fun s H C cl fp => dg_name 14 sc__law_box_right.nd) (fun s H C cl fp => dts_nil) (fun s H C cl fp => de_bin op_addA v_addA (de_int) ((dc_cal1 h__law_size (hr.mono (by first | exact Nat.le_refl _ | decide | omega)) (j := 0) (dr_io (dr_cons (de_var 1) (dr_nil)))).de))))) (dss_nil))
  (dss_cons (ds_asg (de_var 2) (dg_tup rfl (dgs_cons (dg_name 3 sc__law_box_right.nd) (dgs_cons (dg_name 4 sc__law_box_right.nd) (dgs_cons (dg_name 5 sc__law_box_right.nd) (dgs_nil))))))
  (dss_cons (ds_set sc__law_box_right.nd ((dc_cal0 h__law_sheets (hr.mono (by first | exact Nat.le_refl _ | decide | omega)) (da_cons (de_var 3) (da_cons (de_var 4) (da_cons (de_var 5) (da_nil)))) (aLen_cons (aLen_cons (aLen_cons (aLen_nil))))).de) (i := 6))
  (dss_cons (ds_if ((dw_or (dt_not (dt_tru ((dc_cal0 h__law_same (hr.mono (by first | exact Nat.le_refl _ | decide | omega)) (da_cons ((dc_cal0 h_sheets_for_box (hr.mono (by first | exact Nat.le_refl _ | decide | omega)) (da_cons (de_var 3) (da_cons (de_var 4) (da_cons (de_var 5) (da_nil)))) (aLen_cons (aLen_cons (aLen_cons (aLen_nil))))).de) (da_cons (de_var 6) (da_nil))) (aLen_cons (aLen_cons (aLen_nil)))).de))) (dw_or1 (dt_not (dt_tru ((dc_cal0 h__law_same (hr.mono (by first | exact Nat.le_refl _ | decide | omega)) (da_cons ((dc_cal0 h_least_sheet (hr.mono (by first | exact Nat.le_refl _ | decide | omega)) (da_cons (de_var 3) (da_cons (de_var 4) (da_cons (de_var 5) (da_nil)))) (aLen_cons (aLen_cons (aLen_cons (aLen_nil))))).de) (da_cons ((dc_cal0 h__law_least_sheet (hr.mono (by first | exact Nat.le_refl _ | decide | omega)) (da_cons (de_var 3) (da_cons (de_var 4) (da_cons (de_var 5) (da_nil)))) (aLen_cons (aLen_cons (aLen_cons (aLen_nil))))).de) (da_nil))) (aLen_cons (aLen_cons (aLen_nil)))).de))))).dt) (dss_one (ds_ret (de_bl))) (dss_nil))
  (dss_cons (ds_hid (ll__law_box_right_2) (ds_for [7, 8, 9, 10, 11, 12] PassesOwn.never rfl (di_sq (de_var 6)) (dg_tup rfl (dgs_cons (dg_name 7 sc__law_box_right.nd) (dgs_cons (dg_name 8 sc__law_box_right.nd) (dgs_nil)))) (dss_cons (ds_setN sc__law_box_right.nd (dn_lst (da_cons (de_tup (da_cons (de_var 7) (da_cons (de_var 8) (da_nil)))) (da_cons (de_tup (da_cons (de_bin op_sub v_sub (de_var 7) (de_int)) (da_cons (de_var 8) (da_nil)))) (da_cons (de_tup (da_cons (de_var 7) (da_cons (de_bin op_sub v_sub (de_var 8) (de_int)) (da_nil)))) (da_cons (de_tup (da_cons (de_bin op_addA v_addA (de_var 7) (de_int)) (da_cons (de_bin op_sub v_sub (de_var 8) (de_int)) (da_nil)))) (da_cons (de_tup (da_cons (de_bin op_sub v_sub (de_var 7) (de_int)) (da_cons (de_bin op_addA v_addA (de_var 8) (de_int)) (da_nil)))) (da_nil))))))) (i := 9))
  (dss_cons (ds_expr (de_lm (j := 9) PySem.F.slot_list_append PySem.F.type_list_append mt_append l_append (da_cons (de_tup (da_cons (de_bin op_addA v_addA (de_var 7) ((dc_cal1 h__law_take (hr.mono (by first | exact Nat.le_refl _ | decide | omega)) (j := 0) (dr_io (dr_cons (de_int) (dr_nil)))).de)) (da_cons (de_bin op_addA v_addA (de_var 8) ((dc_cal1 h__law_take (hr.mono (by first | exact Nat.le_refl _ | decide | omega)) (j := 0) (dr_io (dr_cons (de_int) (dr_nil)))).de)) (da_nil)))) (da_nil))))
  (dss_cons (ds_expr (de_lm (j := 9) PySem.F.slot_list_append PySem.F.type_list_append mt_append l_append (da_cons (de_tup (da_cons (de_bin op_addA v_addA (de_var 7) ((dc_cal1 h__law_size (hr.mono (by first | exact Nat.le_refl _ | decide | omega)) (j := 0) (dr_io (dr_cons (de_var 1) (dr_nil)))).de)) (da_cons (de_bin op_sub v_sub (de_var 8) ((dc_cal1 h__law_take (hr.mono (by first | exact Nat.le_refl _ | decide | omega)) (j := 0) (dr_io (dr_cons (de_int) (dr_nil)))).de)) (da_nil)))) (da_nil))))
  (dss_one (ds_hid (ll__law_box_right_1) (ds_for [10, 11, 12] PassesOwn.never rfl (di_sq (de_var 9)) (dg_tup rfl (dgs_cons (dg_name 10 sc__law_box_right.nd) (dgs_cons (dg_name 11 sc__law_box_right.nd) (dgs_nil)))) (dss_cons (ds_set sc__law_box_right.nd (de_tup (da_cons (de_callB (call_max2 rfl) a_max2 z_max (da_cons (de_var 10) (da_cons (de_var 11) (da_nil)))) (da_cons (de_callB (call_min2 rfl) a_min2 z_min (da_cons (de_var 10) (da_cons (de_var 11) (da_nil)))) (da_nil)))) (i := 12))
  (dss_one (ds_if ((dw_and (dt_cmp (op_geB (hu_of' hr)) v_dat (de_ix (de_var 12) (de_int)) (de_int)) (dw_and1 (dt_not (dt_tru ((dc_cal0 h__law_same (hr.mono (by first | exact Nat.le_refl _ | decide | omega)) (da_cons ((dc_cal0 h_can_wrap (hr.mono (by first | exact Nat.le_refl _ | decide | omega)) (da_cons (de_var 12) (da_cons (de_var 3) (da_cons (de_var 4) (da_cons (de_var 5) (da_nil))))) (aLen_cons (aLen_cons (aLen_cons (aLen_cons (aLen_nil)))))).de) (da_cons ((dc_cal0 h__law_can_wrap (hr.mono (by first | exact Nat.le_refl _ | decide | omega)) (da_cons (de_var 12) (da_cons (de_var 3) (da_cons (de_var 4) (da_cons (de_var 5) (da_nil))))) (aLen_cons (aLen_cons (aLen_cons (aLen_cons (aLen_nil)))))).de) (da_nil))) (aLen_cons (aLen_cons (aLen_nil)))).de))))).dt) (dss_one (ds_ret (de_bl))) (dss_nil))))))))))))
  (dss_cons (ds_set sc__law_box_right.nd ((dc_cal1 h__law_size (hr.mono (by first | exact Nat.le_refl _ | decide | omega)) (j := 0) (dr_io (dr_cons (de_var 1) (dr_nil)))).de) (i := 13))
  (dss_one (ds_ret ((dc_cal0 h__law_same (hr.mono (by first | exact Nat.le_refl _ | decide | omega)) (da_cons ((dc_cal0 h_ribbon (hr.mono (by first | exact Nat.le_refl _ | decide | omega)) (da_cons (de_var 3) (da_cons (de_var 4) (da_cons (de_var 5) (da_cons (de_var 13) (da_nil))))) (aLen_cons (aLen_cons (aLen_cons (aLen_cons (aLen_nil)))))).de) (da_cons (de_bin op_addA v_addA (de_bin op_addA v_addA (de_bin op_addA v_addA (de_bin op_mulA v_mulA (de_int) (de_var 3)) (de_bin op_mulA v_mulA (de_int) (de_var 5))) (de_bin op_addA v_addA (de_bin op_mulA v_mulA (de_int) (de_var 4)) (de_bin op_mulA v_mulA (de_int) (de_var 5)))) (de_var 13)) (da_nil))) (aLen_cons (aLen_cons (aLen_nil)))).de)))))))))⟩)
/-! ### best_stack -/
abbrev t_best_stack : Stmt := topS 5
theorem sc_best_stack : FnScope ["n", "found", "a", "b", "c", "long", "wide"] ["n"] (defScope t_best_stack) := ⟨rfl, rfl, rfl, by decide +kernel, rfl, by decide +kernel, by decide +kernel⟩
def b_best_stack_1 : FS := sSeq (sSet 4 (eBin dFdiv (eBin dFdiv (eVar 0) (eVar 2)) (eVar 3)))
  (sIf (eAnd (eTst (eBin (fun x y => (bEq x y).map .bool) (eBin dMulA (eBin dMulA (eVar 2) (eVar 3)) (eVar 4)) (eVar 0))) (eTst (eBin (fun x y => (bLe x y).map .bool) (eVar 3) (eVar 4)))) (sSeq (sAsg (eRetD (eCall0 m_least_sheet (aCons (eVar 2) (aCons (eVar 3) (aCons (eVar 4) (aNil)))))) (gTp 2 (gCn (gNm 5) (gCn (gNm 6) (gNl)))))
  (sExpr (eMeth 1 lAppend (aCons (eTup (aCons (eBin dMulA (eVar 5) (eVar 6)) (aCons (eTup (aCons (eVar 2) (aCons (eVar 3) (aCons (eVar 4) (aNil))))) (aNil)))) (aNil))))) (sNx))
def lb_best_stack_1 : FS := sFor none [3, 4, 5, 6] (iR2 (aCons (eVar 2) (aCons (eBin dAddA (eBin dFdiv (eVar 0) (eVar 2)) (eC (.int 1))) (aNil)))) (gNm 3) b_best_stack_1
def l_best_stack_1 : FS := hid (lb_best_stack_1)
theorem ll_best_stack_1 : l_best_stack_1 = sFor none [3, 4, 5, 6] (iR2 (aCons (eVar 2) (aCons (eBin dAddA (eBin dFdiv (eVar 0) (eVar 2)) (eC (.int 1))) (aNil)))) (gNm 3) b_best_stack_1 := hid_eq _
def b_best_stack_2 : FS := sIf (eTst (eBin (fun x y => (bEq x y).map .bool) (eBin dMod (eVar 0) (eVar 2)) (eC (.int 0)))) (l_best_stack_1) (sNx)
def lb_best_stack_2 : FS := sFor none [2, 3, 4, 5, 6] (iR2 (aCons (eC (.int 1)) (aCons (eBin dAddA (eVar 0) (eC (.int 1))) (aNil)))) (gNm 2) b_best_stack_2
def l_best_stack_2 : FS := hid (lb_best_stack_2)
theorem ll_best_stack_2 : l_best_stack_2 = sFor none [2, 3, 4, 5, 6] (iR2 (aCons (eC (.int 1)) (aCons (eBin dAddA (eVar 0) (eC (.int 1))) (aNil)))) (gNm 2) b_best_stack_2 := hid_eq _
def s_best_stack : FS := sSeq (sSetN 1 (eLst (aNil)))
  (sSeq (l_best_stack_2)
  (sRet (eBin dIx (eCB cMinL (aCons (eVar 1) (aNil))) (eC (.int 1)))))
def mb_best_stack : FnS := fnSem 7 [] s_best_stack
def m_best_stack : FnS := hid mb_best_stack
theorem mm_best_stack : m_best_stack = fnSem 7 [] s_best_stack := hid_eq _
instance : FnIs m_best_stack 7 [] s_best_stack := ⟨mm_best_stack⟩
theorem ok_best_stack (S : Src K mg "best_stack" t_best_stack ["n"]) (h_least_sheet : Cal P w K mg base 3 "least_sheet" ["a", "b", "c"] [] m_least_sheet) (z_min : mg "min" = none) (z_range : mg "range" = none) : Cal P w K mg base 4 "best_stack" ["n"] [] m_best_stack := by
  rw [mm_best_stack]
  exact pd_cal (k := 3) [] S sc_best_stack rfl (body := s_best_stack) (fun f cdv A outer s H E hr => ⟨_, dss_cons (ds_setN sc_best_stack.nd (dn_lst (da_nil)) (i := 1))
  (dss_cons (ds_hid (ll_best_stack_2) (ds_for [2, 3, 4, 5, 6] PassesOwn.never rfl (di_range2 (da_cons (de_int) (da_cons (de_bin op_addA v_addA (de_var 0) (de_int)) (da_nil))) z_range) (dg_name 2 sc_best_stack.nd) (dss_one (ds_if (dt_cmp (op_eqB (hu_of' hr)) v_dat (de_bin op_modN v_mod (de_var 0) (de_var 2)) (de_int)) (dss_one (ds_hid (ll_best_stack_1) (ds_for [3, 4, 5, 6] PassesOwn.never rfl (di_range2 (da_cons (de_var 2) (da_cons (de_bin op_addA v_addA (de_bin op_fdivD v_fdiv (de_var 0) (de_var 2)) (de_int)) (da_nil))) z_range) (dg_name 3 sc_best_stack.nd) (dss_cons (ds_set sc_best_stack.nd (de_bin op_fdivD v_fdiv (de_bin op_fdivD v_fdiv (de_var 0) (de_var 2)) (de_var 3)) (i := 4))
  (dss_one (ds_if ((dw_and (dt_cmp (op_eqB (hu_of' hr)) v_dat (de_bin op_mulA v_mulA (de_bin op_mulA v_mulA (de_var 2) (de_var 3)) (de_var 4)) (de_var 0)) (dw_and1 (dt_cmp (op_leB (hu_of' hr)) v_dat (de_var 3) (de_var 4)))).dt) (dss_cons (ds_asg ((dc_cal0 h_least_sheet (hr.mono (by first | exact Nat.le_refl _ | decide | omega)) (da_cons (de_var 2) (da_cons (de_var 3) (da_cons (de_var 4) (da_nil)))) (aLen_cons (aLen_cons (aLen_cons (aLen_nil))))).de) (dg_tup rfl (dgs_cons (dg_name 5 sc_best_stack.nd) (dgs_cons (dg_name 6 sc_best_stack.nd) (dgs_nil)))))
  (dss_one (ds_expr (de_lm (j := 1) PySem.F.slot_list_append PySem.F.type_list_append mt_append l_append (da_cons (de_tup (da_cons (de_bin op_mulA v_mulA (de_var 5) (de_var 6)) (da_cons (de_tup (da_cons (de_var 2) (da_cons (de_var 3) (da_cons (de_var 4) (da_nil))))) (da_nil)))) (da_nil)))))) (dss_nil))))))) (dss_nil)))))
  (dss_one (ds_ret (de_ix (de_callB (call_minB rfl (hu_of' hr)) a_minL z_min (da_cons (de_var 1) (da_nil))) (de_int)))))⟩)
/-! ### _law_best_stack -/
abbrev t__law_best_stack : Stmt := topS 27
theorem sc__law_best_stack : FnScope ["n", "best", "a", "b", "sheet", "told"] ["n"] (defScope t__law_best_stack) := ⟨rfl, rfl, rfl, by decide +kernel, rfl, by decide +kernel, by decide +kernel⟩
def b__law_best_stack_1 : FS := sSeq (sIf (eTst (eBin (fun x y => (bGt x y).map .bool) (eBin dMulA (eBin dMulA (eVar 2) (eVar 3)) (eVar 3)) (eVar 0))) (sBrk) (sNx))
  (sIf (eTst (eBin (fun x y => (bEq x y).map .bool) (eBin dMod (eVar 0) (eBin dMulA (eVar 2) (eVar 3))) (eC (.int 0)))) (sSeq (sSet 4 (eRetD (eCall0 m__law_least_sheet (aCons (eVar 2) (aCons (eVar 3) (aCons (eBin dFdiv (eVar 0) (eBin dMulA (eVar 2) (eVar 3))) (aNil)))))))
  (sSeq (sSet 5 (eTup (aCons (eBin dMulA (eBin dIx (eVar 4) (eC (.int 0))) (eBin dIx (eVar 4) (eC (.int 1)))) (aCons (eTup (aCons (eVar 2) (aCons (eVar 3) (aCons (eBin dFdiv (eVar 0) (eBin dMulA (eVar 2) (eVar 3))) (aNil))))) (aNil)))))
  (sIf (eOr (eTst (eBin (fun x y => (bIsN x y).map .bool) (eVar 1) (eC .none))) (eTst (eBin (fun x y => (bLt x y).map .bool) (eVar 5) (eVar 1)))) (sSet 1 (eVar 5)) (sNx)))) (sNx))
def lb__law_best_stack_1 : FS := sFor none [3, 4, 5] (iR2 (aCons (eVar 2) (aCons (eBin dAddA (eVar 0) (eC (.int 1))) (aNil)))) (gNm 3) b__law_best_stack_1
def l__law_best_stack_1 : FS := hid (lb__law_best_stack_1)
theorem ll__law_best_stack_1 : l__law_best_stack_1 = sFor none [3, 4, 5] (iR2 (aCons (eVar 2) (aCons (eBin dAddA (eVar 0) (eC (.int 1))) (aNil)))) (gNm 3) b__law_best_stack_1 := hid_eq _
def b__law_best_stack_2 : FS := sSeq (sIf (eTst (eBin (fun x y => (bGt x y).map .bool) (eBin dMulA (eBin dMulA (eVar 2) (eVar 2)) (eVar 2)) (eVar 0))) (sBrk) (sNx))
  (l__law_best_stack_1)
def lb__law_best_stack_2 : FS := sFor none [2, 3, 4, 5] (iR2 (aCons (eC (.int 1)) (aCons (eBin dAddA (eVar 0) (eC (.int 1))) (aNil)))) (gNm 2) b__law_best_stack_2
def l__law_best_stack_2 : FS := hid (lb__law_best_stack_2)
theorem ll__law_best_stack_2 : l__law_best_stack_2 = sFor none [2, 3, 4, 5] (iR2 (aCons (eC (.int 1)) (aCons (eBin dAddA (eVar 0) (eC (.int 1))) (aNil)))) (gNm 2) b__law_best_stack_2 := hid_eq _
def s__law_best_stack : FS := sSeq (sSet 1 (eC .none))
  (sSeq (l__law_best_stack_2)
  (sRet (eBin dIx (eVar 1) (eC (.int 1)))))
def mb__law_best_stack : FnS := fnSem 6 [] s__law_best_stack
def m__law_best_stack : FnS := hid mb__law_best_stack
theorem mm__law_best_stack : m__law_best_stack = fnSem 6 [] s__law_best_stack := hid_eq _
instance : FnIs m__law_best_stack 6 [] s__law_best_stack := ⟨mm__law_best_stack⟩
theorem ok__law_best_stack (S : Src K mg "_law_best_stack" t__law_best_stack ["n"]) (h__law_least_sheet : Cal P w K mg base 2 "_law_least_sheet" ["a", "b", "c"] [] m__law_least_sheet) (z_range : mg "range" = none) : Cal P w K mg base 3 "_law_best_stack" ["n"] [] m__law_best_stack := by
  rw [mm__law_best_stack]
  exact pd_cal (k := 2) [] S sc__law_best_stack rfl (body := s__law_best_stack) (fun f cdv A outer s H E hr => ⟨_, dss_cons (ds_set sc__law_best_stack.nd (de_non) (i := 1))
  (dss_cons (ds_hid (ll__law_best_stack_2) (ds_for [2, 3, 4, 5] PassesOwn.never rfl (di_range2 (da_cons (de_int) (da_cons (de_bin op_addA v_addA (de_var 0) (de_int)) (da_nil))) z_range) (dg_name 2 sc__law_best_stack.nd) (dss_cons (ds_if (dt_cmp (op_gtB (hu_of' hr)) v_dat (de_bin op_mulA v_mulA (de_bin op_mulA v_mulA (de_var 2) (de_var 2)) (de_var 2)) (de_var 0)) (dss_one (ds_break)) (dss_nil))
  (dss_one (ds_hid (ll__law_best_stack_1) (ds_for [3, 4, 5] PassesOwn.never rfl (di_range2 (da_cons (de_var 2) (da_cons (de_bin op_addA v_addA (de_var 0) (de_int)) (da_nil))) z_range) (dg_name 3 sc__law_best_stack.nd) (dss_cons (ds_if (dt_cmp (op_gtB (hu_of' hr)) v_dat (de_bin op_mulA v_mulA (de_bin op_mulA v_mulA (de_var 2) (de_var 3)) (de_var 3)) (de_var 0)) (dss_one (ds_break)) (dss_nil))
  (dss_one (ds_if (dt_cmp (op_eqB (hu_of' hr)) v_dat (de_bin op_modN v_mod (de_var 0) (de_bin op_mulA v_mulA (de_var 2) (de_var 3))) (de_int)) (dss_cons (ds_set sc__law_best_stack.nd ((dc_cal0 h__law_least_sheet (hr.mono (by first | exact Nat.le_refl _ | decide | omega)) (da_cons (de_var 2) (da_cons (de_var 3) (da_cons (de_bin op_fdivD v_fdiv (de_var 0) (de_bin op_mulA v_mulA (de_var 2) (de_var 3))) (da_nil)))) (aLen_cons (aLen_cons (aLen_cons (aLen_nil))))).de) (i := 4))
  (dss_cons (ds_set sc__law_best_stack.nd (de_tup (da_cons (de_bin op_mulA v_mulA (de_ix (de_var 4) (de_int)) (de_ix (de_var 4) (de_int))) (da_cons (de_tup (da_cons (de_var 2) (da_cons (de_var 3) (da_cons (de_bin op_fdivD v_fdiv (de_var 0) (de_bin op_mulA v_mulA (de_var 2) (de_var 3))) (da_nil))))) (da_nil)))) (i := 5))
  (dss_one (ds_if ((dw_or (dt_cmp (op_isNB) v_dat (de_var 1) (de_non)) (dw_or1 (dt_cmp (op_ltB (hu_of' hr)) v_dat (de_var 5) (de_var 1)))).dt) (dss_one (ds_set sc__law_best_stack.nd (de_var 5) (i := 1))) (dss_nil))))) (dss_nil))))))))))
  (dss_one (ds_ret (de_ix (de_var 1) (de_int)))))⟩)
/-! ### missing -/
abbrev t_missing : Stmt := topS 10
theorem sc_missing : FnScope ["marks", "told", "distance"] ["marks"] (defScope t_missing) := ⟨rfl, rfl, rfl, by decide +kernel, rfl, by decide +kernel, by decide +kernel⟩
def kb_missing_1 : FN := eComp none [2] (iR2 (aCons (eC (.int 1)) (aCons (eBin dAddA (eBin dIx (eVar 0) (eUn dNeg (eC (.int 1)))) (eC (.int 1))) (aNil)))) (gNm 2) (eTst (eBin (fun x y => (bNotIn x y).map .bool) (eVar 2) (eVar 1))) (eVar 2)
def k_missing_1 : FN := hid (kb_missing_1)
theorem kk_missing_1 : k_missing_1 = eComp none [2] (iR2 (aCons (eC (.int 1)) (aCons (eBin dAddA (eBin dIx (eVar 0) (eUn dNeg (eC (.int 1)))) (eC (.int 1))) (aNil)))) (gNm 2) (eTst (eBin (fun x y => (bNotIn x y).map .bool) (eVar 2) (eVar 1))) (eVar 2) := hid_eq _
def s_missing : FS := sSeq (sSet 1 (eRetD (eCall0 m_measured (aCons (eVar 0) (aNil)))))
  (sRet (eCB cTuple (aCons (eFrz (k_missing_1)) (aNil))))
def mb_missing : FnS := fnSem 3 [] s_missing
def m_missing : FnS := hid mb_missing
theorem mm_missing : m_missing = fnSem 3 [] s_missing := hid_eq _
instance : FnIs m_missing 3 [] s_missing := ⟨mm_missing⟩
theorem ok_missing (S : Src K mg "missing" t_missing ["marks"]) (h_measured : Cal P w K mg base 2 "measured" ["marks"] [] m_measured) (z_range : mg "range" = none) (z_tuple : mg "tuple" = none) : Cal P w K mg base 3 "missing" ["marks"] [] m_missing := by
  rw [mm_missing]
  exact pd_cal (k := 2) [] S sc_missing rfl (body := s_missing) (fun f cdv A outer s H E hr => ⟨_, dss_cons (ds_set sc_missing.nd ((dc_cal0 h_measured (hr.mono (by first | exact Nat.le_refl _ | decide | omega)) (da_cons (de_var 0) (da_nil)) (aLen_cons (aLen_nil))).de) (i := 1))
  (dss_one (ds_ret (de_callTy call_tuple_of a_tuple z_tuple (da_cons ((DN.de (dn_hid (kk_missing_1) (dn_compX rfl sc_missing.nd (di_range2 (da_cons (de_int) (da_cons (de_bin op_addA v_addA (de_ix (de_var 0) (de_un un_neg v_neg (de_int))) (de_int)) (da_nil))) z_range) (own := [("distance", 2)]) (blkOk_by (N := ["marks", "told", "distance"]) (sc := defScope t_missing) (by decide +kernel)) (fun s H C cl fp => dg_name 2 sc_missing.nd) (fun s H C cl fp => dts_one (dt_cmp (op_notInB (hu_of' hr)) v_dat (de_var 2) (de_var 1))) (fun s H C cl fp => de_var 2))))) (da_nil)))))⟩)
/-! ### is_bare -/
abbrev t_is_bare : Stmt := topS 12
theorem sc_is_bare : FnScope ["marks", "told"] ["marks"] (defScope t_is_bare) := ⟨rfl, rfl, rfl, by decide +kernel, rfl, by decide +kernel, by decide +kernel⟩
def s_is_bare : FS := sSeq (sSet 1 (eRetD (eCall0 m_distances (aCons (eVar 0) (aNil)))))
  (sRet (eBin (fun x y => (bEq x y).map .bool) (eLenSet (eVar 1)) (eCB cLen (aCons (eVar 1) (aNil)))))
def mb_is_bare : FnS := fnSem 2 [] s_is_bare
def m_is_bare : FnS := hid mb_is_bare
theorem mm_is_bare : m_is_bare = fnSem 2 [] s_is_bare := hid_eq _
instance : FnIs m_is_bare 2 [] s_is_bare := ⟨mm_is_bare⟩
theorem ok_is_bare (S : Src K mg "is_bare" t_is_bare ["marks"]) (h_distances : Cal P w K mg base 1 "distances" ["marks"] [] m_distances) (z_len : mg "len" = none) (z_set : mg "set" = none) : Cal P w K mg base 2 "is_bare" ["marks"] [] m_is_bare := by
  rw [mm_is_bare]
  exact pd_cal (k := 1) [] S sc_is_bare rfl (body := s_is_bare) (fun f cdv A outer s H E hr => ⟨_, dss_cons (ds_set sc_is_bare.nd ((dc_cal0 h_distances (hr.mono (by first | exact Nat.le_refl _ | decide | omega)) (da_cons (de_var 0) (da_nil)) (aLen_cons (aLen_nil))).de) (i := 1))
  (dss_one (ds_ret (de_cmp (op_eqB (hu_of' hr)) v_dat (de_lenSet rfl (de_var 1) z_len z_set) (de_callB call_len a_len z_len (da_cons (de_var 1) (da_nil))))))⟩)
/-! ### _law_rule_right -/
abbrev t__law_rule_right : Stmt := topS 30
theorem sc__law_rule_right : FnScope ["marks", "told", "unlike", "length", "there", "distance", "k"] ["marks"] (defScope t__law_rule_right) := ⟨rfl, rfl, rfl, by decide +kernel, rfl, by decide +kernel, by decide +kernel⟩
def b__law_rule_right_1 : FS := sDPutK 4 (eVar 5) (eC (.bool true))
def lb__law_rule_right_1 : FS := sFor none [5] (iSq (eVar 2)) (gNm 5) b__law_rule_right_1
def l__law_rule_right_1 : FS := hid (lb__law_rule_right_1)
theorem ll__law_rule_right_1 : l__law_rule_right_1 = sFor none [5] (iSq (eVar 2)) (gNm 5) b__law_rule_right_1 := hid_eq _
def kb__law_rule_right_1 : FN := eComp none [6] (iR2 (aCons (eC (.int 1)) (aCons (eBin dAddA (eVar 3) (eC (.int 1))) (aNil)))) (gNm 6) (eTst (eDIn 4 true (eVar 6))) (eVar 6)
def k__law_rule_right_1 : FN := hid (kb__law_rule_right_1)
theorem kk__law_rule_right_1 : k__law_rule_right_1 = eComp none [6] (iR2 (aCons (eC (.int 1)) (aCons (eBin dAddA (eVar 3) (eC (.int 1))) (aNil)))) (gNm 6) (eTst (eDIn 4 true (eVar 6))) (eVar 6) := hid_eq _
def s__law_rule_right : FS := sSeq (sSet 1 (eRetD (eCall0 m__law_distances (aCons (eVar 0) (aNil)))))
  (sSeq (sSet 2 (eFrz (eSrtSet (eVar 1))))
  (sSeq (sSet 3 (eBin dIx (eVar 0) (eBin dSub (eCB cLen (aCons (eVar 0) (aNil))) (eC (.int 1)))))
  (sSeq (sIf (eOr (eNot (eTru (eRetD (eCall0 (m__law_same 12) (aCons (eRetD (eCall0 m_measured (aCons (eVar 0) (aNil)))) (aCons (eCB cTuple (aCons (eVar 2) (aNil))) (aNil))))))) (eNot (eTru (eRetD (eCall0 (m__law_same 12) (aCons (eRetD (eCall0 m_is_bare (aCons (eVar 0) (aNil)))) (aCons (eBin (fun x y => (bEq x y).map .bool) (eCB cLen (aCons (eVar 2) (aNil))) (eCB cLen (aCons (eVar 1) (aNil)))) (aNil)))))))) (sRet (eC (.bool false))) (sNx))
  (sSeq (sIf (eNot (eTru (eRetD (eCall0 (m__law_same 12) (aCons (eRetD (eCall0 m_is_whole (aCons (eVar 0) (aNil)))) (aCons (eBin (fun x y => (bEq x y).map .bool) (eCB cLen (aCons (eVar 2) (aNil))) (eVar 3)) (aNil))))))) (sRet (eC (.bool false))) (sNx))
  (sSeq (sIf (eTst (eBin (fun x y => (bGt x y).map .bool) (eVar 3) (eC (.int 1000)))) (sRet (eC (.bool true))) (sNx))
  (sSeq (sSetN 4 (eDict0))
  (sSeq (l__law_rule_right_1)
  (sRet (eRetD (eCall0 (m__law_same 12) (aCons (eRetD (eCall0 m_missing (aCons (eVar 0) (aNil)))) (aCons (eCB cTuple (aCons (eFrz (k__law_rule_right_1)) (aNil))) (aNil)))))))))))))
def mb__law_rule_right : FnS := fnSem 7 [] s__law_rule_right
def m__law_rule_right : FnS := hid mb__law_rule_right
theorem mm__law_rule_right : m__law_rule_right = fnSem 7 [] s__law_rule_right := hid_eq _
instance : FnIs m__law_rule_right 7 [] s__law_rule_right := ⟨mm__law_rule_right⟩
theorem ok__law_rule_right (S : Src K mg "_law_rule_right" t__law_rule_right ["marks"]) (h__law_distances : Cal P w K mg base 1 "_law_distances" ["marks"] [] m__law_distances) (h__law_same : Cal P w K mg base 12 "_law_same" ["actual", "due"] [] (m__law_same 12)) (h_is_bare : Cal P w K mg base 2 "is_bare" ["marks"] [] m_is_bare) (h_is_whole : Cal P w K mg base 3 "is_whole" ["marks"] [] m_is_whole) (h_measured : Cal P w K mg base 2 "measured" ["marks"] [] m_measured) (h_missing : Cal P w K mg base 3 "missing" ["marks"] [] m_missing) (z_len : mg "len" = none) (z_range : mg "range" = none) (z_set : mg "set" = none) (z_sorted : mg "sorted" = none) (z_tuple : mg "tuple" = none) : Cal P w K mg base 13 "_law_rule_right" ["marks"] [] m__law_rule_right := by
  rw [mm__law_rule_right]
  exact pd_cal (k := 12) [] S sc__law_rule_right rfl (body := s__law_rule_right) (fun f cdv A outer s H E hr => ⟨_, dss_cons (ds_set sc__law_rule_right.nd ((dc_cal0 h__law_distances (hr.mono (by first | exact Nat.le_refl _ | decide | omega)) (da_cons (de_var 0) (da_nil)) (aLen_cons (aLen_nil))).de) (i := 1))
  (dss_cons (ds_set sc__law_rule_right.nd ((DN.de (dn_srtSet rfl (hu_of' hr) (de_var 1) z_sorted z_set))) (i := 2))
  (dss_cons (ds_set sc__law_rule_right.nd (de_ix (de_var 0) (de_bin op_sub v_sub (de_callB call_len a_len z_len (da_cons (de_var 0) (da_nil))) (de_int))) (i := 3))
  (dss_cons (ds_if ((dw_or (dt_not (dt_tru ((dc_cal0 h__law_same (hr.mono (by first | exact Nat.le_refl _ | decide | omega)) (da_cons ((dc_cal0 h_measured (hr.mono (by first | exact Nat.le_refl _ | decide | omega)) (da_cons (de_var 0) (da_nil)) (aLen_cons (aLen_nil))).de) (da_cons (de_callTy call_tuple_of a_tuple z_tuple (da_cons (de_var 2) (da_nil))) (da_nil))) (aLen_cons (aLen_cons (aLen_nil)))).de))) (dw_or1 (dt_not (dt_tru ((dc_cal0 h__law_same (hr.mono (by first | exact Nat.le_refl _ | decide | omega)) (da_cons ((dc_cal0 h_is_bare (hr.mono (by first | exact Nat.le_refl _ | decide | omega)) (da_cons (de_var 0) (da_nil)) (aLen_cons (aLen_nil))).de) (da_cons (de_cmp (op_eqB (hu_of' hr)) v_dat (de_callB call_len a_len z_len (da_cons (de_var 2) (da_nil))) (de_callB call_len a_len z_len (da_cons (de_var 1) (da_nil)))) (da_nil))) (aLen_cons (aLen_cons (aLen_nil)))).de))))).dt) (dss_one (ds_ret (de_bl))) (dss_nil))
  (dss_cons (ds_if (dt_not (dt_tru ((dc_cal0 h__law_same (hr.mono (by first | exact Nat.le_refl _ | decide | omega)) (da_cons ((dc_cal0 h_is_whole (hr.mono (by first | exact Nat.le_refl _ | decide | omega)) (da_cons (de_var 0) (da_nil)) (aLen_cons (aLen_nil))).de) (da_cons (de_cmp (op_eqB (hu_of' hr)) v_dat (de_callB call_len a_len z_len (da_cons (de_var 2) (da_nil))) (de_var 3)) (da_nil))) (aLen_cons (aLen_cons (aLen_nil)))).de))) (dss_one (ds_ret (de_bl))) (dss_nil))
  (dss_cons (ds_if (dt_cmp (op_gtB (hu_of' hr)) v_dat (de_var 3) (de_int)) (dss_one (ds_ret (de_bl))) (dss_nil))
  (dss_cons (ds_setN sc__law_rule_right.nd (dn_dict0) (i := 4))
  (dss_cons (ds_hid (ll__law_rule_right_1) (ds_for [5] PassesOwn.never rfl (di_sq (de_var 2)) (dg_name 5 sc__law_rule_right.nd) (dss_one (ds_dput 4 (hu_of' hr) (de_bl) (de_var 5)))))
  (dss_one (ds_ret ((dc_cal0 h__law_same (hr.mono (by first | exact Nat.le_refl _ | decide | omega)) (da_cons ((dc_cal0 h_missing (hr.mono (by first | exact Nat.le_refl _ | decide | omega)) (da_cons (de_var 0) (da_nil)) (aLen_cons (aLen_nil))).de) (da_cons (de_callTy call_tuple_of a_tuple z_tuple (da_cons ((DN.de (dn_hid (kk__law_rule_right_1) (dn_compX rfl sc__law_rule_right.nd (di_range2 (da_cons (de_int) (da_cons (de_bin op_addA v_addA (de_var 3) (de_int)) (da_nil))) z_range) (own := [("k", 6)]) (blkOk_by (N := ["marks", "told", "unlike", "length", "there", "distance", "k"]) (sc := defScope t__law_rule_right) (by decide +kernel)) (fun s H C cl fp => dg_name 6 sc__law_rule_right.nd) (fun s H C cl fp => dts_one (dt_dnotin 4 (hu_of' hr) (de_var 6))) (fun s H C cl fp => de_var 6))))) (da_nil))) (da_nil))) (aLen_cons (aLen_cons (aLen_nil)))).de))))))))))⟩)
/-! ### longer_bare -/
abbrev t_longer_bare : Stmt := topS 16
theorem sc_longer_bare : FnScope ["marks", "told", "many", "length", "mark", "more", "other", "distance"] ["marks", "told", "many", "length"] (defScope t_longer_bare) := ⟨rfl, rfl, rfl, by decide +kernel, rfl, by decide +kernel, by decide +kernel⟩
def kb_longer_bare_1 (mf : FnS) : FN := eComp none [6] (iSq (eVar 0)) (gNm 6) (cYes) (eBin dSub (eVar 4) (eVar 6))
def k_longer_bare_1 (mf : FnS) : FN := hid (kb_longer_bare_1 mf)
theorem kk_longer_bare_1 (mf : FnS) : k_longer_bare_1 mf = eComp none [6] (iSq (eVar 0)) (gNm 6) (cYes) (eBin dSub (eVar 4) (eVar 6)) := hid_eq _
def kb_longer_bare_2 (mf : FnS) : FN := eComp none [7] (iSq (eVar 5)) (gNm 7) (cYes) (eBin (fun x y => (bIn x y).map .bool) (eVar 7) (eVar 1))
def k_longer_bare_2 (mf : FnS) : FN := hid (kb_longer_bare_2 mf)
theorem kk_longer_bare_2 (mf : FnS) : k_longer_bare_2 mf = eComp none [7] (iSq (eVar 5)) (gNm 7) (cYes) (eBin (fun x y => (bIn x y).map .bool) (eVar 7) (eVar 1)) := hid_eq _
def b_longer_bare_1 (mf : FnS) : FS := sSeq (sSet 5 (eCB cTuple (aCons (eFrz (k_longer_bare_1 mf)) (aNil))))
  (sIf (eAnd (eNot (eTru (eCB cAny (aCons (eFrz (k_longer_bare_2 mf)) (aNil))))) (eTru (eRetD (eCall0 mf (aCons (eBin dAddA (eVar 0) (eTup (aCons (eVar 4) (aNil)))) (aCons (eBin dAddA (eVar 1) (eVar 5)) (aCons (eVar 2) (aCons (eVar 3) (aNil))))))))) (sRet (eC (.bool true))) (sNx))
def lb_longer_bare_1 (mf : FnS) : FS := sFor none [4, 5] (iR2 (aCons (eBin dAddA (eBin dIx (eVar 0) (eUn dNeg (eC (.int 1)))) (eC (.int 1))) (aCons (eBin dAddA (eVar 3) (eC (.int 1))) (aNil)))) (gNm 4) (b_longer_bare_1 mf)
def l_longer_bare_1 (mf : FnS) : FS := hid (lb_longer_bare_1 mf)
theorem ll_longer_bare_1 (mf : FnS) : l_longer_bare_1 mf = sFor none [4, 5] (iR2 (aCons (eBin dAddA (eBin dIx (eVar 0) (eUn dNeg (eC (.int 1)))) (eC (.int 1))) (aCons (eBin dAddA (eVar 3) (eC (.int 1))) (aNil)))) (gNm 4) (b_longer_bare_1 mf) := hid_eq _
def s_longer_bare (mf : FnS) : FS := sSeq (sIf (eTst (eBin (fun x y => (bEq x y).map .bool) (eCB cLen (aCons (eVar 0) (aNil))) (eVar 2))) (sRet (eC (.bool true))) (sNx))
  (sSeq (l_longer_bare_1 mf)
  (sRet (eC (.bool false))))
def m_longer_bare : Nat → FnS
  | 0 => fun _ => none
  | n + 1 => fnSem 8 [] (s_longer_bare (m_longer_bare n))
instance (n : Nat) : FnIs (m_longer_bare (n + 1)) 8 [] (s_longer_bare (m_longer_bare n)) := ⟨rfl⟩
theorem ok_longer_bare (S : Src K mg "longer_bare" t_longer_bare ["marks", "told", "many", "length"]) (z_any : mg "any" = none) (z_len : mg "len" = none) (z_range : mg "range" = none) (z_tuple : mg "tuple" = none) : ∀ n : Nat, Cal P w K mg base (n + 0) "longer_bare" ["marks", "told", "many", "length"] [] (m_longer_bare n)
  | 0 => cal_none (S := S)
  | n + 1 => by
    have h_longer_bare := ok_longer_bare S z_any z_len z_range z_tuple n
    exact Cal.cast (pd_cal (k := n + 0) [] S sc_longer_bare rfl (body := s_longer_bare (m_longer_bare n)) (fun f cdv A outer s H E hr => ⟨_, dss_cons (ds_if (dt_cmp (op_eqB (hu_of' hr)) v_dat (de_callB call_len a_len z_len (da_cons (de_var 0) (da_nil))) (de_var 2)) (dss_one (ds_ret (de_bl))) (dss_nil))
  (dss_cons (ds_hid (ll_longer_bare_1 (m_longer_bare n)) (ds_for [4, 5] PassesOwn.never rfl (di_range2 (da_cons (de_bin op_addA v_addA (de_ix (de_var 0) (de_un un_neg v_neg (de_int))) (de_int)) (da_cons (de_bin op_addA v_addA (de_var 3) (de_int)) (da_nil))) z_range) (dg_name 4 sc_longer_bare.nd) (dss_cons (ds_set sc_longer_bare.nd (de_callTy call_tuple_of a_tuple z_tuple (da_cons ((DN.de (dn_hid (kk_longer_bare_1 (m_longer_bare n)) (dn_compX rfl sc_longer_bare.nd (di_sq (de_var 0)) (own := [("other", 6)]) (blkOk_by (N := ["marks", "told", "many", "length", "mark", "more", "other", "distance"]) (sc := defScope t_longer_bare) (by decide +kernel)) (fun s H C cl fp => dg_name 6 sc_longer_bare.nd) (fun s H C cl fp => dts_nil) (fun s H C cl fp => de_bin op_sub v_sub (de_var 4) (de_var 6)))))) (da_nil))) (i := 5))
  (dss_one (ds_if ((dw_and (dt_not (dt_tru (de_callB (cr_any rfl) a_any z_any (da_cons ((DN.de (dn_hid (kk_longer_bare_2 (m_longer_bare n)) (dn_compX rfl sc_longer_bare.nd (di_sq (de_var 5)) (own := [("distance", 7)]) (blkOk_by (N := ["marks", "told", "many", "length", "mark", "more", "other", "distance"]) (sc := defScope t_longer_bare) (by decide +kernel)) (fun s H C cl fp => dg_name 7 sc_longer_bare.nd) (fun s H C cl fp => dts_nil) (fun s H C cl fp => de_cmp (op_inB (hu_of' hr)) v_dat (de_var 7) (de_var 1)))))) (da_nil))))) (dw_and1 (dt_tru ((dc_cal0 h_longer_bare (hr.mono (by first | exact Nat.le_refl _ | decide | omega)) (da_cons (de_bin op_addA v_addA (de_var 0) (de_tup (da_cons (de_var 4) (da_nil)))) (da_cons (de_bin op_addA v_addA (de_var 1) (de_var 5)) (da_cons (de_var 2) (da_cons (de_var 3) (da_nil))))) (aLen_cons (aLen_cons (aLen_cons (aLen_cons (aLen_nil)))))).de)))).dt) (dss_one (ds_ret (de_bl))) (dss_nil))))))
  (dss_one (ds_ret (de_bl))))⟩)) (by omega)
/-! ### shortest_bare -/
abbrev t_shortest_bare : Stmt := topS 17
theorem sc_shortest_bare : FnScope ["marks", "length"] ["marks"] (defScope t_shortest_bare) := ⟨rfl, rfl, rfl, by decide +kernel, rfl, by decide +kernel, by decide +kernel⟩
def b_shortest_bare_1 : FS := sAug 1 dIadd (eC (.int 1))
def lb_shortest_bare_1 : FS := sWhile [] (eNot (eTru (eRetD (eCall0 (m_longer_bare 12) (aCons (eTup (aCons (eC (.int 0)) (aNil))) (aCons (eTup (aNil)) (aCons (eVar 0) (aCons (eVar 1) (aNil))))))))) b_shortest_bare_1
def l_shortest_bare_1 : FS := hid (lb_shortest_bare_1)
theorem ll_shortest_bare_1 : l_shortest_bare_1 = sWhile [] (eNot (eTru (eRetD (eCall0 (m_longer_bare 12) (aCons (eTup (aCons (eC (.int 0)) (aNil))) (aCons (eTup (aNil)) (aCons (eVar 0) (aCons (eVar 1) (aNil))))))))) b_shortest_bare_1 := hid_eq _
def s_shortest_bare : FS := sSeq (sSet 1 (eBin dFdiv (eBin dMulA (eVar 0) (eBin dSub (eVar 0) (eC (.int 1)))) (eC (.int 2))))
  (sSeq (l_shortest_bare_1)
  (sRet (eVar 1)))
def mb_shortest_bare : FnS := fnSem 2 [] s_shortest_bare
def m_shortest_bare : FnS := hid mb_shortest_bare
theorem mm_shortest_bare : m_shortest_bare = fnSem 2 [] s_shortest_bare := hid_eq _
instance : FnIs m_shortest_bare 2 [] s_shortest_bare := ⟨mm_shortest_bare⟩
theorem ok_shortest_bare (S : Src K mg "shortest_bare" t_shortest_bare ["marks"]) (h_longer_bare : Cal P w K mg base 12 "longer_bare" ["marks", "told", "many", "length"] [] (m_longer_bare 12)) : Cal P w K mg base 13 "shortest_bare" ["marks"] [] m_shortest_bare := by
  rw [mm_shortest_bare]
  exact pd_cal (k := 12) [] S sc_shortest_bare rfl (body := s_shortest_bare) (fun f cdv A outer s H E hr => ⟨_, dss_cons (ds_set sc_shortest_bare.nd (de_bin op_fdivD v_fdiv (de_bin op_mulA v_mulA (de_var 0) (de_bin op_sub v_sub (de_var 0) (de_int))) (de_int)) (i := 1))
  (dss_cons (ds_hid (ll_shortest_bare_1) (ds_while [] PassesOwn.never (dt_not (dt_tru ((dc_cal0 h_longer_bare (hr.mono (by first | exact Nat.le_refl _ | decide | omega)) (da_cons (de_tup (da_cons (de_int) (da_nil))) (da_cons (de_tup (da_nil)) (da_cons (de_var 0) (da_cons (de_var 1) (da_nil))))) (aLen_cons (aLen_cons (aLen_cons (aLen_cons (aLen_nil)))))).de))) (dss_one (ds_aug sc_shortest_bare.nd ip_addD v_iadd (de_int) (i := 1)))))
  (dss_one (ds_ret (de_var 1))))⟩)
/-! ### _law_marks -/
abbrev t__law_marks : Stmt := topS 29
theorem sc__law_marks : FnScope ["draws", "script", "kind", "many", "marks", "k", "step", "at", "moved"] ["draws", "script"] (defScope t__law_marks) := ⟨rfl, rfl, rfl, by decide +kernel, rfl, by decide +kernel, by decide +kernel⟩
def b__law_marks_1 : FS := sSeq (sSet 6 (eBin dAddA (eC (.int 1)) (eRetD (eCall1 0 0 m__law_take (rIo 0 (rCons (eBin dIx (eFrz (eLst (aCons (eC (.int 3)) (aCons (eC (.int 12)) (aCons (eC (.int 70)) (aNil)))))) (eRetD (eCall1 0 0 m__law_take (rIo 0 (rCons (eC (.int 3)) (rNil)))))) (rNil)))))))
  (sSeq (sIf (eTst (eBin (fun x y => (bEq x y).map .bool) (eVar 2) (eC (.int 0)))) (sSet 6 (eBin dAddA (eBin dAddA (eC (.int 1)) (eBin dMulA (eBin dMulA (eRetD (eCall1 0 0 m__law_take (rIo 0 (rCons (eC (.int 2)) (rNil))))) (eCB cInt (aCons (eBin (fun x y => (bGt x y).map .bool) (eVar 5) (eC (.int 3))) (aNil)))) (eC (.int 4)))) (eBin dMulA (eCB cInt (aCons (eBin (fun x y => (bGt x y).map .bool) (eVar 5) (eC (.int 3))) (aNil))) (eC (.int 4))))) (sNx))
  (sSeq (sIf (eTst (eBin (fun x y => (bEq x y).map .bool) (eVar 2) (eC (.int 1)))) (sSet 6 (eBin dAddA (eBin dAddA (eC (.int 1)) (eBin dFdiv (eBin dMulA (eVar 5) (eBin dAddA (eVar 5) (eC (.int 1)))) (eC (.int 2)))) (eRetD (eCall1 0 0 m__law_take (rIo 0 (rCons (eC (.int 3)) (rNil))))))) (sNx))
  (sSeq (sIf (eTst (eBin (fun x y => (bEq x y).map .bool) (eVar 2) (eC (.int 2)))) (sSet 6 (eBin dAddA (eC (.int 1)) (eBin dMulA (eCB cInt (aCons (eBin (fun x y => (bGt x y).map .bool) (eVar 5) (eBin dFdiv (eVar 3) (eC (.int 2)))) (aNil))) (eBin dAddA (eBin dFdiv (eVar 3) (eC (.int 2))) (eC (.int 1)))))) (sNx))
  (sExpr (eMeth 4 lAppend (aCons (eBin dAddA (eIxOwn 4 (eVar 5)) (eVar 6)) (aNil)))))))
def lb__law_marks_1 : FS := sFor none [5, 6] (iR1 (aCons (eVar 3) (aNil))) (gNm 5) b__law_marks_1
def l__law_marks_1 : FS := hid (lb__law_marks_1)
theorem ll__law_marks_1 : l__law_marks_1 = sFor none [5, 6] (iR1 (aCons (eVar 3) (aNil))) (gNm 5) b__law_marks_1 := hid_eq _
def s__law_marks : FS := sSeq (sSet 2 (eRetD (eCall1 0 0 m__law_take (rIo 0 (rCons (eC (.int 5)) (rNil))))))
  (sSeq (sSet 3 (eBin dAddA (eC (.int 1)) (eRetD (eCall1 0 0 m__law_take (rIo 0 (rCons (eC (.int 12)) (rNil)))))))
  (sSeq (sSetN 4 (eLst (aCons (eC (.int 0)) (aNil))))
  (sSeq (l__law_marks_1)
  (sSeq (sIf (eTst (eBin (fun x y => (bEq x y).map .bool) (eRetD (eCall1 0 0 m__law_take (rIo 0 (rCons (eC (.int 4)) (rNil))))) (eC (.int 0)))) (sSeq (sSet 7 (eBin dAddA (eC (.int 1)) (eRetD (eCall1 0 0 m__law_take (rIo 0 (rCons (eVar 3) (rNil)))))))
  (sSeq (sSet 8 (eBin dAddA (eIxOwn 4 (eVar 7)) (eC (.int 1))))
  (sIf (eBorT 4 (eTst (eBin (fun x y => (bNotIn x y).map .bool) (eVar 8) (eVar 4)))) (sItem 4 (eVar 7) (eVar 8)) (sNx)))) (sNx))
  (sSeq (sIf (eAnd (eTst (eBin (fun x y => (bEq x y).map .bool) (eVar 2) (eC (.int 3)))) (eTst (eBin (fun x y => (bEq x y).map .bool) (eRetD (eCall1 0 0 m__law_take (rIo 0 (rCons (eC (.int 2)) (rNil))))) (eC (.int 0))))) (sExpr (eMeth 4 lAppend (aCons (eBin dAddA (eBin dAddA (eIxOwn 4 (eVar 3)) (eC (.int 1))) (eRetD (eCall1 0 0 m__law_size (rIo 0 (rCons (eVar 1) (rNil)))))) (aNil)))) (sNx))
  (sRet (eCB cTuple (aCons (eFrz (eCBN cSortU (aCons (eVar 4) (aNil)))) (aNil)))))))))
def mb__law_marks : FnS := fnSem 9 [0] s__law_marks
def m__law_marks : FnS := hid mb__law_marks
theorem mm__law_marks : m__law_marks = fnSem 9 [0] s__law_marks := hid_eq _
instance : FnIs m__law_marks 9 [0] s__law_marks := ⟨mm__law_marks⟩
theorem ok__law_marks (S : Src K mg "_law_marks" t__law_marks ["draws", "script"]) (h__law_size : Cal P w K mg base 2 "_law_size" ["draws", "script"] [0] m__law_size) (h__law_take : Cal P w K mg base 1 "_law_take" ["draws", "many"] [0] m__law_take) (z_int : mg "int" = none) (z_range : mg "range" = none) (z_sorted : mg "sorted" = none) (z_tuple : mg "tuple" = none) : Cal P w K mg base 3 "_law_marks" ["draws", "script"] [0] m__law_marks := by
  rw [mm__law_marks]
  exact pd_cal (k := 2) [0] S sc__law_marks rfl (body := s__law_marks) (fun f cdv A outer s H E hr => ⟨_, dss_cons (ds_set sc__law_marks.nd ((dc_cal1 h__law_take (hr.mono (by first | exact Nat.le_refl _ | decide | omega)) (j := 0) (dr_io (dr_cons (de_int) (dr_nil)))).de) (i := 2))
  (dss_cons (ds_set sc__law_marks.nd (de_bin op_addA v_addA (de_int) ((dc_cal1 h__law_take (hr.mono (by first | exact Nat.le_refl _ | decide | omega)) (j := 0) (dr_io (dr_cons (de_int) (dr_nil)))).de)) (i := 3))
  (dss_cons (ds_setN sc__law_marks.nd (dn_lst (da_cons (de_int) (da_nil))) (i := 4))
  (dss_cons (ds_hid (ll__law_marks_1) (ds_for [5, 6] PassesOwn.never rfl (di_range1 (da_cons (de_var 3) (da_nil)) z_range) (dg_name 5 sc__law_marks.nd) (dss_cons (ds_set sc__law_marks.nd (de_bin op_addA v_addA (de_int) ((dc_cal1 h__law_take (hr.mono (by first | exact Nat.le_refl _ | decide | omega)) (j := 0) (dr_io (dr_cons (de_ix ((DN.de (dn_lst (da_cons (de_int) (da_cons (de_int) (da_cons (de_int) (da_nil))))))) ((dc_cal1 h__law_take (hr.mono (by first | exact Nat.le_refl _ | decide | omega)) (j := 0) (dr_io (dr_cons (de_int) (dr_nil)))).de)) (dr_nil)))).de)) (i := 6))
  (dss_cons (ds_if (dt_cmp (op_eqB (hu_of' hr)) v_dat (de_var 2) (de_int)) (dss_one (ds_set sc__law_marks.nd (de_bin op_addA v_addA (de_bin op_addA v_addA (de_int) (de_bin op_mulA v_mulA (de_bin op_mulA v_mulA ((dc_cal1 h__law_take (hr.mono (by first | exact Nat.le_refl _ | decide | omega)) (j := 0) (dr_io (dr_cons (de_int) (dr_nil)))).de) (de_callTy call_intD a_int z_int (da_cons (de_cmp (op_gtB (hu_of' hr)) v_dat (de_var 5) (de_int)) (da_nil)))) (de_int))) (de_bin op_mulA v_mulA (de_callTy call_intD a_int z_int (da_cons (de_cmp (op_gtB (hu_of' hr)) v_dat (de_var 5) (de_int)) (da_nil))) (de_int))) (i := 6))) (dss_nil))
  (dss_cons (ds_if (dt_cmp (op_eqB (hu_of' hr)) v_dat (de_var 2) (de_int)) (dss_one (ds_set sc__law_marks.nd (de_bin op_addA v_addA (de_bin op_addA v_addA (de_int) (de_bin op_fdivD v_fdiv (de_bin op_mulA v_mulA (de_var 5) (de_bin op_addA v_addA (de_var 5) (de_int))) (de_int))) ((dc_cal1 h__law_take (hr.mono (by first | exact Nat.le_refl _ | decide | omega)) (j := 0) (dr_io (dr_cons (de_int) (dr_nil)))).de)) (i := 6))) (dss_nil))
  (dss_cons (ds_if (dt_cmp (op_eqB (hu_of' hr)) v_dat (de_var 2) (de_int)) (dss_one (ds_set sc__law_marks.nd (de_bin op_addA v_addA (de_int) (de_bin op_mulA v_mulA (de_callTy call_intD a_int z_int (da_cons (de_cmp (op_gtB (hu_of' hr)) v_dat (de_var 5) (de_bin op_fdivD v_fdiv (de_var 3) (de_int))) (da_nil))) (de_bin op_addA v_addA (de_bin op_fdivD v_fdiv (de_var 3) (de_int)) (de_int)))) (i := 6))) (dss_nil))
  (dss_one (ds_expr (de_lm (j := 4) PySem.F.slot_list_append PySem.F.type_list_append mt_append l_append (da_cons (de_bin op_addA v_addA (de_ixOwn 4 (de_var 5)) (de_var 6)) (da_nil)))))))))))
  (dss_cons (ds_if (dt_cmp (op_eqB (hu_of' hr)) v_dat ((dc_cal1 h__law_take (hr.mono (by first | exact Nat.le_refl _ | decide | omega)) (j := 0) (dr_io (dr_cons (de_int) (dr_nil)))).de) (de_int)) (dss_cons (ds_set sc__law_marks.nd (de_bin op_addA v_addA (de_int) ((dc_cal1 h__law_take (hr.mono (by first | exact Nat.le_refl _ | decide | omega)) (j := 0) (dr_io (dr_cons (de_var 3) (dr_nil)))).de)) (i := 7))
  (dss_cons (ds_set sc__law_marks.nd (de_bin op_addA v_addA (de_ixOwn 4 (de_var 7)) (de_int)) (i := 8))
  (dss_one (ds_if (dt_bor 4 (dt_cmp (op_notInB (hu_of' hr)) v_dat (de_var 8) (de_var 4))) (dss_one (ds_item (j := 4) (de_var 8) (de_var 7))) (dss_nil))))) (dss_nil))
  (dss_cons (ds_if ((dw_and (dt_cmp (op_eqB (hu_of' hr)) v_dat (de_var 2) (de_int)) (dw_and1 (dt_cmp (op_eqB (hu_of' hr)) v_dat ((dc_cal1 h__law_take (hr.mono (by first | exact Nat.le_refl _ | decide | omega)) (j := 0) (dr_io (dr_cons (de_int) (dr_nil)))).de) (de_int)))).dt) (dss_one (ds_expr (de_lm (j := 4) PySem.F.slot_list_append PySem.F.type_list_append mt_append l_append (da_cons (de_bin op_addA v_addA (de_bin op_addA v_addA (de_ixOwn 4 (de_var 3)) (de_int)) ((dc_cal1 h__law_size (hr.mono (by first | exact Nat.le_refl _ | decide | omega)) (j := 0) (dr_io (dr_cons (de_var 1) (dr_nil)))).de)) (da_nil))))) (dss_nil))
  (dss_one (ds_ret (de_callTy call_tuple_of a_tuple z_tuple (da_cons ((DN.de (dn_callB (call_srtU (hu_of' hr)) a_sortU z_sorted (da_cons (de_var 4) (da_nil))))) (da_nil))))))))))⟩)
/-! ### law -/
abbrev t_law : Stmt := topS 33
theorem sc_law : FnScope ["script", "draws", "n", "k", "marks"] ["script"] (defScope t_law) := ⟨rfl, rfl, rfl, by decide +kernel, rfl, by decide +kernel, by decide +kernel⟩
def b_law_1 : FS := sIf (eNot (eTru (eRetD (eCall0 m__law_rule_right (aCons (eRetD (eCall1 0 1 m__law_marks (rIo 1 (rCons (eVar 0) (rNil))))) (aNil)))))) (sRet (eC (.bool false))) (sNx)
def lb_law_1 : FS := sFor none [3] (iR1 (aCons (eC (.int 5)) (aNil))) (gNm 3) b_law_1
def l_law_1 : FS := hid (lb_law_1)
theorem ll_law_1 : l_law_1 = sFor none [3] (iR1 (aCons (eC (.int 5)) (aNil))) (gNm 3) b_law_1 := hid_eq _
def s_law : FS := sSeq (sSetN 1 (eRetN (eCall0 m__law_draws (aCons (eVar 0) (aCons (eC (.int 250)) (aNil))))))
  (sSeq (sIf (eOr (eNot (eTru (eRetD (eCall1 0 1 m__law_box_right (rIo 1 (rCons (eVar 0) (rNil))))))) (eNot (eTru (eRetD (eCall1 0 1 m__law_box_right (rIo 1 (rCons (eVar 0) (rNil)))))))) (sRet (eC (.bool false))) (sNx))
  (sSeq (sSet 2 (eBin dAddA (eC (.int 1)) (eRetD (eCall1 0 1 m__law_take (rIo 1 (rCons (eBin dIx (eFrz (eLst (aCons (eC (.int 30)) (aCons (eC (.int 1000)) (aNil))))) (eRetD (eCall1 0 1 m__law_take (rIo 1 (rCons (eC (.int 2)) (rNil)))))) (rNil)))))))
  (sSeq (sIf (eNot (eTru (eRetD (eCall0 (m__law_same 12) (aCons (eRetD (eCall0 m_best_stack (aCons (eVar 2) (aNil)))) (aCons (eRetD (eCall0 m__law_best_stack (aCons (eVar 2) (aNil)))) (aNil))))))) (sRet (eC (.bool false))) (sNx))
  (sSeq (l_law_1)
  (sSeq (sSet 2 (eBin dAddA (eC (.int 1)) (eRetD (eCall1 0 1 m__law_take (rIo 1 (rCons (eC (.int 12)) (rNil)))))))
  (sSeq (sIf (eTst (eBin (fun x y => (bEq x y).map .bool) (eRetD (eCall1 0 1 m__law_take (rIo 1 (rCons (eC (.int 6)) (rNil))))) (eC (.int 0)))) (sSet 2 (eBin dAddA (eC (.int 1)) (eRetD (eCall1 0 1 m__law_take (rIo 1 (rCons (eC (.int 20)) (rNil))))))) (sNx))
  (sSeq (sSet 4 (eBin dAddA (eC (.int 2)) (eRetD (eCall1 0 1 m__law_take (rIo 1 (rCons (eC (.int 4)) (rNil)))))))
  (sSeq (sIf (eTst (eBin (fun x y => (bEq x y).map .bool) (eRetD (eCall1 0 1 m__law_take (rIo 1 (rCons (eC (.int 8)) (rNil))))) (eC (.int 0)))) (sSet 4 (eC (.int 6))) (sNx))
  (sRet (eAndV (eRetD (eCall0 m__law_least_right (aCons (eVar 2) (aNil)))) (eRetD (eCall0 (m__law_same 12) (aCons (eRetD (eCall0 m_shortest_bare (aCons (eVar 4) (aNil)))) (aCons (eBin dIx (eFrz (eLst (aCons (eC (.int 1)) (aCons (eC (.int 3)) (aCons (eC (.int 6)) (aCons (eC (.int 11)) (aCons (eC (.int 17)) (aNil)))))))) (eBin dSub (eVar 4) (eC (.int 2)))) (aNil)))))))))))))))
def m_law : FnS := fnSem 5 [] s_law
theorem mm_law : m_law = fnSem 5 [] s_law := rfl
instance : FnIs m_law 5 [] s_law := ⟨mm_law⟩
theorem ok_law {f : Addr} {fd : FuncData} (F : Fun K "law" "law" t_law f fd) (h__law_best_stack : Cal P w K mg base 3 "_law_best_stack" ["n"] [] m__law_best_stack) (h__law_box_right : Cal P w K mg base 13 "_law_box_right" ["draws", "script"] [0] m__law_box_right) (h__law_draws : Cal P w K mg base 1 "_law_draws" ["script", "many"] [] m__law_draws) (h__law_least_right : Cal P w K mg base 18 "_law_least_right" ["n"] [] m__law_least_right) (h__law_marks : Cal P w K mg base 3 "_law_marks" ["draws", "script"] [0] m__law_marks) (h__law_rule_right : Cal P w K mg base 13 "_law_rule_right" ["marks"] [] m__law_rule_right) (h__law_same : Cal P w K mg base 12 "_law_same" ["actual", "due"] [] (m__law_same 12)) (h__law_take : Cal P w K mg base 1 "_law_take" ["draws", "many"] [0] m__law_take) (h_best_stack : Cal P w K mg base 4 "best_stack" ["n"] [] m_best_stack) (h_shortest_bare : Cal P w K mg base 13 "shortest_bare" ["marks"] [] m_shortest_bare) (z_range : mg "range" = none) : FnD P w K mg base 19 f fd ["script"] [] m_law :=
  pd_fnN (k := 18) [] F sc_law rfl (body := s_law) (fun cdv A outer s H E hr => ⟨_, dss_cons (ds_setN sc_law.nd ((dc_cal0 h__law_draws (hr.mono (by first | exact Nat.le_refl _ | decide | omega)) (da_cons (de_var 0) (da_cons (de_int) (da_nil))) (aLen_cons (aLen_cons (aLen_nil)))).dn) (i := 1))
  (dss_cons (ds_if ((dw_or (dt_not (dt_tru ((dc_cal1 h__law_box_right (hr.mono (by first | exact Nat.le_refl _ | decide | omega)) (j := 1) (dr_io (dr_cons (de_var 0) (dr_nil)))).de))) (dw_or1 (dt_not (dt_tru ((dc_cal1 h__law_box_right (hr.mono (by first | exact Nat.le_refl _ | decide | omega)) (j := 1) (dr_io (dr_cons (de_var 0) (dr_nil)))).de))))).dt) (dss_one (ds_ret (de_bl))) (dss_nil))
  (dss_cons (ds_set sc_law.nd (de_bin op_addA v_addA (de_int) ((dc_cal1 h__law_take (hr.mono (by first | exact Nat.le_refl _ | decide | omega)) (j := 1) (dr_io (dr_cons (de_ix ((DN.de (dn_lst (da_cons (de_int) (da_cons (de_int) (da_nil)))))) ((dc_cal1 h__law_take (hr.mono (by first | exact Nat.le_refl _ | decide | omega)) (j := 1) (dr_io (dr_cons (de_int) (dr_nil)))).de)) (dr_nil)))).de)) (i := 2))
  (dss_cons (ds_if (dt_not (dt_tru ((dc_cal0 h__law_same (hr.mono (by first | exact Nat.le_refl _ | decide | omega)) (da_cons ((dc_cal0 h_best_stack (hr.mono (by first | exact Nat.le_refl _ | decide | omega)) (da_cons (de_var 2) (da_nil)) (aLen_cons (aLen_nil))).de) (da_cons ((dc_cal0 h__law_best_stack (hr.mono (by first | exact Nat.le_refl _ | decide | omega)) (da_cons (de_var 2) (da_nil)) (aLen_cons (aLen_nil))).de) (da_nil))) (aLen_cons (aLen_cons (aLen_nil)))).de))) (dss_one (ds_ret (de_bl))) (dss_nil))
  (dss_cons (ds_hid (ll_law_1) (ds_for [3] PassesOwn.never rfl (di_range1 (da_cons (de_int) (da_nil)) z_range) (dg_name 3 sc_law.nd) (dss_one (ds_if (dt_not (dt_tru ((dc_cal0 h__law_rule_right (hr.mono (by first | exact Nat.le_refl _ | decide | omega)) (da_cons ((dc_cal1 h__law_marks (hr.mono (by first | exact Nat.le_refl _ | decide | omega)) (j := 1) (dr_io (dr_cons (de_var 0) (dr_nil)))).de) (da_nil)) (aLen_cons (aLen_nil))).de))) (dss_one (ds_ret (de_bl))) (dss_nil)))))
  (dss_cons (ds_set sc_law.nd (de_bin op_addA v_addA (de_int) ((dc_cal1 h__law_take (hr.mono (by first | exact Nat.le_refl _ | decide | omega)) (j := 1) (dr_io (dr_cons (de_int) (dr_nil)))).de)) (i := 2))
  (dss_cons (ds_if (dt_cmp (op_eqB (hu_of' hr)) v_dat ((dc_cal1 h__law_take (hr.mono (by first | exact Nat.le_refl _ | decide | omega)) (j := 1) (dr_io (dr_cons (de_int) (dr_nil)))).de) (de_int)) (dss_one (ds_set sc_law.nd (de_bin op_addA v_addA (de_int) ((dc_cal1 h__law_take (hr.mono (by first | exact Nat.le_refl _ | decide | omega)) (j := 1) (dr_io (dr_cons (de_int) (dr_nil)))).de)) (i := 2))) (dss_nil))
  (dss_cons (ds_set sc_law.nd (de_bin op_addA v_addA (de_int) ((dc_cal1 h__law_take (hr.mono (by first | exact Nat.le_refl _ | decide | omega)) (j := 1) (dr_io (dr_cons (de_int) (dr_nil)))).de)) (i := 4))
  (dss_cons (ds_if (dt_cmp (op_eqB (hu_of' hr)) v_dat ((dc_cal1 h__law_take (hr.mono (by first | exact Nat.le_refl _ | decide | omega)) (j := 1) (dr_io (dr_cons (de_int) (dr_nil)))).de) (de_int)) (dss_one (ds_set sc_law.nd (de_int) (i := 4))) (dss_nil))
  (dss_one (ds_ret (de_and ((dc_cal0 h__law_least_right (hr.mono (by first | exact Nat.le_refl _ | decide | omega)) (da_cons (de_var 2) (da_nil)) (aLen_cons (aLen_nil))).de) (de_one ((dc_cal0 h__law_same (hr.mono (by first | exact Nat.le_refl _ | decide | omega)) (da_cons ((dc_cal0 h_shortest_bare (hr.mono (by first | exact Nat.le_refl _ | decide | omega)) (da_cons (de_var 4) (da_nil)) (aLen_cons (aLen_nil))).de) (da_cons (de_ix ((DN.de (dn_lst (da_cons (de_int) (da_cons (de_int) (da_cons (de_int) (da_cons (de_int) (da_cons (de_int) (da_nil))))))))) (de_bin op_sub v_sub (de_var 4) (de_int))) (da_nil))) (aLen_cons (aLen_cons (aLen_nil)))).de)))))))))))))⟩)
end
/-! ### what the top has written -/
theorem all_mk {l : PySem.W.OpenLaw} {w : World} {K : PySem.W.Frag} {h : Heap} {mg : Str → Option Value} {fa : Addr} (X : K.In h) (G : h.Ns mainGlobals mg) (hfa : mg "law" = some (.ref fa))
    {f0 : Addr} {od0 an0 : Option Addr} {sl0 : Array (Option Value)} {oc0 kV0 dc0 pm0 cd0 ct0 : Value}
    {f1 : Addr} {od1 an1 : Option Addr} {sl1 : Array (Option Value)} {oc1 kV1 dc1 pm1 cd1 ct1 : Value}
    {f2 : Addr} {od2 an2 : Option Addr} {sl2 : Array (Option Value)} {oc2 kV2 dc2 pm2 cd2 ct2 : Value}
    {f3 : Addr} {od3 an3 : Option Addr} {sl3 : Array (Option Value)} {oc3 kV3 dc3 pm3 cd3 ct3 : Value}
    {f4 : Addr} {od4 an4 : Option Addr} {sl4 : Array (Option Value)} {oc4 kV4 dc4 pm4 cd4 ct4 : Value}
    {f5 : Addr} {od5 an5 : Option Addr} {sl5 : Array (Option Value)} {oc5 kV5 dc5 pm5 cd5 ct5 : Value}
    {f6 : Addr} {od6 an6 : Option Addr} {sl6 : Array (Option Value)} {oc6 kV6 dc6 pm6 cd6 ct6 : Value}
    {f7 : Addr} {od7 an7 : Option Addr} {sl7 : Array (Option Value)} {oc7 kV7 dc7 pm7 cd7 ct7 : Value}
    {f8 : Addr} {od8 an8 : Option Addr} {sl8 : Array (Option Value)} {oc8 kV8 dc8 pm8 cd8 ct8 : Value}
    {f9 : Addr} {od9 an9 : Option Addr} {sl9 : Array (Option Value)} {oc9 kV9 dc9 pm9 cd9 ct9 : Value}
    {f10 : Addr} {od10 an10 : Option Addr} {sl10 : Array (Option Value)} {oc10 kV10 dc10 pm10 cd10 ct10 : Value}
    {f11 : Addr} {od11 an11 : Option Addr} {sl11 : Array (Option Value)} {oc11 kV11 dc11 pm11 cd11 ct11 : Value}
    {f12 : Addr} {od12 an12 : Option Addr} {sl12 : Array (Option Value)} {oc12 kV12 dc12 pm12 cd12 ct12 : Value}
    {f13 : Addr} {od13 an13 : Option Addr} {sl13 : Array (Option Value)} {oc13 kV13 dc13 pm13 cd13 ct13 : Value}
    {f14 : Addr} {od14 an14 : Option Addr} {sl14 : Array (Option Value)} {oc14 kV14 dc14 pm14 cd14 ct14 : Value}
    {f15 : Addr} {od15 an15 : Option Addr} {sl15 : Array (Option Value)} {oc15 kV15 dc15 pm15 cd15 ct15 : Value}
    {f16 : Addr} {od16 an16 : Option Addr} {sl16 : Array (Option Value)} {oc16 kV16 dc16 pm16 cd16 ct16 : Value}
    {f17 : Addr} {od17 an17 : Option Addr} {sl17 : Array (Option Value)} {oc17 kV17 dc17 pm17 cd17 ct17 : Value}
    {f18 : Addr} {od18 an18 : Option Addr} {sl18 : Array (Option Value)} {oc18 kV18 dc18 pm18 cd18 ct18 : Value}
    {f19 : Addr} {od19 an19 : Option Addr} {sl19 : Array (Option Value)} {oc19 kV19 dc19 pm19 cd19 ct19 : Value}
    {f20 : Addr} {od20 an20 : Option Addr} {sl20 : Array (Option Value)} {oc20 kV20 dc20 pm20 cd20 ct20 : Value}
    {f21 : Addr} {od21 an21 : Option Addr} {sl21 : Array (Option Value)} {oc21 kV21 dc21 pm21 cd21 ct21 : Value}
    {f22 : Addr} {od22 an22 : Option Addr} {sl22 : Array (Option Value)} {oc22 kV22 dc22 pm22 cd22 ct22 : Value}
    {f23 : Addr} {od23 an23 : Option Addr} {sl23 : Array (Option Value)} {oc23 kV23 dc23 pm23 cd23 ct23 : Value}
    {f24 : Addr} {od24 an24 : Option Addr} {sl24 : Array (Option Value)} {oc24 kV24 dc24 pm24 cd24 ct24 : Value}
    {f25 : Addr} {od25 an25 : Option Addr} {sl25 : Array (Option Value)} {oc25 kV25 dc25 pm25 cd25 ct25 : Value}
    {f26 : Addr} {od26 an26 : Option Addr} {sl26 : Array (Option Value)} {oc26 kV26 dc26 pm26 cd26 ct26 : Value}
    {f27 : Addr} {od27 an27 : Option Addr} {sl27 : Array (Option Value)} {oc27 kV27 dc27 pm27 cd27 ct27 : Value}
    {f28 : Addr} {od28 an28 : Option Addr} {sl28 : Array (Option Value)} {oc28 kV28 dc28 pm28 cd28 ct28 : Value}
    {f29 : Addr} {od29 an29 : Option Addr} {sl29 : Array (Option Value)} {oc29 kV29 dc29 pm29 cd29 ct29 : Value}
    {f30 : Addr} {od30 an30 : Option Addr} {sl30 : Array (Option Value)} {oc30 kV30 dc30 pm30 cd30 ct30 : Value}
    (a0 : PySem.W.nsIn K mainGlobals "_law_draws" = some (some (.ref f0))) (l0 : K.lookup f0 = some ⟨oc0, od0, .func (PySem.W.fnOf "_law_draws" "_law_draws" (defArgs t__law_draws) (defBody t__law_draws) (defScope t__law_draws) .none kV0 dc0 pm0 an0 cd0 ct0), sl0⟩) (c0 : PySem.W.codeIn K cd0 "_law_draws" = true) (k0 : PySem.W.keepIn K (.ref f0) = true)
    (a1 : PySem.W.nsIn K mainGlobals "_law_take" = some (some (.ref f1))) (l1 : K.lookup f1 = some ⟨oc1, od1, .func (PySem.W.fnOf "_law_take" "_law_take" (defArgs t__law_take) (defBody t__law_take) (defScope t__law_take) .none kV1 dc1 pm1 an1 cd1 ct1), sl1⟩) (c1 : PySem.W.codeIn K cd1 "_law_take" = true) (k1 : PySem.W.keepIn K (.ref f1) = true)
    (a2 : PySem.W.nsIn K mainGlobals "_law_same" = some (some (.ref f2))) (l2 : K.lookup f2 = some ⟨oc2, od2, .func (PySem.W.fnOf "_law_same" "_law_same" (defArgs t__law_same) (defBody t__law_same) (defScope t__law_same) .none kV2 dc2 pm2 an2 cd2 ct2), sl2⟩) (c2 : PySem.W.codeIn K cd2 "_law_same" = true) (k2 : PySem.W.keepIn K (.ref f2) = true)
    (a3 : PySem.W.nsIn K mainGlobals "distances" = some (some (.ref f3))) (l3 : K.lookup f3 = some ⟨oc3, od3, .func (PySem.W.fnOf "distances" "distances" (defArgs t_distances) (defBody t_distances) (defScope t_distances) .none kV3 dc3 pm3 an3 cd3 ct3), sl3⟩) (c3 : PySem.W.codeIn K cd3 "distances" = true) (k3 : PySem.W.keepIn K (.ref f3) = true)
    (a4 : PySem.W.nsIn K mainGlobals "measured" = some (some (.ref f4))) (l4 : K.lookup f4 = some ⟨oc4, od4, .func (PySem.W.fnOf "measured" "measured" (defArgs t_measured) (defBody t_measured) (defScope t_measured) .none kV4 dc4 pm4 an4 cd4 ct4), sl4⟩) (c4 : PySem.W.codeIn K cd4 "measured" = true) (k4 : PySem.W.keepIn K (.ref f4) = true)
    (a5 : PySem.W.nsIn K mainGlobals "is_whole" = some (some (.ref f5))) (l5 : K.lookup f5 = some ⟨oc5, od5, .func (PySem.W.fnOf "is_whole" "is_whole" (defArgs t_is_whole) (defBody t_is_whole) (defScope t_is_whole) .none kV5 dc5 pm5 an5 cd5 ct5), sl5⟩) (c5 : PySem.W.codeIn K cd5 "is_whole" = true) (k5 : PySem.W.keepIn K (.ref f5) = true)
    (a6 : PySem.W.nsIn K mainGlobals "first_whole" = some (some (.ref f6))) (l6 : K.lookup f6 = some ⟨oc6, od6, .func (PySem.W.fnOf "first_whole" "first_whole" (defArgs t_first_whole) (defBody t_first_whole) (defScope t_first_whole) .none kV6 dc6 pm6 an6 cd6 ct6), sl6⟩) (c6 : PySem.W.codeIn K cd6 "first_whole" = true) (k6 : PySem.W.keepIn K (.ref f6) = true)
    (a7 : PySem.W.nsIn K mainGlobals "least_whole" = some (some (.ref f7))) (l7 : K.lookup f7 = some ⟨oc7, od7, .func (PySem.W.fnOf "least_whole" "least_whole" (defArgs t_least_whole) (defBody t_least_whole) (defScope t_least_whole) .none kV7 dc7 pm7 an7 cd7 ct7), sl7⟩) (c7 : PySem.W.codeIn K cd7 "least_whole" = true) (k7 : PySem.W.keepIn K (.ref f7) = true)
    (a8 : PySem.W.nsIn K mainGlobals "_law_distances" = some (some (.ref f8))) (l8 : K.lookup f8 = some ⟨oc8, od8, .func (PySem.W.fnOf "_law_distances" "_law_distances" (defArgs t__law_distances) (defBody t__law_distances) (defScope t__law_distances) .none kV8 dc8 pm8 an8 cd8 ct8), sl8⟩) (c8 : PySem.W.codeIn K cd8 "_law_distances" = true) (k8 : PySem.W.keepIn K (.ref f8) = true)
    (a9 : PySem.W.nsIn K mainGlobals "_law_least_whole" = some (some (.ref f9))) (l9 : K.lookup f9 = some ⟨oc9, od9, .func (PySem.W.fnOf "_law_least_whole" "_law_least_whole" (defArgs t__law_least_whole) (defBody t__law_least_whole) (defScope t__law_least_whole) .none kV9 dc9 pm9 an9 cd9 ct9), sl9⟩) (c9 : PySem.W.codeIn K cd9 "_law_least_whole" = true) (k9 : PySem.W.keepIn K (.ref f9) = true)
    (a10 : PySem.W.nsIn K mainGlobals "fewest_marks" = some (some (.ref f10))) (l10 : K.lookup f10 = some ⟨oc10, od10, .func (PySem.W.fnOf "fewest_marks" "fewest_marks" (defArgs t_fewest_marks) (defBody t_fewest_marks) (defScope t_fewest_marks) .none kV10 dc10 pm10 an10 cd10 ct10), sl10⟩) (c10 : PySem.W.codeIn K cd10 "fewest_marks" = true) (k10 : PySem.W.keepIn K (.ref f10) = true)
    (a11 : PySem.W.nsIn K mainGlobals "_law_least_right" = some (some (.ref f11))) (l11 : K.lookup f11 = some ⟨oc11, od11, .func (PySem.W.fnOf "_law_least_right" "_law_least_right" (defArgs t__law_least_right) (defBody t__law_least_right) (defScope t__law_least_right) .none kV11 dc11 pm11 an11 cd11 ct11), sl11⟩) (c11 : PySem.W.codeIn K cd11 "_law_least_right" = true) (k11 : PySem.W.keepIn K (.ref f11) = true)
    (a12 : PySem.W.nsIn K mainGlobals "_law_sheets" = some (some (.ref f12))) (l12 : K.lookup f12 = some ⟨oc12, od12, .func (PySem.W.fnOf "_law_sheets" "_law_sheets" (defArgs t__law_sheets) (defBody t__law_sheets) (defScope t__law_sheets) .none kV12 dc12 pm12 an12 cd12 ct12), sl12⟩) (c12 : PySem.W.codeIn K cd12 "_law_sheets" = true) (k12 : PySem.W.keepIn K (.ref f12) = true)
    (a13 : PySem.W.nsIn K mainGlobals "_law_size" = some (some (.ref f13))) (l13 : K.lookup f13 = some ⟨oc13, od13, .func (PySem.W.fnOf "_law_size" "_law_size" (defArgs t__law_size) (defBody t__law_size) (defScope t__law_size) .none kV13 dc13 pm13 an13 cd13 ct13), sl13⟩) (c13 : PySem.W.codeIn K cd13 "_law_size" = true) (k13 : PySem.W.keepIn K (.ref f13) = true)
    (a14 : PySem.W.nsIn K mainGlobals "ribbon" = some (some (.ref f14))) (l14 : K.lookup f14 = some ⟨oc14, od14, .func (PySem.W.fnOf "ribbon" "ribbon" (defArgs t_ribbon) (defBody t_ribbon) (defScope t_ribbon) .none kV14 dc14 pm14 an14 cd14 ct14), sl14⟩) (c14 : PySem.W.codeIn K cd14 "ribbon" = true) (k14 : PySem.W.keepIn K (.ref f14) = true)
    (a15 : PySem.W.nsIn K mainGlobals "sheet_round" = some (some (.ref f15))) (l15 : K.lookup f15 = some ⟨oc15, od15, .func (PySem.W.fnOf "sheet_round" "sheet_round" (defArgs t_sheet_round) (defBody t_sheet_round) (defScope t_sheet_round) .none kV15 dc15 pm15 an15 cd15 ct15), sl15⟩) (c15 : PySem.W.codeIn K cd15 "sheet_round" = true) (k15 : PySem.W.keepIn K (.ref f15) = true)
    (a16 : PySem.W.nsIn K mainGlobals "sheets_for_box" = some (some (.ref f16))) (l16 : K.lookup f16 = some ⟨oc16, od16, .func (PySem.W.fnOf "sheets_for_box" "sheets_for_box" (defArgs t_sheets_for_box) (defBody t_sheets_for_box) (defScope t_sheets_for_box) .none kV16 dc16 pm16 an16 cd16 ct16), sl16⟩) (c16 : PySem.W.codeIn K cd16 "sheets_for_box" = true) (k16 : PySem.W.keepIn K (.ref f16) = true)
    (a17 : PySem.W.nsIn K mainGlobals "least_sheet" = some (some (.ref f17))) (l17 : K.lookup f17 = some ⟨oc17, od17, .func (PySem.W.fnOf "least_sheet" "least_sheet" (defArgs t_least_sheet) (defBody t_least_sheet) (defScope t_least_sheet) .none kV17 dc17 pm17 an17 cd17 ct17), sl17⟩) (c17 : PySem.W.codeIn K cd17 "least_sheet" = true) (k17 : PySem.W.keepIn K (.ref f17) = true)
    (a18 : PySem.W.nsIn K mainGlobals "_law_least_sheet" = some (some (.ref f18))) (l18 : K.lookup f18 = some ⟨oc18, od18, .func (PySem.W.fnOf "_law_least_sheet" "_law_least_sheet" (defArgs t__law_least_sheet) (defBody t__law_least_sheet) (defScope t__law_least_sheet) .none kV18 dc18 pm18 an18 cd18 ct18), sl18⟩) (c18 : PySem.W.codeIn K cd18 "_law_least_sheet" = true) (k18 : PySem.W.keepIn K (.ref f18) = true)
    (a19 : PySem.W.nsIn K mainGlobals "can_wrap" = some (some (.ref f19))) (l19 : K.lookup f19 = some ⟨oc19, od19, .func (PySem.W.fnOf "can_wrap" "can_wrap" (defArgs t_can_wrap) (defBody t_can_wrap) (defScope t_can_wrap) .none kV19 dc19 pm19 an19 cd19 ct19), sl19⟩) (c19 : PySem.W.codeIn K cd19 "can_wrap" = true) (k19 : PySem.W.keepIn K (.ref f19) = true)
    (a20 : PySem.W.nsIn K mainGlobals "_law_can_wrap" = some (some (.ref f20))) (l20 : K.lookup f20 = some ⟨oc20, od20, .func (PySem.W.fnOf "_law_can_wrap" "_law_can_wrap" (defArgs t__law_can_wrap) (defBody t__law_can_wrap) (defScope t__law_can_wrap) .none kV20 dc20 pm20 an20 cd20 ct20), sl20⟩) (c20 : PySem.W.codeIn K cd20 "_law_can_wrap" = true) (k20 : PySem.W.keepIn K (.ref f20) = true)
    (a21 : PySem.W.nsIn K mainGlobals "_law_box_right" = some (some (.ref f21))) (l21 : K.lookup f21 = some ⟨oc21, od21, .func (PySem.W.fnOf "_law_box_right" "_law_box_right" (defArgs t__law_box_right) (defBody t__law_box_right) (defScope t__law_box_right) .none kV21 dc21 pm21 an21 cd21 ct21), sl21⟩) (c21 : PySem.W.codeIn K cd21 "_law_box_right" = true) (k21 : PySem.W.keepIn K (.ref f21) = true)
    (a22 : PySem.W.nsIn K mainGlobals "best_stack" = some (some (.ref f22))) (l22 : K.lookup f22 = some ⟨oc22, od22, .func (PySem.W.fnOf "best_stack" "best_stack" (defArgs t_best_stack) (defBody t_best_stack) (defScope t_best_stack) .none kV22 dc22 pm22 an22 cd22 ct22), sl22⟩) (c22 : PySem.W.codeIn K cd22 "best_stack" = true) (k22 : PySem.W.keepIn K (.ref f22) = true)
    (a23 : PySem.W.nsIn K mainGlobals "_law_best_stack" = some (some (.ref f23))) (l23 : K.lookup f23 = some ⟨oc23, od23, .func (PySem.W.fnOf "_law_best_stack" "_law_best_stack" (defArgs t__law_best_stack) (defBody t__law_best_stack) (defScope t__law_best_stack) .none kV23 dc23 pm23 an23 cd23 ct23), sl23⟩) (c23 : PySem.W.codeIn K cd23 "_law_best_stack" = true) (k23 : PySem.W.keepIn K (.ref f23) = true)
    (a24 : PySem.W.nsIn K mainGlobals "missing" = some (some (.ref f24))) (l24 : K.lookup f24 = some ⟨oc24, od24, .func (PySem.W.fnOf "missing" "missing" (defArgs t_missing) (defBody t_missing) (defScope t_missing) .none kV24 dc24 pm24 an24 cd24 ct24), sl24⟩) (c24 : PySem.W.codeIn K cd24 "missing" = true) (k24 : PySem.W.keepIn K (.ref f24) = true)
    (a25 : PySem.W.nsIn K mainGlobals "is_bare" = some (some (.ref f25))) (l25 : K.lookup f25 = some ⟨oc25, od25, .func (PySem.W.fnOf "is_bare" "is_bare" (defArgs t_is_bare) (defBody t_is_bare) (defScope t_is_bare) .none kV25 dc25 pm25 an25 cd25 ct25), sl25⟩) (c25 : PySem.W.codeIn K cd25 "is_bare" = true) (k25 : PySem.W.keepIn K (.ref f25) = true)
    (a26 : PySem.W.nsIn K mainGlobals "_law_rule_right" = some (some (.ref f26))) (l26 : K.lookup f26 = some ⟨oc26, od26, .func (PySem.W.fnOf "_law_rule_right" "_law_rule_right" (defArgs t__law_rule_right) (defBody t__law_rule_right) (defScope t__law_rule_right) .none kV26 dc26 pm26 an26 cd26 ct26), sl26⟩) (c26 : PySem.W.codeIn K cd26 "_law_rule_right" = true) (k26 : PySem.W.keepIn K (.ref f26) = true)
    (a27 : PySem.W.nsIn K mainGlobals "longer_bare" = some (some (.ref f27))) (l27 : K.lookup f27 = some ⟨oc27, od27, .func (PySem.W.fnOf "longer_bare" "longer_bare" (defArgs t_longer_bare) (defBody t_longer_bare) (defScope t_longer_bare) .none kV27 dc27 pm27 an27 cd27 ct27), sl27⟩) (c27 : PySem.W.codeIn K cd27 "longer_bare" = true) (k27 : PySem.W.keepIn K (.ref f27) = true)
    (a28 : PySem.W.nsIn K mainGlobals "shortest_bare" = some (some (.ref f28))) (l28 : K.lookup f28 = some ⟨oc28, od28, .func (PySem.W.fnOf "shortest_bare" "shortest_bare" (defArgs t_shortest_bare) (defBody t_shortest_bare) (defScope t_shortest_bare) .none kV28 dc28 pm28 an28 cd28 ct28), sl28⟩) (c28 : PySem.W.codeIn K cd28 "shortest_bare" = true) (k28 : PySem.W.keepIn K (.ref f28) = true)
    (a29 : PySem.W.nsIn K mainGlobals "_law_marks" = some (some (.ref f29))) (l29 : K.lookup f29 = some ⟨oc29, od29, .func (PySem.W.fnOf "_law_marks" "_law_marks" (defArgs t__law_marks) (defBody t__law_marks) (defScope t__law_marks) .none kV29 dc29 pm29 an29 cd29 ct29), sl29⟩) (c29 : PySem.W.codeIn K cd29 "_law_marks" = true) (k29 : PySem.W.keepIn K (.ref f29) = true)
    (a30 : PySem.W.nsIn K mainGlobals "law" = some (some (.ref f30))) (l30 : K.lookup f30 = some ⟨oc30, od30, .func (PySem.W.fnOf "law" "law" (defArgs t_law) (defBody t_law) (defScope t_law) .none kV30 dc30 pm30 an30 cd30 ct30), sl30⟩) (c30 : PySem.W.codeIn K cd30 "law" = true) (k30 : PySem.W.keepIn K (.ref f30) = true)
    (z_abs : PySem.W.nsIn K mainGlobals "abs" = some none)
    (z_any : PySem.W.nsIn K mainGlobals "any" = some none)
    (z_bool : PySem.W.nsIn K mainGlobals "bool" = some none)
    (z_int : PySem.W.nsIn K mainGlobals "int" = some none)
    (z_isinstance : PySem.W.nsIn K mainGlobals "isinstance" = some none)
    (z_len : PySem.W.nsIn K mainGlobals "len" = some none)
    (z_list : PySem.W.nsIn K mainGlobals "list" = some none)
    (z_max : PySem.W.nsIn K mainGlobals "max" = some none)
    (z_min : PySem.W.nsIn K mainGlobals "min" = some none)
    (z_range : PySem.W.nsIn K mainGlobals "range" = some none)
    (z_set : PySem.W.nsIn K mainGlobals "set" = some none)
    (z_sorted : PySem.W.nsIn K mainGlobals "sorted" = some none)
    (z_str : PySem.W.nsIn K mainGlobals "str" = some none)
    (z_sum : PySem.W.nsIn K mainGlobals "sum" = some none)
    (z_tuple : PySem.W.nsIn K mainGlobals "tuple" = some none) :
    ∃ fd : FuncData, (∀ (s : Shared) (v : Value), BindsTo s fd ⟨[v], []⟩ [("script", v)]) ∧ ∀ base : Heap, K.In base → base.Ns mainGlobals mg → FnOk l.prog w K mg base CX0 19 fa fd ["script"] (fun vs H Q E => vs.length = ["script"].length ∧ spD K [] m_law vs H Q E) := by
  have e := hfa.symm.trans (PySem.W.mg_of X G a30)
  cases e
  have z_abs' := PySem.W.mg_none_of X G z_abs
  have z_any' := PySem.W.mg_none_of X G z_any
  have z_bool' := PySem.W.mg_none_of X G z_bool
  have z_int' := PySem.W.mg_none_of X G z_int
  have z_isinstance' := PySem.W.mg_none_of X G z_isinstance
  have z_len' := PySem.W.mg_none_of X G z_len
  have z_list' := PySem.W.mg_none_of X G z_list
  have z_max' := PySem.W.mg_none_of X G z_max
  have z_min' := PySem.W.mg_none_of X G z_min
  have z_range' := PySem.W.mg_none_of X G z_range
  have z_set' := PySem.W.mg_none_of X G z_set
  have z_sorted' := PySem.W.mg_none_of X G z_sorted
  have z_str' := PySem.W.mg_none_of X G z_str
  have z_sum' := PySem.W.mg_none_of X G z_sum
  have z_tuple' := PySem.W.mg_none_of X G z_tuple
  have S0 : Src K mg "_law_draws" t__law_draws ["script", "many"] := src_mk (PySem.W.mg_of X G a0) l0 c0 k0 (fun _ _ _ _ _ _ us hl => match us, hl with | [_, _], _ => rfl)
  have S1 : Src K mg "_law_take" t__law_take ["draws", "many"] := src_mk (PySem.W.mg_of X G a1) l1 c1 k1 (fun _ _ _ _ _ _ us hl => match us, hl with | [_, _], _ => rfl)
  have S2 : Src K mg "_law_same" t__law_same ["actual", "due"] := src_mk (PySem.W.mg_of X G a2) l2 c2 k2 (fun _ _ _ _ _ _ us hl => match us, hl with | [_, _], _ => rfl)
  have S3 : Src K mg "distances" t_distances ["marks"] := src_mk (PySem.W.mg_of X G a3) l3 c3 k3 (fun _ _ _ _ _ _ us hl => match us, hl with | [_], _ => rfl)
  have S4 : Src K mg "measured" t_measured ["marks"] := src_mk (PySem.W.mg_of X G a4) l4 c4 k4 (fun _ _ _ _ _ _ us hl => match us, hl with | [_], _ => rfl)
  have S5 : Src K mg "is_whole" t_is_whole ["marks"] := src_mk (PySem.W.mg_of X G a5) l5 c5 k5 (fun _ _ _ _ _ _ us hl => match us, hl with | [_], _ => rfl)
  have S6 : Src K mg "first_whole" t_first_whole ["marks", "n", "many"] := src_mk (PySem.W.mg_of X G a6) l6 c6 k6 (fun _ _ _ _ _ _ us hl => match us, hl with | [_, _, _], _ => rfl)
  have S7 : Src K mg "least_whole" t_least_whole ["n"] := src_mk (PySem.W.mg_of X G a7) l7 c7 k7 (fun _ _ _ _ _ _ us hl => match us, hl with | [_], _ => rfl)
  have S8 : Src K mg "_law_distances" t__law_distances ["marks"] := src_mk (PySem.W.mg_of X G a8) l8 c8 k8 (fun _ _ _ _ _ _ us hl => match us, hl with | [_], _ => rfl)
  have S9 : Src K mg "_law_least_whole" t__law_least_whole ["n", "many"] := src_mk (PySem.W.mg_of X G a9) l9 c9 k9 (fun _ _ _ _ _ _ us hl => match us, hl with | [_, _], _ => rfl)
  have S10 : Src K mg "fewest_marks" t_fewest_marks ["n"] := src_mk (PySem.W.mg_of X G a10) l10 c10 k10 (fun _ _ _ _ _ _ us hl => match us, hl with | [_], _ => rfl)
  have S11 : Src K mg "_law_least_right" t__law_least_right ["n"] := src_mk (PySem.W.mg_of X G a11) l11 c11 k11 (fun _ _ _ _ _ _ us hl => match us, hl with | [_], _ => rfl)
  have S12 : Src K mg "_law_sheets" t__law_sheets ["a", "b", "c"] := src_mk (PySem.W.mg_of X G a12) l12 c12 k12 (fun _ _ _ _ _ _ us hl => match us, hl with | [_, _, _], _ => rfl)
  have S13 : Src K mg "_law_size" t__law_size ["draws", "script"] := src_mk (PySem.W.mg_of X G a13) l13 c13 k13 (fun _ _ _ _ _ _ us hl => match us, hl with | [_, _], _ => rfl)
  have S14 : Src K mg "ribbon" t_ribbon ["a", "b", "c", "knot"] := src_mk (PySem.W.mg_of X G a14) l14 c14 k14 (fun _ _ _ _ _ _ us hl => match us, hl with | [_, _, _, _], _ => rfl)
  have S15 : Src K mg "sheet_round" t_sheet_round ["x", "y", "z"] := src_mk (PySem.W.mg_of X G a15) l15 c15 k15 (fun _ _ _ _ _ _ us hl => match us, hl with | [_, _, _], _ => rfl)
  have S16 : Src K mg "sheets_for_box" t_sheets_for_box ["a", "b", "c"] := src_mk (PySem.W.mg_of X G a16) l16 c16 k16 (fun _ _ _ _ _ _ us hl => match us, hl with | [_, _, _], _ => rfl)
  have S17 : Src K mg "least_sheet" t_least_sheet ["a", "b", "c"] := src_mk (PySem.W.mg_of X G a17) l17 c17 k17 (fun _ _ _ _ _ _ us hl => match us, hl with | [_, _, _], _ => rfl)
  have S18 : Src K mg "_law_least_sheet" t__law_least_sheet ["a", "b", "c"] := src_mk (PySem.W.mg_of X G a18) l18 c18 k18 (fun _ _ _ _ _ _ us hl => match us, hl with | [_, _, _], _ => rfl)
  have S19 : Src K mg "can_wrap" t_can_wrap ["sheet", "a", "b", "c"] := src_mk (PySem.W.mg_of X G a19) l19 c19 k19 (fun _ _ _ _ _ _ us hl => match us, hl with | [_, _, _, _], _ => rfl)
  have S20 : Src K mg "_law_can_wrap" t__law_can_wrap ["sheet", "a", "b", "c"] := src_mk (PySem.W.mg_of X G a20) l20 c20 k20 (fun _ _ _ _ _ _ us hl => match us, hl with | [_, _, _, _], _ => rfl)
  have S21 : Src K mg "_law_box_right" t__law_box_right ["draws", "script"] := src_mk (PySem.W.mg_of X G a21) l21 c21 k21 (fun _ _ _ _ _ _ us hl => match us, hl with | [_, _], _ => rfl)
  have S22 : Src K mg "best_stack" t_best_stack ["n"] := src_mk (PySem.W.mg_of X G a22) l22 c22 k22 (fun _ _ _ _ _ _ us hl => match us, hl with | [_], _ => rfl)
  have S23 : Src K mg "_law_best_stack" t__law_best_stack ["n"] := src_mk (PySem.W.mg_of X G a23) l23 c23 k23 (fun _ _ _ _ _ _ us hl => match us, hl with | [_], _ => rfl)
  have S24 : Src K mg "missing" t_missing ["marks"] := src_mk (PySem.W.mg_of X G a24) l24 c24 k24 (fun _ _ _ _ _ _ us hl => match us, hl with | [_], _ => rfl)
  have S25 : Src K mg "is_bare" t_is_bare ["marks"] := src_mk (PySem.W.mg_of X G a25) l25 c25 k25 (fun _ _ _ _ _ _ us hl => match us, hl with | [_], _ => rfl)
  have S26 : Src K mg "_law_rule_right" t__law_rule_right ["marks"] := src_mk (PySem.W.mg_of X G a26) l26 c26 k26 (fun _ _ _ _ _ _ us hl => match us, hl with | [_], _ => rfl)
  have S27 : Src K mg "longer_bare" t_longer_bare ["marks", "told", "many", "length"] := src_mk (PySem.W.mg_of X G a27) l27 c27 k27 (fun _ _ _ _ _ _ us hl => match us, hl with | [_, _, _, _], _ => rfl)
  have S28 : Src K mg "shortest_bare" t_shortest_bare ["marks"] := src_mk (PySem.W.mg_of X G a28) l28 c28 k28 (fun _ _ _ _ _ _ us hl => match us, hl with | [_], _ => rfl)
  have S29 : Src K mg "_law_marks" t__law_marks ["draws", "script"] := src_mk (PySem.W.mg_of X G a29) l29 c29 k29 (fun _ _ _ _ _ _ us hl => match us, hl with | [_, _], _ => rfl)
  refine ⟨PySem.W.fnOf "law" "law" (defArgs t_law) (defBody t_law) (defScope t_law) .none kV30 dc30 pm30 an30 cd30 ct30, fun s v => .of_eq rfl, fun base _ _ => ?_⟩
  have h__law_draws := ok__law_draws (P := l.prog) (w := w) (base := base) S0 z_int' z_len' z_list' z_range'
  have h__law_take := ok__law_take (P := l.prog) (w := w) (base := base) S1 z_int' z_len'
  have h__law_same := ok__law_same (P := l.prog) (w := w) (base := base) S2 z_bool' z_int' z_isinstance' z_len' z_range' z_str' z_tuple' 12
  have h_distances := ok_distances (P := l.prog) (w := w) (base := base) S3 z_len' z_range' z_sorted'
  have h_measured := ok_measured (P := l.prog) (w := w) (base := base) S4 h_distances z_set' z_sorted' z_tuple'
  have h_is_whole := ok_is_whole (P := l.prog) (w := w) (base := base) S5 h_measured z_len'
  have h_first_whole := ok_first_whole (P := l.prog) (w := w) (base := base) S6 h_is_whole h_measured z_len' z_range' z_sum' 12
  have h_least_whole := ok_least_whole (P := l.prog) (w := w) (base := base) S7 h_first_whole
  have h__law_distances := ok__law_distances (P := l.prog) (w := w) (base := base) S8 z_len' z_range'
  have h__law_least_whole := ok__law_least_whole (P := l.prog) (w := w) (base := base) S9 h__law_distances z_len' z_range' z_set'
  have h_fewest_marks := ok_fewest_marks (P := l.prog) (w := w) (base := base) S10 h_least_whole z_len'
  have h__law_least_right := ok__law_least_right (P := l.prog) (w := w) (base := base) S11 h__law_distances h__law_least_whole h__law_same h_fewest_marks h_least_whole z_bool' z_int' z_isinstance' z_len' z_set' z_sorted' z_tuple'
  have h__law_sheets := ok__law_sheets (P := l.prog) (w := w) (base := base) S12 z_max' z_min' z_sorted' z_tuple'
  have h__law_size := ok__law_size (P := l.prog) (w := w) (base := base) S13 h__law_take z_abs' z_int' z_len'
  have h_ribbon := ok_ribbon (P := l.prog) (w := w) (base := base) S14 
  have h_sheet_round := ok_sheet_round (P := l.prog) (w := w) (base := base) S15 z_max' z_min'
  have h_sheets_for_box := ok_sheets_for_box (P := l.prog) (w := w) (base := base) S16 h_sheet_round z_set' z_sorted' z_tuple'
  have h_least_sheet := ok_least_sheet (P := l.prog) (w := w) (base := base) S17 h_sheets_for_box z_min'
  have h__law_least_sheet := ok__law_least_sheet (P := l.prog) (w := w) (base := base) S18 h__law_sheets
  have h_can_wrap := ok_can_wrap (P := l.prog) (w := w) (base := base) S19 h_sheets_for_box z_any'
  have h__law_can_wrap := ok__law_can_wrap (P := l.prog) (w := w) (base := base) S20 h__law_sheets z_len'
  have h__law_box_right := ok__law_box_right (P := l.prog) (w := w) (base := base) S21 h__law_can_wrap h__law_least_sheet h__law_same h__law_sheets h__law_size h__law_take h_can_wrap h_least_sheet h_ribbon h_sheets_for_box z_max' z_min' z_range'
  have h_best_stack := ok_best_stack (P := l.prog) (w := w) (base := base) S22 h_least_sheet z_min' z_range'
  have h__law_best_stack := ok__law_best_stack (P := l.prog) (w := w) (base := base) S23 h__law_least_sheet z_range'
  have h_missing := ok_missing (P := l.prog) (w := w) (base := base) S24 h_measured z_range' z_tuple'
  have h_is_bare := ok_is_bare (P := l.prog) (w := w) (base := base) S25 h_distances z_len' z_set'
  have h__law_rule_right := ok__law_rule_right (P := l.prog) (w := w) (base := base) S26 h__law_distances h__law_same h_is_bare h_is_whole h_measured h_missing z_len' z_range' z_set' z_sorted' z_tuple'
  have h_longer_bare := ok_longer_bare (P := l.prog) (w := w) (base := base) S27 z_any' z_len' z_range' z_tuple' 12
  have h_shortest_bare := ok_shortest_bare (P := l.prog) (w := w) (base := base) S28 h_longer_bare
  have h__law_marks := ok__law_marks (P := l.prog) (w := w) (base := base) S29 h__law_size h__law_take z_int' z_range' z_sorted' z_tuple'
  exact ok_law (fun_mk (st := t_law) l30 c30 k30) h__law_best_stack h__law_box_right h__law_draws h__law_least_right h__law_marks h__law_rule_right h__law_same h__law_take h_best_stack h_shortest_bare z_range'
end
end L2.G

namespace L2.G
open PySem PySem.Spec PyProof.Rows L2 L2.Pd
/-! ## the laws' own draws -/
def tk (ns : List Int) (n : Int) : Int := match ns.getLast? with
  | none => 0
  | some z => z.fmod n
theorem tk_nn {ns : List Int} {n : Int} (h : 0 < n) : 0 ≤ tk ns n := by
  unfold tk
  split
  · exact Int.le_refl 0
  · exact Int.fmod_nonneg_of_pos _ h
theorem tk_lt {ns : List Int} {n : Int} (h : 0 < n) : tk ns n < n := by
  unfold tk
  split
  · exact h
  · exact Int.fmod_lt_of_pos _ h
@[simp] theorem v_take (ns : List Int) (n : Int) (hn : n ≠ 0) : m__law_take [.ol (is ns), .sh (.int n)] = some (.sh (.int (tk ns n)), [.ol (is ns.dropLast), .sh (.int n)]) := by
  rcases List.eq_nil_or_concat ns with rfl | ⟨r, z, rfl⟩
  · exact fn_io (ρ' := [.ol [], .sh (.int n)]) (by simp [s__law_take, tk]) rfl rfl
  · have h0 : ((r.length : Int) + 1 == 0) = false := by
      rw [beq_eq_false_iff_ne]
      omega
    refine (fn_io (m := m__law_take) (cs := [.ol (is (r.concat z)), .sh (.int n)]) (ρ' := [.ol (is r), .sh (.int n)]) (c := .sh (.int (z.fmod n))) ?_ rfl rfl).trans ?_
    · simp [s__law_take, lPop, hn, h0]
    · simp [tk]; rfl
@[simp] theorem okD_is (ns : List Int) : PyData.canLayAll0 (is ns) = true := by
  induction ns with
  | nil => rfl
  | cons n r ih => simp [ih]
@[simp] theorem dpA_is (ns : List Int) : PyData.depthAll (is ns) = 0 := by
  induction ns with
  | nil => rfl
  | cons n r ih => simp [ih]
/-! the list of the draws -/
@[simp] theorem atI_is {ns : List Int} {i : Int} (h0 : 0 ≤ i) (h1 : i < ns.length) : atI (is ns) i = some (.int (ns[i.toNat]'(by omega))) := by
  refine atI_in h0 ?_
  rw [is_get, List.getElem?_eq_getElem (by omega)]
  rfl
theorem v_draws (ns : List Int) (many : Int) (hl : ns.length ≤ 63) (h0 : 0 ≤ many) (h1 : many ≤ 5000) : ∃ ds : List Int, m__law_draws [.sh (.list (is ns)), .sh (.int many)] = some (.ol (is ds), []) := by
  have e1 : k__law_draws_1 [.sh (.list (is ns)), .sh (.int many), .dead, .dead, .dead, .dead, .dead, .dead, .dead] = some (.ol (is ns), [.sh (.list (is ns)), .sh (.int many), .dead, .dead, .dead, .dead, .dead, .dead, .dead]) := by
    rw [kk__law_draws_1]
    refine (ev_compA PyData.int PyData.int ns (ρi := [.sh (.list (is ns)), .sh (.int many), .dead, .dead, .dead, .dead, .dead, .dead, .dead]) rfl rfl (by simp [sizeLine]; omega) fun y _ => by refine ⟨_, _, rfl, rfl, ?_⟩; rfl).trans rfl
  obtain ⟨cells, hc0, hc1, e2⟩ : ∃ cells : List Int, cells ≠ [] ∧ cells.length ≤ 64 ∧ (sIf (eTst (eBin (fun x y => (bEq x y).map .bool) (eLenOwn 2) (eC (.int 0)))) (sExpr (eMeth 2 lAppend (aCons (eC (.int 0)) (aNil)))) (sNx)) [.sh (.list (is ns)), .sh (.int many), .ol (is ns), .dead, .dead, .dead, .dead, .dead, .dead] = some (.nx [.sh (.list (is ns)), .sh (.int many), .ol (is cells), .dead, .dead, .dead, .dead, .dead, .dead]) := by
    cases ns with
    | nil => exact ⟨[0], by simp, by simp, by simp [lAppend, sizeLine]⟩
    | cons n r =>
      have h0 : ((r.length : Int) + 1 == 0) = false := by
        rw [beq_eq_false_iff_ne]
        omega
      exact ⟨n :: r, by simp, by simp at hl ⊢; omega, by simp [h0]⟩
  -- the turns
  have hn0 : cells.length ≠ 0 := fun z => hc0 (List.eq_nil_of_length_eq_zero z)
  have hn : (0 : Int) < cells.length := by omega
  have hp : (10 : Int) ^ 18 = 1000000000000000000 := by decide
  have hp2 : (Builtin.Int.intBits 10 : Int) * 18 ≤ 134217728 := by decide
  have lp := loop_invN (xs0 := (List.range many.toNat).map (fun k : Nat => PyData.int (k : Int))) (ks := [5, 6, 7]) (b := fun x ρ => (gNm 5 x ρ).bind b__law_draws_1) (fun k : Nat => PyData.int (k : Int)) (fun r ρ => ∃ rest ds : List Int, rest.length = cells.length ∧ ds.length + r.length ≤ 5000 ∧ ρ = [.sh (.list (is ns)), .sh (.int many), .sh (.list (is cells)), .ol (is rest), .ol (is ds), .dead, .dead, .dead, .dead]) (fun k r ρ h => by
    obtain ⟨rest, ds, hr, hd, rfl⟩ := h
    rw [List.length_cons] at hd
    have hat0 : 0 ≤ (k : Int).fmod cells.length := Int.fmod_nonneg_of_pos _ hn
    have hat1 : (k : Int).fmod cells.length < cells.length := Int.fmod_lt_of_pos _ hn
    generalize hat : (k : Int).fmod cells.length = at_ at hat0 hat1
    have hat2 : at_ < rest.length := by omega
    have hdl : ds.length < 16777216 := by omega
    have hml : ∀ a : Int, mulOk a 48271 = true := fun a => by simp [mulOk]
    have hml2 : mulOk (k : Int) 69621 = true := by simp [mulOk]
    have hmm : ∀ a : Int, mulOk (a.fmod 2147483647) (a.fmod 2147483647) = true := fun a => mulOk_l (Nat.lt_of_lt_of_le (fmod_abs (by decide)) (by decide))
    have hm3 : ∀ a : Int, mulOk 3 a = true := fun a => mulOk_l (by decide)
    by_cases hb1 : (1000000000000000000 : Int) ≤ cells[at_.toNat]'(by omega)
    · have hq : Builtin.divisionGoesByPylong (rest[at_.toNat]'(by omega)) 1000 = false := PyProof.noPylong_small (by decide)
      simp [b__law_draws_1, hn0, hat, hat0, hat1, hat2, dPow, hp2, hb1, lAppend, sizeLine, hdl, hq, ixN_in]
      refine ⟨rest.set at_.toNat ((rest[at_.toNat]'(by omega)).fdiv 1000), by simp [hr], ds ++ [(rest[at_.toNat]'(by omega)).fmod 1000], by simp; omega, ?_, ?_⟩
      · rw [is_set]
      · simp
    · simp [b__law_draws_1, hn0, hat, hat0, hat1, hat2, dPow, hp2, hb1, lAppend, sizeLine, hdl, hml, hml2, hmm, hm3]
      exact ⟨rest, hr, ds ++ [_], by simp; omega, rfl, is_snoc⟩)
  have e3 : (sSetN 4 (eLst aNil)) [.sh (.list (is ns)), .sh (.int many), .sh (.list (is cells)), .ol (is cells), .dead, .dead, .dead, .dead, .dead] = some (.nx [.sh (.list (is ns)), .sh (.int many), .sh (.list (is cells)), .ol (is cells), .ol (is []), .dead, .dead, .dead, .dead]) := by simp [sizeLine]
  obtain ⟨ρ', e4, rest, ds, _, _, rfl⟩ := lp (List.range many.toNat) [.sh (.list (is ns)), .sh (.int many), .sh (.list (is cells)), .ol (is cells), .ol (is []), .dead, .dead, .dead, .dead] ⟨cells, [], rfl, by simp; omega, rfl⟩
  have e5 : l__law_draws_1 [.sh (.list (is ns)), .sh (.int many), .sh (.list (is cells)), .ol (is cells), .ol (is []), .dead, .dead, .dead, .dead] = some (.nx [.sh (.list (is ns)), .sh (.int many), .sh (.list (is cells)), .ol (is rest), .ol (is ds), .dead, .dead, .dead, .dead]) := by
    exact for_hx ll__law_draws_1 (ev_r1 rfl h0 (by omega)) e4
  refine ⟨ds.reverse, fn_ret (ρ' := [.sh (.list (is ns)), .sh (.int many), .sh (.list (is cells)), .ol (is rest), .dead, .dead, .dead, .dead, .dead]) ?_⟩
  have e6 : s__law_draws [.sh (.list (is ns)), .sh (.int many), .dead, .dead, .dead, .dead, .dead, .dead, .dead] = some (.rt (.ol (is ds.reverse)) [.sh (.list (is ns)), .sh (.int many), .sh (.list (is cells)), .ol (is rest), .dead, .dead, .dead, .dead, .dead]) := by
    unfold s__law_draws
    rw [seq_nx (setN_nx e1)]
    refine (seq_nx e2).trans ?_
    refine (seq_nx (ρ1 := [.sh (.list (is ns)), .sh (.int many), .sh (.list (is cells)), .ol (is cells), .dead, .dead, .dead, .dead, .dead]) (by simp [cList])).trans ?_
    rw [seq_nx e3, seq_nx e5]
    simp [lReverse, sRetOwn, is_rev]
  exact e6
/-! ### the laws' comparison -/
mutual
def sok : Nat → D → Bool
  | _, .none => true
  | _, .bool _ => true
  | _, .int _ => true
  | _, .str x => PyData.strOk x
  | 0, .tuple _ => false
  | n + 1, .tuple ds => soks n ds && decide (ds.length ≤ 1000000)
  | _, _ => false
def soks : Nat → List D → Bool
  | _, [] => true
  | n, d :: ds => sok n d && soks n ds
end
theorem soks_get {n : Nat} : ∀ {ds : List D} {i : Nat} {d : D}, soks n ds = true → ds[i]? = some d → sok n d = true
  | [], i, d, _, e => by simp at e
  | u :: r, 0, d, h, e => by
    simp at e; subst e
    rw [soks, Bool.and_eq_true] at h
    exact h.1
  | u :: r, i + 1, d, h, e => by
    rw [soks, Bool.and_eq_true] at h
    exact soks_get (i := i) h.2 (by simpa using e)
theorem v_same : ∀ (n : Nat) (d : D), sok n d = true → m__law_same (n + 1) [.sh d, .sh d] = some (.sh (.bool true), []) := by
  intro n
  induction n with
  | zero =>
    intro d h
    cases d with
    | none => exact fn_ret (ρ' := [.sh .none, .sh .none, .dead]) (by simp [s__law_same])
    | bool b => exact fn_ret (ρ' := [.sh (.bool b), .sh (.bool b), .dead]) (by simp [s__law_same])
    | int b => exact fn_ret (ρ' := [.sh (.int b), .sh (.int b), .dead]) (by simp [s__law_same])
    | str b => exact fn_ret (ρ' := [.sh (.str b), .sh (.str b), .dead]) (by simp [s__law_same, ev_eqR (d := .str b) (by simpa [ev_okD, sok] using h)])
    | _ => simp [sok] at h
  | succ n ih =>
    intro d h
    cases d with
    | none => exact fn_ret (ρ' := [.sh .none, .sh .none, .dead]) (by simp [s__law_same])
    | bool b => exact fn_ret (ρ' := [.sh (.bool b), .sh (.bool b), .dead]) (by simp [s__law_same])
    | int b => exact fn_ret (ρ' := [.sh (.int b), .sh (.int b), .dead]) (by simp [s__law_same])
    | str b => exact fn_ret (ρ' := [.sh (.str b), .sh (.str b), .dead]) (by simp [s__law_same, ev_eqR (d := .str b) (by simpa [ev_okD, sok] using h)])
    | tuple ds =>
      rw [sok, Bool.and_eq_true, decide_eq_true_eq] at h
      have hr := ev_r1 (a := aCons (eCB cLen (aCons (eVar 1) aNil)) aNil) (ρ := [.sh (.tuple ds), .sh (.tuple ds), .dead]) (ρ1 := [.sh (.tuple ds), .sh (.tuple ds), .dead]) (n := ds.length) rfl (by omega) (by omega)
      have lp := loop_same (fun k : Nat => PyData.int (k : Int)) (xs0 := (List.range ((ds.length : Int)).toNat).map (fun k : Nat => PyData.int (k : Int))) (ks := [2]) (b := fun x ρ => (gNm 2 x ρ).bind (b__law_same_1 (m__law_same (n + 1)))) (ρ0 := [.sh (.tuple ds), .sh (.tuple ds), .dead]) (List.range ((ds.length : Int)).toNat) (fun k hk => by
        have hk : k < ds.length := by simpa using hk
        have e1 : atI ds (k : Int) = some ds[k] := atI_nat (List.getElem?_eq_getElem hk)
        have e2 := ih ds[k] (soks_get h.1 (List.getElem?_eq_getElem hk))
        refine ⟨[.sh (.tuple ds), .sh (.tuple ds), .sh (.int k)], .inl ?_, rfl⟩
        simp [b__law_same_1, e1, e2]) (ρ := [.sh (.tuple ds), .sh (.tuple ds), .dead]) rfl
      have el : l__law_same_1 (m__law_same (n + 1)) [.sh (.tuple ds), .sh (.tuple ds), .dead] = some (.nx [.sh (.tuple ds), .sh (.tuple ds), .dead]) := for_hx (ll__law_same_1 _) hr lp
      have hne : eOr (eNot (eTru (eIsi "tuple" (eVar 0)))) (eTst (eBin (fun x y => (bNe x y).map .bool) (eCB cLen (aCons (eVar 0) (aNil))) (eCB cLen (aCons (eVar 1) (aNil))))) [.sh (.tuple ds), .sh (.tuple ds), .dead] = some (false, [.sh (.tuple ds), .sh (.tuple ds), .dead]) := by simp
      refine fn_ret (ρ' := [.sh (.tuple ds), .sh (.tuple ds), .dead]) ?_
      show s__law_same (m__law_same (n + 1)) [.sh (.tuple ds), .sh (.tuple ds), .dead] = _
      unfold s__law_same
      refine (seq_nx (if_f (ρ1 := [.sh (.tuple ds), .sh (.tuple ds), .dead]) (by simp))).trans ?_
      refine (seq_nx (if_f (ρ1 := [.sh (.tuple ds), .sh (.tuple ds), .dead]) (by simp))).trans ?_
      refine (seq_nx (if_f (ρ1 := [.sh (.tuple ds), .sh (.tuple ds), .dead]) (by simp))).trans ?_
      --if4
      refine (seq_nx (if_f (ρ1 := [.sh (.tuple ds), .sh (.tuple ds), .dead]) (by simp))).trans ?_
      --fi4
      refine (seq_nx (if_f (ρ1 := [.sh (.tuple ds), .sh (.tuple ds), .dead]) hne)).trans ?_
      refine (seq_nx el).trans ?_
      rfl
    | _ => simp [sok] at h

/-! ## numbers that are not negative -/
theorem fmN (a b : Nat) : Int.fmod (a : Int) (b : Int) = ((a % b : Nat) : Int) := by
  rw [Int.fmod_eq_emod_of_nonneg _ (by omega)]; rfl
theorem fdN (a b : Nat) : Int.fdiv (a : Int) (b : Int) = ((a / b : Nat) : Int) := by
  rw [Int.fdiv_eq_ediv_of_nonneg _ (by omega)]; rfl
theorem bdN {n a : Nat} (h : a < 2 ^ n) : Bd n (a : Int) := by unfold Bd; rw [Int.natAbs_natCast]; exact h
theorem bdN_iff {n a : Nat} : Bd n (a : Int) ↔ a < 2 ^ n := by unfold Bd; rw [Int.natAbs_natCast]
theorem mulN {n m a b : Nat} (ha : a < 2 ^ n) (hb : b < 2 ^ m) (e : n + m ≤ 100000000) : mulOk (a : Int) (b : Int) = true := (bdN ha).mulOk (bdN hb) e
theorem noPyN {a : Int} {n b : Nat} (h : b < 2 ^ n) (e : n ≤ 8999) : Builtin.divisionGoesByPylong a (b : Int) = false := noPy (bdN h) e
theorem ltN {n a b : Nat} (h : b < 2 ^ n) (k : a ≤ b) : a < 2 ^ n := Nat.lt_of_le_of_lt k h
theorem modN {n a b : Nat} (h : b < 2 ^ n) (k : 0 < b) : a % b < 2 ^ n := Nat.lt_trans (Nat.mod_lt _ k) h

/-! ## lists of ints -/
def Asc (L : List Int) : Prop := L.Pairwise (· < ·)
theorem getD_lt {L : List Int} {p : Nat} (h : p < L.length) : L.getD p 0 = L[p] := by
  rw [List.getD_eq_getElem?_getD, List.getElem?_eq_getElem h]; rfl
theorem erase_get {L : List Int} {p q : Nat} : (L.eraseIdx p).getD q 0 = if q < p then L.getD q 0 else L.getD (q + 1) 0 := by
  rw [List.getD_eq_getElem?_getD, List.getElem?_eraseIdx]
  split <;> rw [List.getD_eq_getElem?_getD]
theorem erase_len {L : List Int} {p : Nat} (h : p < L.length) : (L.eraseIdx p).length = L.length - 1 := List.length_eraseIdx_of_lt h
theorem erase_perm {L : List Int} {p : Nat} (h : p < L.length) : L.Perm (L.getD p 0 :: L.eraseIdx p) := by
  rw [getD_lt h]
  have e := List.eraseIdx_eq_take_drop_succ L p
  rw [e]
  have e2 : L = L.take p ++ L[p] :: L.drop (p + 1) := by
    rw [← List.drop_eq_getElem_cons h, List.take_append_drop]
  have q : (L.take p ++ L[p] :: L.drop (p + 1)).Perm (L[p] :: (L.take p ++ L.drop (p + 1))) := List.perm_middle
  rw [← e2] at q
  exact q
def rgI (n : Nat) : List Int := (List.range n).map fun k : Nat => (k : Int)
theorem rgI_len (n : Nat) : (rgI n).length = n := by unfold rgI; rw [List.length_map, List.length_range]
theorem rgI_asc (n : Nat) : Asc (rgI n) := by
  unfold rgI Asc
  rw [List.pairwise_map]
  exact List.pairwise_lt_range.imp fun h => by omega
theorem rg_nd (n : Nat) : (rgI n).Nodup := (rgI_asc n).imp fun h => by omega
theorem nd_ne {o : List Int} (h : o.Nodup) {i j : Nat} (hi : i < o.length) (hj : j < o.length) (e : i ≠ j) : o.getD i 0 ≠ o.getD j 0 := by
  rw [getD_lt hi, getD_lt hj]
  have q := List.pairwise_iff_getElem.mp h
  rcases Nat.lt_or_ge i j with c | c
  · exact q i j hi hj c
  · exact (q j i hj hi (by omega)).symm
theorem rg_rev (n : Nat) : (rgI n).map (fun v => (n : Int) - 1 - v) = (rgI n).reverse := by
  apply List.ext_getElem
  · simp
  · intro i h1 h2
    rw [List.getElem_reverse]
    simp [rgI] at h1 ⊢
    omega
theorem rev_get {o : List Int} {k : Nat} (h : k < o.length) : o.reverse.getD k 0 = o.getD (o.length - 1 - k) 0 := by
  rw [getD_lt (by rw [List.length_reverse]; exact h), getD_lt (by omega), List.getElem_reverse]
theorem set_get {o : List Int} {k j : Nat} {v : Int} : (o.set k v).getD j 0 = if k = j ∧ j < o.length then v else o.getD j 0 := by
  rw [List.getD_eq_getElem?_getD, List.getElem?_set, List.getD_eq_getElem?_getD]
  by_cases h : k = j
  · subst h
    by_cases h2 : k < o.length
    · simp [h2]
    · simp [h2]
  · simp [h]
theorem isort_rg {n : Nat} {o : List Int} (h : (rgI n).Perm o) : isort o = rgI n :=
  ((isort_perm o).trans h.symm).eq_of_pairwise (le := (· ≤ ·)) (fun a b _ _ x y => Int.le_antisymm x y) (isort_pw o) ((rgI_asc n).imp fun h => Int.le_of_lt h)

/-! ## data of ints -/
def nI (k : Nat) : D := .int (k : Int)
theorem ev_ltB (a b : Int) : bLt (.int a) (.int b) = some (decide (a < b)) := rfl
theorem beq_dec (a b : Bool) : bEq (.bool a) (.bool b) = some (a == b) := rfl
theorem at_is {L : List Int} {p : Nat} (h : p < L.length) : atI (is L) (p : Int) = some (.int (L.getD p 0)) := by
  unfold is
  rw [atI_map, atI_lt h, getD_lt h]; rfl
theorem noLs_is (ns : List Int) : noLs (is ns) = true := by
  induction ns with
  | nil => rfl
  | cons n ns ih => show (noL (.int n) && noLs (is ns)) = true; rw [ih]; rfl
theorem eqvAll_is : ∀ (a b : List Int), PyData.eqvAll (is a) (is b) = decide (a = b)
  | [], [] => rfl
  | [], y :: t => by rw [decide_eq_false (by simp)]; rfl
  | x :: r, [] => by rw [decide_eq_false (by simp)]; rfl
  | x :: r, y :: t => by
    show (x == y && PyData.eqvAll (is r) (is t)) = _
    rw [eqvAll_is r t]
    by_cases h : x = y
    · subst h
      by_cases k : r = t
      · subst k; simp
      · rw [decide_eq_false k, decide_eq_false (by simp [k]), Bool.and_false]
    · rw [decide_eq_false (show ¬ x :: r = y :: t by simp [h]), beq_eq_false_iff_ne.mpr h, Bool.false_and]
theorem okD_L (a : List Int) : okD (.list (is a)) = true := by
  simp [okD, SeqAt.shaped, PyData.canLay0, PyData.depth]
theorem okD_T (a : List Int) : okD (.tuple (is a)) = true := by
  simp [okD, SeqAt.shaped, PyData.canLay0, PyData.depth]
theorem bNeL (a b : List Int) : bNe (.list (is a)) (.list (is b)) = some (!decide (a = b)) := by
  unfold bNe
  rw [okD_L, okD_L]
  show some (!PyData.eqvAll (is a) (is b)) = _
  rw [eqvAll_is]
theorem bEqT (a b : List Int) : bEq (.tuple (is a)) (.tuple (is b)) = some (decide (a = b)) := by
  unfold bEq
  rw [okD_T, okD_T]
  show some (PyData.eqvAll (is a) (is b)) = _
  rw [eqvAll_is]
theorem rngD_rg (n : Nat) : rngD 0 n = is (rgI n) := by
  unfold rngD rgI is
  rw [List.map_map]
  refine List.map_congr_left fun k _ => ?_
  show PyData.int (0 + (k : Int)) = PyData.int (k : Int)
  rw [Int.zero_add]
theorem rngD_nI (n : Nat) : rngD 0 n = (List.range n).map nI := by
  unfold rngD
  refine List.map_congr_left fun k _ => ?_
  show PyData.int (0 + (k : Int)) = PyData.int (k : Int)
  rw [Int.zero_add]
theorem iR_nI {a : FA} {ρ ρ1 : En} {n : Nat} (h : a ρ = some ([.int (n : Int)], ρ1)) (hn : n ≤ 1000000) : iR1 a ρ = some ((List.range n).map nI, ρ1) := by
  refine (ev_r1 (n := (n : Int)) h (by omega) (by omega)).trans ?_
  rw [Int.toNat_natCast]; rfl
theorem bNotIn_t (x : Int) (ns : List Int) : bNotIn (.int x) (.tuple (is ns)) = some (!decide (x ∈ ns)) := by
  have e : bIn (.int x) (.tuple (is ns)) = some (decide (x ∈ ns)) := by
    show (if (okD (.int x) && okD (.tuple (is ns))) = true then some ((is ns).any fun z => PyData.eqv z (.int x)) else none) = _
    have h3 : okD (.int x) = true := rfl
    rw [h3, okD_T, Bool.and_self, if_pos rfl]
    congr 1
    unfold is
    rw [List.any_map]
    show (ns.any fun z => PyData.eqv (.int z) (.int x)) = _
    have : (fun z : Int => PyData.eqv (.int z) (.int x)) = fun z => z == x := funext fun z => by simp
    rw [this]
    by_cases h : x ∈ ns
    · rw [decide_eq_true h, List.any_eq_true]
      exact ⟨x, h, by simp⟩
    · rw [decide_eq_false h, List.any_eq_false]
      intro z hz e
      have : z = x := by simpa using e
      exact h (this ▸ hz)
  unfold bNotIn
  rw [e]; rfl
theorem tkx (ds : List Int) {n : Nat} (h : 0 < n) : ∃ (t : Nat) (ds' : List Int), t < n ∧ m__law_take [.ol (is ds), .sh (.int (n : Int))] = some (.sh (.int (t : Int)), [.ol (is ds'), .sh (.int (n : Int))]) := by
  have h0 : (0 : Int) < (n : Int) := by omega
  have a := tk_nn (ns := ds) h0
  have b := tk_lt (ns := ds) h0
  refine ⟨(tk ds n).toNat, ds.dropLast, by omega, ?_⟩
  rw [Int.toNat_of_nonneg a]
  exact v_take ds n (by omega)
theorem lPop_gen {ds : List D} {i : Int} {k : Nat} {d : D} (h1 : -(2 ^ 63) ≤ i ∧ i < 2 ^ 63) (e : seqIndex? i ds.length = some k) (e3 : ds[k]? = some d) : lPopAt ds [.int i] = some (d, ds.eraseIdx k) := by
  show (if -(2 ^ 63) ≤ i ∧ i < 2 ^ 63 then (seqIndex? i ds.length).bind fun k => (ds[k]?).map fun d => (d, ds.eraseIdx k) else none) = _
  rw [if_pos h1, e, Option.bind_some, e3, Option.map_some]
theorem is_erase : ∀ (L : List Int) (p : Nat), (is L).eraseIdx p = is (L.eraseIdx p)
  | [], _ => rfl
  | x :: r, 0 => rfl
  | x :: r, p + 1 => by
    show .int x :: (is r).eraseIdx p = .int x :: is (r.eraseIdx p)
    rw [is_erase r p]
theorem lPop_is {L : List Int} {p : Nat} (h : p < L.length) (hl : L.length ≤ 1000) : lPopAt (is L) [.int (p : Int)] = some (.int (L.getD p 0), is (L.eraseIdx p)) := by
  have e : seqIndex? (p : Int) (is L).length = some p := by
    have := seqIndex_of (n := (is L).length) (k := (p : Int)) (by omega) (by rw [is_len]; omega)
    rwa [Int.toNat_natCast] at this
  have e3 : (is L)[p]? = some (.int (L.getD p 0)) := by
    unfold is
    rw [List.getElem?_map, List.getElem?_eq_getElem h, getD_lt h]; rfl
  rw [← is_erase]
  exact lPop_gen ⟨by omega, by omega⟩ e e3
theorem ixN_in {n k : Nat} (h : k < n) : ixN n (k : Int) = some k := by
  unfold ixN
  rw [if_pos (by omega), if_pos (by omega), Int.toNat_natCast]
theorem cutL_len {α : Type} (xs : List α) (lo hi : Option Int) : (cutL xs lo hi).length ≤ xs.length := by
  unfold cutL
  rw [List.length_take, List.length_drop]
  omega
def tI (o : List Int) : D := .tuple (is o)
theorem add_is {a b : List Int} (h : a.length + b.length ≤ 100000) : dAddA (.tuple (is a)) (.tuple (is b)) = some (.tuple (is (a ++ b))) := by
  rw [ev_addT, is_len, is_len, if_pos (by unfold sizeLine; omega), is_app]
theorem rev_is (o : List Int) : dRev (.tuple (is o)) = some (.tuple (is o.reverse)) := by
  show some (PyData.tuple (is o).reverse) = _
  unfold is
  rw [List.map_reverse]
theorem atI_ng {L : List Int} {j : Nat} (h1 : 1 ≤ j) (h2 : j ≤ L.length) : atI (is L) (-(j : Int)) = some (.int (L.getD (L.length - j) 0)) := by
  have e : ixN (is L).length (-(j : Int)) = some (L.length - j) := by
    unfold ixN
    rw [if_neg (by omega), if_pos (by rw [is_len]; omega), is_len]
    congr 1
    omega
  unfold atI
  rw [e, Option.bind_some]
  unfold is
  rw [List.getElem?_map, List.getElem?_eq_getElem (by omega), getD_lt (by omega)]
  rfl
theorem soks_is (n : Nat) : ∀ ls : List Int, soks n (is ls) = true
  | [] => rfl
  | l :: r => by
    show (sok n (.int l) && soks n (is r)) = true
    rw [soks_is n r]
    cases n <;> rfl
theorem sok_is {n : Nat} {o : List Int} (h : o.length ≤ 1000) : sok (n + 1) (.tuple (is o)) = true := by
  show (soks n (is o) && decide ((is o).length ≤ 1000000)) = true
  rw [soks_is, is_len, decide_eq_true (by omega)]; rfl
theorem same_o {o : List Int} (h : o.length ≤ 1000) : m__law_same 12 [.sh (.tuple (is o)), .sh (.tuple (is o))] = some (.sh (.bool true), []) := v_same 11 _ (sok_is h)
theorem same_i (z : Int) : m__law_same 12 [.sh (.int z), .sh (.int z)] = some (.sh (.bool true), []) := v_same 11 _ (by simp [sok])
theorem same_b (z : Bool) : m__law_same 12 [.sh (.bool z), .sh (.bool z)] = some (.sh (.bool true), []) := v_same 11 _ (by simp [sok])
theorem min_t (n : Int) (ns : List Int) : cMinL [.tuple (is (n :: ns))] = some (.int (ns.foldl min n)) := by
  have h := sortB_is (n :: ns)
  unfold sortB at h
  rw [Bool.and_eq_true] at h
  have h := h.1
  rw [is_cons] at h ⊢
  show (if alikeB (PyData.int n :: is ns) = true then some (PySem.W.minD (.int n) (is ns)) else none) = _
  rw [if_pos h]
  exact congrArg some (PySem.W.minD_ints n ns)
theorem max_t (n : Int) (ns : List Int) : cMaxL [.tuple (is (n :: ns))] = some (.int (ns.foldl max n)) := by
  have h := sortB_is (n :: ns)
  unfold sortB at h
  rw [Bool.and_eq_true] at h
  have h := h.1
  rw [is_cons] at h ⊢
  show (if alikeB (PyData.int n :: is ns) = true then some (PySem.W.maxD (.int n) (is ns)) else none) = _
  rw [if_pos h]
  exact congrArg some (PySem.W.maxD_ints n ns)
theorem min_l (n : Int) (ns : List Int) : cMinL [.list (is (n :: ns))] = some (.int (ns.foldl min n)) := by
  have h := sortB_is (n :: ns)
  unfold sortB at h
  rw [Bool.and_eq_true] at h
  have h := h.1
  rw [is_cons] at h ⊢
  show (if alikeB (PyData.int n :: is ns) = true then some (PySem.W.minD (.int n) (is ns)) else none) = _
  rw [if_pos h]
  exact congrArg some (PySem.W.minD_ints n ns)
theorem max_l (n : Int) (ns : List Int) : cMaxL [.list (is (n :: ns))] = some (.int (ns.foldl max n)) := by
  have h := sortB_is (n :: ns)
  unfold sortB at h
  rw [Bool.and_eq_true] at h
  have h := h.1
  rw [is_cons] at h ⊢
  show (if alikeB (PyData.int n :: is ns) = true then some (PySem.W.maxD (.int n) (is ns)) else none) = _
  rw [if_pos h]
  exact congrArg some (PySem.W.maxD_ints n ns)
theorem bNe_bb (a b : Bool) : bNe (.bool a) (.bool b) = some (!(a == b)) := rfl
theorem dec_m0 (k : Nat) : ((((k % 2 : Nat) : Int)) == 0) = decide (k % 2 = 0) := by
  by_cases h : k % 2 = 0
  · rw [h]; rfl
  · rw [decide_eq_false h, beq_eq_false_iff_ne]; omega
theorem bols_map {α : Type} (f : α → Bool) : ∀ l : List α, bolsD (l.map fun a => PyData.bool (f a)) = some (l.map f)
  | [] => rfl
  | a :: r => by
    rw [List.map_cons, List.map_cons]
    show (bolsD (r.map fun a => PyData.bool (f a))).map _ = _
    rw [bols_map f r]
    rfl
theorem all_bols (l : List Nat) (q : Nat → Bool) : cAll [.list (l.map fun k => .bool (q k))] = some (.bool (l.all q)) := by
  show (bolsD _).map _ = _
  rw [bols_map]
  show some (PyData.bool ((l.map q).all id)) = _
  rw [List.all_map]
  rfl
theorem z_gen {fa fb : FE} {ρ : En} {x G : List D} {c : Bool} (h1 : fa ρ = some (.list x, ρ)) (h2 : fb ρ = some (.list G, ρ)) (eb : bNe (.list x) (.list G) = some c) : eTst (eBin (fun x y => (bNe x y).map .bool) fa fb) ρ = some (c, ρ) := by
  simp [h1, h2, eb]
theorem z_frz {f : FN} {ρ : En} {G : List D} (h : f ρ = some (.ol G, ρ)) : eFrz f ρ = some (.list G, ρ) := by
  simp [h]
theorem z_lrg {f : FR2} {ρ : En} {N : Int} {G : List D} (h : f ρ = some ((0, N), ρ)) (hr : rgOk 0 N = true) (er : rngD 0 N.toNat = G) : eLRg f ρ = some (.ol G, ρ) := by
  have e : N - 0 = N := Int.sub_zero N
  rw [ev_lrg, h, Option.bind_some]
  rw [if_pos hr, e, er]
theorem ev_or_f {c c2 : FT} {ρ ρ1 : En} {r : Option (Bool × En)} (h1 : c ρ = some (false, ρ1)) (h2 : c2 ρ1 = r) : eOr c c2 ρ = r := by
  rw [ev_or, h1, Option.bind_some]; exact h2
theorem ev_or_t {c c2 : FT} {ρ ρ1 : En} (h1 : c ρ = some (true, ρ1)) : eOr c c2 ρ = some (true, ρ1) := by
  rw [ev_or, h1, Option.bind_some]; rfl

theorem cSortU_tup (ns : List Int) : cSortU [.tuple (is ns)] = some (.ol (is (isort ns))) := by
  show (if sortB (is ns) = true then some (Cell.ol (sortD (is ns))) else none) = _
  rw [if_pos (sortB_is ns), sortD_is]
theorem cSortU_lst (ns : List Int) : cSortU [.list (is ns)] = some (.ol (is (isort ns))) := by
  show (if sortB (is ns) = true then some (Cell.ol (sortD (is ns))) else none) = _
  rw [if_pos (sortB_is ns), sortD_is]
/-! ## rules: distances -/
def dJ (ms : List Int) (j : Nat) : List Int := (List.range j).map fun i => ms.getD j 0 - ms.getD i 0
def dst (ms : List Int) : List Int := (List.range ms.length).flatMap (dJ ms)
theorem dJ_len (ms : List Int) (j : Nat) : (dJ ms j).length = j := by unfold dJ; rw [List.length_map, List.length_range]
theorem sumR : ∀ n : Nat, (List.range n).sum = n * (n - 1) / 2
  | 0 => rfl
  | n + 1 => by
    rw [List.range_succ, List.sum_append, sumR n, List.sum_singleton]
    cases n with
    | zero => rfl
    | succ n =>
      have h : (n + 1 + 1) * (n + 1 + 1 - 1) = (n + 1) * (n + 1 - 1) + 2 * (n + 1) := by
        show (n + 2) * (n + 1) = (n + 1) * n + 2 * (n + 1)
        rw [Nat.mul_comm (n + 1) n, ← Nat.add_mul]
      rw [h, Nat.add_mul_div_left _ _ (by decide)]
theorem dst_len (ms : List Int) : (dst ms).length = ms.length * (ms.length - 1) / 2 := by
  unfold dst
  rw [List.length_flatMap]
  have : (List.range ms.length).map (fun j => (dJ ms j).length) = List.range ms.length := by
    rw [List.map_congr_left (g := id) fun j _ => dJ_len ms j, List.map_id]
  rw [this, sumR]
theorem dst_le {ms : List Int} (h : ms.length ≤ 40) : (dst ms).length ≤ 800 := by
  rw [dst_len]
  have : ms.length * (ms.length - 1) ≤ 40 * 40 := Nat.mul_le_mul h (by omega)
  omega
def msr (ms : List Int) : List Int := sset (dst ms)
theorem sset_perm {a b : List Int} (h : a.Perm b) : sset a = sset b := sset_eq (sset_pw b) fun k => mem_sset.trans h.mem_iff.symm
theorem v_distances {ms : List Int} (h : ms.length ≤ 40) : m_distances [.sh (tI ms)] = some (.sh (.list (is (isort (dst ms)))), []) := by
  have hl := dst_le h
  have ek : k_distances_1 [.sh (tI ms), .dead, .dead] = some (.ol (is (dst ms)), [.sh (tI ms), .dead, .dead]) := by
    have ei : is (dst ms) = (List.range ms.length).flatMap fun j => (List.range j).map fun i => PyData.int (ms.getD j 0 - ms.getD i 0) := by
      unfold is dst
      rw [List.map_flatMap]
      refine congrArg (fun f => List.flatMap f _) (funext fun j => ?_)
      unfold dJ
      rw [List.map_map]; rfl
    rw [kk_distances_1, ei]
    refine ev_comp2A nI nI List.range (fun j i => PyData.int (ms.getD j 0 - ms.getD i 0)) (List.range ms.length) (ρi := [.sh (tI ms), .dead, .dead]) (ρ0 := [.sh (tI ms), .dead, .dead]) ?_ rfl ?_ fun j hj => ?_
    · refine iR_nI (n := ms.length) ?_ (by omega)
      have hc : cLen [tI ms] = some (.int (ms.length : Int)) := by
        show some (PyData.int ((is ms).length : Int)) = _
        rw [is_len]
      generalize tI ms = T at *
      simp [hc]
    · rw [List.length_flatMap]
      have : (List.range ms.length).map (fun j => (List.range j).length) = List.range ms.length := by
        rw [List.map_congr_left (f := fun j => (List.range j).length) (g := id) fun j _ => List.length_range, List.map_id]
      rw [this, sumR]
      rw [dst_len] at hl
      unfold sizeLine; omega
    · have hj := List.mem_range.mp hj
      refine ⟨[.sh (tI ms), .sh (nI j), .dead], [.sh (tI ms), .sh (nI j), .dead], [.sh (tI ms), .sh (nI j), .dead], rfl, ?_, rfl, rfl, fun i hi => ?_⟩
      · exact iR_nI (n := j) rfl (by omega)
      · have hi := List.mem_range.mp hi
        refine ⟨[.sh (tI ms), .sh (nI j), .sh (nI i)], [.sh (tI ms), .sh (nI j), .sh (nI i)], rfl, ?_, rfl⟩
        have a1 := at_is (L := ms) (p := j) hj
        have a2 := at_is (L := ms) (p := i) (by omega)
        unfold tI nI
        generalize is ms = T at *
        generalize (j : Int) = J at *
        generalize (i : Int) = I at *
        simp [a1, a2]
  refine fn_ret (ρ' := [.sh (tI ms), .dead, .dead]) ?_
  show s_distances [.sh (tI ms), .dead, .dead] = _
  generalize tI ms = T at *
  simp [s_distances, ek, cSortU_lst]
theorem v_measured {ms : List Int} (h : ms.length ≤ 40) : m_measured [.sh (tI ms)] = some (.sh (tI (msr ms)), []) := by
  have e1 := v_distances h
  have hl := dst_le h
  have e2 : cSrtSet (.list (is (isort (dst ms)))) = some (.ol (is (msr ms))) := by
    rw [cSrtSet_L, isort_len, if_pos (by omega)]
    unfold msr
    rw [sset_perm (isort_perm _)]
  refine fn_ret (ρ' := [.sh (tI ms)]) ?_
  show s_measured [.sh (tI ms)] = _
  show _ = some (Out.rt (.sh (.tuple (is (msr ms)))) _)
  generalize tI ms = T at *
  generalize is (isort (dst ms)) = I at *
  generalize is (msr ms) = M at *
  simp [s_measured, e1, e2]
theorem cLen_I (ms : List Int) : cLen [tI ms] = some (.int (ms.length : Int)) := by
  show some (PyData.int ((is ms).length : Int)) = _
  rw [is_len]
theorem last_I {ms : List Int} (h : 1 ≤ ms.length) : dIx (tI ms) (.int (-1)) = some (.int (ms.getD (ms.length - 1) 0)) := atI_ng (L := ms) (j := 1) (Nat.le_refl 1) h
def lst (ms : List Int) : Int := ms.getD (ms.length - 1) 0
def isW (ms : List Int) : Bool := ((msr ms).length : Int) == lst ms
theorem v_is_whole {ms : List Int} (h : ms.length ≤ 40) (h1 : 1 ≤ ms.length) : m_is_whole [.sh (tI ms)] = some (.sh (.bool (isW ms)), []) := by
  have e1 := v_measured h
  have e2 := cLen_I (msr ms)
  have e3 := last_I h1
  refine fn_ret (ρ' := [.sh (tI ms)]) ?_
  show s_is_whole [.sh (tI ms)] = _
  unfold isW lst
  generalize tI ms = T at *
  generalize tI (msr ms) = M at *
  generalize ((msr ms).length : Int) = a at *
  generalize ms.getD (ms.length - 1) 0 = b at *
  simp [s_is_whole, e1, e2, e3]


def zs (ms : List Nat) : List Int := ms.map fun k : Nat => (k : Int)
theorem zs_len (ms : List Nat) : (zs ms).length = ms.length := List.length_map _
theorem zs_app (ms : List Nat) (m : Nat) : zs (ms ++ [m]) = zs ms ++ [(m : Int)] := by unfold zs; rw [List.map_append]; rfl
theorem getD_app {L : List Int} {m : Int} {i : Nat} (h : i < L.length) : (L ++ [m]).getD i 0 = L.getD i 0 := by
  rw [List.getD_eq_getElem?_getD, List.getElem?_append_left h, List.getD_eq_getElem?_getD]
theorem getD_end {L : List Int} {m : Int} : (L ++ [m]).getD L.length 0 = m := by
  rw [List.getD_eq_getElem?_getD, List.getElem?_append_right (Nat.le_refl _), Nat.sub_self]; rfl
theorem map_getD (f : Int → Int) (L : List Int) : (List.range L.length).map (fun i => f (L.getD i 0)) = L.map f := by
  apply List.ext_getElem
  · simp
  · intro i h1 h2
    have h2 : i < L.length := by simpa using h2
    rw [List.getElem_map, List.getElem_map, List.getElem_range, getD_lt h2]
theorem dst_app (L : List Int) (m : Int) : dst (L ++ [m]) = dst L ++ L.map fun y => m - y := by
  unfold dst
  rw [List.length_append, List.length_singleton, List.range_succ, List.flatMap_append, List.flatMap_singleton]
  congr 1
  · rw [List.flatMap_def, List.flatMap_def]
    refine congrArg List.flatten (List.map_congr_left fun j hj => ?_)
    have hj := List.mem_range.mp hj
    unfold dJ
    refine List.map_congr_left fun i hi => ?_
    have hi := List.mem_range.mp hi
    rw [getD_app hj, getD_app (by omega)]
  · unfold dJ
    rw [getD_end, ← map_getD (fun y => m - y)]
    refine List.map_congr_left fun i hi => ?_
    rw [getD_app (List.mem_range.mp hi)]
def cnt (m : Nat) : Nat → Nat
  | 0 => 0
  | k + 1 => m % 2 + cnt (m / 2) k
theorem cnt_eq : ∀ (k m : Nat), ((List.range k).filter fun d => m.testBit d).length = cnt m k
  | 0, _ => rfl
  | k + 1, m => by
    rw [List.range_succ_eq_map, List.filter_cons]
    have ih := cnt_eq k (m / 2)
    have e : ((List.map Nat.succ (List.range k)).filter fun d => m.testBit d).length = cnt (m / 2) k := by
      rw [List.filter_map, List.length_map, ← ih]
      refine congrArg List.length (List.filter_congr fun d _ => ?_)
      show m.testBit (d + 1) = _
      rw [Nat.testBit_succ]
    have z : m.testBit 0 = decide (m % 2 = 1) := Nat.testBit_zero m
    show _ = m % 2 + cnt (m / 2) k
    by_cases h : m % 2 = 1
    · rw [z, if_pos (by simp [h]), List.length_cons, e, h]; omega
    · rw [z, if_neg (by simp [h]), e]; omega
def addM (mask : Nat) (ms : List Nat) (m : Nat) : Nat := ms.foldl (fun a x => a ||| (1 <<< (m - x))) mask
theorem addM_bit (m d : Nat) : ∀ (ms : List Nat) (mask : Nat), (addM mask ms m).testBit d = true ↔ mask.testBit d = true ∨ ∃ x ∈ ms, d = m - x
  | [], mask => by
    show mask.testBit d = true ↔ _
    exact ⟨.inl, fun h => h.elim id fun ⟨x, h, _⟩ => nomatch h⟩
  | x :: r, mask => by
    show (addM (mask ||| (1 <<< (m - x))) r m).testBit d = true ↔ _
    rw [addM_bit m d r, Nat.testBit_or, Nat.one_shiftLeft, Nat.testBit_two_pow, Bool.or_eq_true, decide_eq_true_eq]
    refine ⟨fun h => ?_, fun h => ?_⟩
    · rcases h with (h | h) | ⟨y, h1, h2⟩
      · exact .inl h
      · exact .inr ⟨x, List.mem_cons_self, h.symm⟩
      · exact .inr ⟨y, List.mem_cons_of_mem _ h1, h2⟩
    · rcases h with h | ⟨y, h1, h2⟩
      · exact .inl (.inl h)
      · rcases List.mem_cons.mp h1 with rfl | h1
        · exact .inl (.inr h2.symm)
        · exact .inr ⟨y, h1, h2⟩
/-- a rule with the mask of its distances -/
structure Rl (n : Nat) (ms : List Nat) (mask l : Nat) : Prop where
  bit : ∀ d : Nat, mask.testBit d = true ↔ (d : Int) ∈ dst (zs ms)
  rg : ∀ x ∈ dst (zs ms), 0 ≤ x ∧ x ≤ n
  le : ∀ y ∈ ms, y ≤ l
  la : lst (zs ms) = l
  ln : 1 ≤ ms.length
theorem Rl.app {n : Nat} {ms : List Nat} {mask l m : Nat} (R : Rl n ms mask l) (h1 : l ≤ m) (h2 : m ≤ n) : Rl n (ms ++ [m]) (addM mask ms m) m where
  bit := fun d => by
    rw [addM_bit, zs_app, dst_app, List.mem_append, R.bit]
    refine or_congr Iff.rfl ⟨fun ⟨x, hx, e⟩ => List.mem_map.mpr ⟨(x : Int), List.mem_map.mpr ⟨x, hx, rfl⟩, ?_⟩, fun h => ?_⟩
    · have := R.le x hx; omega
    · obtain ⟨y, hy, e⟩ := List.mem_map.mp h
      obtain ⟨x, hx, rfl⟩ := List.mem_map.mp hy
      have := R.le x hx
      exact ⟨x, hx, by omega⟩
  rg := fun x hx => by
    rw [zs_app, dst_app, List.mem_append] at hx
    rcases hx with hx | hx
    · exact R.rg x hx
    · obtain ⟨y, hy, rfl⟩ := List.mem_map.mp hx
      obtain ⟨z, hz, rfl⟩ := List.mem_map.mp hy
      have := R.le z hz
      omega
  le := fun y hy => by
    rcases List.mem_append.mp hy with hy | hy
    · exact Nat.le_trans (R.le y hy) h1
    · rw [List.mem_singleton.mp hy]; exact Nat.le_refl _
  la := by
    unfold lst
    rw [zs_app, List.length_append, List.length_singleton, Nat.add_sub_cancel, getD_end]
  ln := by rw [List.length_append, List.length_singleton]; omega
theorem Rl.zero (n : Nat) : Rl n [0] 0 0 where
  bit := fun d => by
    rw [Nat.zero_testBit]
    exact ⟨fun h => Bool.noConfusion h, fun h => by
      have : dst (zs [0]) = [] := rfl
      rw [this] at h; nomatch h⟩
  rg := fun x hx => by
    have : dst (zs [0]) = [] := rfl
    rw [this] at hx; nomatch hx
  le := fun y hy => by rw [List.mem_singleton.mp hy]; exact Nat.le_refl _
  la := rfl
  ln := Nat.le_refl _
theorem Rl.cnt {n : Nat} {ms : List Nat} {mask l : Nat} (R : Rl n ms mask l) : (msr (zs ms)).length = cnt mask (n + 1) := by
  have e : msr (zs ms) = ((List.range (n + 1)).filter fun d => mask.testBit d).map fun k : Nat => (k : Int) := by
    refine sset_eq ?_ fun k => ⟨fun h => ?_, fun h => ?_⟩
    · rw [List.pairwise_map]
      exact (List.pairwise_lt_range.filter _).imp fun h => by omega
    · obtain ⟨d, hd, rfl⟩ := List.mem_map.mp h
      exact (R.bit d).mp (List.mem_filter.mp hd).2
    · have := R.rg k h
      refine List.mem_map.mpr ⟨k.toNat, List.mem_filter.mpr ⟨List.mem_range.mpr (by omega), (R.bit _).mpr ?_⟩, by omega⟩
      rw [Int.toNat_of_nonneg this.1]; exact h
  rw [e, List.length_map, cnt_eq]
def sumN (a : Nat) : Nat → Nat
  | 0 => 0
  | n + 1 => sumN a n + (a + n)
theorem sumRg_N (a : Nat) : ∀ n, sumRg (a : Int) n = (sumN a n : Int)
  | 0 => rfl
  | n + 1 => by
    show sumRg (a : Int) n + ((a : Int) + (n : Int)) = ((sumN a n + (a + n) : Nat) : Int)
    rw [sumRg_N a n]; omega
def fwB (n : Nat) : Nat → List Nat → Nat → Nat → Option (List Nat)
  | 0, ms, mask, _ => if cnt (addM mask ms n) (n + 1) = n then some (ms ++ [n]) else none
  | m + 1, ms, mask, l => if cnt (addM mask ms n) (n + 1) + sumN (ms.length + 1) (m + 1) < n then none else
      (List.range (n - l - 1)).findSome? fun k => fwB n m (ms ++ [l + 1 + k]) (addM mask ms (l + 1 + k)) (l + 1 + k)
def oZ : Option (List Nat) → D
  | some x => tI (zs x)
  | none => .none
theorem loop_fs {α β : Type} (inj : α → D) (f : α → Option β) (out : β → Cell) {xs0 : List D} {ks : List Nat} {b : D → En → Option Out} {ρ0 : En} (Q : α → Prop)
    (hy : ∀ y z, Q y → f y = some z → ∃ ρ', b (inj y) ρ0 = some (.rt (out z) ρ'))
    (hn : ∀ y, Q y → f y = none → ∃ ρ', (b (inj y) ρ0 = some (.nx ρ') ∨ b (inj y) ρ0 = some (.ct ρ')) ∧ killL ks ρ' = ρ0) :
    ∀ (ys : List α) (ρ : En), (∀ y ∈ ys, Q y) → killL ks ρ = ρ0 →
      (∀ z, ys.findSome? f = some z → ∃ ρ', loopF none xs0 ks b (ys.map inj) ρ = some (.rt (out z) ρ')) ∧
      (ys.findSome? f = none → loopF none xs0 ks b (ys.map inj) ρ = some (.nx ρ0)) := by
  intro ys
  induction ys with
  | nil => intro ρ _ e; exact ⟨fun y h => (by cases h), fun _ => by rw [List.map_nil, loop_nil rfl, e]⟩
  | cons y r ih =>
    intro ρ hq e
    rw [List.findSome?_cons, List.map_cons]
    cases ht : f y with
    | some z =>
      obtain ⟨ρ', h⟩ := hy y z (hq y List.mem_cons_self) ht
      refine ⟨fun z' hz => ?_, fun h => (by cases h)⟩
      cases hz
      exact ⟨ρ', loop_rt rfl (by rw [e]; exact h)⟩
    | none =>
      obtain ⟨ρ', h, h2⟩ := hn y (hq y List.mem_cons_self) ht
      have hh : loopF none xs0 ks b (inj y :: r.map inj) ρ = loopF none xs0 ks b (r.map inj) ρ' := by
        rcases h with h | h
        · exact loop_cons rfl (by rw [e]; exact h)
        · exact loop_cont rfl (by rw [e]; exact h)
      rw [hh]
      exact ih ρ' (fun z hz => hq z (List.mem_cons_of_mem _ hz)) h2
theorem rg_ok {a b : Int} (h0 : 0 ≤ a) (h1 : b ≤ 16777216) (h2 : a ≤ 16777216) (h3 : 0 ≤ b) : rgOk a b = true := decide_eq_true (RgOk.of_le h0 h1 h2 h3)
theorem bEq_nat (a b : Nat) : (((a : Int)) == (b : Int)) = decide (a = b) := by
  by_cases h : a = b
  · subst h; simp
  · rw [decide_eq_false h, beq_eq_false_iff_ne]; omega
theorem v_fw {n : Nat} (hn : n ≤ 1000) : ∀ (many k : Nat) (ms : List Nat) (mask l : Nat), many < k → ms.length + many ≤ 30 → l < n → Rl n ms mask l →
    m_first_whole k [.sh (tI (zs ms)), .sh (.int (n : Int)), .sh (.int (many : Int))] = some (.sh (oZ (fwB n many ms mask l)), [])
  | many, 0, _, _, _, h, _, _, _ => absurd h (Nat.not_lt_zero _)
  | 0, k + 1, ms, mask, l, hk, hl, hln, R => by
    have R2 := R.app (m := n) (by omega) (Nat.le_refl _)
    have hL : (zs ms ++ [(n : Int)]).length = ms.length + 1 := by rw [List.length_append, zs_len]; rfl
    have ew := v_is_whole (ms := zs ms ++ [(n : Int)]) (by omega) (by omega)
    have ea : dAddA (tI (zs ms)) (.tuple [.int (n : Int)]) = some (tI (zs ms ++ [(n : Int)])) := add_is (a := zs ms) (b := [(n : Int)]) (by rw [zs_len]; simp; omega)
    have eb : isW (zs ms ++ [(n : Int)]) = decide (cnt (addM mask ms n) (n + 1) = n) := by
      unfold isW
      rw [← zs_app, R2.cnt, R2.la, bEq_nat]
    rw [eb] at ew
    show _ = some (Cell.sh (oZ (if cnt (addM mask ms n) (n + 1) = n then some (ms ++ [n]) else none)), [])
    have ez : oZ (if cnt (addM mask ms n) (n + 1) = n then some (ms ++ [n]) else none) = if decide (cnt (addM mask ms n) (n + 1) = n) = true then tI (zs ms ++ [(n : Int)]) else .none := by
      by_cases c : cnt (addM mask ms n) (n + 1) = n
      · rw [if_pos c, decide_eq_true c, if_pos rfl]; show tI (zs (ms ++ [n])) = _; rw [zs_app]
      · rw [if_neg c, decide_eq_false c, if_neg (by simp)]; rfl
    rw [ez]
    clear ez eb R R2
    generalize decide (cnt (addM mask ms n) (n + 1) = n) = w at *
    generalize tI (zs ms ++ [(n : Int)]) = M2 at *
    generalize tI (zs ms) = M at *
    generalize (n : Int) = N at *
    refine fn_ret (ρ' := [.sh (M), .sh (.int (N)), .sh (.int (0)), .dead, .dead, .dead, .dead]) ?_
    show s_first_whole (m_first_whole k) [.sh (M), .sh (.int (N)), .sh (.int (0)), .dead, .dead, .dead, .dead] = _
    unfold s_first_whole
    refine seq_rt ((if_t (ρ1 := [.sh (M), .sh (.int (N)), .sh (.int (0)), .dead, .dead, .dead, .dead]) (by simp)).trans ?_)
    have z1 : 1 ≤ sizeLine := by decide
    generalize dAddA = f at *
    cases w <;> simp [ew, ea, z1]
  | many + 1, k + 1, ms, mask, l, hk, hl, hln, R => by
    have R2 := R.app (m := n) (by omega) (Nat.le_refl _)
    have hL : (zs ms ++ [(n : Int)]).length = ms.length + 1 := by rw [List.length_append, zs_len]; rfl
    have em := v_measured (ms := zs ms ++ [(n : Int)]) (by omega)
    have ea : dAddA (tI (zs ms)) (.tuple [.int (n : Int)]) = some (tI (zs ms ++ [(n : Int)])) := add_is (a := zs ms) (b := [(n : Int)]) (by rw [zs_len]; simp; omega)
    have ec := cLen_I (zs ms ++ [(n : Int)])
    have ec2 := cLen_I (msr (zs ms ++ [(n : Int)]))
    rw [hL] at ec
    rw [← zs_app, R2.cnt, zs_app] at ec2
    have er : rgOk ((ms.length + 1 : Nat) : Int) (((ms.length + 1 : Nat) : Int) + ((many + 1 : Nat) : Int)) = true := rg_ok (by omega) (by omega) (by omega) (by omega)
    have es : sumRg ((ms.length + 1 : Nat) : Int) ((((ms.length + 1 : Nat) : Int) + ((many + 1 : Nat) : Int)) - ((ms.length + 1 : Nat) : Int)).toNat = (sumN (ms.length + 1) (many + 1) : Int) := by
      have e : ((((ms.length + 1 : Nat) : Int) + ((many + 1 : Nat) : Int)) - ((ms.length + 1 : Nat) : Int)).toNat = many + 1 := by omega
      rw [← sumRg_N, e]
    have e0 : ¬ ((many + 1 : Nat) : Int) = 0 := by omega
    have e1 : ((many + 1 : Nat) : Int) - 1 = (many : Int) := by omega
    have eg : eSumRg (gR2 (eCB cLen (aCons (eVar 3) (aNil))) (eBin dAddA (eCB cLen (aCons (eVar 3) (aNil))) (eVar 2))) [.sh (tI (zs ms)), .sh (.int ((n : Int))), .sh (.int (((many + 1 : Nat) : Int))), .sh (tI (zs ms ++ [(n : Int)])), .dead, .dead, .dead] = some (.int (sumN (ms.length + 1) (many + 1) : Int), [.sh (tI (zs ms)), .sh (.int ((n : Int))), .sh (.int (((many + 1 : Nat) : Int))), .sh (tI (zs ms ++ [(n : Int)])), .dead, .dead, .dead]) := by
      generalize tI (zs ms ++ [(n : Int)]) = M2 at *
      generalize tI (zs ms) = M at *
      generalize (n : Int) = N at *
      generalize ((ms.length + 1 : Nat) : Int) = A at *
      generalize ((many + 1 : Nat) : Int) = B at *
      have eq : gR2 (eCB cLen (aCons (eVar 3) (aNil))) (eBin dAddA (eCB cLen (aCons (eVar 3) (aNil))) (eVar 2)) [.sh (M), .sh (.int (N)), .sh (.int (B)), .sh (M2), .dead, .dead, .dead] = some ((A, A + B), [.sh (M), .sh (.int (N)), .sh (.int (B)), .sh (M2), .dead, .dead, .dead]) := by
        show (Option.bind _ _) = _
        simp [ec]
      rw [ev_sumRg, eq, Option.bind_some]
      show (if rgOk A (A + B) = true then some (PyData.int (sumRg A (A + B - A).toNat), _) else none) = _
      rw [if_pos er, es]
    have el : dIx (tI (zs ms)) (.int (-1)) = some (.int (l : Int)) := by
      rw [last_I (by rw [zs_len]; exact R.ln), ← R.la]; rfl
    have cc : bLt (.int ((cnt (addM mask ms n) (n + 1) : Int) + (sumN (ms.length + 1) (many + 1) : Int))) (.int (n : Int)) = some (decide (cnt (addM mask ms n) (n + 1) + sumN (ms.length + 1) (many + 1) < n)) := by
      rw [ev_ltB]
      generalize sumN (ms.length + 1) (many + 1) = S
      generalize cnt (addM mask ms n) (n + 1) = C
      exact congrArg some (decide_eq_decide.mpr (by omega))
    show _ = some (Cell.sh (oZ (if cnt (addM mask ms n) (n + 1) + sumN (ms.length + 1) (many + 1) < n then none else
      (List.range (n - l - 1)).findSome? fun j => fwB n many (ms ++ [l + 1 + j]) (addM mask ms (l + 1 + j)) (l + 1 + j))), [])
    have pre : ∀ {o : Out} {X : FS}, (sSeq (sIf (eTst (eBin (fun x y => (bLt x y).map .bool) (eBin dAddA (eCB cLen (aCons (eRetD (eCall0 m_measured (aCons (eVar 3) (aNil)))) (aNil))) (eVar 4)) (eVar 1))) (sRet (eC .none)) (sNx)) X) [.sh (tI (zs ms)), .sh (.int ((n : Int))), .sh (.int (((many + 1 : Nat) : Int))), .sh (tI (zs ms ++ [(n : Int)])), .sh (.int ((sumN (ms.length + 1) (many + 1) : Int))), .dead, .dead] = some o →
      (sSeq (sIf (eTst (eBin (fun x y => (bEq x y).map .bool) (eVar 2) (eC (.int 0)))) (sRet (eIf (eTru (eRetD (eCall0 m_is_whole (aCons (eBin dAddA (eVar 0) (eTup (aCons (eVar 1) (aNil)))) (aNil))))) (eBin dAddA (eVar 0) (eTup (aCons (eVar 1) (aNil)))) (eC .none))) (sNx))
      (sSeq (sSet 3 (eBin dAddA (eVar 0) (eTup (aCons (eVar 1) (aNil)))))
      (sSeq (sSet 4 (eSumRg (gR2 (eCB cLen (aCons (eVar 3) (aNil))) (eBin dAddA (eCB cLen (aCons (eVar 3) (aNil))) (eVar 2)))))
      (sSeq (sIf (eTst (eBin (fun x y => (bLt x y).map .bool) (eBin dAddA (eCB cLen (aCons (eRetD (eCall0 m_measured (aCons (eVar 3) (aNil)))) (aNil))) (eVar 4)) (eVar 1))) (sRet (eC .none)) (sNx)) X)))) [.sh (tI (zs ms)), .sh (.int ((n : Int))), .sh (.int (((many + 1 : Nat) : Int))), .dead, .dead, .dead, .dead] = some o := fun {o X} h => by
      have z1 : 1 ≤ sizeLine := by decide
      generalize tI (zs ms ++ [(n : Int)]) = M2 at *
      generalize tI (zs ms) = M at *
      generalize (n : Int) = N at *
      generalize ((many + 1 : Nat) : Int) = B at *
      generalize ((sumN (ms.length + 1) (many + 1) : Nat) : Int) = S at *
      refine (seq_nx (ρ1 := [.sh (M), .sh (.int (N)), .sh (.int (B)), .dead, .dead, .dead, .dead]) ?_).trans ?_
      · simp [e0]
      refine (seq_nx (ρ1 := [.sh (M), .sh (.int (N)), .sh (.int (B)), .sh (M2), .dead, .dead, .dead]) ?_).trans ?_
      · generalize dAddA = f at *
        simp [ea, z1]
      refine (seq_nx (ρ1 := [.sh (M), .sh (.int (N)), .sh (.int (B)), .sh (M2), .sh (.int (S)), .dead, .dead]) ?_).trans h
      show (Option.map _ _) = _
      rw [eg]; rfl
    by_cases c : cnt (addM mask ms n) (n + 1) + sumN (ms.length + 1) (many + 1) < n
    · rw [if_pos c]
      rw [decide_eq_true c] at cc
      refine fn_ret (ρ' := [.sh (tI (zs ms)), .sh (.int ((n : Int))), .sh (.int (((many + 1 : Nat) : Int))), .sh (tI (zs ms ++ [(n : Int)])), .sh (.int ((sumN (ms.length + 1) (many + 1) : Int))), .dead, .dead]) (pre ?_)
      refine seq_rt ((if_t (ρ1 := [.sh (tI (zs ms)), .sh (.int ((n : Int))), .sh (.int (((many + 1 : Nat) : Int))), .sh (tI (zs ms ++ [(n : Int)])), .sh (.int ((sumN (ms.length + 1) (many + 1) : Int))), .dead, .dead]) ?_).trans rfl)
      generalize tI (zs ms ++ [(n : Int)]) = M2 at *
      generalize tI (msr (zs ms ++ [(n : Int)])) = M3 at *
      generalize tI (zs ms) = M at *
      generalize ((many + 1 : Nat) : Int) = B at *
      generalize ((sumN (ms.length + 1) (many + 1) : Nat) : Int) = S at *
      generalize ((cnt (addM mask ms n) (n + 1) : Nat) : Int) = C at *
      generalize (n : Int) = N at *
      generalize hb : bLt = g at *
      simp [em, ec2, cc]
    · rw [if_neg c]
      rw [decide_eq_false c] at cc
      have pre2 : ∀ {o : Out}, (sSeq (l_first_whole_1 (m_first_whole k)) (sRet (eC .none))) [.sh (tI (zs ms)), .sh (.int ((n : Int))), .sh (.int (((many + 1 : Nat) : Int))), .sh (tI (zs ms ++ [(n : Int)])), .sh (.int ((sumN (ms.length + 1) (many + 1) : Int))), .dead, .dead] = some o → s_first_whole (m_first_whole k) [.sh (tI (zs ms)), .sh (.int ((n : Int))), .sh (.int (((many + 1 : Nat) : Int))), .dead, .dead, .dead, .dead] = some o := fun {o} h => by
        unfold s_first_whole
        refine pre ?_
        refine (seq_nx (ρ1 := [.sh (tI (zs ms)), .sh (.int ((n : Int))), .sh (.int (((many + 1 : Nat) : Int))), .sh (tI (zs ms ++ [(n : Int)])), .sh (.int ((sumN (ms.length + 1) (many + 1) : Int))), .dead, .dead]) ?_).trans h
        generalize tI (zs ms ++ [(n : Int)]) = M2 at *
        generalize tI (msr (zs ms ++ [(n : Int)])) = M3 at *
        generalize tI (zs ms) = M at *
        generalize ((many + 1 : Nat) : Int) = B at *
        generalize ((sumN (ms.length + 1) (many + 1) : Nat) : Int) = S at *
        generalize ((cnt (addM mask ms n) (n + 1) : Nat) : Int) = C at *
        generalize (n : Int) = N at *
        generalize hb : bLt = g at *
        simp [em, ec2, cc]
      clear pre cc eg ec ec2 em ea er es R2 hL
      have key : ∀ j : Nat, l + 1 + j < n → b_first_whole_1 (m_first_whole k) [.sh (tI (zs ms)), .sh (.int ((n : Int))), .sh (.int (((many + 1 : Nat) : Int))), .sh (tI (zs ms ++ [(n : Int)])), .sh (.int ((sumN (ms.length + 1) (many + 1) : Int))), .sh (.int (((l : Int) + 1 + (j : Int)))), .dead] =
          (match fwB n many (ms ++ [l + 1 + j]) (addM mask ms (l + 1 + j)) (l + 1 + j) with
          | some z => some (.rt (.sh (tI (zs z))) [.sh (tI (zs ms)), .sh (.int ((n : Int))), .sh (.int (((many + 1 : Nat) : Int))), .sh (tI (zs ms ++ [(n : Int)])), .sh (.int ((sumN (ms.length + 1) (many + 1) : Int))), .sh (.int (((l : Int) + 1 + (j : Int)))), .sh (tI (zs z))])
          | none => some (.nx [.sh (tI (zs ms)), .sh (.int ((n : Int))), .sh (.int (((many + 1 : Nat) : Int))), .sh (tI (zs ms ++ [(n : Int)])), .sh (.int ((sumN (ms.length + 1) (many + 1) : Int))), .sh (.int (((l : Int) + 1 + (j : Int)))), .sh (.none)])) := fun j hj => by
        have ih := v_fw hn many k (ms ++ [l + 1 + j]) (addM mask ms (l + 1 + j)) (l + 1 + j) (by omega) (by rw [List.length_append, List.length_singleton]; omega) hj (R.app (by omega) (by omega))
        have ej : ((l + 1 + j : Nat) : Int) = (l : Int) + 1 + (j : Int) := by push_cast; rfl
        have ea : dAddA (tI (zs ms)) (.tuple [.int ((l : Int) + 1 + (j : Int))]) = some (tI (zs (ms ++ [l + 1 + j]))) := by
          rw [zs_app, ej]
          exact add_is (a := zs ms) (b := [(l : Int) + 1 + (j : Int)]) (by rw [zs_len]; simp; omega)
        have z1 : 1 ≤ sizeLine := by decide
        cases hf : fwB n many (ms ++ [l + 1 + j]) (addM mask ms (l + 1 + j)) (l + 1 + j) with
        | none =>
          rw [hf] at ih
          have ih : m_first_whole k [.sh (tI (zs (ms ++ [l + 1 + j]))), .sh (.int (n : Int)), .sh (.int (many : Int))] = some (.sh .none, []) := ih
          clear R hf ej
          dsimp only
          unfold b_first_whole_1
          generalize tI (zs ms ++ [(n : Int)]) = M2 at *
          generalize tI (zs (ms ++ [l + 1 + j])) = M3 at *
          generalize tI (zs ms) = M at *
          generalize ((many + 1 : Nat) : Int) = B at *
          generalize ((sumN (ms.length + 1) (many + 1) : Nat) : Int) = S at *
          generalize (l : Int) + 1 + (j : Int) = J at *
          generalize (n : Int) = N at *
          generalize dAddA = f at *
          simp [ea, e1, ih, z1]
        | some z =>
          rw [hf] at ih
          have ih : m_first_whole k [.sh (tI (zs (ms ++ [l + 1 + j]))), .sh (.int (n : Int)), .sh (.int (many : Int))] = some (.sh (tI (zs z)), []) := ih
          clear R hf ej
          dsimp only
          unfold b_first_whole_1
          have hz : isNone (tI (zs z)) = false := rfl
          generalize tI (zs ms ++ [(n : Int)]) = M2 at *
          generalize tI (zs (ms ++ [l + 1 + j])) = M3 at *
          generalize tI (zs ms) = M at *
          generalize tI (zs z) = Z at *
          generalize ((many + 1 : Nat) : Int) = B at *
          generalize ((sumN (ms.length + 1) (many + 1) : Nat) : Int) = S at *
          generalize (l : Int) + 1 + (j : Int) = J at *
          generalize (n : Int) = N at *
          generalize dAddA = f at *
          simp [ea, e1, ih, z1, hz]
      have A := loop_fs (fun j : Nat => PyData.int ((l : Int) + 1 + (j : Int))) (fun j => fwB n many (ms ++ [l + 1 + j]) (addM mask ms (l + 1 + j)) (l + 1 + j)) (fun z => Cell.sh (tI (zs z))) (xs0 := (List.range (n - l - 1)).map fun j : Nat => PyData.int ((l : Int) + 1 + (j : Int))) (ks := [5, 6]) (b := fun x ρ => (gNm 5 x ρ).bind (b_first_whole_1 (m_first_whole k))) (ρ0 := [.sh (tI (zs ms)), .sh (.int ((n : Int))), .sh (.int (((many + 1 : Nat) : Int))), .sh (tI (zs ms ++ [(n : Int)])), .sh (.int ((sumN (ms.length + 1) (many + 1) : Int))), .dead, .dead]) (fun j => l + 1 + j < n)
        (fun j z hj hz => by
          have q := key j hj
          have hz : fwB n many (ms ++ [l + 1 + j]) (addM mask ms (l + 1 + j)) (l + 1 + j) = some z := hz
          rw [hz] at q
          exact ⟨_, bind_gnm.trans q⟩) (fun j hj hz => by
          have q := key j hj
          have hz : fwB n many (ms ++ [l + 1 + j]) (addM mask ms (l + 1 + j)) (l + 1 + j) = none := hz
          rw [hz] at q
          exact ⟨_, .inl (bind_gnm.trans q), rfl⟩) (List.range (n - l - 1)) [.sh (tI (zs ms)), .sh (.int ((n : Int))), .sh (.int (((many + 1 : Nat) : Int))), .sh (tI (zs ms ++ [(n : Int)])), .sh (.int ((sumN (ms.length + 1) (many + 1) : Int))), .dead, .dead] (fun j hj => by have := List.mem_range.mp hj; omega) rfl
      have hi : iR2 (aCons (eBin dAddA (eBin dIx (eVar 0) (eUn dNeg (eC (.int 1)))) (eC (.int 1))) (aCons (eVar 1) (aNil))) [.sh (tI (zs ms)), .sh (.int ((n : Int))), .sh (.int (((many + 1 : Nat) : Int))), .sh (tI (zs ms ++ [(n : Int)])), .sh (.int ((sumN (ms.length + 1) (many + 1) : Int))), .dead, .dead] = some ((List.range (n - l - 1)).map (fun j : Nat => PyData.int ((l : Int) + 1 + (j : Int))), [.sh (tI (zs ms)), .sh (.int ((n : Int))), .sh (.int (((many + 1 : Nat) : Int))), .sh (tI (zs ms ++ [(n : Int)])), .sh (.int ((sumN (ms.length + 1) (many + 1) : Int))), .dead, .dead]) := by
        have en : ((n : Int) - ((l : Int) + 1)).toNat = n - l - 1 := by omega
        rw [← en]
        refine ev_r2 (m := (l : Int) + 1) (n := (n : Int)) ?_ (by omega) (by omega) (by omega) (by omega)
        generalize tI (zs ms ++ [(n : Int)]) = M2 at *
        generalize tI (zs ms) = M at *
        generalize ((many + 1 : Nat) : Int) = B at *
        generalize ((sumN (ms.length + 1) (many + 1) : Nat) : Int) = S at *
        generalize (n : Int) = N at *
        simp [el]
      clear key
      cases hf : (List.range (n - l - 1)).findSome? fun j => fwB n many (ms ++ [l + 1 + j]) (addM mask ms (l + 1 + j)) (l + 1 + j) with
      | none =>
        have q := for_hx (ll_first_whole_1 (m_first_whole k)) hi (A.2 hf)
        exact fn_ret (pre2 ((seq_nx q).trans rfl))
      | some z =>
        obtain ⟨ρ', e⟩ := A.1 z hf
        have q := for_hx (ll_first_whole_1 (m_first_whole k)) hi e
        exact fn_ret (pre2 (seq_rt q))


/-! ## the law's distances -/
theorem fold_is {α : Type} (f : α → List Int) : ∀ (l : List α) (acc : List D), l.foldl (fun a j => a ++ is (f j)) acc = acc ++ is (l.flatMap f)
  | [], acc => by simp [is]
  | x :: r, acc => by
    rw [List.foldl_cons, fold_is f r, List.flatMap_cons, is_app, List.append_assoc]
theorem ldb {ms : List Int} {j i : Nat} {acc : List D} (hj : j < ms.length) (hi : i < j) (ha : acc.length < 100000) :
    b__law_distances_1 [.sh (tI ms), .ol (acc), .sh (nI j), .sh (nI i)] = some (.nx [.sh (tI ms), .ol (acc ++ [.int (ms.getD j 0 - ms.getD i 0)]), .sh (nI j), .sh (nI i)]) := by
  have a1 := at_is (L := ms) (p := j) hj
  have a2 := at_is (L := ms) (p := i) (by omega)
  have hl : acc.length < sizeLine := by unfold sizeLine; omega
  unfold tI nI
  generalize is ms = T at *
  generalize (j : Int) = J at *
  generalize (i : Int) = I at *
  simp [b__law_distances_1, a1, a2, hl, lAppend]
theorem ldl {ms : List Int} {j : Nat} {acc : List D} (hj : j < ms.length) (ha : acc.length + j ≤ 100000) :
    l__law_distances_1 [.sh (tI ms), .ol (acc), .sh (nI j), .dead] = some (.nx [.sh (tI ms), .ol (acc ++ is (dJ ms j)), .sh (nI j), .dead]) := by
  have A := loop_acc nI (fun a : List D => [.sh (tI ms), .ol (a), .sh (nI j), .dead]) (fun _ => true) (fun i => PyData.int (ms.getD j 0 - ms.getD i 0)) (xs0 := (List.range j).map nI) (ks := [3]) (b := fun x ρ => (gNm 3 x ρ).bind b__law_distances_1) 100000 (fun i => i < j) (fun i a hi hl => ⟨_, .inl (bind_gnm.trans (ldb hj hi hl)), rfl⟩) (List.range j) acc [.sh (tI ms), .ol (acc), .sh (nI j), .dead] (fun i hi => List.mem_range.mp hi) (by rw [List.length_range]; exact ha) rfl
  have e : (List.range j).filter (fun _ => true) = List.range j := List.filter_eq_self.mpr fun _ _ => rfl
  rw [e] at A
  have e2 : is (dJ ms j) = (List.range j).map fun i => PyData.int (ms.getD j 0 - ms.getD i 0) := by
    unfold is dJ
    rw [List.map_map]; rfl
  rw [e2]
  exact for_hx ll__law_distances_1 (iR_nI (n := j) rfl (by have : j ≤ 100000 := by omega
                                                           omega)) A
theorem dJs_len (ms : List Int) : ∀ n : Nat, ((List.range n).flatMap (dJ ms)).length = n * (n - 1) / 2 := fun n => by
  rw [List.length_flatMap]
  have : (List.range n).map (fun j => (dJ ms j).length) = List.range n := by
    rw [List.map_congr_left (g := id) fun j _ => dJ_len ms j, List.map_id]
  rw [this, sumR]
theorem v_ldist {ms : List Int} (h : ms.length ≤ 40) : m__law_distances [.sh (tI ms)] = some (.sh (.list (is (dst ms))), []) := by
  have ec := cLen_I ms
  have A := loop_fold nI (fun a : List D => [.sh (tI ms), .ol (a), .dead, .dead]) (fun a j => a ++ is (dJ ms j)) (xs0 := (List.range ms.length).map nI) (ks := [2, 3]) (b := fun x ρ => (gNm 2 x ρ).bind b__law_distances_2) (fun a => True) (fun j => j < ms.length)
  have B : ∀ (r : List Nat) (acc : List D) (ρ : En), (∀ j ∈ r, j < ms.length) → acc.length + 40 * r.length ≤ 100000 → killL [2, 3] ρ = [.sh (tI ms), .ol (acc), .dead, .dead] →
      loopF none ((List.range ms.length).map nI) [2, 3] (fun x ρ => (gNm 2 x ρ).bind b__law_distances_2) (r.map nI) ρ = some (.nx [.sh (tI ms), .ol (r.foldl (fun a j => a ++ is (dJ ms j)) acc), .dead, .dead]) := by
    intro r
    induction r with
    | nil => intro acc ρ _ _ e; rw [List.map_nil, loop_nil rfl, e]; rfl
    | cons j r ih =>
      intro acc ρ hr hl e
      have hj := hr j List.mem_cons_self
      rw [List.length_cons] at hl
      rw [List.map_cons, loop_cons (ρ' := [.sh (tI ms), .ol (acc ++ is (dJ ms j)), .sh (nI j), .dead]) rfl (by rw [e]; exact bind_gnm.trans (ldl hj (by omega)))]
      exact ih _ _ (fun i hi => hr i (List.mem_cons_of_mem _ hi)) (by rw [List.length_append, is_len, dJ_len]; omega) rfl
  clear A
  have C := B (List.range ms.length) [] [.sh (tI ms), .ol ([]), .dead, .dead] (fun j hj => List.mem_range.mp hj) (by rw [List.length_range, List.length_nil]; omega) rfl
  rw [fold_is, List.nil_append] at C
  have hi : iR1 (aCons (eCB cLen (aCons (eVar 0) (aNil))) (aNil)) [.sh (tI ms), .ol ([]), .dead, .dead] = some ((List.range ms.length).map nI, [.sh (tI ms), .ol ([]), .dead, .dead]) := iR_nI (n := ms.length) (by
    generalize tI ms = T at *
    simp [ec]) (by omega)
  have D := for_hx ll__law_distances_2 hi C
  refine fn_ret (ρ' := [.sh (tI ms), .sh (.list (is (dst ms))), .dead, .dead]) ?_
  show s__law_distances [.sh (tI ms), .dead, .dead, .dead] = _
  unfold s__law_distances
  refine (seq_nx (ρ1 := [.sh (tI ms), .ol ([]), .dead, .dead]) (by simp)).trans ?_
  refine (seq_nx D).trans ?_
  rfl
theorem v_is_bare {ms : List Int} (h : ms.length ≤ 40) : m_is_bare [.sh (tI ms)] = some (.sh (.bool (((msr ms).length : Int) == ((dst ms).length : Int))), []) := by
  have e1 := v_distances h
  have hl := dst_le h
  have e2 : dLenSet (.list (is (isort (dst ms)))) = some (.int (msr ms).length) := by
    rw [dLenSet_L, isort_len, if_pos (by omega), sset_perm (isort_perm _)]; rfl
  have e3 : cLen [.list (is (isort (dst ms)))] = some (.int ((dst ms).length : Int)) := by
    show some (PyData.int ((is (isort (dst ms))).length : Int)) = _
    rw [is_len, isort_len]
  refine fn_ret (ρ' := [.sh (tI ms), .sh (.list (is (isort (dst ms))))]) ?_
  show s_is_bare [.sh (tI ms), .dead] = _
  generalize tI ms = T at *
  generalize is (isort (dst ms)) = I at *
  generalize ((msr ms).length : Int) = a at *
  generalize ((dst ms).length : Int) = b at *
  have e3 : (I.length : Int) = b := by
    have : some (PyData.int (I.length : Int)) = some (.int b) := e3
    injection this with this
    injection this
  simp [s_is_bare, e1, e2, e3]
/-- what a rule cannot measure -/
def mis (ms : List Int) : List Int := ((List.range (lst ms).toNat).map fun k : Nat => 1 + (k : Int)).filter fun d => !decide (d ∈ msr ms)
theorem v_missing {ms : List Int} (h : ms.length ≤ 40) (h1 : 1 ≤ ms.length) (h2 : 0 ≤ lst ms) (h3 : lst ms ≤ 1000) : m_missing [.sh (tI ms)] = some (.sh (tI (mis ms)), []) := by
  have e1 := v_measured h
  have e3 : dIx (tI ms) (.int (-1)) = some (.int (lst ms)) := last_I h1
  have hi : iR2 (aCons (eC (.int 1)) (aCons (eBin dAddA (eBin dIx (eVar 0) (eUn dNeg (eC (.int 1)))) (eC (.int 1))) (aNil))) [.sh (tI ms), .sh (tI (msr ms)), .dead] = some (((List.range (lst ms).toNat).map fun k : Nat => 1 + (k : Int)).map PyData.int, [.sh (tI ms), .sh (tI (msr ms)), .dead]) := by
    have en : (lst ms + 1 - 1).toNat = (lst ms).toNat := by omega
    have := ev_r2 (a := aCons (eC (.int 1)) (aCons (eBin dAddA (eBin dIx (eVar 0) (eUn dNeg (eC (.int 1)))) (eC (.int 1))) (aNil))) (ρ := [.sh (tI ms), .sh (tI (msr ms)), .dead]) (ρ1 := [.sh (tI ms), .sh (tI (msr ms)), .dead]) (m := 1) (n := lst ms + 1) (by
      generalize tI (msr ms) = M at *
      generalize lst ms = l at *
      generalize tI ms = T at *
      simp [e3]) (by omega) (by omega) (by omega) (by omega)
    rw [en] at this
    rw [List.map_map]
    exact this
  have ek : k_missing_1 [.sh (tI ms), .sh (tI (msr ms)), .dead] = some (.ol (is (mis ms)), [.sh (tI ms), .sh (tI (msr ms)), .dead]) := by
    rw [kk_missing_1]
    refine ev_comp PyData.int (fun d => !decide (d ∈ msr ms)) PyData.int ((List.range (lst ms).toNat).map fun k : Nat => 1 + (k : Int)) (ρ0 := [.sh (tI ms), .sh (tI (msr ms)), .dead]) hi rfl (by rw [List.length_map, List.length_range]; unfold sizeLine; omega) fun d _ => ?_
    refine ⟨[.sh (tI ms), .sh (tI (msr ms)), .sh (.int (d))], [.sh (tI ms), .sh (tI (msr ms)), .sh (.int (d))], rfl, ?_, fun _ => rfl, fun _ => ⟨_, rfl, rfl⟩⟩
    have eb := bNotIn_t d (msr ms)
    unfold tI
    generalize is ms = T at *
    generalize (!decide (d ∈ msr ms)) = w at *
    generalize PyData.tuple (is (msr ms)) = M at *
    generalize hb : bNotIn = g at *
    simp [eb]
  refine fn_ret (ρ' := [.sh (tI ms), .sh (tI (msr ms)), .dead]) ?_
  show s_missing [.sh (tI ms), .dead, .dead] = some (.rt (.sh (.tuple (is (mis ms)))) _)
  generalize is (mis ms) = X at *
  generalize tI (msr ms) = M at *
  generalize tI ms = T at *
  simp [s_missing, e1, ek]


/-! ## rules are right -/
theorem ixl {ms : List Int} (h : 1 ≤ ms.length) : dIx (tI ms) (.int ((ms.length : Int) - 1)) = some (.int (lst ms)) := by
  have e : ((ms.length : Int) - 1) = ((ms.length - 1 : Nat) : Int) := by omega
  rw [e]
  exact at_is (L := ms) (by omega)
theorem msr_len {ms : List Int} (h : ms.length ≤ 40) : (msr ms).length ≤ 800 := Nat.le_trans (sset_len _) (dst_le h)
theorem look_fold : ∀ (r : List Int) (U : List (Int × Bool)) (k : Int), ((r.foldl (fun U d => putI U d true) U).length ≤ U.length + r.length) ∧ ((lookI (r.foldl (fun U d => putI U d true) U) k).isSome = (decide (k ∈ r) || (lookI U k).isSome))
  | [], U, k => ⟨Nat.le_refl _, by simp⟩
  | d :: r, U, k => by
    obtain ⟨h1, h2⟩ := look_fold r (putI U d true) k
    have := putI_len U d true
    refine ⟨by rw [List.foldl_cons, List.length_cons]; omega, ?_⟩
    rw [List.foldl_cons, h2, lookI_put]
    by_cases e : k = d
    · subst e; simp
    · rw [if_neg e]
      have : decide (k ∈ d :: r) = decide (k ∈ r) := decide_eq_decide.mpr (by simp [e])
      rw [this]
theorem ik_len {α : Type} (enc : α → D) (l : List (Int × α)) : (ik enc l).length = l.length := List.length_map _
theorem rr_loop {u0 u1 u2 u3 : Cell} {xs0 : List D} : ∀ (r : List Int) (U : List (Int × Bool)) (ρ : En), U.length + r.length ≤ 100000 → killL [5] ρ = [u0, u1, u2, u3, .od false (ik .bool U), .dead, .dead] →
    loopF none xs0 [5] (fun x ρ => (gNm 5 x ρ).bind b__law_rule_right_1) (is r) ρ = some (.nx [u0, u1, u2, u3, .od false (ik .bool (r.foldl (fun U d => putI U d true) U)), .dead, .dead])
  | [], U, ρ, _, e => by show loopF none xs0 [5] _ [] ρ = _; rw [loop_nil rfl, e]; rfl
  | d :: r, U, ρ, hl, e => by
    rw [List.length_cons] at hl
    have hz : (ik .bool U).length < sizeLine := by rw [ik_len]; unfold sizeLine; omega
    have ep : putD (ik .bool U) (.int d) (.bool true) = ik .bool (putI U d true) := putD_ik _ _ _ _
    have := putI_len U d true
    rw [is_cons, loop_cons (ρ' := [u0, u1, u2, u3, .od false (ik .bool (putI U d true)), .sh (.int (d)), .dead]) rfl (by
      rw [e]
      refine bind_gnm.trans ?_
      show b__law_rule_right_1 [u0, u1, u2, u3, .od false (ik .bool U), .sh (.int (d)), .dead] = _
      generalize ik .bool (putI U d true) = D1 at *
      generalize ik .bool U = D0 at *
      simp [b__law_rule_right_1, ep, hz])]
    exact rr_loop r (putI U d true) _ (by omega) rfl
theorem v_rule {ms : List Int} (h : ms.length ≤ 40) (h1 : 1 ≤ ms.length) (h2 : 0 ≤ lst ms) : m__law_rule_right [.sh (tI ms)] = some (.sh (.bool true), []) := by
  have e1 := v_ldist h
  have hl := dst_le h
  have hm := msr_len h
  have e2 : cSrtSet (.list (is (dst ms))) = some (.ol (is (msr ms))) := by
    rw [cSrtSet_L, if_pos (by omega)]; rfl
  have e3 := ixl h1
  have e4 := v_measured h
  have e5 := v_is_bare h
  have e6 := v_is_whole h h1
  have s1 : m__law_same 12 [.sh (tI (msr ms)), .sh (tI (msr ms))] = some (.sh (.bool true), []) := same_o (o := msr ms) (by omega)
  have s2 := same_b (((msr ms).length : Int) == ((dst ms).length : Int))
  have s3 := same_b (((msr ms).length : Int) == lst ms)
  have c1 := cLen_I ms
  have t1 : cTuple [.list (is (msr ms))] = some (tI (msr ms)) := rfl
  have c2 : ((is (msr ms)).length : Int) = ((msr ms).length : Int) := by rw [is_len]
  have c3 : ((is (dst ms)).length : Int) = ((dst ms).length : Int) := by rw [is_len]
  have pre : ∀ {o : Out} {X : FS}, (sSeq (sIf (eTst (eBin (fun x y => (bGt x y).map .bool) (eVar 3) (eC (.int 1000)))) (sRet (eC (.bool true))) (sNx)) X) [.sh (tI ms), .sh (.list (is (dst ms))), .sh (.list (is (msr ms))), .sh (.int (lst ms)), .dead, .dead, .dead] = some o →
    (sSeq (sSet 1 (eRetD (eCall0 m__law_distances (aCons (eVar 0) (aNil)))))
    (sSeq (sSet 2 (eFrz (eSrtSet (eVar 1))))
    (sSeq (sSet 3 (eBin dIx (eVar 0) (eBin dSub (eCB cLen (aCons (eVar 0) (aNil))) (eC (.int 1)))))
    (sSeq (sIf (eOr (eNot (eTru (eRetD (eCall0 (m__law_same 12) (aCons (eRetD (eCall0 m_measured (aCons (eVar 0) (aNil)))) (aCons (eCB cTuple (aCons (eVar 2) (aNil))) (aNil))))))) (eNot (eTru (eRetD (eCall0 (m__law_same 12) (aCons (eRetD (eCall0 m_is_bare (aCons (eVar 0) (aNil)))) (aCons (eBin (fun x y => (bEq x y).map .bool) (eCB cLen (aCons (eVar 2) (aNil))) (eCB cLen (aCons (eVar 1) (aNil)))) (aNil)))))))) (sRet (eC (.bool false))) (sNx))
    (sSeq (sIf (eNot (eTru (eRetD (eCall0 (m__law_same 12) (aCons (eRetD (eCall0 m_is_whole (aCons (eVar 0) (aNil)))) (aCons (eBin (fun x y => (bEq x y).map .bool) (eCB cLen (aCons (eVar 2) (aNil))) (eVar 3)) (aNil))))))) (sRet (eC (.bool false))) (sNx))
    (sSeq (sIf (eTst (eBin (fun x y => (bGt x y).map .bool) (eVar 3) (eC (.int 1000)))) (sRet (eC (.bool true))) (sNx)) X)))))) [.sh (tI ms), .dead, .dead, .dead, .dead, .dead, .dead] = some o := fun {o X} g => by
    clear t1
    unfold isW at e6
    have t1 : PyData.tuple (is (msr ms)) = tI (msr ms) := rfl
    generalize tI ms = T at *
    generalize tI (msr ms) = M at *
    generalize is (dst ms) = I at *
    generalize is (msr ms) = J at *
    generalize ((msr ms).length : Int) = a at *
    generalize ((dst ms).length : Int) = b at *
    generalize (ms.length : Int) = c at *
    generalize lst ms = l at *
    refine (seq_nx (ρ1 := [.sh (T), .sh (.list (I)), .dead, .dead, .dead, .dead, .dead]) (by simp [e1])).trans ?_
    refine (seq_nx (ρ1 := [.sh (T), .sh (.list (I)), .sh (.list (J)), .dead, .dead, .dead, .dead]) (by simp [e2])).trans ?_
    refine (seq_nx (ρ1 := [.sh (T), .sh (.list (I)), .sh (.list (J)), .sh (.int (l)), .dead, .dead, .dead]) (by simp [e3, c1])).trans ?_
    refine (seq_nx (ρ1 := [.sh (T), .sh (.list (I)), .sh (.list (J)), .sh (.int (l)), .dead, .dead, .dead]) (by simp [e4, e5, t1, s1, s2, c2, c3])).trans ?_
    refine (seq_nx (ρ1 := [.sh (T), .sh (.list (I)), .sh (.list (J)), .sh (.int (l)), .dead, .dead, .dead]) (by simp [e6, s3, c2])).trans ?_
    exact g
  by_cases cl : lst ms > 1000
  · refine fn_ret (ρ' := [.sh (tI ms), .sh (.list (is (dst ms))), .sh (.list (is (msr ms))), .sh (.int (lst ms)), .dead, .dead, .dead]) (pre ?_)
    refine seq_rt ?_
    generalize tI ms = T at *
    generalize is (dst ms) = I at *
    generalize is (msr ms) = J at *
    generalize lst ms = l at *
    have cl : 1000 < l := by omega
    simp [cl]
  · have cl : lst ms ≤ 1000 := by omega
    have em := v_missing h h1 h2 cl
    obtain ⟨g1, g2⟩ := look_fold (msr ms) [] 0
    have g2 := fun k => (look_fold (msr ms) [] k).2
    have lp := rr_loop (u0 := .sh (tI ms)) (u1 := .sh (.list (is (dst ms)))) (u2 := .sh (.list (is (msr ms)))) (u3 := .sh (.int (lst ms))) (xs0 := is (msr ms)) (msr ms) [] [.sh (tI ms), .sh (.list (is (dst ms))), .sh (.list (is (msr ms))), .sh (.int (lst ms)), .od false (ik .bool []), .dead, .dead] (by simp; omega) rfl
    have lp := for_hx ll__law_rule_right_1 (ρ := [.sh (tI ms), .sh (.list (is (dst ms))), .sh (.list (is (msr ms))), .sh (.int (lst ms)), .od false (ik .bool []), .dead, .dead]) rfl lp
    generalize (msr ms).foldl (fun U d => putI U d true) [] = U at *
    have hi : iR2 (aCons (eC (.int 1)) (aCons (eBin dAddA (eVar 3) (eC (.int 1))) (aNil))) [.sh (tI ms), .sh (.list (is (dst ms))), .sh (.list (is (msr ms))), .sh (.int (lst ms)), .od false (ik .bool U), .dead, .dead] = some (((List.range (lst ms).toNat).map fun k : Nat => 1 + (k : Int)).map PyData.int, [.sh (tI ms), .sh (.list (is (dst ms))), .sh (.list (is (msr ms))), .sh (.int (lst ms)), .od false (ik .bool U), .dead, .dead]) := by
      have en : (lst ms + 1 - 1).toNat = (lst ms).toNat := by omega
      have := ev_r2 (a := aCons (eC (.int 1)) (aCons (eBin dAddA (eVar 3) (eC (.int 1))) (aNil))) (ρ := [.sh (tI ms), .sh (.list (is (dst ms))), .sh (.list (is (msr ms))), .sh (.int (lst ms)), .od false (ik .bool U), .dead, .dead]) (ρ1 := [.sh (tI ms), .sh (.list (is (dst ms))), .sh (.list (is (msr ms))), .sh (.int (lst ms)), .od false (ik .bool U), .dead, .dead]) (m := 1) (n := lst ms + 1) (by
        generalize is (msr ms) = M at *
        generalize is (dst ms) = I at *
        generalize ik .bool U = K at *
        generalize lst ms = l at *
        generalize tI ms = T at *
        simp) (by omega) (by omega) (by omega) (by omega)
      rw [en] at this
      rw [List.map_map]
      exact this
    have ek : k__law_rule_right_1 [.sh (tI ms), .sh (.list (is (dst ms))), .sh (.list (is (msr ms))), .sh (.int (lst ms)), .od false (ik .bool U), .dead, .dead] = some (.ol (is (mis ms)), [.sh (tI ms), .sh (.list (is (dst ms))), .sh (.list (is (msr ms))), .sh (.int (lst ms)), .od false (ik .bool U), .dead, .dead]) := by
      rw [kk__law_rule_right_1]
      refine ev_comp PyData.int (fun d => !decide (d ∈ msr ms)) PyData.int ((List.range (lst ms).toNat).map fun k : Nat => 1 + (k : Int)) (ρ0 := [.sh (tI ms), .sh (.list (is (dst ms))), .sh (.list (is (msr ms))), .sh (.int (lst ms)), .od false (ik .bool U), .dead, .dead]) hi rfl (by rw [List.length_map, List.length_range]; unfold sizeLine; omega) fun d _ => ?_
      refine ⟨[.sh (tI ms), .sh (.list (is (dst ms))), .sh (.list (is (msr ms))), .sh (.int (lst ms)), .od false (ik .bool U), .dead, .sh (.int (d))], [.sh (tI ms), .sh (.list (is (dst ms))), .sh (.list (is (msr ms))), .sh (.int (lst ms)), .od false (ik .bool U), .dead, .sh (.int (d))], rfl, ?_, fun _ => rfl, fun _ => ⟨_, rfl, rfl⟩⟩
      have eb : (lookD (ik .bool U) (.int d)).isSome = decide (d ∈ msr ms) := by
        rw [lookD_ik, Option.isSome_map, g2 d]
        show (decide (d ∈ msr ms) || false) = _
        rw [Bool.or_false]
      have eb : (lookD (ik .bool U) (.int d)).isNone = !decide (d ∈ msr ms) := by rw [← eb, Option.not_isSome]
      generalize decide (d ∈ msr ms) = w at *
      generalize is (msr ms) = M at *
      generalize is (dst ms) = I at *
      generalize ik .bool U = K at *
      generalize lst ms = l at *
      generalize tI ms = T at *
      simp [eb]
    have sm : (mis ms).length ≤ 1000 := by
      unfold mis
      refine Nat.le_trans (List.length_filter_le _ _) ?_
      rw [List.length_map, List.length_range]; omega
    have s4 : m__law_same 12 [.sh (.tuple (is (mis ms))), .sh (.tuple (is (mis ms)))] = some (.sh (.bool true), []) := same_o sm
    have em : m_missing [.sh (tI ms)] = some (.sh (.tuple (is (mis ms))), []) := em
    refine fn_ret (ρ' := [.sh (tI ms), .sh (.list (is (dst ms))), .sh (.list (is (msr ms))), .sh (.int (lst ms)), .od false (ik .bool U), .dead, .dead]) (pre ?_)
    refine (seq_nx (ρ1 := [.sh (tI ms), .sh (.list (is (dst ms))), .sh (.list (is (msr ms))), .sh (.int (lst ms)), .dead, .dead, .dead]) ?_).trans ?_
    · generalize tI ms = T at *
      generalize is (dst ms) = I at *
      generalize is (msr ms) = J at *
      generalize lst ms = l at *
      have cl : ¬ 1000 < l := by omega
      simp [cl]
    refine (seq_nx (ρ1 := [.sh (tI ms), .sh (.list (is (dst ms))), .sh (.list (is (msr ms))), .sh (.int (lst ms)), .od false (ik .bool []), .dead, .dead]) ?_).trans ?_
    · rfl
    refine (seq_nx lp).trans ?_
    clear pre lp hi
    generalize is (mis ms) = X at *
    generalize tI ms = T at *
    generalize is (dst ms) = I at *
    generalize is (msr ms) = J at *
    generalize ik .bool U = K at *
    generalize lst ms = l at *
    simp [em, ek, s4]


/-! ## the least whole rules: plain -/
def lwB (n : Nat) : Nat → Nat → Option (List Nat)
  | 0, many => fwB n many [0] 0 0
  | f + 1, many => match fwB n many [0] 0 0 with
    | some x => some x
    | none => lwB n f (many + 1)
def few : List Nat := [0, 2, 3, 3, 4, 4, 4, 5, 5, 5, 6, 6, 6, 6, 7, 7, 7, 7, 8, 8, 8]
def ascB (n : Nat) : Nat → List Nat → Bool
  | _, [] => true
  | l, x :: r => decide (l < x) && (decide (x ≤ n) && ascB n x r)
def mkG : List Nat → Nat → List Nat → Nat
  | _, mask, [] => mask
  | d, mask, x :: r => mkG (d ++ [x]) (addM mask d x) r
theorem ascB_cons {n l x : Nat} {r : List Nat} : ascB n l (x :: r) = true ↔ l < x ∧ x ≤ n ∧ ascB n x r = true := by
  show (decide (l < x) && (decide (x ≤ n) && ascB n x r)) = true ↔ _
  rw [Bool.and_eq_true, Bool.and_eq_true, decide_eq_true_eq, decide_eq_true_eq]
theorem mkG_rl {n : Nat} : ∀ (r d : List Nat) (mask l : Nat), Rl n d mask l → ascB n l r = true → ∃ l', Rl n (d ++ r) (mkG d mask r) l'
  | [], d, mask, l, R, _ => ⟨l, by rw [List.append_nil]; exact R⟩
  | x :: r, d, mask, l, R, h => by
    obtain ⟨h1, h2, h3⟩ := ascB_cons.mp h
    obtain ⟨l', q⟩ := mkG_rl r (d ++ [x]) (addM mask d x) x (R.app (by omega) h2) h3
    exact ⟨l', by rw [List.append_assoc] at q; exact q⟩
theorem ascB_pw {n : Nat} : ∀ (r : List Nat) (l : Nat), ascB n l r = true → (l :: r).Pairwise (· < ·)
  | [], l, _ => List.pairwise_singleton _ _
  | x :: r, l, h => by
    obtain ⟨h1, h2, h3⟩ := ascB_cons.mp h
    have ih := ascB_pw r x h3
    refine List.pairwise_cons.mpr ⟨fun y hy => ?_, ih⟩
    rcases List.mem_cons.mp hy with rfl | hy
    · exact h1
    · exact Nat.lt_trans h1 (List.rel_of_pairwise_cons ih hy)
def chkR (n : Nat) : List Nat → Bool
  | [] => false
  | x :: r => decide (x = 0) && ascB n 0 r
def mkR : List Nat → Nat
  | [] => 0
  | _ :: r => mkG [0] 0 r
theorem chkR_rl {n : Nat} {z : List Nat} (h : chkR n z = true) : (∃ l, Rl n z (mkR z) l) ∧ z.Pairwise (· < ·) ∧ z.getD 0 0 = 0 := by
  cases z with
  | nil => cases h
  | cons x r =>
    have h : (decide (x = 0) && ascB n 0 r) = true := h
    rw [Bool.and_eq_true, decide_eq_true_eq] at h
    obtain ⟨rfl, h⟩ := h
    exact ⟨mkG_rl r [0] 0 0 (Rl.zero n) h, ascB_pw r 0 h, rfl⟩
def nxR (n k : Nat) (row : List Nat) : List (List Nat) := (List.range (n - (row.getD k 0 + 1))).map fun j => row ++ [row.getD k 0 + 1 + j]
def rowsP (n : Nat) : Nat → List (List Nat)
  | 0 => [[0]]
  | k + 1 => (rowsP n k).flatMap (nxR n k)
def goodZ (n : Nat) (z : List Nat) : Bool := chkR n z && (decide (z.length = few.getD n 0) && (decide (2 ≤ few.getD n 0 ∧ few.getD n 0 ≤ 8) && (decide (z.getD (few.getD n 0 - 1) 0 = n) && decide (cnt (mkR z) (n + 1) = n))))
def goodR (n : Nat) (z : List Nat) : Bool := decide (10 < n) || (decide (few.getD n 0 ≤ 6) && ((rowsP n (few.getD n 0 - 2)).all (fun row => chkR n (row ++ [n]))
  && decide (((rowsP n (few.getD n 0 - 2)).find? fun row => decide (cnt (mkR (row ++ [n])) (n + 1) = n)).map (fun row => row ++ [n]) = some z)))
theorem allF : ((List.range 21).all fun n => n == 0 || (match lwB n 6 0 with | some z => goodZ n z && goodR n z | none => false)) = true := by decide +kernel
theorem allF_at {n : Nat} (h1 : 1 ≤ n) (h2 : n ≤ 20) : ∃ z, lwB n 6 0 = some z ∧ goodZ n z = true ∧ goodR n z = true := by
  have := List.all_eq_true.mp allF n (List.mem_range.mpr (by omega))
  rw [Bool.or_eq_true] at this
  rcases this with h | h
  · have : n = 0 := by simpa using h
    omega
  · cases hz : lwB n 6 0 with
    | none => rw [hz] at h; cases h
    | some z => rw [hz] at h; exact ⟨z, rfl, Bool.and_eq_true _ _ |>.mp h⟩


/-! ## the least whole rules: the walk -/
theorem lw_b {N M : Int} {O O2 : D} {F : FnS} (e : F [.sh (.tuple [.int 0]), .sh (.int N), .sh (.int (M + 1))] = some (.sh O, [])) :
    (sSeq (sAug 1 dIadd (eC (.int 1)))
  (sSet 2 (eRetD (eCall0 F (aCons (eTup (aCons (eC (.int 0)) (aNil))) (aCons (eVar 0) (aCons (eVar 1) (aNil)))))))) [.sh (.int (N)), .sh (.int (M)), .sh (O2)] = some (.nx [.sh (.int (N)), .sh (.int (M + 1)), .sh (O)]) := by
  have z1 : 1 ≤ sizeLine := by decide
  refine (seq_nx (ρ1 := [.sh (.int (N)), .sh (.int (M + 1)), .sh (O2)]) (by simp)).trans ?_
  simp [e, z1]
theorem lw_loop {n : Nat} (hn : n ≤ 1000) (h1 : 1 ≤ n) {z : List Nat} : ∀ (f m : Nat), m + f ≤ 8 → lwB n f m = some z →
    ∃ m' : Nat, sWhile [] (eTst (eBin (fun x y => (bIsN x y).map .bool) (eVar 2) (eC .none))) b_least_whole_1 [.sh (.int ((n : Int))), .sh (.int ((m : Int))), .sh (oZ (fwB n m [0] 0 0))] = some (.nx [.sh (.int ((n : Int))), .sh (.int ((m' : Int))), .sh (tI (zs z))]) := by
  have fin : ∀ m : Nat, sWhile [] (eTst (eBin (fun x y => (bIsN x y).map .bool) (eVar 2) (eC .none))) b_least_whole_1 [.sh (.int ((n : Int))), .sh (.int ((m : Int))), .sh (tI (zs z))] = some (.nx [.sh (.int ((n : Int))), .sh (.int ((m : Int))), .sh (tI (zs z))]) := fun m => by
    have hz : isNone (tI (zs z)) = false := rfl
    refine sWhile_done (p := (false, [.sh (.int ((n : Int))), .sh (.int ((m : Int))), .sh (tI (zs z))])) ?_ rfl
    generalize tI (zs z) = Z at *
    simp [hz]
  intro f
  induction f with
  | zero =>
    intro m _ h
    have h : fwB n m [0] 0 0 = some z := h
    rw [h]
    exact ⟨m, fin m⟩
  | succ f ih =>
    intro m hm h
    have h : (match fwB n m [0] 0 0 with | some x => some x | none => lwB n f (m + 1)) = some z := h
    cases hf : fwB n m [0] 0 0 with
    | some x =>
      rw [hf] at h
      have h : some x = some z := h
      cases h
      exact ⟨m, fin m⟩
    | none =>
      rw [hf] at h
      have h : lwB n f (m + 1) = some z := h
      obtain ⟨m', q⟩ := ih (m + 1) (by omega) h
      refine ⟨m', while_step (p := (true, [.sh (.int ((n : Int))), .sh (.int ((m : Int))), .sh (.none)])) ?_ rfl ?_ q⟩
      · simp [oZ]
      · have e := v_fw hn (m + 1) 12 [0] 0 0 (by omega) (by simp; omega) (by omega) (Rl.zero n)
        have ec : ((m + 1 : Nat) : Int) = (m : Int) + 1 := by push_cast; rfl
        have e0 : tI (zs [0]) = .tuple [.int 0] := rfl
        rw [ec, e0] at e
        rw [ec]
        have z1 : 1 ≤ sizeLine := by decide
        generalize oZ (fwB n (m + 1) [0] 0 0) = O at *
        generalize (n : Int) = N at *
        generalize (m : Int) = M at *
        exact lw_b e
theorem v_least_whole {n : Nat} (hn : n ≤ 1000) (h1 : 1 ≤ n) {z : List Nat} (h : lwB n 6 0 = some z) : m_least_whole [.sh (.int (n : Int))] = some (.sh (tI (zs z)), []) := by
  obtain ⟨m', q⟩ := lw_loop hn h1 6 0 (by omega) h
  have e := v_fw hn 0 12 [0] 0 0 (by omega) (by simp) (by omega) (Rl.zero n)
  have e0 : tI (zs [0]) = .tuple [.int 0] := rfl
  have e00 : ((0 : Nat) : Int) = 0 := rfl
  rw [e0, e00] at e
  rw [e00] at q
  have q : l_least_whole_1 [.sh (.int ((n : Int))), .sh (.int (0)), .sh (oZ (fwB n 0 [0] 0 0))] = some (.nx [.sh (.int ((n : Int))), .sh (.int ((m' : Int))), .sh (tI (zs z))]) := by
    rw [ll_least_whole_1]; exact q
  have z1 : 1 ≤ sizeLine := by decide
  refine fn_ret (ρ' := [.sh (.int ((n : Int))), .sh (.int ((m' : Int))), .sh (tI (zs z))]) ?_
  show s_least_whole [.sh (.int ((n : Int))), .dead, .dead] = _
  generalize oZ (fwB n 0 [0] 0 0) = O at *
  generalize tI (zs z) = Z at *
  generalize (n : Int) = N at *
  generalize (m' : Int) = M at *
  unfold s_least_whole
  refine (seq_nx (ρ1 := [.sh (.int (N)), .sh (.int (0)), .dead]) rfl).trans ?_
  refine (seq_nx (ρ1 := [.sh (.int (N)), .sh (.int (0)), .sh (O)]) ?_).trans ?_
  · clear q
    generalize m_first_whole 12 = F at *
    simp [e, z1]
  refine (seq_nx q).trans rfl
theorem v_fewest {n : Nat} (hn : n ≤ 1000) (h1 : 1 ≤ n) {z : List Nat} (h : lwB n 6 0 = some z) : m_fewest_marks [.sh (.int (n : Int))] = some (.sh (.int (z.length : Int)), []) := by
  have e := v_least_whole hn h1 h
  have e2 := cLen_I (zs z)
  rw [zs_len] at e2
  refine fn_ret (ρ' := [.sh (.int ((n : Int)))]) ?_
  show s_fewest_marks [.sh (.int ((n : Int)))] = _
  generalize tI (zs z) = Z at *
  generalize (n : Int) = N at *
  simp [s_fewest_marks, e, e2]
/-! ### the law's own way -/
theorem zs_get {ms : List Nat} {k : Nat} : (zs ms).getD k 0 = (ms.getD k 0 : Nat) := by
  unfold zs
  rw [List.getD_eq_getElem?_getD, List.getElem?_map, List.getD_eq_getElem?_getD]
  cases ms[k]? <;> rfl
theorem getDn_end {L : List Nat} {m : Nat} : (L ++ [m]).getD L.length 0 = m := by
  rw [List.getD_eq_getElem?_getD, List.getElem?_append_right (Nat.le_refl _), Nat.sub_self]; rfl
theorem rowsP_len {n : Nat} : ∀ (k : Nat) (row : List Nat), row ∈ rowsP n k → row.length = k + 1 ∧ row.getD k 0 ≤ n
  | 0, row, h => by rw [List.mem_singleton.mp h]; exact ⟨rfl, Nat.zero_le _⟩
  | k + 1, row, h => by
    obtain ⟨r, h1, h2⟩ := List.mem_flatMap.mp h
    obtain ⟨j, hj, rfl⟩ := List.mem_map.mp h2
    have hj := List.mem_range.mp hj
    have ih := (rowsP_len k r h1).1
    refine ⟨by rw [List.length_append, ih]; rfl, ?_⟩
    rw [← ih, getDn_end]
    omega
theorem nxR_len (n k : Nat) (row : List Nat) : (nxR n k row).length ≤ n := by
  unfold nxR
  rw [List.length_map, List.length_range]; omega
theorem fm_len {n k : Nat} : ∀ l : List (List Nat), (l.flatMap (nxR n k)).length ≤ l.length * n
  | [] => by simp
  | x :: r => by
    rw [List.flatMap_cons, List.length_append, List.length_cons, Nat.add_mul]
    have := nxR_len n k x
    have := fm_len (n := n) (k := k) r
    omega
theorem rowsP_cnt {n : Nat} (hn : n ≤ 10) : ∀ k : Nat, (rowsP n k).length ≤ 10 ^ k
  | 0 => Nat.le_refl _
  | k + 1 => by
    have h1 := fm_len (n := n) (k := k) (rowsP n k)
    have h2 := rowsP_cnt hn k
    have h3 : (rowsP n k).length * n ≤ 10 ^ k * 10 := Nat.mul_le_mul h2 hn
    rw [Nat.pow_succ]
    exact Nat.le_trans h1 h3
def rD (l : List (List Nat)) : List D := l.map fun r => tI (zs r)
theorem rD_app (a b : List (List Nat)) : rD (a ++ b) = rD a ++ rD b := List.map_append
theorem rD_len (a : List (List Nat)) : (rD a).length = a.length := List.length_map _
theorem lw_in {n k : Nat} {u1 u2 : Cell} (hn : n ≤ 10) (hk : k ≤ 20) : ∀ (r : List (List Nat)) (acc : List (List Nat)) (ρ : En) (xs0 : List D), (∀ x ∈ r, x.length = k + 1 ∧ x.getD k 0 ≤ n) → acc.length + 10 * r.length ≤ 200000 →
    killL [5] ρ = [.sh (.int ((n : Int))), u1, u2, .sh (.int ((k : Int))), .sh (.list (rD acc)), .dead, .dead] →
    loopF none xs0 [5] (fun x ρ => (gNm 5 x ρ).bind b__law_least_whole_1) (rD r) ρ = some (.nx [.sh (.int ((n : Int))), u1, u2, .sh (.int ((k : Int))), .sh (.list (rD (acc ++ r.flatMap (nxR n k)))), .dead, .dead])
  | [], acc, ρ, xs0, _, _, e => by show loopF none xs0 [5] _ [] ρ = _; rw [loop_nil rfl, e, List.flatMap_nil, List.append_nil]
  | row :: r, acc, ρ, xs0, hr, hl, e => by
    obtain ⟨hz, hs⟩ := hr row List.mem_cons_self
    rw [List.length_cons] at hl
    have en := nxR_len n k row
    have ea : dAddA (.list (rD acc)) (.list (rD (nxR n k row))) = some (.list (rD (acc ++ nxR n k row))) := by
      show (if (rD acc).length + (rD (nxR n k row)).length ≤ sizeLine then some (PyData.list (rD acc ++ rD (nxR n k row))) else none) = _
      rw [if_pos (by rw [rD_len, rD_len]; unfold sizeLine; omega), rD_app]
    have er : dIx (tI (zs row)) (.int (k : Int)) = some (.int (row.getD k 0 : Nat)) := by
      rw [← zs_get]
      exact at_is (L := zs row) (by rw [zs_len]; omega)
    have ek : k__law_least_whole_1 [.sh (.int ((n : Int))), u1, u2, .sh (.int ((k : Int))), .sh (.list (rD acc)), .sh (tI (zs row)), .dead] = some (.ol (rD (nxR n k row)), [.sh (.int ((n : Int))), u1, u2, .sh (.int ((k : Int))), .sh (.list (rD acc)), .sh (tI (zs row)), .dead]) := by
      have ei : rD (nxR n k row) = (List.range (n - (row.getD k 0 + 1))).map fun j => tI (zs (row ++ [row.getD k 0 + 1 + j])) := by
        unfold rD nxR; rw [List.map_map]; rfl
      rw [kk__law_least_whole_1, ei]
      refine ev_compA (fun j : Nat => PyData.int ((row.getD k 0 : Int) + 1 + (j : Int))) (fun j => tI (zs (row ++ [row.getD k 0 + 1 + j]))) (List.range (n - (row.getD k 0 + 1))) (ρi := [.sh (.int ((n : Int))), u1, u2, .sh (.int ((k : Int))), .sh (.list (rD acc)), .sh (tI (zs row)), .dead]) (ρ0 := [.sh (.int ((n : Int))), u1, u2, .sh (.int ((k : Int))), .sh (.list (rD acc)), .sh (tI (zs row)), .dead]) ?_ rfl (by rw [List.length_range]; unfold sizeLine; omega) fun j hj => ?_
      · have e2 : ((n : Int) - ((row.getD k 0 : Int) + 1)).toNat = n - (row.getD k 0 + 1) := by omega
        rw [← e2]
        refine ev_r2 (m := (row.getD k 0 : Int) + 1) (n := (n : Int)) ?_ (by omega) (by omega) (by omega) (by omega)
        generalize rD acc = R at *
        generalize tI (zs row) = T at *
        generalize ((row.getD k 0 : Nat) : Int) = G at *
        generalize (n : Int) = N at *
        generalize (k : Int) = K at *
        simp [er]
      · refine ⟨[.sh (.int ((n : Int))), u1, u2, .sh (.int ((k : Int))), .sh (.list (rD acc)), .sh (tI (zs row)), .sh (.int (((row.getD k 0 : Int) + 1 + (j : Int))))], [.sh (.int ((n : Int))), u1, u2, .sh (.int ((k : Int))), .sh (.list (rD acc)), .sh (tI (zs row)), .sh (.int (((row.getD k 0 : Int) + 1 + (j : Int))))], rfl, ?_, rfl⟩
        have ej : ((row.getD k 0 + 1 + j : Nat) : Int) = (row.getD k 0 : Int) + 1 + (j : Int) := by push_cast; rfl
        have ea : dAddA (tI (zs row)) (.tuple [.int ((row.getD k 0 : Int) + 1 + (j : Int))]) = some (tI (zs (row ++ [row.getD k 0 + 1 + j]))) := by
          rw [zs_app, ej]
          exact add_is (a := zs row) (b := [(row.getD k 0 : Int) + 1 + (j : Int)]) (by rw [zs_len]; simp; omega)
        have z1 : 1 ≤ sizeLine := by decide
        generalize tI (zs (row ++ [row.getD k 0 + 1 + j])) = T2 at *
        generalize rD acc = R at *
        generalize tI (zs row) = T at *
        generalize ((row.getD k 0 : Nat) : Int) + 1 + (j : Int) = G at *
        generalize (n : Int) = N at *
        generalize (k : Int) = K at *
        generalize dAddA = f at *
        simp [ea, z1]
    show loopF none xs0 [5] _ (tI (zs row) :: rD r) ρ = _
    rw [loop_cons (ρ' := [.sh (.int ((n : Int))), u1, u2, .sh (.int ((k : Int))), .sh (.list (rD (acc ++ nxR n k row))), .sh (tI (zs row)), .dead]) rfl (by
      rw [e]
      refine bind_gnm.trans ?_
      show b__law_least_whole_1 [.sh (.int ((n : Int))), u1, u2, .sh (.int ((k : Int))), .sh (.list (rD acc)), .sh (tI (zs row)), .dead] = _
      unfold b__law_least_whole_1
      generalize rD (acc ++ nxR n k row) = R2 at *
      generalize rD (nxR n k row) = R3 at *
      generalize rD acc = R at *
      generalize tI (zs row) = T at *
      generalize (n : Int) = N at *
      generalize (k : Int) = K at *
      generalize dAddA = f at *
      simp [ea, ek])]
    have ih := lw_in hn hk r (acc ++ nxR n k row) [.sh (.int ((n : Int))), u1, u2, .sh (.int ((k : Int))), .sh (.list (rD (acc ++ nxR n k row))), .sh (tI (zs row)), .dead] xs0 (fun x hx => hr x (List.mem_cons_of_mem _ hx)) (by rw [List.length_append]; omega) rfl
    rw [ih, List.flatMap_cons, List.append_assoc]
theorem lw_out {n : Nat} {u1 : Cell} {xs0 : List D} (hn : n ≤ 10) : ∀ (m k : Nat) (ρ : En), k + m ≤ 4 → killL [3, 4, 5] ρ = [.sh (.int ((n : Int))), u1, .sh (.list (rD (rowsP n k))), .dead, .dead, .dead, .dead] →
    loopF none xs0 [3, 4, 5] (fun x ρ => (gNm 3 x ρ).bind b__law_least_whole_2) ((List.range' k m).map nI) ρ = some (.nx [.sh (.int ((n : Int))), u1, .sh (.list (rD (rowsP n (k + m)))), .dead, .dead, .dead, .dead])
  | 0, k, ρ, _, e => by rw [List.range'_zero, List.map_nil, loop_nil rfl, e]; rfl
  | m + 1, k, ρ, hk, e => by
    have hc := rowsP_cnt hn k
    have h10 : 10 ^ k ≤ 10 ^ 4 := Nat.pow_le_pow_right (by decide) (by omega)
    have inner := lw_in (u1 := u1) (u2 := .sh (.list (rD (rowsP n k)))) hn (k := k) (by omega) (rowsP n k) [] [.sh (.int ((n : Int))), u1, .sh (.list (rD (rowsP n k))), .sh (.int ((k : Int))), .sh (.list (rD [])), .dead, .dead] (rD (rowsP n k)) (fun x hx => rowsP_len k x hx) (by
      have : (10 : Nat) ^ 4 = 10000 := rfl
      simp only [List.length_nil]; omega) rfl
    rw [List.nil_append] at inner
    have inner : loopF none (rD (rowsP n k)) [5] (fun x ρ => (gNm 5 x ρ).bind b__law_least_whole_1) (rD (rowsP n k)) [.sh (.int ((n : Int))), u1, .sh (.list (rD (rowsP n k))), .sh (.int ((k : Int))), .sh (.list (rD [])), .dead, .dead] = some (.nx [.sh (.int ((n : Int))), u1, .sh (.list (rD (rowsP n k))), .sh (.int ((k : Int))), .sh (.list (rD (rowsP n (k + 1)))), .dead, .dead]) := inner
    have inner := for_hx ll__law_least_whole_1 (ρ := [.sh (.int ((n : Int))), u1, .sh (.list (rD (rowsP n k))), .sh (.int ((k : Int))), .sh (.list (rD [])), .dead, .dead]) rfl inner
    rw [List.range'_succ, List.map_cons, loop_cons (ρ' := [.sh (.int ((n : Int))), u1, .sh (.list (rD (rowsP n (k + 1)))), .sh (.int ((k : Int))), .sh (.list (rD (rowsP n (k + 1)))), .dead, .dead]) rfl (by
      rw [e]
      refine bind_gnm.trans ?_
      show b__law_least_whole_2 [.sh (.int ((n : Int))), u1, .sh (.list (rD (rowsP n k))), .sh (.int ((k : Int))), .dead, .dead, .dead] = _
      unfold b__law_least_whole_2
      refine (seq_nx (ρ1 := [.sh (.int ((n : Int))), u1, .sh (.list (rD (rowsP n k))), .sh (.int ((k : Int))), .sh (.list (rD [])), .dead, .dead]) rfl).trans ?_
      exact (seq_nx inner).trans rfl)]
    have := lw_out (u1 := u1) (xs0 := xs0) hn m (k + 1) [.sh (.int ((n : Int))), u1, .sh (.list (rD (rowsP n (k + 1)))), .sh (.int ((k : Int))), .sh (.list (rD (rowsP n (k + 1)))), .dead, .dead] (by omega) rfl
    rw [this]
    have e2 : k + 1 + m = k + (m + 1) := by omega
    rw [e2]
theorem v_llw {n many : Nat} {z : List Nat} (hn : n ≤ 10) (hm : many ≤ 4) (hall : (rowsP n many).all (fun row => chkR n (row ++ [n])) = true)
    (hf : ((rowsP n many).find? fun row => decide (cnt (mkR (row ++ [n])) (n + 1) = n)).map (fun row => row ++ [n]) = some z) :
    m__law_least_whole [.sh (.int (n : Int)), .sh (.int (many : Int))] = some (.sh (tI (zs z)), []) := by
  have A := lw_out (u1 := .sh (.int (many : Int))) (xs0 := (List.range many).map nI) hn many 0 [.sh (.int ((n : Int))), .sh (.int ((many : Int))), .sh (.list (rD [[0]])), .dead, .dead, .dead, .dead] (by omega) rfl
  rw [← List.range_eq_range', Nat.zero_add] at A
  have A := for_hx ll__law_least_whole_2 (ρ := [.sh (.int ((n : Int))), .sh (.int ((many : Int))), .sh (.list (rD [[0]])), .dead, .dead, .dead, .dead]) (iR_nI (n := many) rfl (by omega)) A
  have app : ∀ row : List Nat, row.length ≤ 30 → dAddA (tI (zs row)) (.tuple [.int (n : Int)]) = some (tI (zs (row ++ [n]))) := fun row h => by
    rw [zs_app]
    exact add_is (a := zs row) (b := [(n : Int)]) (by rw [zs_len]; simp; omega)
  have z1 : 1 ≤ sizeLine := by decide
  have key : ∀ row : List Nat, (row.length ≤ 20 ∧ chkR n (row ++ [n]) = true) → b__law_least_whole_3 [.sh (.int ((n : Int))), .sh (.int ((many : Int))), .sh (.list (rD (rowsP n many))), .dead, .dead, .sh (tI (zs row)), .dead] =
      if decide (cnt (mkR (row ++ [n])) (n + 1) = n) = true then some (.rt (.sh (tI (zs (row ++ [n])))) [.sh (.int ((n : Int))), .sh (.int ((many : Int))), .sh (.list (rD (rowsP n many))), .dead, .dead, .sh (tI (zs row)), .dead]) else some (.nx [.sh (.int ((n : Int))), .sh (.int ((many : Int))), .sh (.list (rD (rowsP n many))), .dead, .dead, .sh (tI (zs row)), .dead]) := fun row hr => by
    obtain ⟨⟨l, R⟩, _, _⟩ := chkR_rl hr.2
    have hL : (zs (row ++ [n])).length ≤ 40 := by rw [zs_len, List.length_append, List.length_singleton]; omega
    have e1 := v_ldist hL
    have e2 : dLenSet (.list (is (dst (zs (row ++ [n]))))) = some (.int (cnt (mkR (row ++ [n])) (n + 1) : Nat)) := by
      rw [dLenSet_L, if_pos (by have := dst_le hL; omega), ← R.cnt]; rfl
    have e3 := app row (by omega)
    have e4 := bEq_nat (cnt (mkR (row ++ [n])) (n + 1)) n
    unfold b__law_least_whole_3
    generalize decide (cnt (mkR (row ++ [n])) (n + 1) = n) = w at *
    generalize ((cnt (mkR (row ++ [n])) (n + 1) : Nat) : Int) = C at *
    generalize (dst (zs (row ++ [n]))) = DD at *
    clear app hf hall A R
    generalize tI (zs (row ++ [n])) = T2 at *
    generalize tI (zs row) = T at *
    generalize rD (rowsP n many) = R at *
    generalize (n : Int) = N at *
    generalize is DD = I at *
    have e4 : (C = N) = (w = true) := by
      rw [← e4]; simp
    generalize dAddA = f at *
    cases w <;> simp [e3, e1, e2, e4, z1]
  have B := loop_find (fun r => tI (zs r)) (fun row => decide (cnt (mkR (row ++ [n])) (n + 1) = n)) (fun row => Cell.sh (tI (zs (row ++ [n])))) (xs0 := rD (rowsP n many)) (ks := [5]) (b := fun x ρ => (gNm 5 x ρ).bind b__law_least_whole_3) (ρ0 := [.sh (.int ((n : Int))), .sh (.int ((many : Int))), .sh (.list (rD (rowsP n many))), .dead, .dead, .dead, .dead]) (fun row => row.length ≤ 20 ∧ chkR n (row ++ [n]) = true)
    (fun y hy ht => ⟨_, bind_gnm.trans ((key y hy).trans (if_pos ht))⟩) (fun y hy ht => ⟨_, .inl (bind_gnm.trans ((key y hy).trans (if_neg (by rw [ht]; simp)))), rfl⟩) (rowsP n many) [.sh (.int ((n : Int))), .sh (.int ((many : Int))), .sh (.list (rD (rowsP n many))), .dead, .dead, .dead, .dead] (fun y hy => ⟨by rw [(rowsP_len many y hy).1]; omega, List.all_eq_true.mp hall y hy⟩) rfl
  obtain ⟨row, hr, rfl⟩ := Option.map_eq_some_iff.mp hf
  obtain ⟨ρ', e⟩ := B.1 row hr
  have C := for_hx ll__law_least_whole_3 (ρ := [.sh (.int ((n : Int))), .sh (.int ((many : Int))), .sh (.list (rD (rowsP n many))), .dead, .dead, .dead, .dead]) rfl e
  refine fn_ret (ρ' := ρ') ?_
  show s__law_least_whole [.sh (.int ((n : Int))), .sh (.int ((many : Int))), .dead, .dead, .dead, .dead, .dead] = _
  unfold s__law_least_whole
  refine (seq_nx (ρ1 := [.sh (.int ((n : Int))), .sh (.int ((many : Int))), .sh (.list (rD [[0]])), .dead, .dead, .dead, .dead]) ?_).trans ?_
  · show _ = some (Out.nx [.sh (.int ((n : Int))), .sh (.int ((many : Int))), .sh (.list ([.tuple [.int 0]])), .dead, .dead, .dead, .dead])
    simp [z1]
  refine (seq_nx A).trans ?_
  exact seq_rt C


/-! ## the least whole rules are right -/
theorem bNeT (a b : List Int) : bNe (.tuple (is a)) (.tuple (is b)) = some (!decide (a = b)) := by
  unfold bNe
  rw [okD_T, okD_T]
  show some (!PyData.eqvAll (is a) (is b)) = _
  rw [eqvAll_is]
theorem few_at {n : Nat} (h : n ≤ 20) {c : Cell} : sSet 1 (eBin dIx (eFrz (eLst (aCons (eC (.int 0)) (aCons (eC (.int 2)) (aCons (eC (.int 3)) (aCons (eC (.int 3)) (aCons (eC (.int 4)) (aCons (eC (.int 4)) (aCons (eC (.int 4)) (aCons (eC (.int 5)) (aCons (eC (.int 5)) (aCons (eC (.int 5)) (aCons (eC (.int 6)) (aCons (eC (.int 6)) (aCons (eC (.int 6)) (aCons (eC (.int 6)) (aCons (eC (.int 7)) (aCons (eC (.int 7)) (aCons (eC (.int 7)) (aCons (eC (.int 7)) (aCons (eC (.int 8)) (aCons (eC (.int 8)) (aCons (eC (.int 8)) (aNil)))))))))))))))))))))))) (eVar 0)) [.sh (.int ((n : Int))), .dead, .dead, .dead] = some (.nx [.sh (.int ((n : Int))), .sh (.int ((few.getD n 0 : Nat))), .dead, .dead]) := by
  have e : atI (is (zs few)) (n : Int) = some (.int (few.getD n 0 : Nat)) := by
    rw [← zs_get]
    exact at_is (L := zs few) (by rw [zs_len]; exact Nat.lt_succ_of_le h)
  have el : is (zs few) = [.int 0, .int 2, .int 3, .int 3, .int 4, .int 4, .int 4, .int 5, .int 5, .int 5, .int 6, .int 6, .int 6, .int 6, .int 7, .int 7, .int 7, .int 7, .int 8, .int 8, .int 8] := rfl
  rw [el] at e
  have z21 : 21 ≤ sizeLine := by decide
  generalize (n : Int) = N at *
  generalize ((few.getD n 0 : Nat) : Int) = G at *
  simp [z21, e]
theorem isort_eq {L : List Int} (h : L.Pairwise (· ≤ ·)) : isort L = L :=
  (isort_perm L).eq_of_pairwise (le := (· ≤ ·)) (fun a b _ _ x y => Int.le_antisymm x y) (isort_pw L) h
theorem v_least_right {n : Nat} (h1 : 1 ≤ n) (h2 : n ≤ 20) : m__law_least_right [.sh (.int (n : Int))] = some (.sh (.bool true), []) := by
  obtain ⟨z, hz, hg, hr⟩ := allF_at h1 h2
  have e1 := v_least_whole (by omega) h1 hz
  have e2 := v_fewest (by omega) h1 hz
  have hf := few_at h2 (c := .dead)
  unfold goodZ at hg
  rw [Bool.and_eq_true, Bool.and_eq_true, Bool.and_eq_true, Bool.and_eq_true, decide_eq_true_eq, decide_eq_true_eq, decide_eq_true_eq, decide_eq_true_eq] at hg
  obtain ⟨g1, g2, ⟨g3, g4⟩, g5, g6⟩ := hg
  obtain ⟨⟨l, R⟩, pw, g0⟩ := chkR_rl g1
  have hL : (zs z).length ≤ 40 := by rw [zs_len]; omega
  have e3 := v_ldist hL
  have e4 : dLenSet (.list (is (dst (zs z)))) = some (.int (n : Int)) := by
    rw [dLenSet_L, if_pos (by have := dst_le hL; omega)]
    have : ((sset (dst (zs z))).length : Int) = (n : Int) := by
      have := R.cnt
      unfold msr at this
      rw [this, g6]
    rw [this]
  have e5 : cSortU [.tuple (is (zs z))] = some (.ol (is (zs z))) := by
    rw [cSortU_tup, isort_eq]
    unfold zs
    rw [List.pairwise_map]
    exact pw.imp fun h => by omega
  have e6 := bNeT (zs z) (zs z)
  rw [decide_eq_true rfl] at e6
  have e7 := cLen_I (zs z)
  rw [zs_len, g2] at e7
  rw [g2] at e2
  have e8 : dIx (tI (zs z)) (.int 0) = some (.int 0) := by
    have := at_is (L := zs z) (p := 0) (by rw [zs_len]; omega)
    rw [zs_get, g0] at this
    exact this
  have e9 : dIx (tI (zs z)) (.int ((few.getD n 0 : Int) - 1)) = some (.int (n : Int)) := by
    have := at_is (L := zs z) (p := few.getD n 0 - 1) (by rw [zs_len]; omega)
    rw [zs_get, g5] at this
    have ec : ((few.getD n 0 : Int) - 1) = ((few.getD n 0 - 1 : Nat) : Int) := by omega
    rw [ec]
    exact this
  have s1 := same_i (few.getD n 0 : Int)
  have s2 : m__law_same 12 [.sh (tI (zs z)), .sh (tI (zs z))] = some (.sh (.bool true), []) := same_o (o := zs z) (by omega)
  have kt : kitB (tyN (tI (zs z))) "tuple" = some true := kit_tup_tuple
  -- the loop
  have lp : l__law_least_right_1 [.sh (.int ((n : Int))), .sh (.int ((few.getD n 0 : Int))), .sh (tI (zs z)), .dead] = some (.nx [.sh (.int ((n : Int))), .sh (.int ((few.getD n 0 : Int))), .sh (tI (zs z)), .dead]) := by
    have A := loop_same PyData.int (xs0 := is (zs z)) (ks := [3]) (b := fun x ρ => (gNm 3 x ρ).bind b__law_least_right_1) (ρ0 := [.sh (.int ((n : Int))), .sh (.int ((few.getD n 0 : Int))), .sh (tI (zs z)), .dead]) (zs z) (fun y _ => ⟨[.sh (.int ((n : Int))), .sh (.int ((few.getD n 0 : Int))), .sh (tI (zs z)), .sh (.int (y))], .inl (bind_gnm.trans (by
      show b__law_least_right_1 [.sh (.int ((n : Int))), .sh (.int ((few.getD n 0 : Int))), .sh (tI (zs z)), .sh (.int (y))] = _
      generalize tI (zs z) = Z at *
      generalize (n : Int) = N at *
      generalize ((few.getD n 0 : Nat) : Int) = G at *
      simp [b__law_least_right_1])), rfl⟩) (ρ := [.sh (.int ((n : Int))), .sh (.int ((few.getD n 0 : Int))), .sh (tI (zs z)), .dead]) rfl
    exact for_hx ll__law_least_right_1 (ρ := [.sh (.int ((n : Int))), .sh (.int ((few.getD n 0 : Int))), .sh (tI (zs z)), .dead]) rfl A
  have fin : (n > 10 ∨ (n ≤ 10 ∧ m__law_least_whole [.sh (.int (n : Int)), .sh (.int ((few.getD n 0 : Int) - 2))] = some (.sh (tI (zs z)), []))) := by
    by_cases c : n > 10
    · exact .inl c
    · refine .inr ⟨by omega, ?_⟩
      unfold goodR at hr
      rw [decide_eq_false (by omega), Bool.false_or, Bool.and_eq_true, Bool.and_eq_true, decide_eq_true_eq, decide_eq_true_eq] at hr
      obtain ⟨r1, r2, r3⟩ := hr
      have ec : ((few.getD n 0 : Int) - 2) = ((few.getD n 0 - 2 : Nat) : Int) := by omega
      rw [ec]
      exact v_llw (by omega) (by omega) r2 r3
  have e5 : cSortU [tI (zs z)] = some (.ol (is (zs z))) := e5
  have t1 : PyData.tuple (is (zs z)) = tI (zs z) := rfl
  have e6 : bNe (tI (zs z)) (tI (zs z)) = some false := e6
  clear R pw hr hz g1 g2 g5 g6 g0 hL
  generalize few.getD n 0 = q at *
  have b0 : bNe (.int (q : Int)) (.int (q : Int)) = some false := by show some (!((q : Int) == (q : Int))) = _; simp
  refine fn_ret (ρ' := [.sh (.int ((n : Int))), .sh (.int ((q : Int))), .sh (tI (zs z)), .dead]) ?_
  show s__law_least_right [.sh (.int ((n : Int))), .dead, .dead, .dead] = _
  unfold s__law_least_right
  refine (seq_nx hf).trans ?_
  clear hf
  refine (seq_nx (ρ1 := [.sh (.int ((n : Int))), .sh (.int ((q : Int))), .sh (tI (zs z)), .dead]) ?_).trans ?_
  · generalize tI (zs z) = Z at *
    simp [e1]
  refine (seq_nx (ρ1 := [.sh (.int ((n : Int))), .sh (.int ((q : Int))), .sh (tI (zs z)), .dead]) ?_).trans ?_
  · generalize tI (zs z) = Z at *
    simp [e2, s1, kt, e7]
  refine (seq_nx lp).trans ?_
  refine (seq_nx (ρ1 := [.sh (.int ((n : Int))), .sh (.int ((q : Int))), .sh (tI (zs z)), .dead]) ?_).trans ?_
  · clear lp fin
    generalize is (dst (zs z)) = DD at *
    generalize is (zs z) = J at *
    generalize tI (zs z) = Z at *
    generalize hb : bNe = g at *
    have b1 : ∀ x : Int, g (.int x) (.int x) = some false := fun x => by rw [← hb]; show some (!(x == x)) = _; simp
    simp [e8, e9, e5, e6, e3, e4, b1, t1]
  · clear lp
    generalize tI (zs z) = Z at *
    rcases fin with c | ⟨c, ew⟩
    · have c : (10 : Int) < (n : Int) := by omega
      generalize (n : Int) = N at *
      simp [c]
    · have c : ¬ (10 : Int) < (n : Int) := by omega
      generalize (n : Int) = N at *
      simp [c, ew, s2]


/-! ## bare rules -/
theorem bIn_t (x : Int) (ns : List Int) : bIn (.int x) (.tuple (is ns)) = some (decide (x ∈ ns)) := by
  have e := bNotIn_t x ns
  unfold bNotIn at e
  cases h : bIn (.int x) (.tuple (is ns)) with
  | none => rw [h] at e; cases e
  | some b =>
    rw [h] at e
    have e : some (!b) = some (!decide (x ∈ ns)) := e
    injection e with e
    rw [Bool.not_inj e]
theorem any_bols {α : Type} (l : List α) (q : α → Bool) : cAny [.list (l.map fun k => .bool (q k))] = some (.bool (l.any q)) := by
  show (bolsD _).map _ = _
  rw [bols_map]
  show some (PyData.bool ((l.map q).any id)) = _
  rw [List.any_map]
  rfl
def clash (mask : Nat) (ms : List Nat) (m : Nat) : Bool := ms.any fun y => mask.testBit (m - y)
def lbB (n : Nat) : Nat → List Nat → Nat → Nat → Bool
  | 0, _, _, _ => true
  | f + 1, ms, mask, l => (List.range (n - l)).any fun k => !clash mask ms (l + 1 + k) && lbB n f (ms ++ [l + 1 + k]) (addM mask ms (l + 1 + k)) (l + 1 + k)
theorem clash_eq {n : Nat} {ms : List Nat} {mask l m : Nat} (R : Rl n ms mask l) (h : l ≤ m) : ((zs ms).map fun y => (m : Int) - y).any (fun d => decide (d ∈ dst (zs ms))) = clash mask ms m := by
  unfold clash zs
  rw [List.map_map, List.any_map]
  rw [Bool.eq_iff_iff, List.any_eq_true, List.any_eq_true]
  have one : ∀ y ∈ ms, (decide (((m : Int) - (y : Int)) ∈ dst (zs ms)) = true ↔ mask.testBit (m - y) = true) := fun y hy => by
    have := R.le y hy
    rw [decide_eq_true_eq, R.bit]
    have e : ((m - y : Nat) : Int) = (m : Int) - (y : Int) := by omega
    rw [e]
  exact ⟨fun ⟨y, h1, h2⟩ => ⟨y, h1, (one y h1).mp h2⟩, fun ⟨y, h1, h2⟩ => ⟨y, h1, (one y h1).mpr h2⟩⟩
theorem v_lb {n : Nat} (hn : n ≤ 1000) {many : Nat} (hm : many ≤ 20) : ∀ (f k : Nat) (ms : List Nat) (mask l : Nat), f < k → ms.length + f = many → l ≤ n → Rl n ms mask l →
    m_longer_bare k [.sh (tI (zs ms)), .sh (tI (dst (zs ms))), .sh (.int (many : Int)), .sh (.int (n : Int))] = some (.sh (.bool (lbB n f ms mask l)), [])
  | f, 0, _, _, _, h, _, _, _ => absurd h (Nat.not_lt_zero _)
  | 0, k + 1, ms, mask, l, hk, hl, hln, R => by
    have ec := cLen_I (zs ms)
    rw [zs_len, show ms.length = many by omega] at ec
    show _ = some (Cell.sh (.bool true), [])
    refine fn_ret (ρ' := [.sh (tI (zs ms)), .sh (tI (dst (zs ms))), .sh (.int ((many : Int))), .sh (.int ((n : Int))), .dead, .dead, .dead, .dead]) ?_
    show s_longer_bare (m_longer_bare k) [.sh (tI (zs ms)), .sh (tI (dst (zs ms))), .sh (.int ((many : Int))), .sh (.int ((n : Int))), .dead, .dead, .dead, .dead] = _
    unfold s_longer_bare
    refine seq_rt ((if_t (ρ1 := [.sh (tI (zs ms)), .sh (tI (dst (zs ms))), .sh (.int ((many : Int))), .sh (.int ((n : Int))), .dead, .dead, .dead, .dead]) ?_).trans rfl)
    generalize tI (dst (zs ms)) = D at *
    generalize tI (zs ms) = M at *
    generalize (many : Int) = K at *
    simp [ec]
  | f + 1, k + 1, ms, mask, l, hk, hl, hln, R => by
    have ec := cLen_I (zs ms)
    rw [zs_len] at ec
    have hne : ¬ (ms.length : Int) = (many : Int) := by omega
    have hdl := dst_le (ms := zs ms) (by rw [zs_len]; omega)
    have el : dIx (tI (zs ms)) (.int (-1)) = some (.int (l : Int)) := by
      rw [last_I (by rw [zs_len]; exact R.ln), ← R.la]; rfl
    have key : ∀ j : Nat, l + 1 + j ≤ n → b_longer_bare_1 (m_longer_bare k) [.sh (tI (zs ms)), .sh (tI (dst (zs ms))), .sh (.int ((many : Int))), .sh (.int ((n : Int))), .sh (.int (((l : Int) + 1 + (j : Int)))), .dead, .dead, .dead] =
        if (!clash mask ms (l + 1 + j) && lbB n f (ms ++ [l + 1 + j]) (addM mask ms (l + 1 + j)) (l + 1 + j)) = true then some (.rt (.sh (.bool true)) [.sh (tI (zs ms)), .sh (tI (dst (zs ms))), .sh (.int ((many : Int))), .sh (.int ((n : Int))), .sh (.int (((l : Int) + 1 + (j : Int)))), .sh (tI ((zs ms).map fun y => ((l : Int) + 1 + (j : Int)) - y)), .dead, .dead])
        else some (.nx [.sh (tI (zs ms)), .sh (tI (dst (zs ms))), .sh (.int ((many : Int))), .sh (.int ((n : Int))), .sh (.int (((l : Int) + 1 + (j : Int)))), .sh (tI ((zs ms).map fun y => ((l : Int) + 1 + (j : Int)) - y)), .dead, .dead]) := fun j hj => by
      have ih := v_lb hn hm f k (ms ++ [l + 1 + j]) (addM mask ms (l + 1 + j)) (l + 1 + j) (by omega) (by rw [List.length_append, List.length_singleton]; omega) hj (R.app (by omega) hj)
      have ce := clash_eq (m := l + 1 + j) R (by omega)
      have ej : ((l + 1 + j : Nat) : Int) = (l : Int) + 1 + (j : Int) := by push_cast; rfl
      have ed : dst (zs (ms ++ [l + 1 + j])) = dst (zs ms) ++ (zs ms).map fun y => ((l : Int) + 1 + (j : Int)) - y := by
        rw [zs_app, dst_app, ej]
      have ez : zs (ms ++ [l + 1 + j]) = zs ms ++ [(l : Int) + 1 + (j : Int)] := by rw [zs_app, ej]
      rw [ej] at ce
      rw [ed, ez] at ih
      have e1 : k_longer_bare_1 (m_longer_bare k) [.sh (tI (zs ms)), .sh (tI (dst (zs ms))), .sh (.int ((many : Int))), .sh (.int ((n : Int))), .sh (.int (((l : Int) + 1 + (j : Int)))), .dead, .dead, .dead] = some (.ol (is ((zs ms).map fun y => ((l : Int) + 1 + (j : Int)) - y)), [.sh (tI (zs ms)), .sh (tI (dst (zs ms))), .sh (.int ((many : Int))), .sh (.int ((n : Int))), .sh (.int (((l : Int) + 1 + (j : Int)))), .dead, .dead, .dead]) := by
        have ei : is ((zs ms).map fun y => ((l : Int) + 1 + (j : Int)) - y) = (zs ms).map fun y => PyData.int (((l : Int) + 1 + (j : Int)) - y) := by
          unfold is; rw [List.map_map]; rfl
        rw [kk_longer_bare_1, ei]
        refine ev_compA PyData.int (fun y => PyData.int (((l : Int) + 1 + (j : Int)) - y)) (zs ms) (ρi := [.sh (tI (zs ms)), .sh (tI (dst (zs ms))), .sh (.int ((many : Int))), .sh (.int ((n : Int))), .sh (.int (((l : Int) + 1 + (j : Int)))), .dead, .dead, .dead]) (ρ0 := [.sh (tI (zs ms)), .sh (tI (dst (zs ms))), .sh (.int ((many : Int))), .sh (.int ((n : Int))), .sh (.int (((l : Int) + 1 + (j : Int)))), .dead, .dead, .dead]) rfl rfl (by rw [zs_len]; unfold sizeLine; omega) fun y _ => ?_
        refine ⟨[.sh (tI (zs ms)), .sh (tI (dst (zs ms))), .sh (.int ((many : Int))), .sh (.int ((n : Int))), .sh (.int (((l : Int) + 1 + (j : Int)))), .dead, .sh (.int (y)), .dead], [.sh (tI (zs ms)), .sh (tI (dst (zs ms))), .sh (.int ((many : Int))), .sh (.int ((n : Int))), .sh (.int (((l : Int) + 1 + (j : Int)))), .dead, .sh (.int (y)), .dead], rfl, rfl, rfl⟩
      have a1 : dAddA (tI (zs ms)) (.tuple [.int ((l : Int) + 1 + (j : Int))]) = some (tI (zs ms ++ [(l : Int) + 1 + (j : Int)])) := add_is (a := zs ms) (b := [(l : Int) + 1 + (j : Int)]) (by rw [zs_len]; simp; omega)
      have a2 : dAddA (tI (dst (zs ms))) (tI ((zs ms).map fun y => ((l : Int) + 1 + (j : Int)) - y)) = some (tI (dst (zs ms) ++ (zs ms).map fun y => ((l : Int) + 1 + (j : Int)) - y)) := add_is (by rw [List.length_map, zs_len]; omega)
      have hml : ((zs ms).map fun y => ((l : Int) + 1 + (j : Int)) - y).length ≤ 20 := by rw [List.length_map, zs_len]; omega
      generalize ((zs ms).map fun y => ((l : Int) + 1 + (j : Int)) - y) = mo at *
      have e2 : k_longer_bare_2 (m_longer_bare k) [.sh (tI (zs ms)), .sh (tI (dst (zs ms))), .sh (.int ((many : Int))), .sh (.int ((n : Int))), .sh (.int (((l : Int) + 1 + (j : Int)))), .sh (tI mo), .dead, .dead] = some (.ol (mo.map fun d => .bool (decide (d ∈ dst (zs ms)))), [.sh (tI (zs ms)), .sh (tI (dst (zs ms))), .sh (.int ((many : Int))), .sh (.int ((n : Int))), .sh (.int (((l : Int) + 1 + (j : Int)))), .sh (tI mo), .dead, .dead]) := by
        rw [kk_longer_bare_2]
        refine ev_compA PyData.int (fun d => .bool (decide (d ∈ dst (zs ms)))) mo (ρi := [.sh (tI (zs ms)), .sh (tI (dst (zs ms))), .sh (.int ((many : Int))), .sh (.int ((n : Int))), .sh (.int (((l : Int) + 1 + (j : Int)))), .sh (tI mo), .dead, .dead]) (ρ0 := [.sh (tI (zs ms)), .sh (tI (dst (zs ms))), .sh (.int ((many : Int))), .sh (.int ((n : Int))), .sh (.int (((l : Int) + 1 + (j : Int)))), .sh (tI mo), .dead, .dead]) rfl rfl (by unfold sizeLine; omega) fun d _ => ?_
        refine ⟨[.sh (tI (zs ms)), .sh (tI (dst (zs ms))), .sh (.int ((many : Int))), .sh (.int ((n : Int))), .sh (.int (((l : Int) + 1 + (j : Int)))), .sh (tI mo), .dead, .sh (.int (d))], [.sh (tI (zs ms)), .sh (tI (dst (zs ms))), .sh (.int ((many : Int))), .sh (.int ((n : Int))), .sh (.int (((l : Int) + 1 + (j : Int)))), .sh (tI mo), .dead, .sh (.int (d))], rfl, ?_, rfl⟩
        have eb : bIn (.int d) (tI (dst (zs ms))) = some (decide (d ∈ dst (zs ms))) := bIn_t d _
        generalize decide (d ∈ dst (zs ms)) = w at *
        generalize tI (dst (zs ms)) = DD at *
        generalize tI (zs ms) = M at *
        generalize tI mo = MO at *
        generalize hb : bIn = g at *
        simp [eb]
      have e3 := any_bols mo (fun d => decide (d ∈ dst (zs ms)))
      rw [ce] at e3
      have t1 : PyData.tuple (is mo) = tI mo := rfl
      have z1 : 1 ≤ sizeLine := by decide
      clear R el hdl ce
      generalize clash mask ms (l + 1 + j) = w at *
      generalize lbB n f (ms ++ [l + 1 + j]) (addM mask ms (l + 1 + j)) (l + 1 + j) = v at *
      generalize (mo.map fun d => PyData.bool (decide (d ∈ dst (zs ms)))) = BB at *
      generalize tI (dst (zs ms) ++ mo) = D2 at *
      generalize tI (zs ms ++ [(l : Int) + 1 + (j : Int)]) = M2 at *
      generalize tI (dst (zs ms)) = DD at *
      generalize tI (zs ms) = M at *
      generalize is mo = IM at *
      generalize tI mo = MO at *
      generalize (l : Int) + 1 + (j : Int) = J at *
      generalize (many : Int) = K at *
      generalize (n : Int) = N at *
      unfold b_longer_bare_1
      refine (seq_nx (ρ1 := [.sh (M), .sh (DD), .sh (.int (K)), .sh (.int (N)), .sh (.int (J)), .sh (MO), .dead, .dead]) (by simp [e1, t1])).trans ?_
      generalize dAddA = h at *
      cases w
      · cases v <;> simp [e2, e3, a1, a2, ih, z1]
      · simp [e2, e3]
    have A := loop_find (fun j : Nat => PyData.int ((l : Int) + 1 + (j : Int))) (fun j => !clash mask ms (l + 1 + j) && lbB n f (ms ++ [l + 1 + j]) (addM mask ms (l + 1 + j)) (l + 1 + j)) (fun _ => Cell.sh (.bool true)) (xs0 := (List.range (n - l)).map fun j : Nat => PyData.int ((l : Int) + 1 + (j : Int))) (ks := [4, 5]) (b := fun x ρ => (gNm 4 x ρ).bind (b_longer_bare_1 (m_longer_bare k))) (ρ0 := [.sh (tI (zs ms)), .sh (tI (dst (zs ms))), .sh (.int ((many : Int))), .sh (.int ((n : Int))), .dead, .dead, .dead, .dead]) (fun j => l + 1 + j ≤ n)
      (fun j hj hz => ⟨_, bind_gnm.trans ((key j hj).trans (if_pos hz))⟩) (fun j hj hz => ⟨_, .inl (bind_gnm.trans ((key j hj).trans (if_neg (by rw [hz]; simp)))), rfl⟩) (List.range (n - l)) [.sh (tI (zs ms)), .sh (tI (dst (zs ms))), .sh (.int ((many : Int))), .sh (.int ((n : Int))), .dead, .dead, .dead, .dead] (fun j hj => by have := List.mem_range.mp hj; omega) rfl
    have hi : iR2 (aCons (eBin dAddA (eBin dIx (eVar 0) (eUn dNeg (eC (.int 1)))) (eC (.int 1))) (aCons (eBin dAddA (eVar 3) (eC (.int 1))) (aNil))) [.sh (tI (zs ms)), .sh (tI (dst (zs ms))), .sh (.int ((many : Int))), .sh (.int ((n : Int))), .dead, .dead, .dead, .dead] = some ((List.range (n - l)).map (fun j : Nat => PyData.int ((l : Int) + 1 + (j : Int))), [.sh (tI (zs ms)), .sh (tI (dst (zs ms))), .sh (.int ((many : Int))), .sh (.int ((n : Int))), .dead, .dead, .dead, .dead]) := by
      have en : ((n : Int) + 1 - ((l : Int) + 1)).toNat = n - l := by omega
      rw [← en]
      refine ev_r2 (m := (l : Int) + 1) (n := (n : Int) + 1) ?_ (by omega) (by omega) (by omega) (by omega)
      generalize tI (dst (zs ms)) = DD at *
      generalize tI (zs ms) = M at *
      generalize (many : Int) = K at *
      generalize (n : Int) = N at *
      simp [el]
    clear key
    have pre : ∀ {o : Out}, (sSeq (l_longer_bare_1 (m_longer_bare k)) (sRet (eC (.bool false)))) [.sh (tI (zs ms)), .sh (tI (dst (zs ms))), .sh (.int ((many : Int))), .sh (.int ((n : Int))), .dead, .dead, .dead, .dead] = some o → s_longer_bare (m_longer_bare k) [.sh (tI (zs ms)), .sh (tI (dst (zs ms))), .sh (.int ((many : Int))), .sh (.int ((n : Int))), .dead, .dead, .dead, .dead] = some o := fun {o} h => by
      unfold s_longer_bare
      refine (seq_nx (ρ1 := [.sh (tI (zs ms)), .sh (tI (dst (zs ms))), .sh (.int ((many : Int))), .sh (.int ((n : Int))), .dead, .dead, .dead, .dead]) ?_).trans h
      clear A hi R
      generalize tI (dst (zs ms)) = DD at *
      generalize tI (zs ms) = M at *
      generalize (many : Int) = K at *
      generalize (n : Int) = N at *
      simp [ec, hne]
    show _ = some (Cell.sh (.bool ((List.range (n - l)).any fun j => !clash mask ms (l + 1 + j) && lbB n f (ms ++ [l + 1 + j]) (addM mask ms (l + 1 + j)) (l + 1 + j))), [])
    cases hf : (List.range (n - l)).find? fun j => !clash mask ms (l + 1 + j) && lbB n f (ms ++ [l + 1 + j]) (addM mask ms (l + 1 + j)) (l + 1 + j) with
    | none =>
      have ha : ((List.range (n - l)).any fun j => !clash mask ms (l + 1 + j) && lbB n f (ms ++ [l + 1 + j]) (addM mask ms (l + 1 + j)) (l + 1 + j)) = false := by
        rw [List.any_eq_false]
        exact List.find?_eq_none.mp hf
      rw [ha]
      exact fn_ret (pre ((seq_nx (for_hx (ll_longer_bare_1 (m_longer_bare k)) hi (A.2 hf))).trans rfl))
    | some j =>
      have ha : ((List.range (n - l)).any fun j => !clash mask ms (l + 1 + j) && lbB n f (ms ++ [l + 1 + j]) (addM mask ms (l + 1 + j)) (l + 1 + j)) = true := by
        rw [List.any_eq_true]
        exact ⟨j, List.mem_of_find?_eq_some hf, List.find?_some (p := fun j => !clash mask ms (l + 1 + j) && lbB n f (ms ++ [l + 1 + j]) (addM mask ms (l + 1 + j)) (l + 1 + j)) hf⟩
      rw [ha]
      obtain ⟨ρ', e⟩ := A.1 j hf
      exact fn_ret (pre (seq_rt (for_hx (ll_longer_bare_1 (m_longer_bare k)) hi e)))


/-! ## the shortest bare rules -/
def bare : List Nat := [1, 3, 6, 11, 17]
def sbOk (m : Nat) : Bool := decide (m * (m - 1) / 2 ≤ bare.getD (m - 2) 0) && (((List.range (bare.getD (m - 2) 0 - m * (m - 1) / 2)).all fun j => !lbB (m * (m - 1) / 2 + j) (m - 1) [0] 0 0) && lbB (bare.getD (m - 2) 0) (m - 1) [0] 0 0)
theorem allS : ((List.range 5).all fun m => sbOk (m + 2)) = true := by decide +kernel
theorem sb_c {N M : Int} {b : Bool} {F : FnS} (e : F [.sh (.tuple [.int 0]), .sh (.tuple []), .sh (.int M), .sh (.int N)] = some (.sh (.bool b), [])) :
    (eNot (eTru (eRetD (eCall0 F (aCons (eTup (aCons (eC (.int 0)) (aNil))) (aCons (eTup (aNil)) (aCons (eVar 0) (aCons (eVar 1) (aNil))))))))) [.sh (.int (M)), .sh (.int (N))] = some (!b, [.sh (.int (M)), .sh (.int (N))]) := by
  have z1 : 1 ≤ sizeLine := by decide
  have z0 : 0 ≤ sizeLine := by decide
  simp [e, z1, z0]
theorem sb_loop {m : Nat} (hm1 : 2 ≤ m) (hm2 : m ≤ 6) {t : Nat} (ht : t ≤ 100) : ∀ (f : Nat), f ≤ t → (∀ j, t - f ≤ j → j < t → lbB j (m - 1) [0] 0 0 = false) → lbB t (m - 1) [0] 0 0 = true →
    l_shortest_bare_1 [.sh (.int ((m : Int))), .sh (.int (((t - f : Nat) : Int)))] = some (.nx [.sh (.int ((m : Int))), .sh (.int ((t : Int)))]) := by
  rw [ll_shortest_bare_1]
  have cond : ∀ n : Nat, n ≤ 100 → (eNot (eTru (eRetD (eCall0 (m_longer_bare 12) (aCons (eTup (aCons (eC (.int 0)) (aNil))) (aCons (eTup (aNil)) (aCons (eVar 0) (aCons (eVar 1) (aNil))))))))) [.sh (.int ((m : Int))), .sh (.int ((n : Int)))] = some (!lbB n (m - 1) [0] 0 0, [.sh (.int ((m : Int))), .sh (.int ((n : Int)))]) := fun n hn => by
    have e := v_lb (n := n) (many := m) (by omega) (by omega) (m - 1) 12 [0] 0 0 (by omega) (by simp; omega) (by omega) (Rl.zero n)
    have e0 : tI (zs [0]) = .tuple [.int 0] := rfl
    have e1 : tI (dst (zs [0])) = .tuple [] := rfl
    rw [e0, e1] at e
    exact sb_c e
  intro f
  induction f with
  | zero =>
    intro _ _ h
    have c := cond t ht
    rw [h] at c
    exact sWhile_done (p := (false, _)) c rfl
  | succ f ih =>
    intro hf hall h
    have c := cond (t - (f + 1)) (by omega)
    rw [hall (t - (f + 1)) (Nat.le_refl _) (by omega)] at c
    have q := ih (by omega) (fun j h1 h2 => hall j (by omega) h2) h
    refine while_step (p := (true, [.sh (.int ((m : Int))), .sh (.int (((t - (f + 1) : Nat) : Int)))])) c rfl ?_ q
    have e : ((t - f : Nat) : Int) = ((t - (f + 1) : Nat) : Int) + 1 := by omega
    rw [e]
    show b_shortest_bare_1 [.sh (.int ((m : Int))), .sh (.int (((t - (f + 1) : Nat) : Int)))] = _
    generalize ((t - (f + 1) : Nat) : Int) = T
    generalize (m : Int) = M
    simp [b_shortest_bare_1]
theorem v_bare {m : Nat} (hm1 : 2 ≤ m) (hm2 : m ≤ 6) : m_shortest_bare [.sh (.int (m : Int))] = some (.sh (.int (bare.getD (m - 2) 0 : Nat)), []) := by
  have h := List.all_eq_true.mp allS (m - 2) (List.mem_range.mpr (by omega))
  have em : m - 2 + 2 = m := by omega
  have h : sbOk m = true := by rw [← em]; exact h
  unfold sbOk at h
  rw [Bool.and_eq_true, Bool.and_eq_true, decide_eq_true_eq, List.all_eq_true] at h
  obtain ⟨h1, h2, h3⟩ := h
  have hb : bare.getD (m - 2) 0 ≤ 100 := by
    have : m = 2 ∨ m = 3 ∨ m = 4 ∨ m = 5 ∨ m = 6 := by omega
    rcases this with rfl | rfl | rfl | rfl | rfl <;> decide
  have q := sb_loop hm1 hm2 hb (bare.getD (m - 2) 0 - m * (m - 1) / 2) (Nat.sub_le _ _) (fun j k1 k2 => by
    have := h2 (j - m * (m - 1) / 2) (List.mem_range.mpr (by omega))
    rw [show m * (m - 1) / 2 + (j - m * (m - 1) / 2) = j by omega] at this
    simpa using this) h3
  rw [show bare.getD (m - 2) 0 - (bare.getD (m - 2) 0 - m * (m - 1) / 2) = m * (m - 1) / 2 by omega] at q
  clear h2 h3 h1
  generalize bare.getD (m - 2) 0 = t at *
  have e1 : dMulA (.int (m : Int)) (.int ((m : Int) - 1)) = some (.int ((m * (m - 1) : Nat) : Int)) := by
    rw [ev_mulA, if_pos (mulOk_l (by omega))]
    congr 2
    rw [show ((m : Int) - 1) = ((m - 1 : Nat) : Int) by omega]
    push_cast; rfl
  have e2 : dFdiv (.int ((m * (m - 1) : Nat) : Int)) (.int 2) = some (.int ((m * (m - 1) / 2 : Nat) : Int)) := by
    have hp : Builtin.divisionGoesByPylong ((m * (m - 1) : Nat) : Int) 2 = false := PyProof.noPylong_small (by decide)
    rw [ev_fdiv, if_pos ⟨by decide, hp⟩, Int.fdiv_eq_ediv_of_nonneg _ (by decide)]
    exact congrArg (fun x => some (PyData.int x)) (Int.natCast_ediv (m * (m - 1)) 2).symm
  refine fn_ret (ρ' := [.sh (.int ((m : Int))), .sh (.int ((t : Int)))]) ?_
  show s_shortest_bare [.sh (.int ((m : Int))), .dead] = _
  unfold s_shortest_bare
  refine (seq_nx (ρ1 := [.sh (.int ((m : Int))), .sh (.int (((m * (m - 1) / 2 : Nat) : Int)))]) ?_).trans ?_
  · clear q
    generalize ((m * (m - 1) / 2 : Nat) : Int) = A at *
    generalize ((m * (m - 1) : Nat) : Int) = B at *
    generalize (m : Int) = M at *
    generalize dMulA = f at *
    generalize dFdiv = g at *
    simp [e1, e2]
  exact (seq_nx q).trans rfl


def lexI : List Int → List Int → Bool
  | x :: r, y :: t => decide (x < y) || (decide (x = y) && lexI r t)
  | _, _ => false
theorem alike_is : ∀ (a b : List Int), PySem.W.alikeAll (is a) (is b) = true
  | [], _ => rfl
  | x :: r, [] => rfl
  | x :: r, y :: t => by
    show (true && PySem.W.alikeAll (is r) (is t)) = true
    rw [alike_is r t]; rfl
theorem cmpT (a b : List Int) : cmpOk (.tuple (is a)) (.tuple (is b)) = true := by
  unfold cmpOk
  rw [okD_T]
  show (true && PySem.W.alikeAll (is a) (is b) && true) = true
  rw [alike_is]; rfl
theorem pw {k : Int} {n : Nat} (h : k = n) (h2 : n ≤ 60) : ∃ T : Nat, 0 < T ∧ T < 2 ^ 240 ∧ dPow (.int 10) (.int k) = some (.int (T : Int)) := by
  subst h
  refine ⟨10 ^ n, Nat.pow_pos (by decide), ?_, ?_⟩
  · have h3 : 10 ^ n ≤ 10 ^ 60 := Nat.pow_le_pow_right (by decide) h2
    have h4 : (10 : Nat) ^ 60 < 2 ^ 240 := by decide
    omega
  · have hb : (Builtin.Int.intBits 10 : Int) * (n : Int) ≤ 134217728 := by
      have : (Builtin.Int.intBits 10 : Int) = 4 := by decide
      rw [this]; omega
    simp [dPow, hb]
theorem tkN {ds : List Int} {n : Int} (h : 0 < n) : ∃ t : Nat, tk ds n = (t : Int) ∧ (t : Int) < n := by
  have h0 := tk_nn (ns := ds) h
  have h1 := tk_lt (ns := ds) h
  exact ⟨(tk ds n).toNat, by omega, by omega⟩
theorem v_size (ds ns : List Int) (hl : ns.length ≤ 63) (hb : ∀ z ∈ ns, Builtin.Int.intBits z ≤ 1048576) : ∃ (z : Nat) (ds' : List Int), z < 2 ^ 1048700 ∧ m__law_size [.ol (is ds), .sh (.list (is ns))] = some (.sh (.int (z : Int)), [.ol (is ds'), .sh (.list (is ns))]) := by
  obtain ⟨kd, hk, hk4⟩ := tkN (ds := ds) (n := 4) (by decide)
  generalize h2 : ds.dropLast = d1
  obtain ⟨n, hn, hn1⟩ := tkN (ds := d1) (n := 1000) (by decide)
  generalize h3 : d1.dropLast = d2
  have big : ∀ {z m : Nat}, z < 2 ^ m → m ≤ 1048700 → z < 2 ^ 1048700 := fun h k => Nat.lt_of_lt_of_le h (two_le k)
  have nsm : n < 2 ^ 10 := by show n < 1024; omega
  rcases (show kd = 0 ∨ kd = 1 ∨ kd = 2 ∨ kd = 3 by omega) with rfl | rfl | rfl | rfl
  · refine ⟨n, d2, big nsm (by decide), fn_io (ρ' := [.ol (is d2), .sh (.list (is ns)), .sh (.int (0)), .sh (.int ((n : Int)))]) ?_ rfl rfl⟩
    show s__law_size [.ol (is ds), .sh (.list (is ns)), .dead, .dead] = _
    have hk : tk ds 4 = 0 := hk
    simp [s__law_size, hk, h2, hn, h3]
  · obtain ⟨T, hT0, hT1, eT⟩ := pw (k := 15) (n := 15) rfl (by decide)
    obtain ⟨t, ht, ht1⟩ := tkN (ds := d2) (n := 1000) (by decide)
    have tsm : 1 + t < 2 ^ 10 := by show 1 + t < 1024; omega
    have m1 : mulOk ((1 + t : Nat) : Int) (T : Int) = true := mulN tsm hT1 (by decide)
    have hv : n + (1 + t) * T < 2 ^ 260 := by
      have h1 : (1 + t) * T ≤ 2 ^ 10 * 2 ^ 240 := Nat.mul_le_mul (Nat.le_of_lt tsm) (Nat.le_of_lt hT1)
      have h4 : (2 : Nat) ^ 10 * 2 ^ 240 + 2 ^ 10 < 2 ^ 260 := by decide
      omega
    refine ⟨n + (1 + t) * T, d2.dropLast, big hv (by decide), fn_io (ρ' := [.ol (is d2.dropLast), .sh (.list (is ns)), .sh (.int (1)), .sh (.int (((n + (1 + t) * T : Nat) : Int)))]) ?_ rfl rfl⟩
    show s__law_size [.ol (is ds), .sh (.list (is ns)), .dead, .dead] = _
    have hk : tk ds 4 = 1 := hk
    push_cast at m1 ⊢
    clear hv big
    simp [s__law_size, hk, h2, hn, h3, ht, eT, m1]
  · by_cases h0 : ns = []
    · refine ⟨n, d2, big nsm (by decide), fn_io (ρ' := [.ol (is d2), .sh (.list (is ns)), .sh (.int (2)), .sh (.int ((n : Int)))]) ?_ rfl rfl⟩
      show s__law_size [.ol (is ds), .sh (.list (is ns)), .dead, .dead] = _
      have hk : tk ds 4 = 2 := hk
      subst h0
      simp [s__law_size, hk, h2, hn, h3]
    · have hp : 0 < ns.length := List.length_pos_iff.mpr h0
      have t0 := tk_nn (ns := d2) (n := (ns.length : Int)) (by omega)
      have t1 := tk_lt (ns := d2) (n := (ns.length : Int)) (by omega)
      have et := v_take d2 (ns.length : Int) (by omega)
      generalize tk d2 (ns.length : Int) = t at *
      have ei := atI_is (ns := ns) t0 t1
      have hz := bd_bits (hb _ (List.getElem_mem (l := ns) (n := t.toNat) (by omega)))
      generalize ns[t.toNat]'(by omega) = c at *
      have hLl : ((is ns).length : Int) = (ns.length : Int) := by unfold is; rw [List.length_map]
      have hpI : (0 : Int) < ((is ns).length : Int) := by omega
      rw [← hLl] at et
      have ea : (if c < 0 then -c else c) = ((c.natAbs : Nat) : Int) := by split <;> omega
      have hv : n + c.natAbs < 2 ^ 1048700 := by
        have h1 : c.natAbs < 2 ^ 1048576 := hz
        have h3 : 2 ^ 1048576 + 2 ^ 10 ≤ 2 ^ 1048577 := by
          rw [show 2 ^ 1048577 = 2 ^ 1048576 + 2 ^ 1048576 by rw [Nat.pow_succ 2 1048576]; omega]
          have := two_le (n := 10) (m := 1048576) (by decide)
          omega
        have h4 := two_le (n := 1048577) (m := 1048700) (by decide)
        omega
      refine ⟨n + c.natAbs, d2.dropLast, hv, fn_io (ρ' := [.ol (is d2.dropLast), .sh (.list (is ns)), .sh (.int (2)), .sh (.int (((n + c.natAbs : Nat) : Int)))]) ?_ rfl rfl⟩
      show s__law_size [.ol (is ds), .sh (.list (is ns)), .dead, .dead] = _
      have hk : tk ds 4 = 2 := hk
      rw [Int.natCast_add, ← ea]
      clear hv big hz ea hb
      generalize is ns = N at *
      have hN : ¬ N.length = 0 := by omega
      have hN2 : 0 < N.length := by omega
      have hN3 : ¬ N = [] := fun z => hN (by rw [z]; rfl)
      simp [s__law_size, hk, h2, hn, h3, hpI, hN2, hN3, et, ei]
  · obtain ⟨t, ht, ht1⟩ := tkN (ds := d2) (n := 1000) (by decide)
    have m1 : mulOk (n : Int) 1000 = true := mulOk_l (by show ((n : Int).natAbs) < _; rw [Int.natAbs_natCast]; exact Nat.lt_trans nsm (by decide))
    have hv : n * 1000 + t < 2 ^ 30 := by show _ < 1073741824; omega
    refine ⟨n * 1000 + t, d2.dropLast, big hv (by decide), fn_io (ρ' := [.ol (is d2.dropLast), .sh (.list (is ns)), .sh (.int (3)), .sh (.int (((n * 1000 + t : Nat) : Int)))]) ?_ rfl rfl⟩
    show s__law_size [.ol (is ds), .sh (.list (is ns)), .dead, .dead] = _
    have hk : tk ds 4 = 3 := hk
    push_cast
    clear hv big
    simp [s__law_size, hk, h2, hn, h3, ht, m1]
/-! ## sheets: plain -/
theorem okD_LZ (F : List (List Int)) : okD (.list (F.map tZ)) = true := by
  have h1 : ∀ F : List (List Int), PyData.canLayAll0 (F.map tZ) = true ∧ PyData.depthAll (F.map tZ) ≤ 1 := fun F => by
    induction F with
    | nil => exact ⟨rfl, Nat.zero_le _⟩
    | cons s r ih =>
      have hd : (tZ s).depth = 1 := by
        show PyData.depthAll (is s) + 1 = 1
        rw [dpA_is]
      refine ⟨?_, ?_⟩
      · show (PyData.canLayAll0 (is s) && PyData.canLayAll0 (r.map tZ)) = true
        rw [okD_is, ih.1]; rfl
      · show max (tZ s).depth (PyData.depthAll (r.map tZ)) ≤ 1
        rw [hd]; omega
  obtain ⟨a, b⟩ := h1 F
  simp [okD, SeqAt.shaped, PyData.canLay0, PyData.depth, a]
  omega
theorem bNotIn_Z (s : List Int) (F : List (List Int)) : bNotIn (tZ s) (.list (F.map tZ)) = some (!decide (s ∈ F)) := by
  have e : bIn (tZ s) (.list (F.map tZ)) = some (decide (s ∈ F)) := by
    show (if (okD (tZ s) && okD (.list (F.map tZ))) = true then some ((F.map tZ).any fun z => PyData.eqv z (tZ s)) else none) = _
    have h3 : okD (tZ s) = true := okD_T s
    rw [h3, okD_LZ, Bool.and_self, if_pos rfl]
    congr 1
    rw [List.any_map]
    have : (fun z : List Int => PyData.eqv (tZ z) (tZ s)) = fun z => decide (z = s) := funext fun z => eqvAll_is z s
    show (F.any fun z => PyData.eqv (tZ z) (tZ s)) = _
    rw [this]
    by_cases h : s ∈ F
    · rw [decide_eq_true h, List.any_eq_true]
      exact ⟨s, h, by simp⟩
    · rw [decide_eq_false h, List.any_eq_false]
      intro z hz e
      have : z = s := by simpa using e
      exact h (this ▸ hz)
  unfold bNotIn
  rw [e]; rfl
/-- a row of ints and what follows it -/
theorem lexS {u : List (Int ⊕ List Nat)} : ∀ (a b : List Int), a.length = b.length → PyProof.Rows.lexLt PyProof.Rows.itemOrd (PySem.W.keyToksAll (is a) ++ u) (PySem.W.keyToksAll (is b) ++ u) = lexI a b
  | [], [], _ => by
    show PyProof.Rows.lexLt PyProof.Rows.itemOrd (.inl 0 :: u) (.inl 0 :: u) = false
    rw [PyProof.Rows.lex_self]
    exact PyProof.Rows.lex_irrefl (O := PyProof.Rows.itemOrd) u
  | [], y :: t, h => by simp at h
  | x :: r, [], h => by simp at h
  | x :: r, y :: t, h => by
    have ih := lexS (u := u) r t (by simpa using h)
    show PyProof.Rows.lexLt PyProof.Rows.itemOrd (.inl 1 :: .inl x :: (PySem.W.keyToksAll (is r) ++ u)) (.inl 1 :: .inl y :: (PySem.W.keyToksAll (is t) ++ u)) = _
    rw [PyProof.Rows.lex_self, PyProof.Rows.lex_cons, ih]
    show (decide (x < y) || (!decide (y < x) && lexI r t)) = (decide (x < y) || (decide (x = y) && lexI r t))
    by_cases h1 : x < y
    · rw [decide_eq_true h1, Bool.true_or, Bool.true_or]
    · rw [decide_eq_false h1, Bool.false_or, Bool.false_or]
      by_cases h2 : x = y
      · rw [decide_eq_true h2, decide_eq_false (by omega)]; rfl
      · rw [decide_eq_false h2, decide_eq_true (by omega)]; rfl
theorem lt_Z {a b : List Int} (h : a.length = b.length) : PySem.W.dataLt (tZ a) (tZ b) = lexI a b := by
  have := lexS (u := []) a b h
  rw [List.append_nil, List.append_nil] at this
  exact this
theorem lexI_cons {x y : Int} {r t : List Int} : lexI (x :: r) (y :: t) = (decide (x < y) || (decide (x = y) && lexI r t)) := rfl
theorem lexI_Z : ∀ a b : List Int, a.length = b.length → lexZ a b = !lexI b a
  | [], [], _ => rfl
  | [], y :: t, h => by simp at h
  | x :: r, [], h => by simp at h
  | x :: r, y :: t, h => by
    have ih := lexI_Z r t (by simpa using h)
    show (decide (x < y) || (decide (x = y) && lexZ r t)) = !lexI (y :: t) (x :: r)
    rw [lexI_cons, ih]
    rcases Int.lt_trichotomy x y with c | c | c
    · rw [decide_eq_true c, decide_eq_false (show ¬ x = y by omega), decide_eq_false (show ¬ y < x by omega), decide_eq_false (show ¬ y = x by omega)]; rfl
    · subst c
      rw [decide_eq_false (by omega), decide_eq_true rfl]; simp
    · rw [decide_eq_false (show ¬ x < y by omega), decide_eq_false (show ¬ x = y by omega), decide_eq_true c]; rfl
theorem sortB_Z {n : Nat} {F : List (List Int)} (h : ∀ s ∈ F, s.length = n + 1) : sortB (F.map tZ) = true := by
  have h1 : ∀ d ∈ F.map tZ, ∃ s : List Int, d = tZ s ∧ s.length = n + 1 := fun d hd => by
    obtain ⟨z, hz, rfl⟩ := List.mem_map.mp hd
    exact ⟨z, rfl, h z hz⟩
  unfold sortB alikeB
  rw [Bool.and_eq_true, Bool.and_eq_true, Bool.and_eq_true, Bool.or_eq_true]
  refine ⟨⟨⟨List.all_eq_true.mpr fun d hd => List.all_eq_true.mpr fun e he => ?_, List.all_eq_true.mpr fun d hd => ?_⟩, List.all_eq_true.mpr fun d hd => ?_⟩, .inl (List.all_eq_true.mpr fun d hd => ?_)⟩
  · obtain ⟨a, rfl, _⟩ := h1 d hd
    obtain ⟨b, rfl, _⟩ := h1 e he
    exact alike_is a b
  · obtain ⟨a, rfl, _⟩ := h1 d hd; rfl
  · obtain ⟨a, rfl, _⟩ := h1 d hd; exact okD_T a
  · obtain ⟨a, rfl, ha⟩ := h1 d hd
    cases a with
    | nil => cases ha
    | cons x r => rfl
theorem sortD_Z {n : Nat} {F ks : List (List Int)} (h : ∀ s ∈ F, s.length = n) (nd : F.Nodup) (mem : ∀ x, x ∈ F ↔ x ∈ ks) : sortD (F.map tZ) = (srtZ ks).map tZ := by
  have e : sortD (F.map tZ) = (F.mergeSort lexZ).map tZ := by
    unfold sortD
    rw [List.map_mergeSort (s := PySem.W.dataLe false id)]
    intro a ha b hb
    rw [lexI_Z a b ((h a ha).trans (h b hb).symm)]
    have := lt_Z (a := b) (b := a) ((h b hb).trans (h a ha).symm)
    show (!lexI b a) = !(PyProof.Rows.lexLt PyProof.Rows.itemOrd (PySem.W.keyToks (tZ b)) (PySem.W.keyToks (tZ a)))
    rw [← this]; rfl
  rw [e]
  congr 1
  have p : (F.mergeSort lexZ).Perm F := List.mergeSort_perm _ _
  exact srtZ_eq (p.nodup_iff.mpr nd) (fun x => p.mem_iff.trans (mem x)) (List.pairwise_mergeSort lexZ_trans lexZ_total _)
def shR (x y z : Int) : List Int := [max (2 * x + 2 * y) (z + min x y), min (2 * x + 2 * y) (z + min x y)]
def sh3 (a b c : Int) : List (List Int) := [shR a b c, shR a c b, shR b c a]
def shs (a b c : Int) : List (List Int) := srtZ (sh3 a b c)
def stF (F : List (List Int)) (s : List Int) : List (List Int) := if s ∈ F then F else F ++ [s]
theorem stF_mem {F : List (List Int)} {s x : List Int} : x ∈ stF F s ↔ x ∈ F ∨ x = s := by
  unfold stF
  split
  · next h => exact ⟨.inl, fun k => k.elim id fun e => e ▸ h⟩
  · rw [List.mem_append, List.mem_singleton]
theorem stF_nd {F : List (List Int)} {s : List Int} (h : F.Nodup) : (stF F s).Nodup := by
  unfold stF
  split
  · exact h
  · next k => exact List.nodup_append.mpr ⟨h, List.pairwise_singleton _ _, fun a ha b hb => by rw [List.mem_singleton.mp hb]; exact fun e => k (e ▸ ha)⟩
theorem stF_len {F : List (List Int)} {s : List Int} : (stF F s).length ≤ F.length + 1 := by
  unfold stF
  split
  · omega
  · rw [List.length_append]; simp
theorem sh3_len {a b c : Int} {s : List Int} (h : s ∈ sh3 a b c) : s.length = 2 := by
  unfold sh3 at h
  simp only [List.mem_cons, List.not_mem_nil, or_false] at h
  rcases h with rfl | rfl | rfl <;> rfl
/-- the sheets as pairs -/
def pr (p : Int × Int) : List Int := [p.1, p.2]
def shP (a b c : Int) : List (Int × Int) := (shs a b c).map fun s => (s.getD 0 0, s.getD 1 0)
theorem shP_pr (a b c : Int) : (shP a b c).map pr = shs a b c := by
  unfold shP
  rw [List.map_map]
  have : ∀ s ∈ shs a b c, (pr ∘ fun s : List Int => (s.getD 0 0, s.getD 1 0)) s = s := fun s hs => by
    have := sh3_len (srtZ_mem.mp hs)
    match s, this with
    | [x, y], _ => rfl
  rw [List.map_congr_left this]
  exact List.map_id _
def dP (p : Int × Int) : D := .tuple [.int p.1, .int p.2]
theorem dP_map (l : List (Int × Int)) : l.map dP = (l.map pr).map tZ := by rw [List.map_map]; rfl
theorem shP_mem {a b c : Int} {p : Int × Int} : p ∈ shP a b c ↔ pr p ∈ sh3 a b c := by
  rw [← srtZ_mem, show srtZ (sh3 a b c) = shs a b c from rfl, ← shP_pr]
  refine ⟨fun h => List.mem_map.mpr ⟨p, h, rfl⟩, fun h => ?_⟩
  obtain ⟨q, hq, e⟩ := List.mem_map.mp h
  unfold pr at e
  injection e with e1 e2
  injection e2 with e2 _
  have : q = p := Prod.ext e1 e2
  exact this ▸ hq
theorem shP_of {a b c : Int} {p : Int × Int} (h : p ∈ shP a b c) : ∃ x y z, ((x = a ∧ y = b ∧ z = c) ∨ (x = a ∧ y = c ∧ z = b) ∨ (x = b ∧ y = c ∧ z = a)) ∧ p.1 = max (2 * x + 2 * y) (z + min x y) ∧ p.2 = min (2 * x + 2 * y) (z + min x y) := by
  have h := shP_mem.mp h
  unfold sh3 pr shR at h
  simp only [List.mem_cons, List.not_mem_nil, or_false, List.cons.injEq, and_true] at h
  rcases h with h | h | h
  · exact ⟨a, b, c, .inl ⟨rfl, rfl, rfl⟩, h⟩
  · exact ⟨a, c, b, .inr (.inl ⟨rfl, rfl, rfl⟩), h⟩
  · exact ⟨b, c, a, .inr (.inr ⟨rfl, rfl, rfl⟩), h⟩
theorem shP_ne (a b c : Int) : shP a b c ≠ [] := fun e => by
  have : (max (2 * a + 2 * b) (c + min a b), min (2 * a + 2 * b) (c + min a b)) ∈ shP a b c := shP_mem.mpr (by
    unfold sh3; exact List.mem_cons_self)
  rw [e] at this
  nomatch this
theorem shP_pw (a b c : Int) : (shP a b c).Pairwise fun p q => lexI (pr p) (pr q) = true := by
  have h : (shs a b c).Pairwise fun p q => lexI p q = true := by
    have h1 := srtZ_pw (sh3 a b c)
    have h2 := srtZ_nd (sh3 a b c)
    refine (h1.and h2).imp_of_mem fun {x y} hx hy h => ?_
    obtain ⟨k1, k2⟩ := h
    have lx := sh3_len (srtZ_mem.mp hx)
    have ly := sh3_len (srtZ_mem.mp hy)
    have e := lexI_Z y x (ly.trans lx.symm)
    cases h3 : lexI x y with
    | true => rfl
    | false =>
      rw [h3] at e
      exact absurd (lexZ_anti x y k1 e) k2
  rw [← shP_pr, List.pairwise_map] at h
  exact h
theorem ddZ_len : ∀ l : List (List Int), (ddZ l).length ≤ l.length
  | [] => Nat.le_refl _
  | x :: r => by
    have ih := ddZ_len r
    unfold ddZ
    split
    · rw [List.length_cons]; omega
    · rw [List.length_cons, List.length_cons]; omega
theorem shP_len (a b c : Int) : (shP a b c).length ≤ 3 := by
  unfold shP
  rw [List.length_map]
  have h1 : (shs a b c).length = (ddZ (sh3 a b c)).length := (srtZ_perm _).length_eq
  have h2 := ddZ_len (sh3 a b c)
  have h3 : (sh3 a b c).length = 3 := rfl
  omega


/-! ## sheets: the walks -/
theorem max_c (a b : Int) : (if b > a then b else a) = max a b := by split <;> omega
theorem min_c (a b : Int) : (if b < a then b else a) = min a b := by split <;> omega
theorem v_round (x y z : Int) : m_sheet_round [.sh (.int x), .sh (.int y), .sh (.int z)] = some (.sh (tZ (shR x y z)), []) := by
  have m1 : mulOk 2 x = true := mulOk_l (by decide)
  have m2 : mulOk 2 y = true := mulOk_l (by decide)
  have e1 : cMin2 [.int x, .int y] = some (.int (min x y)) := by rw [ev_min2, min_c]
  have e2 : cMax2 [.int (2 * x + 2 * y), .int (z + min x y)] = some (.int (max (2 * x + 2 * y) (z + min x y))) := by rw [ev_max2, max_c]
  have e3 : cMin2 [.int (2 * x + 2 * y), .int (z + min x y)] = some (.int (min (2 * x + 2 * y) (z + min x y))) := by rw [ev_min2, min_c]
  have z2 : 2 ≤ sizeLine := by decide
  refine fn_ret (ρ' := [.sh (.int (x)), .sh (.int (y)), .sh (.int (z)), .sh (.int ((2 * x + 2 * y))), .sh (.int ((z + min x y)))]) ?_
  show s_sheet_round [.sh (.int (x)), .sh (.int (y)), .sh (.int (z)), .dead, .dead] = some (.rt (.sh (.tuple [.int (max (2 * x + 2 * y) (z + min x y)), .int (min (2 * x + 2 * y) (z + min x y))])) _)
  unfold s_sheet_round
  generalize max (2 * x + 2 * y) (z + min x y) = A at *
  generalize min (2 * x + 2 * y) (z + min x y) = B at *
  generalize min x y = C at *
  generalize cMax2 = f at *
  generalize cMin2 = g at *
  simp [m1, m2, e1, e2, e3, z2]
theorem sh3_ok {a b c : Int} (ha : 1 ≤ a) (hb : 1 ≤ b) (hc : 1 ≤ c) : okZ (sh3 a b c) = true := by
  unfold okZ
  rw [Bool.and_eq_true, decide_eq_true_eq, List.all_eq_true]
  refine ⟨by show 3 < 64; decide, fun s hs => ?_⟩
  rw [Bool.and_eq_true, Bool.and_eq_true, decide_eq_true_eq, decide_eq_true_eq, List.all_eq_true]
  refine ⟨sh3_len hs, by rw [sh3_len hs]; decide, fun z hz => ?_⟩
  rw [decide_eq_true_eq]
  unfold sh3 at hs
  simp only [List.mem_cons, List.not_mem_nil, or_false] at hs
  rcases hs with rfl | rfl | rfl <;> (unfold shR at hz; simp only [List.mem_cons, List.not_mem_nil, or_false] at hz; rcases hz with rfl | rfl <;> omega)
def sT (a b c : Int) : D := .tuple ((shP a b c).map dP)
theorem sT_eq (a b c : Int) : sT a b c = .tuple ((shs a b c).map tZ) := by unfold sT; rw [dP_map, shP_pr]
theorem v_sheets {a b c : Int} (ha : 1 ≤ a) (hb : 1 ≤ b) (hc : 1 ≤ c) : m_sheets_for_box [.sh (.int a), .sh (.int b), .sh (.int c)] = some (.sh (sT a b c), []) := by
  have e1 := v_round a b c
  have e2 := v_round a c b
  have e3 := v_round b c a
  have e4 : cSrtSetT (.list [tZ (shR a b c), tZ (shR a c b), tZ (shR b c a)]) = some (.ol ((shs a b c).map tZ)) := srt_tZ (sh3_ok ha hb hc)
  have z3 : 3 ≤ sizeLine := by decide
  rw [sT_eq]
  refine fn_ret (ρ' := [.sh (.int (a)), .sh (.int (b)), .sh (.int (c))]) ?_
  show s_sheets_for_box [.sh (.int (a)), .sh (.int (b)), .sh (.int (c))] = _
  generalize (shs a b c).map tZ = S at *
  generalize tZ (shR a b c) = A at *
  generalize tZ (shR a c b) = B at *
  generalize tZ (shR b c a) = C at *
  simp [s_sheets_for_box, e1, e2, e3, e4, z3]
theorem ls_b {a b c : Int} {x y z : Int} {F : List (List Int)} (hF : F.length ≤ 100) : b__law_sheets_1 [.sh (.int (a)), .sh (.int (b)), .sh (.int (c)), .ol (F.map tZ), .sh (.int (x)), .sh (.int (y)), .sh (.int (z)), .dead, .dead, .dead] =
    some (.nx [.sh (.int (a)), .sh (.int (b)), .sh (.int (c)), .ol ((stF F (shR x y z)).map tZ), .sh (.int (x)), .sh (.int (y)), .sh (.int (z)), .sh (.int ((2 * x + 2 * y))), .sh (.int ((z + min x y))), .sh (tZ (shR x y z))]) := by
  have m1 : mulOk 2 (x + y) = true := mulOk_l (by decide)
  have ex : 2 * (x + y) = 2 * x + 2 * y := by omega
  have e1 : cMin2 [.int x, .int y] = some (.int (min x y)) := by rw [ev_min2, min_c]
  have e2 : cMax2 [.int (2 * x + 2 * y), .int (z + min x y)] = some (.int (max (2 * x + 2 * y) (z + min x y))) := by rw [ev_max2, max_c]
  have e3 : cMin2 [.int (2 * x + 2 * y), .int (z + min x y)] = some (.int (min (2 * x + 2 * y) (z + min x y))) := by rw [ev_min2, min_c]
  have z2 : 2 ≤ sizeLine := by decide
  have hl : (F.map tZ).length < sizeLine := by rw [List.length_map]; unfold sizeLine; omega
  have eb := bNotIn_Z (shR x y z) F
  have es : tZ (shR x y z) = .tuple [.int (max (2 * x + 2 * y) (z + min x y)), .int (min (2 * x + 2 * y) (z + min x y))] := rfl
  have ef : (stF F (shR x y z)).map tZ = if (!decide (shR x y z ∈ F)) = true then F.map tZ ++ [tZ (shR x y z)] else F.map tZ := by
    unfold stF
    by_cases h : shR x y z ∈ F
    · rw [if_pos h, decide_eq_true h]; rfl
    · rw [if_neg h, decide_eq_false h, List.map_append]; rfl
  rw [ef]
  generalize (!decide (shR x y z ∈ F)) = w at *
  unfold b__law_sheets_1
  refine (seq_nx (ρ1 := [.sh (.int (a)), .sh (.int (b)), .sh (.int (c)), .ol (F.map tZ), .sh (.int (x)), .sh (.int (y)), .sh (.int (z)), .sh (.int ((2 * x + 2 * y))), .dead, .dead]) ?_).trans ?_
  · rw [← ex]
    generalize F.map tZ = G at *
    simp [m1]
  refine (seq_nx (ρ1 := [.sh (.int (a)), .sh (.int (b)), .sh (.int (c)), .ol (F.map tZ), .sh (.int (x)), .sh (.int (y)), .sh (.int (z)), .sh (.int ((2 * x + 2 * y))), .sh (.int ((z + min x y))), .dead]) ?_).trans ?_
  · generalize F.map tZ = G at *
    generalize min x y = C at *
    generalize cMin2 = g at *
    simp [e1]
  refine (seq_nx (ρ1 := [.sh (.int (a)), .sh (.int (b)), .sh (.int (c)), .ol (F.map tZ), .sh (.int (x)), .sh (.int (y)), .sh (.int (z)), .sh (.int ((2 * x + 2 * y))), .sh (.int ((z + min x y))), .sh (tZ (shR x y z))]) ?_).trans ?_
  · rw [es]
    generalize F.map tZ = G at *
    generalize max (2 * x + 2 * y) (z + min x y) = A at *
    generalize min (2 * x + 2 * y) (z + min x y) = B at *
    generalize min x y = C at *
    generalize cMax2 = f at *
    generalize cMin2 = g at *
    simp [e2, e3, z2]
  clear es ef
  have hS : noL (tZ (shR x y z)) = true := noLs_is _
  generalize tZ (shR x y z) = S at *
  generalize F.map tZ = G at *
  generalize hb : bNotIn = g at *
  cases w <;> simp [eb, lAppend, hl, hS]
theorem v_lsheets (a b c : Int) : m__law_sheets [.sh (.int a), .sh (.int b), .sh (.int c)] = some (.sh (sT a b c), []) := by
  have z3 : 3 ≤ sizeLine := by decide
  have hi : iSq (eFrz (eLst (aCons (eTup (aCons (eVar 0) (aCons (eVar 1) (aCons (eVar 2) (aNil))))) (aCons (eTup (aCons (eVar 0) (aCons (eVar 2) (aCons (eVar 1) (aNil))))) (aCons (eTup (aCons (eVar 1) (aCons (eVar 2) (aCons (eVar 0) (aNil))))) (aNil)))))) [.sh (.int (a)), .sh (.int (b)), .sh (.int (c)), .ol ([]), .dead, .dead, .dead, .dead, .dead, .dead] =
      some ([.tuple [.int a, .int b, .int c], .tuple [.int a, .int c, .int b], .tuple [.int b, .int c, .int a]], [.sh (.int (a)), .sh (.int (b)), .sh (.int (c)), .ol ([]), .dead, .dead, .dead, .dead, .dead, .dead]) := by simp [z3]
  have st : ∀ (x y z : Int) (F : List (List Int)) (ρ : En), F.length ≤ 100 → killL [4, 5, 6, 7, 8, 9] ρ = [.sh (.int (a)), .sh (.int (b)), .sh (.int (c)), .ol (F.map tZ), .dead, .dead, .dead, .dead, .dead, .dead] →
      (gTp 3 (gCn (gNm 4) (gCn (gNm 5) (gCn (gNm 6) (gNl)))) (.tuple [.int x, .int y, .int z]) (killL [4, 5, 6, 7, 8, 9] ρ)).bind b__law_sheets_1 = some (.nx [.sh (.int (a)), .sh (.int (b)), .sh (.int (c)), .ol ((stF F (shR x y z)).map tZ), .sh (.int (x)), .sh (.int (y)), .sh (.int (z)), .sh (.int ((2 * x + 2 * y))), .sh (.int ((z + min x y))), .sh (tZ (shR x y z))]) := fun x y z F ρ hF e => by
    rw [e]
    exact ls_b hF
  have L := for_hx ll__law_sheets_1 hi ((loop_cons (b := fun x ρ => (gTp 3 (gCn (gNm 4) (gCn (gNm 5) (gCn (gNm 6) (gNl)))) x ρ).bind b__law_sheets_1) rfl (st a b c [] _ (by simp) rfl)).trans ((loop_cons rfl (st a c b _ _ (Nat.le_trans stF_len (by simp)) rfl)).trans ((loop_cons rfl (st b c a _ _ (Nat.le_trans stF_len (by have := stF_len (F := []) (s := shR a b c); simp at this; omega)) rfl)).trans (loop_nil rfl))))
  have hm : ∀ x, x ∈ stF (stF (stF [] (shR a b c)) (shR a c b)) (shR b c a) ↔ x ∈ sh3 a b c := fun x => by
    rw [stF_mem, stF_mem, stF_mem]
    unfold sh3
    simp only [List.mem_cons, List.not_mem_nil, or_false, false_or, or_assoc]
  have hnd : (stF (stF (stF [] (shR a b c)) (shR a c b)) (shR b c a)).Nodup := stF_nd (stF_nd (stF_nd List.nodup_nil))
  have hln : ∀ s ∈ stF (stF (stF [] (shR a b c)) (shR a c b)) (shR b c a), s.length = 1 + 1 := fun s hs => sh3_len ((hm s).mp hs)
  have e1 : cSortU [.list ((stF (stF (stF [] (shR a b c)) (shR a c b)) (shR b c a)).map tZ)] = some (.ol ((shs a b c).map tZ)) := by
    show (if sortB _ = true then some (Cell.ol (sortD _)) else none) = _
    rw [if_pos (sortB_Z hln), sortD_Z hln hnd hm]; rfl
  rw [sT_eq]
  generalize (stF (stF (stF [] (shR a b c)) (shR a c b)) (shR b c a)).map tZ = G at *
  refine fn_ret (ρ' := [.sh (.int (a)), .sh (.int (b)), .sh (.int (c)), .sh (.list (G)), .dead, .dead, .dead, .dead, .dead, .dead]) ?_
  show s__law_sheets [.sh (.int (a)), .sh (.int (b)), .sh (.int (c)), .dead, .dead, .dead, .dead, .dead, .dead, .dead] = _
  unfold s__law_sheets
  refine (seq_nx (ρ1 := [.sh (.int (a)), .sh (.int (b)), .sh (.int (c)), .ol ([]), .dead, .dead, .dead, .dead, .dead, .dead]) (by simp)).trans ?_
  refine (seq_nx L).trans ?_
  show (sRet (eCB cTuple (aCons (eFrz (eCBN cSortU (aCons (eVar 3) (aNil)))) (aNil)))) [.sh (.int (a)), .sh (.int (b)), .sh (.int (c)), .ol (G), .dead, .dead, .dead, .dead, .dead, .dead] = _
  clear L hm hnd hln st hi
  generalize (shs a b c).map tZ = S at *
  simp [e1]
/-! ### the least sheet -/
def prd (p : Int × Int) : Int := p.1 * p.2
def stP (a y : Int × Int) : Int × Int := if prd y < prd a then y else a
def lsh (a b c : Int) : Int × Int := match shP a b c with
  | [] => (0, 0)
  | p :: r => r.foldl stP p
def dQ (p : Int × Int) : D := .tuple [.int (prd p), dP p]
theorem lt_Q (p q : Int × Int) : PySem.W.dataLt (dQ p) (dQ q) = (decide (prd p < prd q) || (decide (prd p = prd q) && lexI (pr p) (pr q))) := by
  have e := lexS (u := [.inl 0]) (pr p) (pr q) rfl
  show PyProof.Rows.lexLt PyProof.Rows.itemOrd (.inl 1 :: .inl (prd p) :: .inl 1 :: (PySem.W.keyToksAll (is (pr p)) ++ [.inl 0])) (.inl 1 :: .inl (prd q) :: .inl 1 :: (PySem.W.keyToksAll (is (pr q)) ++ [.inl 0])) = _
  rw [PyProof.Rows.lex_self, PyProof.Rows.lex_cons, PyProof.Rows.lex_self, e]
  show (decide (prd p < prd q) || (!decide (prd q < prd p) && lexI (pr p) (pr q))) = _
  rcases Int.lt_trichotomy (prd p) (prd q) with c | c | c
  · rw [decide_eq_true c]; rfl
  · rw [c, decide_eq_false (Int.lt_irrefl _), decide_eq_true rfl]; rfl
  · rw [decide_eq_false (show ¬ prd p < prd q by omega), decide_eq_false (show ¬ prd p = prd q by omega), decide_eq_true c]; rfl
theorem lexI_asym {a b : List Int} (h : a.length = b.length) (k : lexI a b = true) : lexI b a = false := by
  have e1 := lexI_Z b a h.symm
  rw [k] at e1
  cases h2 : lexI b a with
  | false => rfl
  | true =>
    have e2 := lexI_Z a b h
    rw [h2] at e2
    have t := lexZ_total a b
    rw [e1, e2] at t
    cases t
theorem min_fold : ∀ (l : List (Int × Int)) (a : Int × Int), (∀ y ∈ l, lexI (pr a) (pr y) = true) → l.Pairwise (fun p q => lexI (pr p) (pr q) = true) → PySem.W.minD (dQ a) (l.map dQ) = dQ (l.foldl stP a)
  | [], a, _, _ => rfl
  | y :: r, a, h, hp => by
    have e : PySem.W.dataLt (dQ y) (dQ a) = decide (prd y < prd a) := by
      rw [lt_Q, lexI_asym (a := pr a) (b := pr y) rfl (h y List.mem_cons_self), Bool.and_false, Bool.or_false]
    show PySem.W.minD (if PySem.W.dataLt (dQ y) (dQ a) then dQ y else dQ a) (r.map dQ) = dQ (r.foldl stP (stP a y))
    have e2 : (if PySem.W.dataLt (dQ y) (dQ a) then dQ y else dQ a) = dQ (stP a y) := by
      rw [e]
      unfold stP
      by_cases c : prd y < prd a
      · rw [if_pos c, decide_eq_true c, if_pos rfl]
      · rw [if_neg c, decide_eq_false c, if_neg (by simp)]
    rw [e2]
    refine min_fold r _ (fun z hz => ?_) (List.pairwise_cons.mp hp).2
    unfold stP
    split
    · exact List.rel_of_pairwise_cons hp hz
    · exact h z (List.mem_cons_of_mem _ hz)
theorem lsh_mem (a b c : Int) : lsh a b c ∈ shP a b c := by
  have f : ∀ (l : List (Int × Int)) (x : Int × Int), l.foldl stP x = x ∨ l.foldl stP x ∈ l := by
    intro l
    induction l with
    | nil => exact fun x => .inl rfl
    | cons y r ih =>
      intro x
      rw [List.foldl_cons]
      rcases ih (stP x y) with h | h
      · rw [h]
        unfold stP
        split
        · exact .inr List.mem_cons_self
        · exact .inl rfl
      · exact .inr (List.mem_cons_of_mem _ h)
  unfold lsh
  have hne := shP_ne a b c
  cases h : shP a b c with
  | nil => exact absurd h hne
  | cons p r =>
    rcases f r p with k | k
    · show r.foldl stP p ∈ p :: r
      rw [k]; exact List.mem_cons_self
    · exact List.mem_cons_of_mem _ k


/-! ## the least sheet, what wraps: the walks -/
/-- sides of a box -/
structure Box (S : Nat) (a b c : Int) : Prop where
  a1 : 1 ≤ a
  b1 : 1 ≤ b
  c1 : 1 ≤ c
  ab : Bd S a
  bb : Bd S b
  cb : Bd S c
  sS : S ≤ 40000000
theorem Box.bd {S : Nat} {a b c : Int} (h : Box S a b c) {p : Int × Int} (hp : p ∈ shP a b c) : Bd (S + 3) p.1 ∧ Bd (S + 3) p.2 ∧ 1 ≤ p.1 ∧ 1 ≤ p.2 := by
  obtain ⟨x, y, z, hc, h1, h2⟩ := shP_of hp
  have ha := h.ab
  have hb := h.bb
  have hcc := h.cb
  have a1 := h.a1
  have b1 := h.b1
  have c1 := h.c1
  have e : 2 ^ (S + 3) = 8 * 2 ^ S := by rw [Nat.pow_add, Nat.mul_comm]
  unfold Bd at *
  rw [h1, h2, e]
  generalize 2 ^ S = X at *
  have hx : x.natAbs < X ∧ y.natAbs < X ∧ z.natAbs < X ∧ 1 ≤ x ∧ 1 ≤ y ∧ 1 ≤ z := by
    rcases hc with ⟨rfl, rfl, rfl⟩ | ⟨rfl, rfl, rfl⟩ | ⟨rfl, rfl, rfl⟩ <;> omega
  clear hc h1 h2 ha hb hcc a1 b1 c1
  omega
theorem Box.mul {S : Nat} {a b c : Int} (h : Box S a b c) {p : Int × Int} (hp : p ∈ shP a b c) : mulOk p.1 p.2 = true := by
  obtain ⟨h1, h2, _⟩ := h.bd hp
  have := h.sS
  exact h1.mulOk h2 (by omega)
theorem bind_tp2 {i j : Nat} {p : Int × Int} {ρ : En} : gTp 2 (gCn (gNm i) (gCn (gNm j) (gNl))) (dP p) ρ = some ((ρ.set i (.sh (.int p.1))).set j (.sh (.int p.2))) := rfl
theorem minQ {p : Int × Int} {r : List (Int × Int)} (h : (p :: r).Pairwise fun p q => lexI (pr p) (pr q) = true) : cMinL [.list ((p :: r).map dQ)] = some (dQ (r.foldl stP p)) := by
  have ha : alikeB ((p :: r).map dQ) = true := by
    have h1 : ∀ d ∈ (p :: r).map dQ, ∃ q : Int × Int, d = dQ q := fun d hd => by
      obtain ⟨z, hz, rfl⟩ := List.mem_map.mp hd
      exact ⟨z, rfl⟩
    unfold alikeB
    rw [Bool.and_eq_true, Bool.and_eq_true]
    refine ⟨⟨List.all_eq_true.mpr fun d hd => List.all_eq_true.mpr fun e he => ?_, List.all_eq_true.mpr fun d hd => ?_⟩, List.all_eq_true.mpr fun d hd => ?_⟩
    · obtain ⟨a, rfl⟩ := h1 d hd
      obtain ⟨b, rfl⟩ := h1 e he
      rfl
    · obtain ⟨a, rfl⟩ := h1 d hd; rfl
    · obtain ⟨a, rfl⟩ := h1 d hd; rfl
  show (if alikeB (dQ p :: r.map dQ) = true then some (PySem.W.minD (dQ p) (r.map dQ)) else none) = _
  rw [List.map_cons] at ha
  rw [if_pos ha, min_fold r p (fun y hy => List.rel_of_pairwise_cons h hy) (List.pairwise_cons.mp h).2]
theorem v_least {S : Nat} {a b c : Int} (h : Box S a b c) : m_least_sheet [.sh (.int a), .sh (.int b), .sh (.int c)] = some (.sh (dP (lsh a b c)), []) := by
  have e1 := v_sheets h.a1 h.b1 h.c1
  have z2 : 2 ≤ sizeLine := by decide
  have hl3 := shP_len a b c
  have ek : k_least_sheet_1 [.sh (.int (a)), .sh (.int (b)), .sh (.int (c)), .dead, .dead] = some (.ol ((shP a b c).map dQ), [.sh (.int (a)), .sh (.int (b)), .sh (.int (c)), .dead, .dead]) := by
    rw [kk_least_sheet_1]
    refine ev_compA dP dQ (shP a b c) (ρi := [.sh (.int (a)), .sh (.int (b)), .sh (.int (c)), .dead, .dead]) (ρ0 := [.sh (.int (a)), .sh (.int (b)), .sh (.int (c)), .dead, .dead]) ?_ rfl (by unfold sizeLine; omega) fun p hp => ?_
    · have e1 : m_sheets_for_box [.sh (.int a), .sh (.int b), .sh (.int c)] = some (.sh (.tuple ((shP a b c).map dP)), []) := e1
      generalize (shP a b c).map dP = L at *
      simp [e1]
    · have hm := h.mul hp
      refine ⟨[.sh (.int (a)), .sh (.int (b)), .sh (.int (c)), .sh (.int (p.1)), .sh (.int (p.2))], [.sh (.int (a)), .sh (.int (b)), .sh (.int (c)), .sh (.int (p.1)), .sh (.int (p.2))], bind_tp2, ?_, rfl⟩
      show _ = some (PyData.tuple [.int (p.1 * p.2), .tuple [.int p.1, .int p.2]], _)
      generalize p.1 = x at *
      generalize p.2 = y at *
      simp [hm, z2]
  have em : cMinL [.list ((shP a b c).map dQ)] = some (dQ (lsh a b c)) := by
    have hne := shP_ne a b c
    have hp := shP_pw a b c
    unfold lsh
    cases hh : shP a b c with
    | nil => exact absurd hh hne
    | cons p r =>
      rw [hh] at hp
      exact minQ hp
  have ei : dIx (dQ (lsh a b c)) (.int 1) = some (dP (lsh a b c)) := rfl
  refine fn_ret (ρ' := [.sh (.int (a)), .sh (.int (b)), .sh (.int (c)), .dead, .dead]) ?_
  show s_least_sheet [.sh (.int (a)), .sh (.int (b)), .sh (.int (c)), .dead, .dead] = _
  generalize (shP a b c).map dQ = L at *
  generalize dP (lsh a b c) = P at *
  generalize dQ (lsh a b c) = Q at *
  simp [s_least_sheet, ek, em, ei]
theorem v_lleast {S : Nat} {a b c : Int} (h : Box S a b c) : m__law_least_sheet [.sh (.int a), .sh (.int b), .sh (.int c)] = some (.sh (dP (lsh a b c)), []) := by
  have e1 : m__law_sheets [.sh (.int a), .sh (.int b), .sh (.int c)] = some (.sh (.tuple ((shP a b c).map dP)), []) := v_lsheets a b c
  have hi : iSq (eRetD (eCall0 m__law_sheets (aCons (eVar 0) (aCons (eVar 1) (aCons (eVar 2) (aNil)))))) [.sh (.int (a)), .sh (.int (b)), .sh (.int (c)), .sh (.none), .dead] = some ((shP a b c).map dP, [.sh (.int (a)), .sh (.int (b)), .sh (.int (c)), .sh (.none), .dead]) := by
    generalize (shP a b c).map dP = L at *
    simp [e1]
  have stp : ∀ p q : Int × Int, mulOk p.1 p.2 = true → mulOk q.1 q.2 = true → b__law_least_sheet_1 [.sh (.int (a)), .sh (.int (b)), .sh (.int (c)), .sh (dP p), .sh (dP q)] = some (.nx [.sh (.int (a)), .sh (.int (b)), .sh (.int (c)), .sh (dP (stP p q)), .sh (dP q)]) := fun p q hp hq => by
    have a1 : dIx (dP p) (.int 0) = some (.int p.1) := rfl
    have a2 : dIx (dP p) (.int 1) = some (.int p.2) := rfl
    have a3 : dIx (dP q) (.int 0) = some (.int q.1) := rfl
    have a4 : dIx (dP q) (.int 1) = some (.int q.2) := rfl
    have a5 : isNone (dP p) = false := rfl
    have es : dP (stP p q) = if q.1 * q.2 < p.1 * p.2 then dP q else dP p := by
      unfold stP prd; split <;> rfl
    rw [es]
    generalize dP p = P at *
    generalize dP q = Q at *
    generalize p.1 = x at *
    generalize p.2 = y at *
    generalize q.1 = u at *
    generalize q.2 = v at *
    generalize hmm : dMulA = f at *
    have m1 : f (.int x) (.int y) = some (.int (x * y)) := by rw [← hmm, ev_mulA, if_pos hp]
    have m2 : f (.int u) (.int v) = some (.int (u * v)) := by rw [← hmm, ev_mulA, if_pos hq]
    unfold b__law_least_sheet_1
    rw [hmm]
    by_cases c : u * v < x * y
    · rw [if_pos c]; simp [a1, a2, a3, a4, a5, m1, m2, c]
    · rw [if_neg c]; simp [a1, a2, a3, a4, a5, m1, m2, c]
  have st0 : ∀ q : Int × Int, b__law_least_sheet_1 [.sh (.int (a)), .sh (.int (b)), .sh (.int (c)), .sh (.none), .sh (dP q)] = some (.nx [.sh (.int (a)), .sh (.int (b)), .sh (.int (c)), .sh (dP q), .sh (dP q)]) := fun q => by
    generalize dP q = Q at *
    simp [b__law_least_sheet_1]
  have hmem := fun p (hp : p ∈ shP a b c) => h.mul hp
  have L : l__law_least_sheet_1 [.sh (.int (a)), .sh (.int (b)), .sh (.int (c)), .sh (.none), .dead] = some (.nx [.sh (.int (a)), .sh (.int (b)), .sh (.int (c)), .sh (dP (lsh a b c)), .dead]) := by
    have hne := shP_ne a b c
    refine for_hx ll__law_least_sheet_1 hi ?_
    unfold lsh
    cases hh : shP a b c with
    | nil => exact absurd hh hne
    | cons p r =>
      rw [hh] at hmem
      rw [List.map_cons, loop_cons (ρ' := [.sh (.int (a)), .sh (.int (b)), .sh (.int (c)), .sh (dP p), .sh (dP p)]) rfl (bind_gnm.trans (st0 p))]
      have A := loop_fold dP (fun q : Int × Int => [.sh (.int (a)), .sh (.int (b)), .sh (.int (c)), .sh (dP q), .dead]) stP (xs0 := dP p :: r.map dP) (ks := [4]) (b := fun x ρ => (gNm 4 x ρ).bind b__law_least_sheet_1) (fun q => mulOk q.1 q.2 = true) (fun q => mulOk q.1 q.2 = true) (fun y s hy hs => ⟨by
        unfold stP
        split
        · exact hy
        · exact hs, _, .inl (bind_gnm.trans (stp s y hs hy)), rfl⟩) r [.sh (.int (a)), .sh (.int (b)), .sh (.int (c)), .sh (dP p), .sh (dP p)] p (fun y hy => hmem y (List.mem_cons_of_mem _ hy)) (hmem p List.mem_cons_self) rfl
      exact A.2
  refine fn_ret (ρ' := [.sh (.int (a)), .sh (.int (b)), .sh (.int (c)), .sh (dP (lsh a b c)), .dead]) ?_
  show s__law_least_sheet [.sh (.int (a)), .sh (.int (b)), .sh (.int (c)), .dead, .dead] = _
  unfold s__law_least_sheet
  refine (seq_nx (ρ1 := [.sh (.int (a)), .sh (.int (b)), .sh (.int (c)), .sh (.none), .dead]) rfl).trans ?_
  exact (seq_nx L).trans rfl
/-! ### what wraps -/
def wr (x y : Int) (p : Int × Int) : Bool := decide (p.1 ≤ x) && decide (p.2 ≤ y)
theorem v_wrap {S : Nat} {a b c x y : Int} (h : Box S a b c) : m_can_wrap [.sh (dP (x, y)), .sh (.int a), .sh (.int b), .sh (.int c)] = some (.sh (.bool ((shP a b c).any (wr x y))), []) := by
  have e1 : m_sheets_for_box [.sh (.int a), .sh (.int b), .sh (.int c)] = some (.sh (.tuple ((shP a b c).map dP)), []) := v_sheets h.a1 h.b1 h.c1
  have hl3 := shP_len a b c
  have i0 : dIx (dP (x, y)) (.int 0) = some (.int x) := rfl
  have i1 : dIx (dP (x, y)) (.int 1) = some (.int y) := rfl
  have ek : k_can_wrap_1 [.sh (dP (x, y)), .sh (.int (a)), .sh (.int (b)), .sh (.int (c)), .dead, .dead] = some (.ol ((shP a b c).map fun p => .bool (wr x y p)), [.sh (dP (x, y)), .sh (.int (a)), .sh (.int (b)), .sh (.int (c)), .dead, .dead]) := by
    rw [kk_can_wrap_1]
    refine ev_compA dP (fun p => .bool (wr x y p)) (shP a b c) (ρi := [.sh (dP (x, y)), .sh (.int (a)), .sh (.int (b)), .sh (.int (c)), .dead, .dead]) (ρ0 := [.sh (dP (x, y)), .sh (.int (a)), .sh (.int (b)), .sh (.int (c)), .dead, .dead]) ?_ rfl (by unfold sizeLine; omega) fun p hp => ?_
    · generalize (shP a b c).map dP = L at *
      generalize dP (x, y) = X at *
      simp [e1]
    · refine ⟨[.sh (dP (x, y)), .sh (.int (a)), .sh (.int (b)), .sh (.int (c)), .sh (.int (p.1)), .sh (.int (p.2))], [.sh (dP (x, y)), .sh (.int (a)), .sh (.int (b)), .sh (.int (c)), .sh (.int (p.1)), .sh (.int (p.2))], bind_tp2, ?_, rfl⟩
      unfold wr
      generalize dP (x, y) = X at *
      generalize p.1 = u at *
      generalize p.2 = v at *
      by_cases c1 : u ≤ x
      · simp [i0, i1, c1]
      · simp [i0, i1, c1]
  have e2 := any_bols (shP a b c) (wr x y)
  refine fn_ret (ρ' := [.sh (dP (x, y)), .sh (.int (a)), .sh (.int (b)), .sh (.int (c)), .dead, .dead]) ?_
  show s_can_wrap [.sh (dP (x, y)), .sh (.int (a)), .sh (.int (b)), .sh (.int (c)), .dead, .dead] = _
  generalize ((shP a b c).map fun p => PyData.bool (wr x y p)) = L at *
  generalize dP (x, y) = X at *
  generalize (shP a b c).any (wr x y) = w at *
  simp [s_can_wrap, ek, e2]
theorem v_lwrap (a b c x y : Int) : m__law_can_wrap [.sh (dP (x, y)), .sh (.int a), .sh (.int b), .sh (.int c)] = some (.sh (.bool ((shP a b c).any (wr x y))), []) := by
  have e1 : m__law_sheets [.sh (.int a), .sh (.int b), .sh (.int c)] = some (.sh (.tuple ((shP a b c).map dP)), []) := v_lsheets a b c
  have hl3 := shP_len a b c
  have i0 : dIx (dP (x, y)) (.int 0) = some (.int x) := rfl
  have i1 : dIx (dP (x, y)) (.int 1) = some (.int y) := rfl
  have ek : k__law_can_wrap_1 [.sh (dP (x, y)), .sh (.int (a)), .sh (.int (b)), .sh (.int (c)), .dead] = some (.ol (((shP a b c).filter (wr x y)).map dP), [.sh (dP (x, y)), .sh (.int (a)), .sh (.int (b)), .sh (.int (c)), .dead]) := by
    rw [kk__law_can_wrap_1]
    refine ev_comp dP (wr x y) dP (shP a b c) (ρi := [.sh (dP (x, y)), .sh (.int (a)), .sh (.int (b)), .sh (.int (c)), .dead]) (ρ0 := [.sh (dP (x, y)), .sh (.int (a)), .sh (.int (b)), .sh (.int (c)), .dead]) ?_ rfl (by unfold sizeLine; omega) fun p hp => ?_
    · generalize (shP a b c).map dP = L at *
      generalize dP (x, y) = X at *
      simp [e1]
    · refine ⟨[.sh (dP (x, y)), .sh (.int (a)), .sh (.int (b)), .sh (.int (c)), .sh (dP p)], [.sh (dP (x, y)), .sh (.int (a)), .sh (.int (b)), .sh (.int (c)), .sh (dP p)], rfl, ?_, fun _ => rfl, fun _ => ⟨_, rfl, rfl⟩⟩
      have j0 : dIx (dP p) (.int 0) = some (.int p.1) := rfl
      have j1 : dIx (dP p) (.int 1) = some (.int p.2) := rfl
      unfold wr
      generalize dP (x, y) = X at *
      generalize dP p = P at *
      generalize p.1 = u at *
      generalize p.2 = v at *
      by_cases c1 : u ≤ x
      · simp [i0, i1, j0, j1, c1]
      · simp [i0, i1, j0, j1, c1]
  have ew : ((shP a b c).any (wr x y)) = decide (0 < ((((shP a b c).filter (wr x y)).map dP).length : Int)) := by
    rw [List.length_map]
    generalize shP a b c = l
    rw [Bool.eq_iff_iff, List.any_eq_true, decide_eq_true_eq]
    refine ⟨fun ⟨p, h1, h2⟩ => ?_, fun h => ?_⟩
    · have := List.length_pos_of_mem (List.mem_filter.mpr ⟨h1, h2⟩)
      omega
    · have : 0 < (l.filter (wr x y)).length := by omega
      obtain ⟨p, hp⟩ := List.exists_mem_of_length_pos this
      exact ⟨p, List.mem_filter.mp hp⟩
  rw [ew]
  refine fn_ret (ρ' := [.sh (dP (x, y)), .sh (.int (a)), .sh (.int (b)), .sh (.int (c)), .dead]) ?_
  show s__law_can_wrap [.sh (dP (x, y)), .sh (.int (a)), .sh (.int (b)), .sh (.int (c)), .dead] = _
  generalize ((shP a b c).filter (wr x y)).map dP = L at *
  generalize dP (x, y) = X at *
  simp [s__law_can_wrap, ek]
theorem v_ribbon (a b c k : Int) : m_ribbon [.sh (.int a), .sh (.int b), .sh (.int c), .sh (.int k)] = some (.sh (.int (2 * a + 2 * b + 4 * c + k)), []) := by
  have m1 : mulOk 2 a = true := mulOk_l (by decide)
  have m2 : mulOk 2 b = true := mulOk_l (by decide)
  have m3 : mulOk 4 c = true := mulOk_l (by decide)
  refine fn_ret (ρ' := [.sh (.int (a)), .sh (.int (b)), .sh (.int (c)), .sh (.int (k))]) ?_
  show s_ribbon [.sh (.int (a)), .sh (.int (b)), .sh (.int (c)), .sh (.int (k))] = _
  simp [s_ribbon, m1, m2, m3]


/-! ## the best stack: plain -/
def cond (n a b : Nat) : Bool := decide (n % (a * b) = 0) && decide (a * b * b ≤ n)
theorem cond_iff {n a b : Nat} (ha : 1 ≤ a) (hb : 1 ≤ b) : cond n a b = true ↔ a * b * (n / a / b) = n ∧ b ≤ n / a / b := by
  unfold cond
  rw [Bool.and_eq_true, decide_eq_true_eq, decide_eq_true_eq, Nat.div_div_eq_div_mul]
  have hp : 0 < a * b := Nat.mul_pos ha hb
  refine ⟨fun ⟨h1, h2⟩ => ⟨Nat.mul_div_cancel' (Nat.dvd_of_mod_eq_zero h1), ?_⟩, fun ⟨h1, h2⟩ => ⟨?_, ?_⟩⟩
  · rw [Nat.le_div_iff_mul_le hp, Nat.mul_comm]; exact h2
  · rw [← h1]; exact Nat.mul_mod_right _ _
  · rw [Nat.le_div_iff_mul_le hp, Nat.mul_comm] at h2; exact h2
def trA (n a : Nat) : List Nat := (List.range' a (n + 1 - a)).filter (cond n a)
theorem cond_big {n a b : Nat} (hn : 1 ≤ n) (h : n / a < b) (ha : 1 ≤ a) : cond n a b = false := by
  cases hc : cond n a b with
  | false => rfl
  | true =>
    obtain ⟨h1, h2⟩ := (cond_iff ha (Nat.lt_of_le_of_lt (Nat.zero_le _) h)).mp hc
    have : n / a / b = 0 := Nat.div_eq_of_lt h
    rw [this, Nat.mul_zero] at h1
    omega
theorem trA_div {n a : Nat} (hn : 1 ≤ n) (ha : 1 ≤ a) (h : n % a = 0) : trA n a = (List.range' a (n / a + 1 - a)).filter (cond n a) := by
  unfold trA
  have hle : n / a ≤ n := Nat.div_le_self n a
  have e : List.range' a (n + 1 - a) = List.range' a (n / a + 1 - a) ++ List.range' (a + (n / a + 1 - a)) (n + 1 - a - (n / a + 1 - a)) := by
    rw [List.range'_append_1]
    congr 1
    omega
  rw [e, List.filter_append]
  have : (List.range' (a + (n / a + 1 - a)) (n + 1 - a - (n / a + 1 - a))).filter (cond n a) = [] := by
    rw [List.filter_eq_nil_iff]
    intro b hb
    have := (List.mem_range'_1.mp hb).1
    rw [cond_big hn (by omega) ha]
    simp
  rw [this, List.append_nil]
theorem trA_not {n a : Nat} (ha : 1 ≤ a) (h : ¬ n % a = 0) : trA n a = [] := by
  unfold trA
  rw [List.filter_eq_nil_iff]
  intro b hb hc
  have hb := (List.mem_range'_1.mp hb).1
  obtain ⟨h1, h2⟩ := (cond_iff ha (by omega)).mp hc
  apply h
  rw [← h1, Nat.mul_assoc]
  exact Nat.mul_mod_right _ _
theorem trA_sq {n a b : Nat} (h : n < a * b * b) : ∀ m : Nat, (List.range' b m).filter (cond n a) = [] := fun m => by
  rw [List.filter_eq_nil_iff]
  intro x hx hc
  have hx := (List.mem_range'_1.mp hx).1
  unfold cond at hc
  rw [Bool.and_eq_true, decide_eq_true_eq, decide_eq_true_eq] at hc
  have h1 : a * b * b ≤ a * x * x := Nat.mul_le_mul (Nat.mul_le_mul_left _ hx) hx
  omega
theorem trA_cube {n a x : Nat} (h : n < a * a * a) (hx : a ≤ x) : trA n x = [] := by
  unfold trA
  refine trA_sq ?_ _
  have h1 : a * a * a ≤ x * x * x := Nat.mul_le_mul (Nat.mul_le_mul hx hx) hx
  omega
def tri (n a b : Nat) : Nat × Nat × Nat := (a, b, n / (a * b))
def trs (n : Nat) (l : List Nat) : List (Nat × Nat × Nat) := l.flatMap fun a => (trA n a).map (tri n a)
def pT (t : Nat × Nat × Nat) : Int := prd (lsh (t.1 : Int) (t.2.1 : Int) (t.2.2 : Int))
def d3 (t : Nat × Nat × Nat) : D := .tuple [.int (t.1 : Int), .int (t.2.1 : Int), .int (t.2.2 : Int)]
def dR (t : Nat × Nat × Nat) : D := .tuple [.int (pT t), d3 t]
def upT (o : Option (Nat × Nat × Nat)) (t : Nat × Nat × Nat) : Option (Nat × Nat × Nat) := match o with
  | none => some t
  | some s => if PySem.W.dataLt (dR t) (dR s) = true then some t else some s
theorem minT : ∀ (l : List (Nat × Nat × Nat)) (s : Nat × Nat × Nat), ∃ t, l.foldl upT (some s) = some t ∧ PySem.W.minD (dR s) (l.map dR) = dR t
  | [], s => ⟨s, rfl, rfl⟩
  | x :: r, s => by
    show ∃ t, r.foldl upT (upT (some s) x) = some t ∧ PySem.W.minD (if PySem.W.dataLt (dR x) (dR s) = true then dR x else dR s) (r.map dR) = dR t
    show ∃ t, r.foldl upT (if PySem.W.dataLt (dR x) (dR s) = true then some x else some s) = some t ∧ _
    by_cases h : PySem.W.dataLt (dR x) (dR s) = true
    · rw [if_pos h, if_pos h]; exact minT r x
    · rw [if_neg h, if_neg h]; exact minT r s
theorem min_R {t : Nat × Nat × Nat} {r : List (Nat × Nat × Nat)} : ∃ u, (t :: r).foldl upT none = some u ∧ cMinL [.list ((t :: r).map dR)] = some (dR u) := by
  obtain ⟨u, h1, h2⟩ := minT r t
  refine ⟨u, h1, ?_⟩
  have ha : alikeB ((t :: r).map dR) = true := by
    have h1 : ∀ d ∈ (t :: r).map dR, ∃ q, d = dR q := fun d hd => by
      obtain ⟨z, hz, rfl⟩ := List.mem_map.mp hd
      exact ⟨z, rfl⟩
    unfold alikeB
    rw [Bool.and_eq_true, Bool.and_eq_true]
    refine ⟨⟨List.all_eq_true.mpr fun d hd => List.all_eq_true.mpr fun e he => ?_, List.all_eq_true.mpr fun d hd => ?_⟩, List.all_eq_true.mpr fun d hd => ?_⟩
    · obtain ⟨a, rfl⟩ := h1 d hd
      obtain ⟨b, rfl⟩ := h1 e he
      rfl
    · obtain ⟨a, rfl⟩ := h1 d hd; rfl
    · obtain ⟨a, rfl⟩ := h1 d hd; rfl
  show (if alikeB (dR t :: r.map dR) = true then some (PySem.W.minD (dR t) (r.map dR)) else none) = _
  rw [List.map_cons] at ha
  rw [if_pos ha, h2]
theorem bLt_R (s t : Nat × Nat × Nat) : bLt (dR s) (dR t) = some (PySem.W.dataLt (dR s) (dR t)) := by
  show (if cmpOk (dR s) (dR t) = true then _ else none) = _
  exact if_pos (show cmpOk (dR s) (dR t) = true from rfl)
/-! ### the walks -/
theorem fdQ {x y : Nat} (h1 : 1 ≤ y) (h2 : y < 1024) : dFdiv (.int (x : Int)) (.int (y : Int)) = some (.int (x / y : Nat)) := by
  have hp : Builtin.divisionGoesByPylong (x : Int) (y : Int) = false := noPyN (n := 10) h2 (by decide)
  have h0 : (y : Int) ≠ 0 := by omega
  rw [ev_fdiv, if_pos ⟨h0, hp⟩, Int.fdiv_eq_ediv_of_nonneg _ (by omega)]
  exact congrArg (fun z => some (PyData.int z)) (Int.natCast_ediv x y).symm
theorem mdQ {x y : Nat} (h1 : 1 ≤ y) : dMod (.int (x : Int)) (.int (y : Int)) = some (.int (x % y : Nat)) := by
  have h0 : (y : Int) ≠ 0 := by omega
  rw [ev_mod, if_pos h0, Int.fmod_eq_emod_of_nonneg _ (by omega)]
  exact congrArg (fun z => some (PyData.int z)) (Int.natCast_emod x y).symm
theorem muN {x y : Nat} (h2 : y < 1000000) : dMulA (.int (x : Int)) (.int (y : Int)) = some (.int (x * y : Nat)) := by
  rw [ev_mulA, if_pos (mulOk_r (by omega))]
  exact congrArg (fun z => some (PyData.int z)) (Int.natCast_mul x y).symm
theorem r2N {a : FA} {ρ ρ1 : En} {m n : Nat} (h : a ρ = some ([.int (m : Int), .int ((n : Int) + 1)], ρ1)) (hn : n ≤ 1000000) (hm : m ≤ 1000000) : iR2 a ρ = some ((List.range' m (n + 1 - m)).map nI, ρ1) := by
  rw [ev_r2 h (by omega) (by omega) (by omega) (by omega)]
  have e : ((n : Int) + 1 - (m : Int)).toNat = n + 1 - m := by omega
  rw [e, List.range'_eq_map_range, List.map_map]
  congr 2
theorem box10 {a b c : Nat} (ha : 1 ≤ a ∧ a ≤ 1000) (hb : 1 ≤ b ∧ b ≤ 1000) (hc : 1 ≤ c ∧ c ≤ 1000) : Box 10 (a : Int) (b : Int) (c : Int) :=
  ⟨by omega, by omega, by omega, by unfold Bd; show _ < 1024; omega, by unfold Bd; show _ < 1024; omega, by unfold Bd; show _ < 1024; omega, by decide⟩
theorem cond_box {n a b : Nat} (hn : 1 ≤ n ∧ n ≤ 1000) (ha : 1 ≤ a) (hb : a ≤ b) (h : cond n a b = true) : Box 10 (a : Int) (b : Int) ((n / (a * b) : Nat) : Int) := by
  obtain ⟨h1, h2⟩ := (cond_iff ha (by omega)).mp h
  rw [Nat.div_div_eq_div_mul] at h1 h2
  have hc : 1 ≤ n / (a * b) := by omega
  have h3 : n / (a * b) ≤ n := Nat.div_le_self _ _
  exact box10 (by omega) (by omega) (by omega)
theorem bs_b {n a b : Nat} {acc : List D} (hn : 1 ≤ n ∧ n ≤ 1000) (ha : 1 ≤ a) (hb : a ≤ b) (hb2 : b ≤ 1000) (hl : acc.length < 10000000) :
    ∃ ρ', b_best_stack_1 [.sh (.int ((n : Int))), .ol (acc), .sh (nI a), .sh (nI b), .dead, .dead, .dead] = some (.nx ρ') ∧ killL [3, 4, 5, 6] ρ' = [.sh (.int ((n : Int))), .ol ((if cond n a b = true then acc ++ [dR (tri n a b)] else acc)), .sh (nI a), .dead, .dead, .dead, .dead] := by
  have e1 := fdQ (x := n) (y := a) ha (by omega)
  have e2 := fdQ (x := n / a) (y := b) (by omega) (by omega)
  have e3 := muN (x := a) (y := b) (by omega)
  have hc9 : n / a / b ≤ 1000 := Nat.le_trans (Nat.div_le_self _ _) (Nat.le_trans (Nat.div_le_self _ _) hn.2)
  have e4 := muN (x := a * b) (y := n / a / b) (by omega)
  have hlz : acc.length < sizeLine := by unfold sizeLine; omega
  have z2 : 2 ≤ sizeLine := by decide
  have z3 : 3 ≤ sizeLine := by decide
  have ci := cond_iff (n := n) (a := a) (b := b) ha (by omega)
  have fst : ∀ {o : Out} {X : FS}, X [.sh (.int ((n : Int))), .ol (acc), .sh (nI a), .sh (nI b), .sh (.int ((n / a / b : Nat))), .dead, .dead] = some o → (sSeq (sSet 4 (eBin dFdiv (eBin dFdiv (eVar 0) (eVar 2)) (eVar 3))) X) [.sh (.int ((n : Int))), .ol (acc), .sh (nI a), .sh (nI b), .dead, .dead, .dead] = some o := fun {o X} h => by
    refine (seq_nx (ρ1 := [.sh (.int ((n : Int))), .ol (acc), .sh (nI a), .sh (nI b), .sh (.int ((n / a / b : Nat))), .dead, .dead]) ?_).trans h
    unfold nI
    generalize ((n / a / b : Nat) : Int) = C at *
    generalize ((n / a : Nat) : Int) = Q at *
    generalize (n : Int) = N at *
    generalize (a : Int) = A at *
    generalize (b : Int) = B at *
    generalize dFdiv = f at *
    simp [e1, e2]
  by_cases w : cond n a b = true
  · obtain ⟨c1, c2⟩ := ci.mp w
    have bx := cond_box hn ha hb w
    have ec : n / (a * b) = n / a / b := (Nat.div_div_eq_div_mul n a b).symm
    have et : dR (tri n a b) = .tuple [.int (prd (lsh (a : Int) (b : Int) ((n / a / b : Nat) : Int))), .tuple [.int (a : Int), .int (b : Int), .int ((n / a / b : Nat) : Int)]] := by
      unfold tri; rw [ec]; rfl
    rw [ec] at bx
    rw [if_pos w, et]
    have el := v_least bx
    have em := bx.mul (lsh_mem _ _ _)
    rw [c1] at e4
    have c2 : (b : Int) ≤ ((n / a / b : Nat) : Int) := by omega
    refine ⟨[.sh (.int ((n : Int))), .ol (acc ++ [.tuple [.int (prd (lsh (a : Int) (b : Int) ((n / a / b : Nat) : Int))), .tuple [.int (a : Int), .int (b : Int), .int ((n / a / b : Nat) : Int)]]]), .sh (nI a), .sh (nI b), .sh (.int ((n / a / b : Nat))), .sh (.int ((lsh (a : Int) (b : Int) ((n / a / b : Nat) : Int)).1)), .sh (.int ((lsh (a : Int) (b : Int) ((n / a / b : Nat) : Int)).2))], fst ?_, rfl⟩
    unfold prd
    unfold dP at el
    clear ci w bx ec et fst e1 e2
    generalize lsh (a : Int) (b : Int) ((n / a / b : Nat) : Int) = P at *
    generalize P.1 = p1 at *
    generalize P.2 = p2 at *
    generalize ((a * b : Nat) : Int) = AB at *
    generalize ((n / a / b : Nat) : Int) = C at *
    unfold nI
    generalize (n : Int) = N at *
    generalize (a : Int) = A at *
    generalize (b : Int) = B at *
    generalize hmm : dMulA = f at *
    have m1 : f (.int p1) (.int p2) = some (.int (p1 * p2)) := by rw [← hmm, ev_mulA, if_pos em]
    simp [e3, e4, c2, el, m1, lAppend, hlz, z2, z3]
  · rw [if_neg w]
    refine ⟨[.sh (.int ((n : Int))), .ol (acc), .sh (nI a), .sh (nI b), .sh (.int ((n / a / b : Nat))), .dead, .dead], fst ?_, rfl⟩
    have cc : ((a * b * (n / a / b) : Nat) : Int) = (n : Int) → ¬ (b : Int) ≤ ((n / a / b : Nat) : Int) := fun h k => w (ci.mpr ⟨by omega, by omega⟩)
    clear ci w fst e1 e2
    generalize ((a * b * (n / a / b) : Nat) : Int) = ABC at *
    generalize ((a * b : Nat) : Int) = AB at *
    generalize ((n / a / b : Nat) : Int) = C at *
    unfold nI
    generalize (n : Int) = N at *
    generalize (a : Int) = A at *
    generalize (b : Int) = B at *
    generalize dMulA = f at *
    by_cases c1 : ABC = N
    · have c2 := cc c1
      simp [e3, e4, c1, c2]
    · simp [e3, e4, c1]


/-! ## the best stack: the loops -/
theorem trA_len (n a : Nat) : (trA n a).length ≤ n + 1 := by
  unfold trA
  refine Nat.le_trans (List.length_filter_le _ _) ?_
  rw [List.length_range']
  omega
theorem bs_in {n a : Nat} {acc : List D} (hn : 1 ≤ n ∧ n ≤ 1000) (ha : 1 ≤ a) (ha2 : a ≤ n) (hd : n % a = 0) (hl : acc.length < 9000000) :
    l_best_stack_1 [.sh (.int ((n : Int))), .ol (acc), .sh (nI a), .dead, .dead, .dead, .dead] = some (.nx [.sh (.int ((n : Int))), .ol ((acc ++ ((trA n a).map (tri n a)).map dR)), .sh (nI a), .dead, .dead, .dead, .dead]) := by
  have hq : n / a ≤ n := Nat.div_le_self n a
  have e1 := fdQ (x := n) (y := a) ha (by omega)
  have hi : iR2 (aCons (eVar 2) (aCons (eBin dAddA (eBin dFdiv (eVar 0) (eVar 2)) (eC (.int 1))) (aNil))) [.sh (.int ((n : Int))), .ol (acc), .sh (nI a), .dead, .dead, .dead, .dead] = some ((List.range' a (n / a + 1 - a)).map nI, [.sh (.int ((n : Int))), .ol (acc), .sh (nI a), .dead, .dead, .dead, .dead]) := by
    refine r2N (m := a) (n := n / a) ?_ (by omega) (by omega)
    unfold nI
    generalize ((n / a : Nat) : Int) = Q at *
    generalize (n : Int) = N at *
    generalize (a : Int) = A at *
    generalize dFdiv = f at *
    simp [e1]
  have A := loop_acc nI (fun acc : List D => [.sh (.int ((n : Int))), .ol (acc), .sh (nI a), .dead, .dead, .dead, .dead]) (cond n a) (fun b => dR (tri n a b)) (xs0 := (List.range' a (n / a + 1 - a)).map nI) (ks := [3, 4, 5, 6]) (b := fun x ρ => (gNm 3 x ρ).bind b_best_stack_1) 10000000 (fun b => a ≤ b ∧ b ≤ 1000) (fun b acc hb hl => by
    obtain ⟨ρ', h1, h2⟩ := bs_b hn ha hb.1 hb.2 hl
    exact ⟨ρ', .inl (bind_gnm.trans h1), h2⟩) (List.range' a (n / a + 1 - a)) acc [.sh (.int ((n : Int))), .ol (acc), .sh (nI a), .dead, .dead, .dead, .dead] (fun b hb => by
      have := List.mem_range'_1.mp hb
      omega) (by rw [List.length_range']; omega) rfl
  rw [← trA_div hn.1 ha hd] at A
  have e2 : ((trA n a).map (tri n a)).map dR = (trA n a).map fun b => dR (tri n a b) := by rw [List.map_map]; rfl
  rw [e2]
  exact for_hx ll_best_stack_1 hi A
theorem bs_out {n : Nat} {xs0 : List D} (hn : 1 ≤ n ∧ n ≤ 1000) : ∀ (l : List Nat) (acc : List D) (ρ : En), (∀ a ∈ l, 1 ≤ a ∧ a ≤ n) → acc.length + 1001 * l.length < 9000000 → killL [2, 3, 4, 5, 6] ρ = [.sh (.int ((n : Int))), .ol (acc), .dead, .dead, .dead, .dead, .dead] →
    loopF none xs0 [2, 3, 4, 5, 6] (fun x ρ => (gNm 2 x ρ).bind b_best_stack_2) (l.map nI) ρ = some (.nx [.sh (.int ((n : Int))), .ol ((acc ++ (trs n l).map dR)), .dead, .dead, .dead, .dead, .dead])
  | [], acc, ρ, _, _, e => by rw [List.map_nil, loop_nil rfl, e]; unfold trs; rw [List.flatMap_nil, List.map_nil, List.append_nil]
  | a :: l, acc, ρ, hl, hz, e => by
    obtain ⟨ha, ha2⟩ := hl a List.mem_cons_self
    rw [List.length_cons] at hz
    have em := mdQ (x := n) (y := a) ha
    have et : acc ++ (trs n (a :: l)).map dR = (acc ++ ((trA n a).map (tri n a)).map dR) ++ (trs n l).map dR := by
      unfold trs
      rw [List.flatMap_cons, List.map_append, List.append_assoc]
    have hlen := trA_len n a
    rw [et, List.map_cons]
    have st : b_best_stack_2 [.sh (.int ((n : Int))), .ol (acc), .sh (nI a), .dead, .dead, .dead, .dead] = some (.nx [.sh (.int ((n : Int))), .ol ((acc ++ ((trA n a).map (tri n a)).map dR)), .sh (nI a), .dead, .dead, .dead, .dead]) := by
      unfold b_best_stack_2
      by_cases hd : n % a = 0
      · have q := bs_in hn ha ha2 hd (acc := acc) (by omega)
        refine (if_t (ρ1 := [.sh (.int ((n : Int))), .ol (acc), .sh (nI a), .dead, .dead, .dead, .dead]) ?_).trans q
        rw [hd] at em
        clear q
        unfold nI
        generalize (n : Int) = N at *
        generalize (a : Int) = A at *
        generalize dMod = f at *
        simp [em]
      · rw [trA_not ha hd, List.map_nil, List.map_nil, List.append_nil]
        have hd2 : ¬ ((n % a : Nat) : Int) = 0 := by omega
        unfold nI
        generalize ((n % a : Nat) : Int) = R at *
        generalize (n : Int) = N at *
        generalize (a : Int) = A at *
        generalize dMod = f at *
        simp [em, hd2]
    rw [loop_cons (ρ' := [.sh (.int ((n : Int))), .ol ((acc ++ ((trA n a).map (tri n a)).map dR)), .sh (nI a), .dead, .dead, .dead, .dead]) rfl (by rw [e]; exact bind_gnm.trans st)]
    refine bs_out hn l _ _ (fun x hx => hl x (List.mem_cons_of_mem _ hx)) ?_ rfl
    rw [List.length_append, List.length_map, List.length_map]
    omega
/-! ### the law's -/
def oR : Option (Nat × Nat × Nat) → D
  | none => .none
  | some t => dR t
theorem cubeN (a b : Nat) (ha : a ≤ 1000) (hb : b ≤ 1000) : dMulA (.int (a : Int)) (.int (b : Int)) = some (.int (a * b : Nat)) ∧ dMulA (.int (a * b : Nat)) (.int (b : Int)) = some (.int (a * b * b : Nat)) := ⟨muN (by omega), muN (by omega)⟩
theorem lb_brk {n a b : Nat} {o : Option (Nat × Nat × Nat)} (ha : a ≤ 1000) (hb : b ≤ 1000) (h : n < a * b * b) :
    b__law_best_stack_1 [.sh (.int ((n : Int))), .sh (oR o), .sh (nI a), .sh (nI b), .dead, .dead] = some (.bk [.sh (.int ((n : Int))), .sh (oR o), .sh (nI a), .sh (nI b), .dead, .dead]) := by
  obtain ⟨e1, e2⟩ := cubeN a b ha hb
  have c : (n : Int) < ((a * b * b : Nat) : Int) := by omega
  unfold nI
  generalize oR o = O at *
  generalize ((a * b * b : Nat) : Int) = ABB at *
  generalize ((a * b : Nat) : Int) = AB at *
  generalize (n : Int) = N at *
  generalize (a : Int) = A at *
  generalize (b : Int) = B at *
  unfold b__law_best_stack_1
  generalize dMulA = f at *
  simp [e1, e2, c]
theorem lb_go {n a b : Nat} {o : Option (Nat × Nat × Nat)} (hn : 1 ≤ n ∧ n ≤ 1000) (ha : 1 ≤ a) (hab : a ≤ b) (hb : b ≤ 1000) (h : a * b * b ≤ n) :
    ∃ ρ', b__law_best_stack_1 [.sh (.int ((n : Int))), .sh (oR o), .sh (nI a), .sh (nI b), .dead, .dead] = some (.nx ρ') ∧ killL [3, 4, 5] ρ' = [.sh (.int ((n : Int))), .sh (oR (if cond n a b = true then upT o (tri n a b) else o)), .sh (nI a), .dead, .dead, .dead] := by
  obtain ⟨e1, e2⟩ := cubeN a b (by omega) hb
  have hp : 1 ≤ a * b := Nat.mul_pos ha (by omega)
  have hab2 : a * b ≤ n := by
    have : a * b * 1 ≤ a * b * b := Nat.mul_le_mul_left _ (by omega)
    omega
  have em := mdQ (x := n) (y := a * b) hp
  have ed := fdQ (x := n) (y := a * b) hp (by omega)
  have c : ¬ (n : Int) < ((a * b * b : Nat) : Int) := by omega
  have z2 : 2 ≤ sizeLine := by decide
  have z3 : 3 ≤ sizeLine := by decide
  have fst : ∀ {r : Out} {X : FS}, X [.sh (.int ((n : Int))), .sh (oR o), .sh (nI a), .sh (nI b), .dead, .dead] = some r → (sSeq (sIf (eTst (eBin (fun x y => (bGt x y).map .bool) (eBin dMulA (eBin dMulA (eVar 2) (eVar 3)) (eVar 3)) (eVar 0))) (sBrk) (sNx)) X) [.sh (.int ((n : Int))), .sh (oR o), .sh (nI a), .sh (nI b), .dead, .dead] = some r := fun {r X} g => by
    refine (seq_nx (ρ1 := [.sh (.int ((n : Int))), .sh (oR o), .sh (nI a), .sh (nI b), .dead, .dead]) ?_).trans g
    clear em ed
    unfold nI
    generalize oR o = O at *
    generalize ((a * b * b : Nat) : Int) = ABB at *
    generalize ((a * b : Nat) : Int) = AB at *
    generalize (n : Int) = N at *
    generalize (a : Int) = A at *
    generalize (b : Int) = B at *
    generalize dMulA = f at *
    simp [e1, e2, c]
  by_cases hd : n % (a * b) = 0
  · have hc : cond n a b = true := by
      unfold cond
      rw [decide_eq_true hd, decide_eq_true h]; rfl
    have bx := cond_box hn ha hab hc
    rw [if_pos hc]
    have el := v_lleast bx
    have emm := bx.mul (lsh_mem _ _ _)
    rw [hd] at em
    have et : dR (tri n a b) = .tuple [.int (prd (lsh (a : Int) (b : Int) ((n / (a * b) : Nat) : Int))), .tuple [.int (a : Int), .int (b : Int), .int ((n / (a * b) : Nat) : Int)]] := rfl
    have e5 : ∀ s, bLt (dR (tri n a b)) (dR s) = some (PySem.W.dataLt (dR (tri n a b)) (dR s)) := fun s => bLt_R _ _
    refine ⟨_, fst ((if_t (ρ1 := [.sh (.int ((n : Int))), .sh (oR o), .sh (nI a), .sh (nI b), .dead, .dead]) ?_).trans ((seq_nx (ρ1 := [.sh (.int ((n : Int))), .sh (oR o), .sh (nI a), .sh (nI b), .sh (dP (lsh (a : Int) (b : Int) ((n / (a * b) : Nat) : Int))), .dead]) ?_).trans ((seq_nx (ρ1 := [.sh (.int ((n : Int))), .sh (oR o), .sh (nI a), .sh (nI b), .sh (dP (lsh (a : Int) (b : Int) ((n / (a * b) : Nat) : Int))), .sh (dR (tri n a b))]) ?_).trans
(show _ = some (Out.nx [.sh (.int ((n : Int))), .sh (oR (upT o (tri n a b))), .sh (nI a), .sh (nI b), .sh (dP (lsh (a : Int) (b : Int) ((n / (a * b) : Nat) : Int))), .sh (dR (tri n a b))]) from ?_)))), rfl⟩
    · clear fst ed
      unfold nI
      generalize oR o = O at *
      generalize ((a * b : Nat) : Int) = AB at *
      generalize (n : Int) = N at *
      generalize (a : Int) = A at *
      generalize (b : Int) = B at *
      generalize dMulA = f at *
      generalize dMod = g at *
      simp [e1, em]
    · clear fst em et e5
      unfold nI
      generalize oR o = O at *
      generalize dP (lsh (a : Int) (b : Int) ((n / (a * b) : Nat) : Int)) = P at *
      generalize ((n / (a * b) : Nat) : Int) = C at *
      generalize ((a * b : Nat) : Int) = AB at *
      generalize (n : Int) = N at *
      generalize (a : Int) = A at *
      generalize (b : Int) = B at *
      generalize dMulA = f at *
      generalize dFdiv = g at *
      simp [e1, ed, el]
    · rw [et]
      clear fst em e5 et el bx
      have i0 : dIx (dP (lsh (a : Int) (b : Int) ((n / (a * b) : Nat) : Int))) (.int 0) = some (.int (lsh (a : Int) (b : Int) ((n / (a * b) : Nat) : Int)).1) := rfl
      have i1 : dIx (dP (lsh (a : Int) (b : Int) ((n / (a * b) : Nat) : Int))) (.int 1) = some (.int (lsh (a : Int) (b : Int) ((n / (a * b) : Nat) : Int)).2) := rfl
      unfold prd
      generalize oR o = O at *
      generalize lsh (a : Int) (b : Int) ((n / (a * b) : Nat) : Int) = P at *
      generalize P.1 = p1 at *
      generalize P.2 = p2 at *
      generalize dP P = DP at *
      generalize ((n / (a * b) : Nat) : Int) = C at *
      generalize ((a * b : Nat) : Int) = AB at *
      unfold nI
      generalize (n : Int) = N at *
      generalize (a : Int) = A at *
      generalize (b : Int) = B at *
      generalize hmm : dMulA = f at *
      have m1 : f (.int p1) (.int p2) = some (.int (p1 * p2)) := by rw [← hmm, ev_mulA, if_pos emm]
      generalize dFdiv = g at *
      simp [e1, ed, i0, i1, m1, z2, z3]
    · clear fst em ed e1 e2 et el
      generalize dP (lsh (a : Int) (b : Int) ((n / (a * b) : Nat) : Int)) = P at *
      generalize nI a = A at *
      generalize nI b = B at *
      generalize (n : Int) = N at *
      cases o with
      | none =>
        show (sIf _ _ _) [.sh (.int (N)), .sh (.none), .sh (A), .sh (B), .sh (P), .sh (dR (tri n a b))] = some (Out.nx [.sh (.int (N)), .sh (dR (tri n a b)), .sh (A), .sh (B), .sh (P), .sh (dR (tri n a b))])
        generalize dR (tri n a b) = T at *
        simp
      | some s =>
        have hs : isNone (dR s) = false := rfl
        have e5 := e5 s
        have eu : oR (upT (some s) (tri n a b)) = if PySem.W.dataLt (dR (tri n a b)) (dR s) = true then dR (tri n a b) else dR s := by
          show oR (if PySem.W.dataLt (dR (tri n a b)) (dR s) = true then some (tri n a b) else some s) = _
          split <;> rfl
        rw [eu]
        show (sIf _ _ _) [.sh (.int (N)), .sh (dR s), .sh (A), .sh (B), .sh (P), .sh (dR (tri n a b))] = some (Out.nx [.sh (.int (N)), .sh ((if PySem.W.dataLt (dR (tri n a b)) (dR s) = true then dR (tri n a b) else dR s)), .sh (A), .sh (B), .sh (P), .sh (dR (tri n a b))])
        generalize PySem.W.dataLt (dR (tri n a b)) (dR s) = w at *
        generalize dR (tri n a b) = T at *
        generalize dR s = S at *
        generalize hb : bLt = g at *
        cases w <;> simp [hs, e5]
  · have hc : ¬ cond n a b = true := by
      unfold cond
      rw [decide_eq_false hd]; simp
    rw [if_neg hc]
    refine ⟨[.sh (.int ((n : Int))), .sh (oR o), .sh (nI a), .sh (nI b), .dead, .dead], fst ?_, rfl⟩
    have hd2 : ¬ ((n % (a * b) : Nat) : Int) = 0 := by omega
    clear fst ed
    unfold nI
    generalize oR o = O at *
    generalize ((n % (a * b) : Nat) : Int) = R at *
    generalize ((a * b : Nat) : Int) = AB at *
    generalize (n : Int) = N at *
    generalize (a : Int) = A at *
    generalize (b : Int) = B at *
    generalize dMulA = f at *
    generalize dMod = g at *
    simp [e1, em, hd2]


/-! ## the best stack is right -/
theorem lb_in {n a : Nat} {xs0 : List D} (hn : 1 ≤ n ∧ n ≤ 1000) (ha : 1 ≤ a) : ∀ (m b : Nat) (o : Option (Nat × Nat × Nat)) (ρ : En), a ≤ b → b + m ≤ 1001 → killL [3, 4, 5] ρ = [.sh (.int ((n : Int))), .sh (oR o), .sh (nI a), .dead, .dead, .dead] →
    loopF none xs0 [3, 4, 5] (fun x ρ => (gNm 3 x ρ).bind b__law_best_stack_1) ((List.range' b m).map nI) ρ = some (.nx [.sh (.int ((n : Int))), .sh (oR ((((List.range' b m).filter (cond n a)).map (tri n a)).foldl upT o)), .sh (nI a), .dead, .dead, .dead])
  | 0, b, o, ρ, _, _, e => by
    show loopF none xs0 _ _ [] ρ = _
    rw [loop_nil rfl, e]; rfl
  | m + 1, b, o, ρ, hab, hm, e => by
    by_cases h : a * b * b ≤ n
    · obtain ⟨ρ', h1, h2⟩ := lb_go (o := o) hn ha hab (by omega) h
      have ih := lb_in (xs0 := xs0) hn ha m (b + 1) (if cond n a b = true then upT o (tri n a b) else o) ρ' (by omega) (by omega) h2
      rw [List.range'_succ, List.map_cons, loop_cons (ρ' := ρ') rfl (by rw [e]; exact bind_gnm.trans h1), ih]
      by_cases c : cond n a b = true
      · rw [if_pos c, List.filter_cons_of_pos c]; rfl
      · rw [if_neg c, List.filter_cons_of_neg c]
    · rw [trA_sq (by omega), List.range'_succ, List.map_cons, loop_brk (ρ' := [.sh (.int ((n : Int))), .sh (oR o), .sh (nI a), .sh (nI b), .dead, .dead]) rfl (by rw [e]; exact bind_gnm.trans (lb_brk (by omega) (by omega) (by omega)))]
      rfl
theorem lb_inner {n a : Nat} {o : Option (Nat × Nat × Nat)} (hn : 1 ≤ n ∧ n ≤ 1000) (ha : 1 ≤ a) (ha2 : a ≤ n) : l__law_best_stack_1 [.sh (.int ((n : Int))), .sh (oR o), .sh (nI a), .dead, .dead, .dead] = some (.nx [.sh (.int ((n : Int))), .sh (oR (((trA n a).map (tri n a)).foldl upT o)), .sh (nI a), .dead, .dead, .dead]) := by
  have hi : iR2 (aCons (eVar 2) (aCons (eBin dAddA (eVar 0) (eC (.int 1))) (aNil))) [.sh (.int ((n : Int))), .sh (oR o), .sh (nI a), .dead, .dead, .dead] = some ((List.range' a (n + 1 - a)).map nI, [.sh (.int ((n : Int))), .sh (oR o), .sh (nI a), .dead, .dead, .dead]) := by
    refine r2N (m := a) (n := n) ?_ (by omega) (by omega)
    unfold nI
    generalize oR o = O at *
    generalize (n : Int) = N at *
    generalize (a : Int) = A at *
    simp
  exact for_hx ll__law_best_stack_1 hi (lb_in hn ha (n + 1 - a) a o _ (Nat.le_refl _) (by omega) rfl)
theorem lb_out {n : Nat} {xs0 : List D} (hn : 1 ≤ n ∧ n ≤ 1000) : ∀ (m a : Nat) (o : Option (Nat × Nat × Nat)) (ρ : En), 1 ≤ a → a + m ≤ n + 1 → killL [2, 3, 4, 5] ρ = [.sh (.int ((n : Int))), .sh (oR o), .dead, .dead, .dead, .dead] →
    loopF none xs0 [2, 3, 4, 5] (fun x ρ => (gNm 2 x ρ).bind b__law_best_stack_2) ((List.range' a m).map nI) ρ = some (.nx [.sh (.int ((n : Int))), .sh (oR ((trs n (List.range' a m)).foldl upT o)), .dead, .dead, .dead, .dead])
  | 0, a, o, ρ, _, _, e => by
    show loopF none xs0 _ _ [] ρ = _
    rw [loop_nil rfl, e]; rfl
  | m + 1, a, o, ρ, ha, hm, e => by
    have e1 := muN (x := a) (y := a) (by omega)
    have e2 := muN (x := a * a) (y := a) (by omega)
    by_cases h : n < a * a * a
    · have c : (n : Int) < ((a * a * a : Nat) : Int) := by omega
      have et : trs n (List.range' a (m + 1)) = [] := by
        unfold trs
        rw [List.flatMap_eq_nil_iff]
        intro x hx
        rw [trA_cube h (List.mem_range'_1.mp hx).1]; rfl
      rw [et, List.range'_succ, List.map_cons, loop_brk (ρ' := [.sh (.int ((n : Int))), .sh (oR o), .sh (nI a), .dead, .dead, .dead]) rfl (by
        rw [e]
        refine bind_gnm.trans ?_
        show b__law_best_stack_2 [.sh (.int ((n : Int))), .sh (oR o), .sh (nI a), .dead, .dead, .dead] = _
        unfold b__law_best_stack_2
        refine seq_bk ?_
        unfold nI
        generalize oR o = O at *
        generalize ((a * a * a : Nat) : Int) = AAA at *
        generalize ((a * a : Nat) : Int) = AA at *
        generalize (n : Int) = N at *
        generalize (a : Int) = A at *
        generalize dMulA = f at *
        simp [e1, e2, c])]
      rfl
    · have c : ¬ (n : Int) < ((a * a * a : Nat) : Int) := by omega
      have q := lb_inner (o := o) hn ha (by omega)
      have st : b__law_best_stack_2 [.sh (.int ((n : Int))), .sh (oR o), .sh (nI a), .dead, .dead, .dead] = some (.nx [.sh (.int ((n : Int))), .sh (oR (((trA n a).map (tri n a)).foldl upT o)), .sh (nI a), .dead, .dead, .dead]) := by
        unfold b__law_best_stack_2
        refine (seq_nx (ρ1 := [.sh (.int ((n : Int))), .sh (oR o), .sh (nI a), .dead, .dead, .dead]) ?_).trans q
        clear q
        unfold nI
        generalize oR o = O at *
        generalize ((a * a * a : Nat) : Int) = AAA at *
        generalize ((a * a : Nat) : Int) = AA at *
        generalize (n : Int) = N at *
        generalize (a : Int) = A at *
        generalize dMulA = f at *
        simp [e1, e2, c]
      have ih := lb_out (xs0 := xs0) hn m (a + 1) (((trA n a).map (tri n a)).foldl upT o) [.sh (.int ((n : Int))), .sh (oR (((trA n a).map (tri n a)).foldl upT o)), .sh (nI a), .dead, .dead, .dead] (by omega) (by omega) rfl
      rw [List.range'_succ, List.map_cons, loop_cons (ρ' := [.sh (.int ((n : Int))), .sh (oR (((trA n a).map (tri n a)).foldl upT o)), .sh (nI a), .dead, .dead, .dead]) rfl (by rw [e]; exact bind_gnm.trans st), ih]
      unfold trs
      rw [List.flatMap_cons, List.foldl_append]
theorem trs_ne {n : Nat} (hn : 1 ≤ n) : ∃ t r, trs n (List.range' 1 n) = t :: r := by
  have h : tri n 1 1 ∈ trs n (List.range' 1 n) := by
    unfold trs
    refine List.mem_flatMap.mpr ⟨1, List.mem_range'_1.mpr ⟨Nat.le_refl _, by omega⟩, List.mem_map.mpr ⟨1, ?_, rfl⟩⟩
    unfold trA
    refine List.mem_filter.mpr ⟨List.mem_range'_1.mpr ⟨Nat.le_refl _, by omega⟩, ?_⟩
    unfold cond
    rw [decide_eq_true (by rw [Nat.mul_one, Nat.mod_one]), decide_eq_true (by omega)]; rfl
  cases hh : trs n (List.range' 1 n) with
  | nil => rw [hh] at h; nomatch h
  | cons t r => exact ⟨t, r, rfl⟩
/-- both tell the same stack -/
theorem v_stack {n : Nat} (hn : 1 ≤ n ∧ n ≤ 1000) : ∃ u : Nat × Nat × Nat, m_best_stack [.sh (.int (n : Int))] = some (.sh (d3 u), []) ∧ m__law_best_stack [.sh (.int (n : Int))] = some (.sh (d3 u), []) := by
  obtain ⟨t, r, ht⟩ := trs_ne hn.1
  obtain ⟨u, h1, h2⟩ := min_R (t := t) (r := r)
  have i1 : dIx (dR u) (.int 1) = some (d3 u) := rfl
  refine ⟨u, ?_, ?_⟩
  · have L := bs_out (xs0 := (List.range' 1 n).map nI) hn (List.range' 1 n) [] [.sh (.int ((n : Int))), .ol ([]), .dead, .dead, .dead, .dead, .dead] (fun a h => by have := List.mem_range'_1.mp h; omega) (by rw [List.length_range', List.length_nil]; omega) rfl
    rw [List.nil_append, ht] at L
    have hi : iR2 (aCons (eC (.int 1)) (aCons (eBin dAddA (eVar 0) (eC (.int 1))) (aNil))) [.sh (.int ((n : Int))), .ol ([]), .dead, .dead, .dead, .dead, .dead] = some ((List.range' 1 n).map nI, [.sh (.int ((n : Int))), .ol ([]), .dead, .dead, .dead, .dead, .dead]) := r2N (m := 1) (n := n) (by simp) (by omega) (by omega)
    have L := for_hx ll_best_stack_2 hi L
    generalize (t :: r).map dR = G at *
    refine fn_ret (ρ' := [.sh (.int ((n : Int))), .sh (.list (G)), .dead, .dead, .dead, .dead, .dead]) ?_
    show s_best_stack [.sh (.int ((n : Int))), .dead, .dead, .dead, .dead, .dead, .dead] = _
    unfold s_best_stack
    refine (seq_nx (ρ1 := [.sh (.int ((n : Int))), .ol ([]), .dead, .dead, .dead, .dead, .dead]) (by simp)).trans ((seq_nx L).trans ?_)
    clear L hi
    generalize dR u = R at *
    generalize d3 u = T at *
    generalize (n : Int) = N at *
    simp [h2, i1]
  · have L := lb_out (xs0 := (List.range' 1 n).map nI) hn n 1 none [.sh (.int ((n : Int))), .sh (.none), .dead, .dead, .dead, .dead] (Nat.le_refl _) (by omega) rfl
    rw [ht, h1] at L
    have hi : iR2 (aCons (eC (.int 1)) (aCons (eBin dAddA (eVar 0) (eC (.int 1))) (aNil))) [.sh (.int ((n : Int))), .sh (.none), .dead, .dead, .dead, .dead] = some ((List.range' 1 n).map nI, [.sh (.int ((n : Int))), .sh (.none), .dead, .dead, .dead, .dead]) := r2N (m := 1) (n := n) (by simp) (by omega) (by omega)
    have L : l__law_best_stack_2 [.sh (.int ((n : Int))), .sh (.none), .dead, .dead, .dead, .dead] = some (.nx [.sh (.int ((n : Int))), .sh (dR u), .dead, .dead, .dead, .dead]) := for_hx ll__law_best_stack_2 hi L
    refine fn_ret (ρ' := [.sh (.int ((n : Int))), .sh (dR u), .dead, .dead, .dead, .dead]) ?_
    show s__law_best_stack [.sh (.int ((n : Int))), .dead, .dead, .dead, .dead, .dead] = _
    unfold s__law_best_stack
    refine (seq_nx (ρ1 := [.sh (.int ((n : Int))), .sh (.none), .dead, .dead, .dead, .dead]) rfl).trans ((seq_nx L).trans ?_)
    clear L hi
    generalize dR u = R at *
    generalize d3 u = T at *
    generalize (n : Int) = N at *
    simp [i1]


/-! ## boxes are right -/
theorem sok_PL {l : List (Int × Int)} (h : l.length ≤ 1000) : sok 11 (.tuple (l.map dP)) = true := by
  have h1 : ∀ l : List (Int × Int), soks 10 (l.map dP) = true := fun l => by
    induction l with
    | nil => rfl
    | cons p r ih =>
      show (sok 10 (dP p) && soks 10 (r.map dP)) = true
      rw [ih, Bool.and_true]
      simp [dP, sok, soks]
  show (soks 10 (l.map dP) && decide ((l.map dP).length ≤ 1000000)) = true
  rw [h1, List.length_map, decide_eq_true (by omega)]; rfl
theorem same_PL {l : List (Int × Int)} (h : l.length ≤ 1000) : m__law_same 12 [.sh (.tuple (l.map dP)), .sh (.tuple (l.map dP))] = some (.sh (.bool true), []) := v_same 11 _ (sok_PL h)
theorem same_P (p : Int × Int) : m__law_same 12 [.sh (dP p), .sh (dP p)] = some (.sh (.bool true), []) := v_same 11 _ (by simp [dP, sok, soks])
theorem br_b {S : Nat} {a b c : Int} (h : Box S a b c) {u0 u1 u2 u6 u7 u8 u9 : Cell} (q : Int × Int) :
    ∃ ρ', b__law_box_right_1 [u0, u1, u2, .sh (.int (a)), .sh (.int (b)), .sh (.int (c)), u6, u7, u8, u9, .sh (.int (q.1)), .sh (.int (q.2)), .dead, .dead, .dead] = some (.nx ρ') ∧ killL [10, 11, 12] ρ' = [u0, u1, u2, .sh (.int (a)), .sh (.int (b)), .sh (.int (c)), u6, u7, u8, u9, .dead, .dead, .dead, .dead, .dead] := by
  have e1 : cMax2 [.int q.1, .int q.2] = some (.int (max q.1 q.2)) := by rw [ev_max2, max_c]
  have e2 : cMin2 [.int q.1, .int q.2] = some (.int (min q.1 q.2)) := by rw [ev_min2, min_c]
  have e3 := v_wrap (x := max q.1 q.2) (y := min q.1 q.2) h
  have e4 := v_lwrap a b c (max q.1 q.2) (min q.1 q.2)
  have e5 := same_b ((shP a b c).any (wr (max q.1 q.2) (min q.1 q.2)))
  have z2 : 2 ≤ sizeLine := by decide
  have i1 : dIx (dP (max q.1 q.2, min q.1 q.2)) (.int 1) = some (.int (min q.1 q.2)) := rfl
  have ed : PyData.tuple [.int (max q.1 q.2), .int (min q.1 q.2)] = dP (max q.1 q.2, min q.1 q.2) := rfl
  refine ⟨[u0, u1, u2, .sh (.int (a)), .sh (.int (b)), .sh (.int (c)), u6, u7, u8, u9, .sh (.int (q.1)), .sh (.int (q.2)), .sh (dP (max q.1 q.2, min q.1 q.2)), .dead, .dead], ?_, rfl⟩
  unfold b__law_box_right_1
  refine (seq_nx (ρ1 := [u0, u1, u2, .sh (.int (a)), .sh (.int (b)), .sh (.int (c)), u6, u7, u8, u9, .sh (.int (q.1)), .sh (.int (q.2)), .sh (dP (max q.1 q.2, min q.1 q.2)), .dead, .dead]) ?_).trans ?_
  · rw [← ed]
    generalize max q.1 q.2 = A at *
    generalize min q.1 q.2 = B at *
    generalize q.1 = x at *
    generalize q.2 = y at *
    generalize cMax2 = f at *
    generalize cMin2 = g at *
    simp [e1, e2, z2]
  · generalize (shP a b c).any (wr (max q.1 q.2) (min q.1 q.2)) = w at *
    generalize dP (max q.1 q.2, min q.1 q.2) = P at *
    generalize min q.1 q.2 = B at *
    generalize q.1 = x at *
    generalize q.2 = y at *
    by_cases c1 : 1 ≤ B
    · simp [i1, c1, e3, e4, e5]
    · simp [i1, c1]
theorem br_l {S : Nat} {a b c : Int} (h : Box S a b c) {u0 u1 u2 u6 u7 u8 : Cell} (l : List (Int × Int)) :
    l__law_box_right_1 [u0, u1, u2, .sh (.int (a)), .sh (.int (b)), .sh (.int (c)), u6, u7, u8, .ol (l.map dP), .dead, .dead, .dead, .dead, .dead] = some (.nx [u0, u1, u2, .sh (.int (a)), .sh (.int (b)), .sh (.int (c)), u6, u7, u8, .sh (.list (l.map dP)), .dead, .dead, .dead, .dead, .dead]) := by
  have A := loop_same dP (xs0 := l.map dP) (ks := [10, 11, 12]) (b := fun x ρ => (gTp 2 (gCn (gNm 10) (gCn (gNm 11) (gNl))) x ρ).bind b__law_box_right_1) (ρ0 := [u0, u1, u2, .sh (.int (a)), .sh (.int (b)), .sh (.int (c)), u6, u7, u8, .sh (.list (l.map dP)), .dead, .dead, .dead, .dead, .dead]) l (fun q _ => by
    obtain ⟨ρ', h1, h2⟩ := br_b h (u0 := u0) (u1 := u1) (u2 := u2) (u6 := u6) (u7 := u7) (u8 := u8) (u9 := .sh (.list (l.map dP))) q
    exact ⟨ρ', .inl (by rw [bind_tp2]; exact h1), h2⟩) (ρ := [u0, u1, u2, .sh (.int (a)), .sh (.int (b)), .sh (.int (c)), u6, u7, u8, .sh (.list (l.map dP)), .dead, .dead, .dead, .dead, .dead]) rfl
  exact for_hx ll__law_box_right_1 (ρ := [u0, u1, u2, .sh (.int (a)), .sh (.int (b)), .sh (.int (c)), u6, u7, u8, .ol (l.map dP), .dead, .dead, .dead, .dead, .dead]) rfl A
theorem br_o {S : Nat} {a b c : Int} (h : Box S a b c) {ns ds : List Int} (hl : ns.length ≤ 63) (hb : ∀ z ∈ ns, Builtin.Int.intBits z ≤ 1048576) {u2 u6 : Cell} (p : Int × Int) :
    ∃ (ρ' : En) (ds' : List Int), b__law_box_right_2 [.ol (is ds), .sh (.list (is ns)), u2, .sh (.int (a)), .sh (.int (b)), .sh (.int (c)), u6, .sh (.int (p.1)), .sh (.int (p.2)), .dead, .dead, .dead, .dead, .dead, .dead] = some (.nx ρ') ∧ killL [7, 8, 9, 10, 11, 12] ρ' = [.ol (is ds'), .sh (.list (is ns)), u2, .sh (.int (a)), .sh (.int (b)), .sh (.int (c)), u6, .dead, .dead, .dead, .dead, .dead, .dead, .dead, .dead] := by
  obtain ⟨t1, d1, _, e1⟩ := tkx ds (n := 30) (by decide)
  obtain ⟨t2, d2, _, e2⟩ := tkx d1 (n := 30) (by decide)
  obtain ⟨z, d3, _, e3⟩ := v_size d2 ns hl hb
  obtain ⟨t4, d4, _, e4⟩ := tkx d3 (n := 3) (by decide)
  have e1 : m__law_take [.ol (is ds), .sh (.int 30)] = some (.sh (.int (t1 : Int)), [.ol (is d1), .sh (.int 30)]) := e1
  have e2 : m__law_take [.ol (is d1), .sh (.int 30)] = some (.sh (.int (t2 : Int)), [.ol (is d2), .sh (.int 30)]) := e2
  have e4 : m__law_take [.ol (is d3), .sh (.int 3)] = some (.sh (.int (t4 : Int)), [.ol (is d4), .sh (.int 3)]) := e4
  have z2 : 2 ≤ sizeLine := by decide
  have z5 : 5 ≤ sizeLine := by decide
  have z5' : 5 < sizeLine := by decide
  have z6' : 6 < sizeLine := by decide
  have lp := br_l h (u0 := .ol (is d4)) (u1 := .sh (.list (is ns))) (u2 := u2) (u6 := u6) (u7 := .sh (.int p.1)) (u8 := .sh (.int p.2)) [(p.1, p.2), (p.1 - 1, p.2), (p.1, p.2 - 1), (p.1 + 1, p.2 - 1), (p.1 - 1, p.2 + 1), (p.1 + (t1 : Int), p.2 + (t2 : Int)), (p.1 + (z : Int), p.2 - (t4 : Int))]
  refine ⟨[.ol (is d4), .sh (.list (is ns)), u2, .sh (.int (a)), .sh (.int (b)), .sh (.int (c)), u6, .sh (.int (p.1)), .sh (.int (p.2)), .sh (.list ([dP (p.1, p.2), dP (p.1 - 1, p.2), dP (p.1, p.2 - 1), dP (p.1 + 1, p.2 - 1), dP (p.1 - 1, p.2 + 1), dP (p.1 + (t1 : Int), p.2 + (t2 : Int)), dP (p.1 + (z : Int), p.2 - (t4 : Int))])), .dead, .dead, .dead, .dead, .dead], d4, ?_, ?_⟩
  · unfold b__law_box_right_2
    refine (seq_nx (ρ1 := [.ol (is ds), .sh (.list (is ns)), u2, .sh (.int (a)), .sh (.int (b)), .sh (.int (c)), u6, .sh (.int (p.1)), .sh (.int (p.2)), .ol ([dP (p.1, p.2), dP (p.1 - 1, p.2), dP (p.1, p.2 - 1), dP (p.1 + 1, p.2 - 1), dP (p.1 - 1, p.2 + 1)]), .dead, .dead, .dead, .dead, .dead]) ?_).trans ?_
    · unfold dP
      simp [z2, z5]
    refine (seq_nx (ρ1 := [.ol (is d2), .sh (.list (is ns)), u2, .sh (.int (a)), .sh (.int (b)), .sh (.int (c)), u6, .sh (.int (p.1)), .sh (.int (p.2)), .ol ([dP (p.1, p.2), dP (p.1 - 1, p.2), dP (p.1, p.2 - 1), dP (p.1 + 1, p.2 - 1), dP (p.1 - 1, p.2 + 1), dP (p.1 + (t1 : Int), p.2 + (t2 : Int))]), .dead, .dead, .dead, .dead, .dead]) ?_).trans ?_
    · clear lp e3 e4
      generalize is ns = N at *
      generalize is ds = D0 at *
      generalize is d1 = D1 at *
      generalize is d2 = D2 at *
      generalize (t1 : Int) = T1 at *
      generalize (t2 : Int) = T2 at *
      have ed : dP (p.1 + T1, p.2 + T2) = .tuple [.int (p.1 + T1), .int (p.2 + T2)] := rfl
      rw [ed]
      generalize dP (p.1, p.2) = P1
      generalize dP (p.1 - 1, p.2) = P2
      generalize dP (p.1, p.2 - 1) = P3
      generalize dP (p.1 + 1, p.2 - 1) = P4
      generalize dP (p.1 - 1, p.2 + 1) = P5
      generalize p.1 = x
      generalize p.2 = y
      simp [e1, e2, z2, lAppend, z5']
    refine (seq_nx (ρ1 := [.ol (is d4), .sh (.list (is ns)), u2, .sh (.int (a)), .sh (.int (b)), .sh (.int (c)), u6, .sh (.int (p.1)), .sh (.int (p.2)), .ol ([dP (p.1, p.2), dP (p.1 - 1, p.2), dP (p.1, p.2 - 1), dP (p.1 + 1, p.2 - 1), dP (p.1 - 1, p.2 + 1), dP (p.1 + (t1 : Int), p.2 + (t2 : Int)), dP (p.1 + (z : Int), p.2 - (t4 : Int))]), .dead, .dead, .dead, .dead, .dead]) ?_).trans ?_
    · clear lp e1 e2
      generalize is ns = N at *
      generalize is d2 = D2 at *
      generalize is d3 = D3 at *
      generalize is d4 = D4 at *
      generalize (t4 : Int) = T4 at *
      generalize (z : Int) = Z at *
      have ed : dP (p.1 + Z, p.2 - T4) = .tuple [.int (p.1 + Z), .int (p.2 - T4)] := rfl
      rw [ed]
      generalize dP (p.1, p.2) = P1
      generalize dP (p.1 - 1, p.2) = P2
      generalize dP (p.1, p.2 - 1) = P3
      generalize dP (p.1 + 1, p.2 - 1) = P4
      generalize dP (p.1 - 1, p.2 + 1) = P5
      generalize dP (p.1 + (t1 : Int), p.2 + (t2 : Int)) = P6
      generalize p.1 = x
      generalize p.2 = y
      simp [e3, e4, z2, lAppend, z6']
    exact lp
  · rfl
theorem v_box {ns ds : List Int} (hl : ns.length ≤ 63) (hb : ∀ z ∈ ns, Builtin.Int.intBits z ≤ 1048576) :
    ∃ ds' : List Int, m__law_box_right [.ol (is ds), .sh (.list (is ns))] = some (.sh (.bool true), [.ol (is ds'), .sh (.list (is ns))]) := by
  -- the sides
  obtain ⟨ys1, d1, l1, p1, k1⟩ := ev_compD nI PyData.int (fun y : Int => 1 ≤ y ∧ Bd 1048710 y) (fun ds : List Int => [.ol (is ds), .sh (.list (is ns)), .dead, .dead, .dead, .dead, .dead, .dead, .dead, .dead, .dead, .dead, .dead, .dead, .dead]) (vs := [14]) (it := iR1 (aCons (eC (.int 3)) (aNil))) (g := gNm 14) (e := eBin dAddA (eC (.int 1)) (eRetD (eCall1 0 0 m__law_take (rIo 0 (rCons (eC (.int 12)) (rNil)))))) (ρ := [.ol (is ds), .sh (.list (is ns)), .dead, .dead, .dead, .dead, .dead, .dead, .dead, .dead, .dead, .dead, .dead, .dead, .dead]) (ρi := [.ol (is ds), .sh (.list (is ns)), .dead, .dead, .dead, .dead, .dead, .dead, .dead, .dead, .dead, .dead, .dead, .dead, .dead]) (ks := List.range 3) (ds := ds) (iR_nI (n := 3) rfl (by omega)) rfl (fun _ => rfl) (fun k ds _ => by
    obtain ⟨t, d', ht, e⟩ := tkx ds (n := 12) (by decide)
    have e : m__law_take [.ol (is ds), .sh (.int 12)] = some (.sh (.int (t : Int)), [.ol (is d'), .sh (.int 12)]) := e
    refine ⟨1 + (t : Int), d', [.ol (is ds), .sh (.list (is ns)), .dead, .dead, .dead, .dead, .dead, .dead, .dead, .dead, .dead, .dead, .dead, .dead, .sh (nI k)], [.ol (is d'), .sh (.list (is ns)), .dead, .dead, .dead, .dead, .dead, .dead, .dead, .dead, .dead, .dead, .dead, .dead, .sh (nI k)], ⟨by omega, ?_⟩, rfl, ?_, rfl⟩
    · have : Bd 10 (1 + (t : Int)) := by unfold Bd; show _ < 1024; omega
      exact this.mono (by decide)
    · generalize is ns = N at *
      generalize is ds = A at *
      generalize is d' = B at *
      generalize (t : Int) = T at *
      simp [e]) (by show 3 ≤ sizeLine; decide)
  obtain ⟨t, d2, ht, e2⟩ := tkx d1 (n := 3) (by decide)
  have e2 : m__law_take [.ol (is d1), .sh (.int 3)] = some (.sh (.int (t : Int)), [.ol (is d2), .sh (.int 3)]) := e2
  have k1 : k__law_box_right_1 [.ol (is ds), .sh (.list (is ns)), .dead, .dead, .dead, .dead, .dead, .dead, .dead, .dead, .dead, .dead, .dead, .dead, .dead] = some (.ol (is ys1), [.ol (is d1), .sh (.list (is ns)), .dead, .dead, .dead, .dead, .dead, .dead, .dead, .dead, .dead, .dead, .dead, .dead, .dead]) := by
    rw [kk__law_box_right_1]; exact k1
  have sides : ∃ (ys : List Int) (d3 : List Int), ys.length = 3 ∧ (∀ y ∈ ys, 1 ≤ y ∧ Bd 1048710 y) ∧ (sIf (eTst (eBin (fun x y => (bEq x y).map .bool) (eRetD (eCall1 0 0 m__law_take (rIo 0 (rCons (eC (.int 3)) (rNil))))) (eC (.int 0)))) (sSet 2 (eFrz (k__law_box_right_2))) (sNx)) [.ol (is d1), .sh (.list (is ns)), .sh (.list (is ys1)), .dead, .dead, .dead, .dead, .dead, .dead, .dead, .dead, .dead, .dead, .dead, .dead] = some (.nx [.ol (is d3), .sh (.list (is ns)), .sh (.list (is ys)), .dead, .dead, .dead, .dead, .dead, .dead, .dead, .dead, .dead, .dead, .dead, .dead]) := by
    by_cases c : t = 0
    · obtain ⟨ys2, d3, l2, p2, k2⟩ := ev_compD nI PyData.int (fun y : Int => 1 ≤ y ∧ Bd 1048710 y) (fun ds : List Int => [.ol (is ds), .sh (.list (is ns)), .sh (.list (is ys1)), .dead, .dead, .dead, .dead, .dead, .dead, .dead, .dead, .dead, .dead, .dead, .dead]) (vs := [14]) (it := iR1 (aCons (eC (.int 3)) (aNil))) (g := gNm 14) (e := eBin dAddA (eC (.int 1)) (eRetD (eCall1 0 0 m__law_size (rIo 0 (rCons (eVar 1) (rNil)))))) (ρ := [.ol (is d2), .sh (.list (is ns)), .sh (.list (is ys1)), .dead, .dead, .dead, .dead, .dead, .dead, .dead, .dead, .dead, .dead, .dead, .dead]) (ρi := [.ol (is d2), .sh (.list (is ns)), .sh (.list (is ys1)), .dead, .dead, .dead, .dead, .dead, .dead, .dead, .dead, .dead, .dead, .dead, .dead]) (ks := List.range 3) (ds := d2) (iR_nI (n := 3) rfl (by omega)) rfl (fun _ => rfl) (fun k ds _ => by
        obtain ⟨z, d', hz, e⟩ := v_size ds ns hl hb
        refine ⟨1 + (z : Int), d', [.ol (is ds), .sh (.list (is ns)), .sh (.list (is ys1)), .dead, .dead, .dead, .dead, .dead, .dead, .dead, .dead, .dead, .dead, .dead, .sh (nI k)], [.ol (is d'), .sh (.list (is ns)), .sh (.list (is ys1)), .dead, .dead, .dead, .dead, .dead, .dead, .dead, .dead, .dead, .dead, .dead, .sh (nI k)], ⟨by omega, ?_⟩, rfl, ?_, rfl⟩
        · have h1 : Bd 1 1 := by unfold Bd; decide
          have h2 : Bd 1048700 (z : Int) := by unfold Bd; rw [Int.natAbs_natCast]; exact hz
          exact (h1.add h2).mono (by decide)
        · clear hz
          generalize is ns = N at *
          generalize is ys1 = Y at *
          generalize is ds = A at *
          generalize is d' = B at *
          generalize (z : Int) = T at *
          simp [e]) (by show 3 ≤ sizeLine; decide)
      have k2 : k__law_box_right_2 [.ol (is d2), .sh (.list (is ns)), .sh (.list (is ys1)), .dead, .dead, .dead, .dead, .dead, .dead, .dead, .dead, .dead, .dead, .dead, .dead] = some (.ol (is ys2), [.ol (is d3), .sh (.list (is ns)), .sh (.list (is ys1)), .dead, .dead, .dead, .dead, .dead, .dead, .dead, .dead, .dead, .dead, .dead, .dead]) := by
        rw [kk__law_box_right_2]; exact k2
      refine ⟨ys2, d3, l2, p2, ?_⟩
      subst c
      have e2 : m__law_take [.ol (is d1), .sh (.int 3)] = some (.sh (.int 0), [.ol (is d2), .sh (.int 3)]) := e2
      clear k1
      generalize is ns = N at *
      generalize is ys1 = Y at *
      generalize is ys2 = Y2 at *
      generalize is d1 = D1 at *
      generalize is d2 = D2 at *
      generalize is d3 = D3 at *
      simp [e2, k2]
    · refine ⟨ys1, d2, l1, p1, ?_⟩
      have c : ¬ (t : Int) = 0 := by omega
      clear k1
      generalize is ns = N at *
      generalize is ys1 = Y at *
      generalize is d1 = D1 at *
      generalize is d2 = D2 at *
      generalize (t : Int) = T at *
      simp [e2, c]
  obtain ⟨ys, d3, l3, p3, k3⟩ := sides
  match ys, l3, p3, k3 with
  | [a, b, c], _, p3, k3 =>
    have ha := p3 a (by simp)
    have hb2 := p3 b (by simp)
    have hc := p3 c (by simp)
    have bx : Box 1048710 a b c := ⟨ha.1, hb2.1, hc.1, ha.2, hb2.2, hc.2, by decide⟩
    have f1 := v_lsheets a b c
    have f2 := v_sheets ha.1 hb2.1 hc.1
    have f3 := v_least bx
    have f4 := v_lleast bx
    have s1 : m__law_same 12 [.sh (sT a b c), .sh (sT a b c)] = some (.sh (.bool true), []) := same_PL (Nat.le_trans (shP_len a b c) (by decide))
    have s2 := same_P (lsh a b c)
    -- the loop
    obtain ⟨ρz, z1, d5, z2⟩ := loop_invA dP (xs0 := (shP a b c).map dP) (ks := [7, 8, 9, 10, 11, 12]) (b := fun x ρ => (gTp 2 (gCn (gNm 7) (gCn (gNm 8) (gNl))) x ρ).bind b__law_box_right_2) (fun _ ρ => ∃ ds' : List Int, ρ = [.ol (is ds'), .sh (.list (is ns)), .sh (.list (is [a, b, c])), .sh (.int (a)), .sh (.int (b)), .sh (.int (c)), .sh (sT a b c), .dead, .dead, .dead, .dead, .dead, .dead, .dead, .dead]) (fun p r ρ hP => by
      obtain ⟨ds', hρ⟩ := hP
      obtain ⟨ρ', ds2, h1, h2⟩ := br_o bx hl hb (ds := ds') (u2 := .sh (.list (is [a, b, c]))) (u6 := .sh (sT a b c)) p
      exact ⟨ρ', .inl (by rw [hρ, bind_tp2]; exact h1), ds2, h2⟩) (shP a b c) [.ol (is d3), .sh (.list (is ns)), .sh (.list (is [a, b, c])), .sh (.int (a)), .sh (.int (b)), .sh (.int (c)), .sh (sT a b c), .dead, .dead, .dead, .dead, .dead, .dead, .dead, .dead] ⟨d3, rfl⟩
    have L := for_hx ll__law_box_right_2 (ρ := [.ol (is d3), .sh (.list (is ns)), .sh (.list (is [a, b, c])), .sh (.int (a)), .sh (.int (b)), .sh (.int (c)), .sh (sT a b c), .dead, .dead, .dead, .dead, .dead, .dead, .dead, .dead]) rfl z1
    subst z2
    obtain ⟨z, d6, hz, es⟩ := v_size d5 ns hl hb
    have er := v_ribbon a b c (z : Int)
    have s3 := same_i (2 * a + 2 * b + 4 * c + (z : Int))
    have m1 : mulOk 2 a = true := mulOk_l (by decide)
    have m2 : mulOk 2 b = true := mulOk_l (by decide)
    have m3 : mulOk 2 c = true := mulOk_l (by decide)
    have ee : 2 * a + 2 * c + (2 * b + 2 * c) + (z : Int) = 2 * a + 2 * b + 4 * c + (z : Int) := by omega
    refine ⟨d6, fn_io (ρ' := [.ol (is d6), .sh (.list (is ns)), .sh (.list (is [a, b, c])), .sh (.int (a)), .sh (.int (b)), .sh (.int (c)), .sh (sT a b c), .dead, .dead, .dead, .dead, .dead, .dead, .sh (.int ((z : Int))), .dead]) ?_ rfl rfl⟩
    show s__law_box_right [.ol (is ds), .sh (.list (is ns)), .dead, .dead, .dead, .dead, .dead, .dead, .dead, .dead, .dead, .dead, .dead, .dead, .dead] = _
    unfold s__law_box_right
    refine (seq_nx (ρ1 := [.ol (is d1), .sh (.list (is ns)), .sh (.list (is ys1)), .dead, .dead, .dead, .dead, .dead, .dead, .dead, .dead, .dead, .dead, .dead, .dead]) ?_).trans ?_
    · clear L z1 k3 es hz er
      generalize is ns = N at *
      generalize is ys1 = Y at *
      generalize is ds = D0 at *
      generalize is d1 = D1 at *
      simp [k1]
    refine (seq_nx k3).trans ?_
    refine (seq_nx (ρ1 := [.ol (is d3), .sh (.list (is ns)), .sh (.list (is [a, b, c])), .sh (.int (a)), .sh (.int (b)), .sh (.int (c)), .dead, .dead, .dead, .dead, .dead, .dead, .dead, .dead, .dead]) rfl).trans ?_
    clear k1 k3 z1
    generalize is ns = N at *
    generalize is [a, b, c] = Y at *
    generalize is d3 = D3 at *
    generalize is d5 = D5 at *
    generalize is d6 = D6 at *
    generalize sT a b c = ST at *
    generalize dP (lsh a b c) = P at *
    generalize (z : Int) = Z at *
    refine (seq_nx (ρ1 := [.ol (D3), .sh (.list (N)), .sh (.list (Y)), .sh (.int (a)), .sh (.int (b)), .sh (.int (c)), .sh (ST), .dead, .dead, .dead, .dead, .dead, .dead, .dead, .dead]) (by simp [f1])).trans ?_
    refine (seq_nx (ρ1 := [.ol (D3), .sh (.list (N)), .sh (.list (Y)), .sh (.int (a)), .sh (.int (b)), .sh (.int (c)), .sh (ST), .dead, .dead, .dead, .dead, .dead, .dead, .dead, .dead]) (by simp [f2, f3, f4, s1, s2])).trans ?_
    refine (seq_nx L).trans ?_
    refine (seq_nx (ρ1 := [.ol (D6), .sh (.list (N)), .sh (.list (Y)), .sh (.int (a)), .sh (.int (b)), .sh (.int (c)), .sh (ST), .dead, .dead, .dead, .dead, .dead, .dead, .sh (.int (Z)), .dead]) (by simp [es])).trans ?_
    generalize 2 * a + 2 * b + 4 * c + Z = W at *
    simp [er, m1, m2, m3, ee, s3]


/-! ## drawn rules -/
theorem pick3 {t : Nat} (h : t < 3) : ∃ r : Nat, 1 ≤ r ∧ r ≤ 70 ∧ atI [PyData.int 3, PyData.int 12, PyData.int 70] (t : Int) = some (.int (r : Int)) := by
  rcases (show t = 0 ∨ t = 1 ∨ t = 2 by omega) with rfl | rfl | rfl
  · exact ⟨3, by omega, by omega, rfl⟩
  · exact ⟨12, by omega, by omega, rfl⟩
  · exact ⟨70, by omega, by omega, rfl⟩
theorem mk_b {ns ds ms : List Int} {K m k : Nat} (hk : k < ms.length) (hm : m ≤ 20) (hk2 : k ≤ 20) (hml : ms.length ≤ 30) : ∃ (st : Nat) (d' : List Int),
    b__law_marks_1 [.ol (is ds), .sh (.list (is ns)), .sh (.int ((K : Int))), .sh (.int ((m : Int))), .ol (is ms), .sh (nI k), .dead, .dead, .dead] = some (.nx [.ol (is d'), .sh (.list (is ns)), .sh (.int ((K : Int))), .sh (.int ((m : Int))), .ol (is (ms ++ [ms.getD k 0 + (st : Int)])), .sh (nI k), .sh (.int ((st : Int))), .dead, .dead]) := by
  obtain ⟨t0, d1, h0, e0⟩ := tkx ds (n := 3) (by decide)
  have e0 : m__law_take [.ol (is ds), .sh (.int 3)] = some (.sh (.int (t0 : Int)), [.ol (is d1), .sh (.int 3)]) := e0
  obtain ⟨r, r1, r2, er⟩ := pick3 h0
  obtain ⟨t1, d2, h1, e1⟩ := tkx d1 (n := r) (by omega)
  have z3 : 3 ≤ sizeLine := by decide
  have e5 := at_is hk
  have hl : (is ms).length < sizeLine := by rw [is_len]; unfold sizeLine; omega
  have fst : sSet 6 (eBin dAddA (eC (.int 1)) (eRetD (eCall1 0 0 m__law_take (rIo 0 (rCons (eBin dIx (eFrz (eLst (aCons (eC (.int 3)) (aCons (eC (.int 12)) (aCons (eC (.int 70)) (aNil)))))) (eRetD (eCall1 0 0 m__law_take (rIo 0 (rCons (eC (.int 3)) (rNil)))))) (rNil)))))) [.ol (is ds), .sh (.list (is ns)), .sh (.int ((K : Int))), .sh (.int ((m : Int))), .ol (is ms), .sh (nI k), .dead, .dead, .dead] =
      some (.nx [.ol (is d2), .sh (.list (is ns)), .sh (.int ((K : Int))), .sh (.int ((m : Int))), .ol (is ms), .sh (nI k), .sh (.int (1 + (t1 : Int))), .dead, .dead]) := by
    clear e5 hl
    generalize is ns = N at *
    generalize is ds = D0 at *
    generalize is d1 = D1 at *
    generalize is d2 = D2 at *
    generalize is ms = M at *
    generalize (t0 : Int) = T0 at *
    generalize (t1 : Int) = T1 at *
    generalize (r : Int) = R at *
    generalize nI k = KK at *
    simp [e0, e1, er, z3]
  have e3 : ∃ x : Nat, (x : Int) = (if (3 : Int) < (k : Int) then 1 else 0) ∧ x ≤ 1 := by
    by_cases c : (3 : Int) < (k : Int)
    · exact ⟨1, by rw [if_pos c]; rfl, by omega⟩
    · exact ⟨0, by rw [if_neg c]; rfl, by omega⟩
  have eh : dFdiv (.int (m : Int)) (.int 2) = some (.int ((m / 2 : Nat) : Int)) := fdQ (x := m) (y := 2) (by decide) (by decide)
  have e4 : ∃ x : Nat, (x : Int) = (if ((m / 2 : Nat) : Int) < (k : Int) then 1 else 0) ∧ x ≤ 1 := by
    by_cases c : ((m / 2 : Nat) : Int) < (k : Int)
    · exact ⟨1, by rw [if_pos c]; rfl, by omega⟩
    · exact ⟨0, by rw [if_neg c]; rfl, by omega⟩
  obtain ⟨x3, q3, b3⟩ := e3
  obtain ⟨x4, q4, b4⟩ := e4
  have ek1 : dMulA (.int (k : Int)) (.int ((k : Int) + 1)) = some (.int ((k * (k + 1) : Nat) : Int)) := muN (x := k) (y := k + 1) (by omega)
  have ek2 : dFdiv (.int ((k * (k + 1) : Nat) : Int)) (.int 2) = some (.int ((k * (k + 1) / 2 : Nat) : Int)) := fdQ (x := k * (k + 1)) (y := 2) (by decide) (by decide)
  -- the middle
  have mid : ∃ (st : Nat) (d' : List Int), ∀ {o : Out} {X : FS}, X [.ol (is d'), .sh (.list (is ns)), .sh (.int ((K : Int))), .sh (.int ((m : Int))), .ol (is ms), .sh (nI k), .sh (.int ((st : Int))), .dead, .dead] = some o →
    (sSeq (sIf (eTst (eBin (fun x y => (bEq x y).map .bool) (eVar 2) (eC (.int 0)))) (sSet 6 (eBin dAddA (eBin dAddA (eC (.int 1)) (eBin dMulA (eBin dMulA (eRetD (eCall1 0 0 m__law_take (rIo 0 (rCons (eC (.int 2)) (rNil))))) (eCB cInt (aCons (eBin (fun x y => (bGt x y).map .bool) (eVar 5) (eC (.int 3))) (aNil)))) (eC (.int 4)))) (eBin dMulA (eCB cInt (aCons (eBin (fun x y => (bGt x y).map .bool) (eVar 5) (eC (.int 3))) (aNil))) (eC (.int 4))))) (sNx))
    (sSeq (sIf (eTst (eBin (fun x y => (bEq x y).map .bool) (eVar 2) (eC (.int 1)))) (sSet 6 (eBin dAddA (eBin dAddA (eC (.int 1)) (eBin dFdiv (eBin dMulA (eVar 5) (eBin dAddA (eVar 5) (eC (.int 1)))) (eC (.int 2)))) (eRetD (eCall1 0 0 m__law_take (rIo 0 (rCons (eC (.int 3)) (rNil))))))) (sNx))
    (sSeq (sIf (eTst (eBin (fun x y => (bEq x y).map .bool) (eVar 2) (eC (.int 2)))) (sSet 6 (eBin dAddA (eC (.int 1)) (eBin dMulA (eCB cInt (aCons (eBin (fun x y => (bGt x y).map .bool) (eVar 5) (eBin dFdiv (eVar 3) (eC (.int 2)))) (aNil))) (eBin dAddA (eBin dFdiv (eVar 3) (eC (.int 2))) (eC (.int 1)))))) (sNx)) X))) [.ol (is d2), .sh (.list (is ns)), .sh (.int ((K : Int))), .sh (.int ((m : Int))), .ol (is ms), .sh (nI k), .sh (.int (1 + (t1 : Int))), .dead, .dead] = some o := by
    rcases (show K = 0 ∨ K = 1 ∨ K = 2 ∨ 3 ≤ K by omega) with rfl | rfl | rfl | hK
    · obtain ⟨t2, d3, _, e2⟩ := tkx d2 (n := 2) (by decide)
      have e2 : m__law_take [.ol (is d2), .sh (.int 2)] = some (.sh (.int (t2 : Int)), [.ol (is d3), .sh (.int 2)]) := e2
      refine ⟨1 + t2 * x3 * 4 + x3 * 4, d3, fun {o X} g => ?_⟩
      have m1 : mulOk (t2 : Int) (x3 : Int) = true := mulOk_r (by omega)
      have m2 : mulOk ((t2 : Int) * (x3 : Int)) 4 = true := mulOk_r (by decide)
      have m3 : mulOk (x3 : Int) 4 = true := mulOk_r (by decide)
      have eg : ((1 + t2 * x3 * 4 + x3 * 4 : Nat) : Int) = 1 + (t2 : Int) * (x3 : Int) * 4 + (x3 : Int) * 4 := by push_cast; rfl
      rw [eg] at g
      clear fst e0 e1 er eg
      unfold nI at *
      generalize is ns = N at *
      generalize is d2 = D2 at *
      generalize is d3 = D3 at *
      generalize is ms = M at *
      generalize (t1 : Int) = T1 at *
      generalize (t2 : Int) = T2 at *
      generalize (x3 : Int) = X3 at *
      generalize (k : Int) = KK at *
      generalize (m : Int) = MM at *
      refine (seq_nx (ρ1 := [.ol (D3), .sh (.list (N)), .sh (.int (((0 : Nat) : Int))), .sh (.int (MM)), .ol (M), .sh (.int (KK)), .sh (.int (1 + T2 * X3 * 4 + X3 * 4)), .dead, .dead]) ?_).trans ?_
      · simp [e2, ← q3, m1, m2, m3]
      refine (seq_nx (ρ1 := [.ol (D3), .sh (.list (N)), .sh (.int (((0 : Nat) : Int))), .sh (.int (MM)), .ol (M), .sh (.int (KK)), .sh (.int (1 + T2 * X3 * 4 + X3 * 4)), .dead, .dead]) (by simp)).trans ?_
      refine (seq_nx (ρ1 := [.ol (D3), .sh (.list (N)), .sh (.int (((0 : Nat) : Int))), .sh (.int (MM)), .ol (M), .sh (.int (KK)), .sh (.int (1 + T2 * X3 * 4 + X3 * 4)), .dead, .dead]) (by simp)).trans g
    · obtain ⟨t2, d3, _, e2⟩ := tkx d2 (n := 3) (by decide)
      have e2 : m__law_take [.ol (is d2), .sh (.int 3)] = some (.sh (.int (t2 : Int)), [.ol (is d3), .sh (.int 3)]) := e2
      refine ⟨1 + k * (k + 1) / 2 + t2, d3, fun {o X} g => ?_⟩
      have eg : ((1 + k * (k + 1) / 2 + t2 : Nat) : Int) = 1 + ((k * (k + 1) / 2 : Nat) : Int) + (t2 : Int) := by push_cast; rfl
      rw [eg] at g
      clear fst e0 e1 er eg
      unfold nI at *
      generalize is ns = N at *
      generalize is d2 = D2 at *
      generalize is d3 = D3 at *
      generalize is ms = M at *
      generalize (t1 : Int) = T1 at *
      generalize (t2 : Int) = T2 at *
      generalize ((k * (k + 1) / 2 : Nat) : Int) = Y at *
      generalize ((k * (k + 1) : Nat) : Int) = Z at *
      generalize (k : Int) = KK at *
      generalize (m : Int) = MM at *
      generalize dMulA = f at *
      generalize dFdiv = h at *
      refine (seq_nx (ρ1 := [.ol (D2), .sh (.list (N)), .sh (.int (((1 : Nat) : Int))), .sh (.int (MM)), .ol (M), .sh (.int (KK)), .sh (.int (1 + T1)), .dead, .dead]) (by simp)).trans ?_
      refine (seq_nx (ρ1 := [.ol (D3), .sh (.list (N)), .sh (.int (((1 : Nat) : Int))), .sh (.int (MM)), .ol (M), .sh (.int (KK)), .sh (.int (1 + Y + T2)), .dead, .dead]) (by simp [ek1, ek2, e2])).trans ?_
      refine (seq_nx (ρ1 := [.ol (D3), .sh (.list (N)), .sh (.int (((1 : Nat) : Int))), .sh (.int (MM)), .ol (M), .sh (.int (KK)), .sh (.int (1 + Y + T2)), .dead, .dead]) (by simp)).trans g
    · refine ⟨1 + x4 * (m / 2 + 1), d2, fun {o X} g => ?_⟩
      have m1 : mulOk (x4 : Int) (((m / 2 : Nat) : Int) + 1) = true := mulOk_l (by omega)
      have eg : ((1 + x4 * (m / 2 + 1) : Nat) : Int) = 1 + (x4 : Int) * (((m / 2 : Nat) : Int) + 1) := by push_cast; rfl
      rw [eg] at g
      clear fst e0 e1 er eg
      unfold nI at *
      generalize is ns = N at *
      generalize is d2 = D2 at *
      generalize is ms = M at *
      generalize (t1 : Int) = T1 at *
      generalize ((m / 2 : Nat) : Int) = H at *
      generalize (x4 : Int) = X4 at *
      generalize (k : Int) = KK at *
      generalize (m : Int) = MM at *
      generalize dFdiv = h at *
      refine (seq_nx (ρ1 := [.ol (D2), .sh (.list (N)), .sh (.int (((2 : Nat) : Int))), .sh (.int (MM)), .ol (M), .sh (.int (KK)), .sh (.int (1 + T1)), .dead, .dead]) (by simp)).trans ?_
      refine (seq_nx (ρ1 := [.ol (D2), .sh (.list (N)), .sh (.int (((2 : Nat) : Int))), .sh (.int (MM)), .ol (M), .sh (.int (KK)), .sh (.int (1 + T1)), .dead, .dead]) (by simp)).trans ?_
      refine (seq_nx (ρ1 := [.ol (D2), .sh (.list (N)), .sh (.int (((2 : Nat) : Int))), .sh (.int (MM)), .ol (M), .sh (.int (KK)), .sh (.int (1 + X4 * (H + 1))), .dead, .dead]) (by simp [eh, ← q4, m1])).trans g
    · refine ⟨1 + t1, d2, fun {o X} g => ?_⟩
      have eg : ((1 + t1 : Nat) : Int) = 1 + (t1 : Int) := by push_cast; rfl
      rw [eg] at g
      have k0 : ¬ (K : Int) = 0 := by omega
      have k1 : ¬ (K : Int) = 1 := by omega
      have k2 : ¬ (K : Int) = 2 := by omega
      clear fst e0 e1 er eg
      unfold nI at *
      generalize is ns = N at *
      generalize is d2 = D2 at *
      generalize is ms = M at *
      generalize (t1 : Int) = T1 at *
      generalize (K : Int) = KD at *
      generalize (k : Int) = KK at *
      generalize (m : Int) = MM at *
      refine (seq_nx (ρ1 := [.ol (D2), .sh (.list (N)), .sh (.int (KD)), .sh (.int (MM)), .ol (M), .sh (.int (KK)), .sh (.int (1 + T1)), .dead, .dead]) (by simp [k0])).trans ?_
      refine (seq_nx (ρ1 := [.ol (D2), .sh (.list (N)), .sh (.int (KD)), .sh (.int (MM)), .ol (M), .sh (.int (KK)), .sh (.int (1 + T1)), .dead, .dead]) (by simp [k1])).trans ?_
      refine (seq_nx (ρ1 := [.ol (D2), .sh (.list (N)), .sh (.int (KD)), .sh (.int (MM)), .ol (M), .sh (.int (KK)), .sh (.int (1 + T1)), .dead, .dead]) (by simp [k2])).trans g
  obtain ⟨st, d', hmid⟩ := mid
  refine ⟨st, d', ?_⟩
  unfold b__law_marks_1
  refine (seq_nx fst).trans (hmid ?_)
  have ea : is (ms ++ [ms.getD k 0 + (st : Int)]) = is ms ++ [.int (ms.getD k 0 + (st : Int))] := is_app
  rw [ea]
  clear fst hmid ea e0 e1 er
  unfold nI
  generalize is ns = N at *
  generalize is d' = D3 at *
  generalize is ms = M at *
  generalize ms.getD k 0 = G at *
  generalize (st : Int) = S at *
  generalize (k : Int) = KK at *
  simp [e5, lAppend, hl]


/-! ## drawn rules, the end -/
theorem mk_l {ns : List Int} {K m : Nat} {xs0 : List D} (hm : m ≤ 12) : ∀ (c k : Nat) (ms ds : List Int) (ρ : En), k + c ≤ 12 → ms.length = k + 1 → (∀ x ∈ ms, 0 ≤ x) → killL [5, 6] ρ = [.ol (is ds), .sh (.list (is ns)), .sh (.int ((K : Int))), .sh (.int ((m : Int))), .ol (is ms), .dead, .dead, .dead, .dead] →
    ∃ ms' ds' : List Int, ms'.length = k + c + 1 ∧ (∀ x ∈ ms', 0 ≤ x) ∧ loopF none xs0 [5, 6] (fun x ρ => (gNm 5 x ρ).bind b__law_marks_1) ((List.range' k c).map nI) ρ = some (.nx [.ol (is ds'), .sh (.list (is ns)), .sh (.int ((K : Int))), .sh (.int ((m : Int))), .ol (is ms'), .dead, .dead, .dead, .dead])
  | 0, k, ms, ds, ρ, _, hl, hp, e => ⟨ms, ds, hl, hp, by
    show loopF none xs0 _ _ [] ρ = _
    rw [loop_nil rfl, e]⟩
  | c + 1, k, ms, ds, ρ, hc, hl, hp, e => by
    obtain ⟨st, d', h⟩ := mk_b (ns := ns) (ds := ds) (ms := ms) (K := K) (m := m) (k := k) (by omega) (by omega) (by omega) (by omega)
    have hk : 0 ≤ ms.getD k 0 := by
      rw [getD_lt (by omega)]
      exact hp _ (List.getElem_mem _)
    obtain ⟨ms', ds', h1, h2, h3⟩ := mk_l (ns := ns) (K := K) (xs0 := xs0) hm c (k + 1) (ms ++ [ms.getD k 0 + (st : Int)]) d' (by omega) (by rw [List.length_append, List.length_singleton]; omega) (fun x hx => by
      rcases List.mem_append.mp hx with hx | hx
      · exact hp x hx
      · rw [List.mem_singleton.mp hx]; omega) (ρ := [.ol (is d'), .sh (.list (is ns)), .sh (.int ((K : Int))), .sh (.int ((m : Int))), .ol (is (ms ++ [ms.getD k 0 + (st : Int)])), .sh (nI k), .sh (.int ((st : Int))), .dead, .dead]) rfl
    refine ⟨ms', ds', by omega, h2, ?_⟩
    rw [List.range'_succ, List.map_cons, loop_cons rfl (by rw [e]; exact bind_gnm.trans h)]
    exact h3
theorem bNotIn_l (x : Int) (ns : List Int) : bNotIn (.int x) (.list (is ns)) = some (!decide (x ∈ ns)) := by
  have e : bIn (.int x) (.list (is ns)) = some (decide (x ∈ ns)) := by
    show (if (okD (.int x) && okD (.list (is ns))) = true then some ((is ns).any fun z => PyData.eqv z (.int x)) else none) = _
    have h3 : okD (.int x) = true := rfl
    have e2 := bIn_t x ns
    have e2 : (if (okD (.int x) && okD (.tuple (is ns))) = true then some ((is ns).any fun z => PyData.eqv z (.int x)) else none) = some (decide (x ∈ ns)) := e2
    rw [h3, okD_T, Bool.and_self, if_pos rfl] at e2
    rw [h3, okD_L, Bool.and_self, if_pos rfl]
    exact e2
  unfold bNotIn
  rw [e]; rfl
theorem is_set : ∀ (L : List Int) (p : Nat) (v : Int), (is L).set p (.int v) = is (L.set p v)
  | [], _, _ => rfl
  | x :: r, 0, _ => rfl
  | x :: r, p + 1, v => by
    show .int x :: (is r).set p (.int v) = .int x :: is (r.set p v)
    rw [is_set r p v]
theorem v_marks {ns ds : List Int} (hl : ns.length ≤ 63) (hb : ∀ z ∈ ns, Builtin.Int.intBits z ≤ 1048576) :
    ∃ ms ds' : List Int, ms.length ≤ 40 ∧ 1 ≤ ms.length ∧ 0 ≤ lst ms ∧ m__law_marks [.ol (is ds), .sh (.list (is ns))] = some (.sh (tI ms), [.ol (is ds'), .sh (.list (is ns))]) := by
  obtain ⟨K, d1, hK, e1⟩ := tkx ds (n := 5) (by decide)
  have e1 : m__law_take [.ol (is ds), .sh (.int 5)] = some (.sh (.int (K : Int)), [.ol (is d1), .sh (.int 5)]) := e1
  obtain ⟨m, d2, hm, e2⟩ := tkx d1 (n := 12) (by decide)
  have e2 : m__law_take [.ol (is d1), .sh (.int 12)] = some (.sh (.int (m : Int)), [.ol (is d2), .sh (.int 12)]) := e2
  obtain ⟨ms, d3, l3, p3, L⟩ := mk_l (ns := ns) (K := K) (m := m + 1) (xs0 := (List.range (m + 1)).map nI) (by omega) (m + 1) 0 [0] d2 [.ol (is d2), .sh (.list (is ns)), .sh (.int ((K : Int))), .sh (.int (((m + 1 : Nat) : Int))), .ol ([.int 0]), .dead, .dead, .dead, .dead] (by omega) rfl (fun x hx => by rw [List.mem_singleton.mp hx]; exact Int.le_refl _) rfl
  rw [← List.range_eq_range'] at L
  have L := for_hx ll__law_marks_1 (ρ := [.ol (is d2), .sh (.list (is ns)), .sh (.int ((K : Int))), .sh (.int (((m + 1 : Nat) : Int))), .ol ([.int 0]), .dead, .dead, .dead, .dead]) (iR_nI (n := m + 1) rfl (by omega)) L
  obtain ⟨t4, d4, _, e4⟩ := tkx d3 (n := 4) (by decide)
  have e4 : m__law_take [.ol (is d3), .sh (.int 4)] = some (.sh (.int (t4 : Int)), [.ol (is d4), .sh (.int 4)]) := e4
  have hbe : beqDs (is ns) (is ns) = true := beqDs_is
  have em1 : ((m + 1 : Nat) : Int) = 1 + (m : Int) := by omega
  -- one moved
  have mv : ∃ (c7 c8 : Cell) (ms' d' : List Int), ms'.length = ms.length ∧ (∀ x ∈ ms', 0 ≤ x) ∧ (sIf (eTst (eBin (fun x y => (bEq x y).map .bool) (eRetD (eCall1 0 0 m__law_take (rIo 0 (rCons (eC (.int 4)) (rNil))))) (eC (.int 0)))) (sSeq (sSet 7 (eBin dAddA (eC (.int 1)) (eRetD (eCall1 0 0 m__law_take (rIo 0 (rCons (eVar 3) (rNil)))))))
      (sSeq (sSet 8 (eBin dAddA (eIxOwn 4 (eVar 7)) (eC (.int 1))))
      (sIf (eBorT 4 (eTst (eBin (fun x y => (bNotIn x y).map .bool) (eVar 8) (eVar 4)))) (sItem 4 (eVar 7) (eVar 8)) (sNx)))) (sNx)) [.ol (is d3), .sh (.list (is ns)), .sh (.int ((K : Int))), .sh (.int (((m + 1 : Nat) : Int))), .ol (is ms), .dead, .dead, .dead, .dead] = some (.nx [.ol (is d'), .sh (.list (is ns)), .sh (.int ((K : Int))), .sh (.int (((m + 1 : Nat) : Int))), .ol (is ms'), .dead, .dead, c7, c8]) := by
    by_cases c : t4 = 0
    · obtain ⟨t5, d5, h5, e5⟩ := tkx d4 (n := m + 1) (by omega)
      subst c
      have e4 : m__law_take [.ol (is d3), .sh (.int 4)] = some (.sh (.int 0), [.ol (is d4), .sh (.int 4)]) := e4
      have ea : ((1 + t5 : Nat) : Int) = 1 + (t5 : Int) := by push_cast; rfl
      have ei := at_is (L := ms) (p := 1 + t5) (by omega)
      rw [ea] at ei
      have en := bNotIn_l (ms.getD (1 + t5) 0 + 1) ms
      have ex : ixN (is ms).length (1 + (t5 : Int)) = some (1 + t5) := by
        rw [← ea]
        exact ixN_in (by rw [is_len]; omega)
      have es : (is ms).set (1 + t5) (.int (ms.getD (1 + t5) 0 + 1)) = is (ms.set (1 + t5) (ms.getD (1 + t5) 0 + 1)) := is_set _ _ _
      have hg : 0 ≤ ms.getD (1 + t5) 0 := by
        rw [getD_lt (by omega)]
        exact p3 _ (List.getElem_mem _)
      refine ⟨.sh (.int (1 + (t5 : Int))), .sh (.int (ms.getD (1 + t5) 0 + 1)), if (!decide (ms.getD (1 + t5) 0 + 1 ∈ ms)) = true then ms.set (1 + t5) (ms.getD (1 + t5) 0 + 1) else ms, d5, by split <;> simp, fun x hx => ?_, ?_⟩
      · split at hx
        · rcases List.mem_or_eq_of_mem_set hx with hx | hx
          · exact p3 x hx
          · rw [hx]; omega
        · exact p3 x hx
      · have hn5 : noLs (is d5) = true := noLs_is d5
        have ew : is (if (!decide (ms.getD (1 + t5) 0 + 1 ∈ ms)) = true then ms.set (1 + t5) (ms.getD (1 + t5) 0 + 1) else ms) = if (!decide (ms.getD (1 + t5) 0 + 1 ∈ ms)) = true then is (ms.set (1 + t5) (ms.getD (1 + t5) 0 + 1)) else is ms := by split <;> rfl
        rw [ew]
        clear L e1 e2 ew em1
        generalize (!decide (ms.getD (1 + t5) 0 + 1 ∈ ms)) = w at *
        generalize is (ms.set (1 + t5) (ms.getD (1 + t5) 0 + 1)) = M2 at *
        generalize is ns = N at *
        generalize is d3 = D3 at *
        generalize is d4 = D4 at *
        generalize is d5 = D5 at *
        generalize is ms = M at *
        generalize ms.getD (1 + t5) 0 = G at *
        generalize (t5 : Int) = T5 at *
        generalize ((m + 1 : Nat) : Int) = MM at *
        generalize (K : Int) = KD at *
        generalize hbn : bNotIn = g at *
        refine (if_t (ρ1 := [.ol (D4), .sh (.list (N)), .sh (.int (KD)), .sh (.int (MM)), .ol (M), .dead, .dead, .dead, .dead]) (by simp [e4])).trans ?_
        refine (seq_nx (ρ1 := [.ol (D5), .sh (.list (N)), .sh (.int (KD)), .sh (.int (MM)), .ol (M), .dead, .dead, .sh (.int (1 + T5)), .dead]) (by simp [e5])).trans ?_
        refine (seq_nx (ρ1 := [.ol (D5), .sh (.list (N)), .sh (.int (KD)), .sh (.int (MM)), .ol (M), .dead, .dead, .sh (.int (1 + T5)), .sh (.int (G + 1))]) (by simp [ei])).trans ?_
        cases w <;> simp [en, ex, es, hbe, hn5]
    · refine ⟨.dead, .dead, ms, d4, rfl, p3, ?_⟩
      have c : ¬ (t4 : Int) = 0 := by omega
      clear L e1 e2 em1
      generalize is ns = N at *
      generalize is d3 = D3 at *
      generalize is d4 = D4 at *
      generalize is ms = M at *
      generalize (t4 : Int) = T4 at *
      generalize ((m + 1 : Nat) : Int) = MM at *
      generalize (K : Int) = KD at *
      simp [e4, c]
  obtain ⟨c7, c8, ms2, d5, l5, p5, k5⟩ := mv
  -- one more
  have mo : ∃ (ms' d' : List Int), ms2.length ≤ ms'.length ∧ ms'.length ≤ ms2.length + 1 ∧ (∀ x ∈ ms', 0 ≤ x) ∧ (sIf (eAnd (eTst (eBin (fun x y => (bEq x y).map .bool) (eVar 2) (eC (.int 3)))) (eTst (eBin (fun x y => (bEq x y).map .bool) (eRetD (eCall1 0 0 m__law_take (rIo 0 (rCons (eC (.int 2)) (rNil))))) (eC (.int 0))))) (sExpr (eMeth 4 lAppend (aCons (eBin dAddA (eBin dAddA (eIxOwn 4 (eVar 3)) (eC (.int 1))) (eRetD (eCall1 0 0 m__law_size (rIo 0 (rCons (eVar 1) (rNil)))))) (aNil)))) (sNx)) [.ol (is d5), .sh (.list (is ns)), .sh (.int ((K : Int))), .sh (.int (((m + 1 : Nat) : Int))), .ol (is ms2), .dead, .dead, c7, c8] = some (.nx [.ol (is d'), .sh (.list (is ns)), .sh (.int ((K : Int))), .sh (.int (((m + 1 : Nat) : Int))), .ol (is ms'), .dead, .dead, c7, c8]) := by
    obtain ⟨t6, d6, _, e6⟩ := tkx d5 (n := 2) (by decide)
    have e6 : m__law_take [.ol (is d5), .sh (.int 2)] = some (.sh (.int (t6 : Int)), [.ol (is d6), .sh (.int 2)]) := e6
    by_cases cK : K = 3
    · subst cK
      by_cases c6 : t6 = 0
      · subst c6
        obtain ⟨z, d7, _, e7⟩ := v_size d6 ns hl hb
        have e6 : m__law_take [.ol (is d5), .sh (.int 2)] = some (.sh (.int 0), [.ol (is d6), .sh (.int 2)]) := e6
        have ei := at_is (L := ms2) (p := m + 1) (by omega)
        have hg : 0 ≤ ms2.getD (m + 1) 0 := by
          rw [getD_lt (by omega)]
          exact p5 _ (List.getElem_mem _)
        have hlz : (is ms2).length < sizeLine := by rw [is_len]; unfold sizeLine; omega
        refine ⟨ms2 ++ [ms2.getD (m + 1) 0 + 1 + (z : Int)], d7, by simp, by simp, fun x hx => ?_, ?_⟩
        · rcases List.mem_append.mp hx with hx | hx
          · exact p5 x hx
          · rw [List.mem_singleton.mp hx]; omega
        · have ea : is (ms2 ++ [ms2.getD (m + 1) 0 + 1 + (z : Int)]) = is ms2 ++ [.int (ms2.getD (m + 1) 0 + 1 + (z : Int))] := is_app
          rw [ea]
          clear L e1 e2 ea em1 k5 e4
          generalize is ns = N at *
          generalize is d5 = D5 at *
          generalize is d6 = D6 at *
          generalize is d7 = D7 at *
          generalize is ms2 = M at *
          generalize ms2.getD (m + 1) 0 = G at *
          generalize (z : Int) = Z at *
          generalize ((m + 1 : Nat) : Int) = MM at *
          simp [e6, e7, ei, lAppend, hlz]
      · refine ⟨ms2, d6, Nat.le_refl _, by omega, p5, ?_⟩
        have c6 : ¬ (t6 : Int) = 0 := by omega
        clear L e1 e2 em1 k5 e4
        generalize is ns = N at *
        generalize is d5 = D5 at *
        generalize is d6 = D6 at *
        generalize is ms2 = M at *
        generalize (t6 : Int) = T6 at *
        generalize ((m + 1 : Nat) : Int) = MM at *
        simp [e6, c6]
    · refine ⟨ms2, d5, Nat.le_refl _, by omega, p5, ?_⟩
      have cK : ¬ (K : Int) = 3 := by omega
      clear L e1 e2 em1 k5 e4 e6
      generalize is ns = N at *
      generalize is d5 = D5 at *
      generalize is ms2 = M at *
      generalize (K : Int) = KD at *
      generalize ((m + 1 : Nat) : Int) = MM at *
      simp [cK]
  obtain ⟨ms3, d6, l6, l6', p6, k6⟩ := mo
  have hlen : (isort ms3).length = ms3.length := isort_len ms3
  have e9 := cSortU_lst ms3
  refine ⟨isort ms3, d6, by omega, by omega, ?_, fn_io (ρ' := [.ol (is d6), .sh (.list (is ns)), .sh (.int ((K : Int))), .sh (.int (((m + 1 : Nat) : Int))), .sh (.list (is ms3)), .dead, .dead, c7, c8]) ?_ rfl rfl⟩
  · unfold lst
    rw [getD_lt (by omega)]
    exact p6 _ ((isort_perm ms3).mem_iff.mp (List.getElem_mem _))
  · show s__law_marks [.ol (is ds), .sh (.list (is ns)), .dead, .dead, .dead, .dead, .dead, .dead, .dead] = some (.rt (.sh (.tuple (is (isort ms3)))) _)
    unfold s__law_marks
    refine (seq_nx (ρ1 := [.ol (is d1), .sh (.list (is ns)), .sh (.int ((K : Int))), .dead, .dead, .dead, .dead, .dead, .dead]) ?_).trans ?_
    · clear L k5 k6 e9
      generalize is ns = N at *
      generalize is ds = D0 at *
      generalize is d1 = D1 at *
      generalize (K : Int) = KD at *
      simp [e1]
    refine (seq_nx (ρ1 := [.ol (is d2), .sh (.list (is ns)), .sh (.int ((K : Int))), .sh (.int (((m + 1 : Nat) : Int))), .dead, .dead, .dead, .dead, .dead]) ?_).trans ?_
    · clear L k5 k6 e9
      rw [em1]
      generalize is ns = N at *
      generalize is d1 = D1 at *
      generalize is d2 = D2 at *
      generalize (K : Int) = KD at *
      generalize (m : Int) = MM at *
      simp [e2]
    refine (seq_nx (ρ1 := [.ol (is d2), .sh (.list (is ns)), .sh (.int ((K : Int))), .sh (.int (((m + 1 : Nat) : Int))), .ol ([.int 0]), .dead, .dead, .dead, .dead]) ?_).trans ?_
    · have z1 : 1 ≤ sizeLine := by decide
      clear L k5 k6 e9
      generalize is ns = N at *
      generalize is d2 = D2 at *
      simp [z1]
    refine (seq_nx L).trans ((seq_nx k5).trans ((seq_nx k6).trans ?_))
    clear L k5 k6 e4 e2 e1
    generalize is (isort ms3) = I at *
    generalize is ms3 = M at *
    generalize is ns = N at *
    generalize is d6 = D6 at *
    simp [e9]


/-! ## the law -/
theorem w_five {ns : List Int} {n : Int} {xs0 : List D} (hl : ns.length ≤ 63) (hb : ∀ z ∈ ns, Builtin.Int.intBits z ≤ 1048576) : ∀ (r : List Nat) (ds : List Int) (ρ : En), killL [3] ρ = [.sh (.list (is ns)), .ol (is ds), .sh (.int (n)), .dead, .dead] →
    ∃ ds' : List Int, loopF none xs0 [3] (fun x ρ => (gNm 3 x ρ).bind b_law_1) (r.map nI) ρ = some (.nx [.sh (.list (is ns)), .ol (is ds'), .sh (.int (n)), .dead, .dead])
  | [], ds, ρ, e => ⟨ds, by rw [List.map_nil, loop_nil rfl, e]⟩
  | k :: r, ds, ρ, e => by
    obtain ⟨ms, d1, h1, h2, h3, em⟩ := v_marks (ds := ds) hl hb
    have er := v_rule h1 h2 h3
    have st : b_law_1 [.sh (.list (is ns)), .ol (is ds), .sh (.int (n)), .sh (nI k), .dead] = some (.nx [.sh (.list (is ns)), .ol (is d1), .sh (.int (n)), .sh (nI k), .dead]) := by
      generalize is ns = N at *
      generalize is ds = A at *
      generalize is d1 = B at *
      generalize tI ms = T at *
      generalize nI k = KK at *
      simp [b_law_1, em, er]
    obtain ⟨ds', q⟩ := w_five (xs0 := xs0) hl hb r d1 [.sh (.list (is ns)), .ol (is d1), .sh (.int (n)), .sh (nI k), .dead] rfl
    exact ⟨ds', by rw [List.map_cons, loop_cons rfl (by rw [e]; exact bind_gnm.trans st)]; exact q⟩
theorem plain : ∀ ns : List Int, ns.length ≤ 63 → (∀ z ∈ ns, Builtin.Int.intBits z ≤ 1048576) → ∃ z, m_law [.sh (.list (ns.map .int))] = some (.sh (.bool true), z) := by
  intro ns hn hb
  obtain ⟨d0, e0⟩ := v_draws ns 250 hn (by decide) (by decide)
  have e0 : m__law_draws [.sh (.list (is ns)), .sh (.int 250)] = _ := e0
  obtain ⟨d1, e1⟩ := v_box (ds := d0) hn hb
  obtain ⟨d2, e2⟩ := v_box (ds := d1) hn hb
  obtain ⟨t3, d3, q3, e3⟩ := tkx d2 (n := 2) (by decide)
  have e3 : m__law_take [.ol (is d2), .sh (.int 2)] = some (.sh (.int (t3 : Int)), [.ol (is d3), .sh (.int 2)]) := e3
  obtain ⟨r, r1, r2, er⟩ : ∃ r : Nat, 1 ≤ r ∧ r ≤ 1000 ∧ atI [PyData.int 30, PyData.int 1000] (t3 : Int) = some (.int (r : Int)) := by
    rcases (show t3 = 0 ∨ t3 = 1 by omega) with rfl | rfl
    · exact ⟨30, by omega, by omega, rfl⟩
    · exact ⟨1000, by omega, by omega, rfl⟩
  obtain ⟨t4, d4, q4, e4⟩ := tkx d3 (n := r) (by omega)
  obtain ⟨u, e5, e6⟩ := v_stack (n := 1 + t4) (by omega)
  have ec4 : ((1 + t4 : Nat) : Int) = 1 + (t4 : Int) := by push_cast; rfl
  rw [ec4] at e5 e6
  have s5 : m__law_same 12 [.sh (L2.G.d3 u), .sh (L2.G.d3 u)] = some (.sh (.bool true), []) := v_same 11 _ (by simp [L2.G.d3, sok, soks])
  obtain ⟨d5, L⟩ := w_five (xs0 := (List.range 5).map nI) (n := 1 + (t4 : Int)) hn hb (List.range 5) d4 [.sh (.list (is ns)), .ol (is d4), .sh (.int (1 + (t4 : Int))), .dead, .dead] rfl
  have L := for_hx ll_law_1 (ρ := [.sh (.list (is ns)), .ol (is d4), .sh (.int (1 + (t4 : Int))), .dead, .dead]) (iR_nI (n := 5) rfl (by omega)) L
  obtain ⟨t6, d6, q6, e7⟩ := tkx d5 (n := 12) (by decide)
  have e7 : m__law_take [.ol (is d5), .sh (.int 12)] = some (.sh (.int (t6 : Int)), [.ol (is d6), .sh (.int 12)]) := e7
  obtain ⟨t7, d7, q7, e8⟩ := tkx d6 (n := 6) (by decide)
  have e8 : m__law_take [.ol (is d6), .sh (.int 6)] = some (.sh (.int (t7 : Int)), [.ol (is d7), .sh (.int 6)]) := e8
  obtain ⟨n, d8, n1, n2, k8⟩ : ∃ (n : Nat) (d8 : List Int), 1 ≤ n ∧ n ≤ 20 ∧ (sIf (eTst (eBin (fun x y => (bEq x y).map .bool) (eRetD (eCall1 0 1 m__law_take (rIo 1 (rCons (eC (.int 6)) (rNil))))) (eC (.int 0)))) (sSet 2 (eBin dAddA (eC (.int 1)) (eRetD (eCall1 0 1 m__law_take (rIo 1 (rCons (eC (.int 20)) (rNil))))))) (sNx)) [.sh (.list (is ns)), .ol (is d6), .sh (.int (1 + (t6 : Int))), .dead, .dead] = some (.nx [.sh (.list (is ns)), .ol (is d8), .sh (.int ((n : Int))), .dead, .dead]) := by
    by_cases c : t7 = 0
    · subst c
      obtain ⟨t9, d9, q9, e9⟩ := tkx d7 (n := 20) (by decide)
      have e9 : m__law_take [.ol (is d7), .sh (.int 20)] = some (.sh (.int (t9 : Int)), [.ol (is d9), .sh (.int 20)]) := e9
      have e8 : m__law_take [.ol (is d6), .sh (.int 6)] = some (.sh (.int 0), [.ol (is d7), .sh (.int 6)]) := e8
      refine ⟨1 + t9, d9, by omega, by omega, ?_⟩
      have ec : ((1 + t9 : Nat) : Int) = 1 + (t9 : Int) := by push_cast; rfl
      rw [ec]
      clear L e0 e1 e2 e3 e4
      generalize is ns = N at *
      generalize is d6 = D6 at *
      generalize is d7 = D7 at *
      generalize is d9 = D9 at *
      generalize (t9 : Int) = T9 at *
      generalize (t6 : Int) = T6 at *
      simp [e8, e9]
    · refine ⟨1 + t6, d7, by omega, by omega, ?_⟩
      have ec : ((1 + t6 : Nat) : Int) = 1 + (t6 : Int) := by push_cast; rfl
      have c : ¬ (t7 : Int) = 0 := by omega
      rw [ec]
      clear L e0 e1 e2 e3 e4 e7
      generalize is ns = N at *
      generalize is d6 = D6 at *
      generalize is d7 = D7 at *
      generalize (t7 : Int) = T7 at *
      generalize (t6 : Int) = T6 at *
      simp [e8, c]
  obtain ⟨t10, d10, q10, e10⟩ := tkx d8 (n := 4) (by decide)
  have e10 : m__law_take [.ol (is d8), .sh (.int 4)] = some (.sh (.int (t10 : Int)), [.ol (is d10), .sh (.int 4)]) := e10
  obtain ⟨t11, d11, q11, e11⟩ := tkx d10 (n := 8) (by decide)
  have e11 : m__law_take [.ol (is d10), .sh (.int 8)] = some (.sh (.int (t11 : Int)), [.ol (is d11), .sh (.int 8)]) := e11
  obtain ⟨m, m1, m2, k11⟩ : ∃ m : Nat, 2 ≤ m ∧ m ≤ 6 ∧ (sIf (eTst (eBin (fun x y => (bEq x y).map .bool) (eRetD (eCall1 0 1 m__law_take (rIo 1 (rCons (eC (.int 8)) (rNil))))) (eC (.int 0)))) (sSet 4 (eC (.int 6))) (sNx)) [.sh (.list (is ns)), .ol (is d10), .sh (.int ((n : Int))), .dead, .sh (.int (2 + (t10 : Int)))] = some (.nx [.sh (.list (is ns)), .ol (is d11), .sh (.int ((n : Int))), .dead, .sh (.int ((m : Int)))]) := by
    by_cases c : t11 = 0
    · subst c
      have e11 : m__law_take [.ol (is d10), .sh (.int 8)] = some (.sh (.int 0), [.ol (is d11), .sh (.int 8)]) := e11
      refine ⟨6, by omega, by omega, ?_⟩
      show _ = some (Out.nx [.sh (.list (is ns)), .ol (is d11), .sh (.int ((n : Int))), .dead, .sh (.int (6))])
      clear L e0 e1 e2 e3 e4 k8
      generalize is ns = N at *
      generalize is d10 = D10 at *
      generalize is d11 = D11 at *
      generalize (t10 : Int) = T10 at *
      generalize (n : Int) = NN at *
      simp [e11]
    · refine ⟨2 + t10, by omega, by omega, ?_⟩
      have ec : ((2 + t10 : Nat) : Int) = 2 + (t10 : Int) := by push_cast; rfl
      have c : ¬ (t11 : Int) = 0 := by omega
      rw [ec]
      clear L e0 e1 e2 e3 e4 k8 e10
      generalize is ns = N at *
      generalize is d10 = D10 at *
      generalize is d11 = D11 at *
      generalize (t10 : Int) = T10 at *
      generalize (t11 : Int) = T11 at *
      generalize (n : Int) = NN at *
      simp [e11, c]
  have f1 := v_least_right n1 n2
  have f2 := v_bare m1 m2
  have f3 : atI [PyData.int 1, PyData.int 3, PyData.int 6, PyData.int 11, PyData.int 17] ((m : Int) - 2) = some (.int (bare.getD (m - 2) 0 : Nat)) := by
    have := at_is (L := zs bare) (p := m - 2) (by rw [zs_len]; show m - 2 < 5; omega)
    rw [zs_get] at this
    have ec : ((m : Int) - 2) = ((m - 2 : Nat) : Int) := by omega
    rw [ec]
    exact this
  have s3 := same_i (bare.getD (m - 2) 0 : Nat)
  generalize bare.getD (m - 2) 0 = bm at *
  have z2 : 2 ≤ sizeLine := by decide
  have z5 : 5 ≤ sizeLine := by decide
  clear q3 q4 q6 q7 q10 q11 r1 r2 n1 n2 m1 m2 hb hn ec4
  show ∃ z, m_law [.sh (.list (is ns))] = _
  refine ⟨[], fn_ret (ρ' := [.sh (.list (is ns)), .ol (is d11), .sh (.int ((n : Int))), .dead, .sh (.int ((m : Int)))]) ?_⟩
  show s_law [.sh (.list (is ns)), .dead, .dead, .dead, .dead] = _
  generalize is ns = N at *
  generalize is d0 = D0 at *
  generalize is d1 = D1 at *
  generalize is d2 = D2 at *
  generalize is d3 = D3 at *
  generalize is d4 = D4 at *
  generalize is d5 = D5 at *
  generalize is d6 = D6 at *
  generalize is d7 = D7 at *
  generalize is d8 = D8 at *
  generalize is d10 = D10 at *
  generalize is d11 = D11 at *
  generalize L2.G.d3 u = U at *
  generalize (t3 : Int) = T3 at *
  generalize (t4 : Int) = T4 at *
  generalize (t6 : Int) = T6 at *
  generalize (t10 : Int) = T10 at *
  generalize (bm : Int) = BM at *
  generalize (r : Int) = R at *
  generalize (n : Int) = NN at *
  generalize (m : Int) = MM at *
  unfold s_law
  refine (seq_nx (ρ1 := [.sh (.list (N)), .ol (D0), .dead, .dead, .dead]) (by simp [e0])).trans ?_
  refine (seq_nx (ρ1 := [.sh (.list (N)), .ol (D2), .dead, .dead, .dead]) (by simp [e1, e2])).trans ?_
  refine (seq_nx (ρ1 := [.sh (.list (N)), .ol (D4), .sh (.int (1 + T4)), .dead, .dead]) (by simp [e3, e4, er, z2])).trans ?_
  refine (seq_nx (ρ1 := [.sh (.list (N)), .ol (D4), .sh (.int (1 + T4)), .dead, .dead]) (by simp [e5, e6, s5])).trans ?_
  refine (seq_nx L).trans ?_
  refine (seq_nx (ρ1 := [.sh (.list (N)), .ol (D6), .sh (.int (1 + T6)), .dead, .dead]) (by simp [e7])).trans ?_
  refine (seq_nx k8).trans ?_
  refine (seq_nx (ρ1 := [.sh (.list (N)), .ol (D10), .sh (.int (NN)), .dead, .sh (.int (2 + T10))]) (by simp [e10])).trans ?_
  refine (seq_nx k11).trans ?_
  simp [f1, f2, f3, s3, z5]


end L2.G
open PySem PySem.W PyProof.Rows
set_option maxHeartbeats 0 in
theorem PySem.Challenge.cw_paperkeep_k68_wraps_and_rules_holds : PySem.Challenge.rw_paperkeep_k68_wraps_and_rules.Holds := by
  w_on; o_law; k_head; (case hw => w_witness2)
  k_fill
  refine L2.walk_ofB (l := PySem.Challenge.rw_paperkeep_k68_wraps_and_rules) (n := 63) (k := 19) (x := "script") (CX := fun _ => L2.CX0) (sp := fun w vs H Q E => vs.length = ["script"].length ∧ L2.Pd.spD _ [] L2.G.m_law vs H Q E) rfl (by decide) rfl ⟨rfl, by decide, by decide⟩ (fun w h Y => PySem.W.kIn_of Y) ?F (fun _ _ a ns hl hb _ hS => L2.Pd.law_sp hS (L2.G.plain ns hl hb)) (fun _ _ _ _ _ h => h)
  case F =>
    intro w mg fa h KX G hmg
    refine' L2.G.all_mk KX G hmg ?a0 ?l0 ?c0 ?k0 ?a1 ?l1 ?c1 ?k1 ?a2 ?l2 ?c2 ?k2 ?a3 ?l3 ?c3 ?k3 ?a4 ?l4 ?c4 ?k4 ?a5 ?l5 ?c5 ?k5 ?a6 ?l6 ?c6 ?k6 ?a7 ?l7 ?c7 ?k7 ?a8 ?l8 ?c8 ?k8 ?a9 ?l9 ?c9 ?k9 ?a10 ?l10 ?c10 ?k10 ?a11 ?l11 ?c11 ?k11 ?a12 ?l12 ?c12 ?k12 ?a13 ?l13 ?c13 ?k13 ?a14 ?l14 ?c14 ?k14 ?a15 ?l15 ?c15 ?k15 ?a16 ?l16 ?c16 ?k16 ?a17 ?l17 ?c17 ?k17 ?a18 ?l18 ?c18 ?k18 ?a19 ?l19 ?c19 ?k19 ?a20 ?l20 ?c20 ?k20 ?a21 ?l21 ?c21 ?k21 ?a22 ?l22 ?c22 ?k22 ?a23 ?l23 ?c23 ?k23 ?a24 ?l24 ?c24 ?k24 ?a25 ?l25 ?c25 ?k25 ?a26 ?l26 ?c26 ?k26 ?a27 ?l27 ?c27 ?k27 ?a28 ?l28 ?c28 ?k28 ?a29 ?l29 ?c29 ?k29 ?a30 ?l30 ?c30 ?k30 ?z_abs ?z_any ?z_bool ?z_int ?z_isinstance ?z_len ?z_list ?z_max ?z_min ?z_range ?z_set ?z_sorted ?z_str ?z_sum ?z_tuple
    (case a0 => k_is); (case l0 => k_is); (case c0 => k_is); (case k0 => k_is); (case a1 => k_is); (case l1 => k_is); (case c1 => k_is); (case k1 => k_is); (case a2 => k_is); (case l2 => k_is); (case c2 => k_is); (case k2 => k_is); (case a3 => k_is); (case l3 => k_is); (case c3 => k_is); (case k3 => k_is); (case a4 => k_is); (case l4 => k_is); (case c4 => k_is); (case k4 => k_is); (case a5 => k_is); (case l5 => k_is); (case c5 => k_is); (case k5 => k_is); (case a6 => k_is); (case l6 => k_is); (case c6 => k_is); (case k6 => k_is); (case a7 => k_is); (case l7 => k_is); (case c7 => k_is); (case k7 => k_is); (case a8 => k_is); (case l8 => k_is); (case c8 => k_is); (case k8 => k_is); (case a9 => k_is); (case l9 => k_is); (case c9 => k_is); (case k9 => k_is); (case a10 => k_is); (case l10 => k_is); (case c10 => k_is); (case k10 => k_is); (case a11 => k_is); (case l11 => k_is); (case c11 => k_is); (case k11 => k_is); (case a12 => k_is); (case l12 => k_is); (case c12 => k_is); (case k12 => k_is); (case a13 => k_is); (case l13 => k_is); (case c13 => k_is); (case k13 => k_is); (case a14 => k_is); (case l14 => k_is); (case c14 => k_is); (case k14 => k_is); (case a15 => k_is); (case l15 => k_is); (case c15 => k_is); (case k15 => k_is); (case a16 => k_is); (case l16 => k_is); (case c16 => k_is); (case k16 => k_is); (case a17 => k_is); (case l17 => k_is); (case c17 => k_is); (case k17 => k_is); (case a18 => k_is); (case l18 => k_is); (case c18 => k_is); (case k18 => k_is); (case a19 => k_is); (case l19 => k_is); (case c19 => k_is); (case k19 => k_is); (case a20 => k_is); (case l20 => k_is); (case c20 => k_is); (case k20 => k_is); (case a21 => k_is); (case l21 => k_is); (case c21 => k_is); (case k21 => k_is); (case a22 => k_is); (case l22 => k_is); (case c22 => k_is); (case k22 => k_is); (case a23 => k_is); (case l23 => k_is); (case c23 => k_is); (case k23 => k_is); (case a24 => k_is); (case l24 => k_is); (case c24 => k_is); (case k24 => k_is); (case a25 => k_is); (case l25 => k_is); (case c25 => k_is); (case k25 => k_is); (case a26 => k_is); (case l26 => k_is); (case c26 => k_is); (case k26 => k_is); (case a27 => k_is); (case l27 => k_is); (case c27 => k_is); (case k27 => k_is); (case a28 => k_is); (case l28 => k_is); (case c28 => k_is); (case k28 => k_is); (case a29 => k_is); (case l29 => k_is); (case c29 => k_is); (case k29 => k_is); (case a30 => k_is); (case l30 => k_is); (case c30 => k_is); (case k30 => k_is); (case z_abs => k_is); (case z_any => k_is); (case z_bool => k_is); (case z_int => k_is); (case z_isinstance => k_is); (case z_len => k_is); (case z_list => k_is); (case z_max => k_is); (case z_min => k_is); (case z_range => k_is); (case z_set => k_is); (case z_sorted => k_is); (case z_str => k_is); (case z_sum => k_is); (case z_tuple => k_is)
